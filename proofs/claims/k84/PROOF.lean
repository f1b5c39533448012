import PyProof.Rows.All
import Wide.All
import OpenK.AllK
import Wide.FinOn
import KE.KStateDown
import HandS.ForMost
import HandS.ForExc
import HandS.Wide
import HandS.TupAny
import HandS.Deep
import HandS.Style
import HandS.Codes
import HandS.IsInst
import HandS.Gcd
import HandS.StrMore
import PyProof.MaxThree
import PyProof.ReprRoads
import HandS.Star
import HandS.Lambda
import HandS.CallSlots
import HandS.Defaults
import HandS.ExcInit
import HandS.ExcIs
import HandS.ExcField
import HandS.Zip
import KE.GoesEnum
import HandS.Nested
import HandS.ExcOwn
import HandS.Ends
import HandS.HeadEnd
import HandS.Head0
import HandS.Head1
import HandS.Head2
import HandS.HeadHook1
import HandS.HeadHook2
import HandS.HeadHook3
import PySem.Challenge.RW_rimseries_k84_undo_refused_deeds_and_twi
import HandS.Head3
import PyProof.StrLawsRepr
section
set_option Elab.async false
set_option linter.all false
set_option maxRecDepth 100000
set_option maxHeartbeats 4000000
/-! Ev1: a small evaluator over plain data: values D, a store of lists and instances, own syntax, own big-step meaning. -/
namespace Ev
open PySem

/-- plain data: a tuple is a value (so is a list that nobody can write: fl), a list or an instance is a place of the store -/
inductive D where
  | non | bl (b : Bool) | int (i : Int) | str (l : List Nat) | tup (xs : List D) | ref (n : Nat) | fl (xs : List D)

inductive Ob where
  | lst (xs : List D)
  | ins (c : Nat) (fs : List (Str × D))
  /-- the table of a code object whose lambdas bear the name q -/
  | tbl (q : Str)
  /-- the function that was handed over -/
  | act
  | dead

abbrev Sto := List Ob
abbrev En := List (Option D)

/-- an exception: its class's index, its fields -/
structure Xc where
  c : Nat
  fs : List (Str × D)

inductive R (α : Type) where
  | stuck
  | ok (a : α) (S : Sto)
  | ex (x : Xc) (S : Sto)

def R.bind {α β : Type} : R α → (α → Sto → R β) → R β
  | .stuck, _ => .stuck
  | .ok a S, k => k a S
  | .ex x S, _ => .ex x S

@[simp] theorem R.bind_ok {α β : Type} (a : α) (S : Sto) (k : α → Sto → R β) : (R.ok a S).bind k = k a S := rfl
@[simp] theorem R.bind_ex {α β : Type} (x : Xc) (S : Sto) (k : α → Sto → R β) : (R.ex x S : R α).bind k = .ex x S := rfl
@[simp] theorem R.bind_stuck {α β : Type} (k : α → Sto → R β) : (R.stuck : R α).bind k = .stuck := rfl

/-- within a comprehension's block nothing may be raised -/
def R.noex {α : Type} : R α → R α
  | .ex _ _ => .stuck
  | r => r
@[simp] theorem R.noex_ok {α : Type} (a : α) (S : Sto) : (R.ok a S).noex = .ok a S := rfl
@[simp] theorem R.noex_stuck {α : Type} : (R.stuck : R α).noex = .stuck := rfl
@[simp] theorem R.noex_ex {α : Type} (x : Xc) (S : Sto) : (R.ex x S : R α).noex = .stuck := rfl

/-- an answer or nothing -/
def R.of {α : Type} (o : Option α) (S : Sto) : R α := match o with
  | some a => .ok a S
  | none => .stuck
@[simp] theorem R.of_some {α : Type} (a : α) (S : Sto) : R.of (some a) S = .ok a S := rfl
@[simp] theorem R.of_none {α : Type} (S : Sto) : (R.of none S : R α) = .stuck := rfl

def mapO {α β : Type} (f : α → Option β) : List α → Option (List β)
  | [] => some []
  | a :: r => (f a).bind fun b => (mapO f r).bind fun bs => some (b :: bs)

/-- data as the library's data, at most n deep -/
def toP (S : Sto) : Nat → D → Option PyData
  | 0, _ => none
  | _ + 1, .non => some .none
  | _ + 1, .bl b => some (.bool b)
  | _ + 1, .int i => some (.int i)
  | _ + 1, .str l => some (.str ⟨l.toArray⟩)
  | n + 1, .tup xs => (mapO (toP S n) xs).map .tuple
  | n + 1, .ref r => match S[r]? with
    | some (.lst xs) => (mapO (toP S n) xs).map .list
    | _ => none
  | n + 1, .fl xs => (mapO (toP S n) xs).map .list

/-- == of data; two texts alone want nothing of their signs -/
def eqD (S : Sto) (a b : D) : Option Bool := match a, b with
  | .str x, .str y => some (decide (x = y))
  | a, b => (toP S 20 a).bind fun p => (toP S 20 b).bind fun q => if p.canLay0 = true ∧ q.canLay0 = true then some (PyData.eqv p q) else none
def inD (S : Sto) (a : D) (bs : List D) : Option Bool := (toP S 20 a).bind fun p => (mapO (toP S 19) bs).bind fun qs => if p.canLay0 = true ∧ PyData.canLayAll0 qs = true then some (qs.any fun z => PyData.eqv z p) else none
def reprD (S : Sto) (a : D) : Option (List Nat) := (toP S 20 a).bind fun p => if p.showable = true ∧ p.shown.length ≤ 16777216 then some p.shown.cps.toList else none

inductive Op2 where
  | add | sub | mul | fdiv | mod | pow
  deriving DecidableEq
inductive Cm where
  | eq | ne | lt | le | gt | ge | isin | notin | is | isnot
  deriving DecidableEq
inductive Ty where
  | int | bool | str | tuple | list
  deriving DecidableEq
/-- built-ins by name -/
inductive Bi where
  | len | abs | int | str | isin (t : Ty) | tuple | list | max | min | divmod | gcd | sum | all | any | repr
  deriving DecidableEq
/-- methods of built-in types -/
inductive Mt where
  | append | pop | join | split | rfind | find
  deriving DecidableEq

def sz : Nat := 16777216

def binop (o : Op2) (a b : D) (S : Sto) : R D := match o, a, b with
  | .add, .int i, .int j => .ok (.int (i + j)) S
  | .add, .str x, .str y => if x.length + y.length ≤ 16777216 then .ok (.str (x ++ y)) S else .stuck
  | .add, .tup x, .tup y => if x.length + y.length ≤ 16777216 then .ok (.tup (x ++ y)) S else .stuck
  | .add, .ref m, .ref n => match S[m]?, S[n]? with
    | some (.lst x), some (.lst y) => if x.length + y.length ≤ 16777216 then .ok (.ref S.length) (S ++ [.lst (x ++ y)]) else .stuck
    | _, _ => .stuck
  | .sub, .int i, .int j => .ok (.int (i - j)) S
  | .mul, .int i, .int j => if i.natAbs.log2 + j.natAbs.log2 < 100000000 then .ok (.int (i * j)) S else .stuck
  | .mul, .ref m, .int k => match S[m]? with
    | some (.lst x) => if -(2 ^ 63) ≤ k ∧ k < 2 ^ 63 ∧ x.length * k.toNat ≤ 16777216 then .ok (.ref S.length) (S ++ [.lst (List.replicate k.toNat x).flatten]) else .stuck
    | _ => .stuck
  | .fdiv, .int i, .int j => if j ≠ 0 then .ok (.int (i.fdiv j)) S else .stuck
  | .mod, .int i, .int j => if j ≠ 0 then .ok (.int (i.fmod j)) S else .stuck
  | .pow, .int i, .int j => if 0 ≤ j ∧ j ≤ 1000000 ∧ i.natAbs < 2 ^ 64 then .ok (.int (i ^ j.toNat)) S else .stuck
  | _, _, _ => .stuck

/-- the items of a list place -/
def lstOf (S : Sto) : D → Option (List D)
  | .fl xs => some xs
  | .ref n => match S[n]? with
    | some (.lst xs) => some xs
    | _ => none
  | _ => none

/-- the items of a list or a tuple -/
def seqOf (S : Sto) : D → Option (List D)
  | .tup xs => some xs
  | .fl xs => some xs
  | .ref n => match S[n]? with
    | some (.lst xs) => some xs
    | _ => none
  | _ => none

def cmpI (o : Cm) (i j : Int) : Option Bool := match o with
  | .lt => some (decide (i < j))
  | .le => some (decide (i ≤ j))
  | .gt => some (decide (j < i))
  | .ge => some (decide (j ≤ i))
  | _ => none

def memS (S : Sto) (a b : D) : Option Bool := match b with
  | .str l => (match a with
    | .str [c] => some (decide (c ∈ l))
    | _ => none)
  | b => (seqOf S b).bind fun xs => inD S a xs
def isD (a b : D) : Option Bool := match b with
  | .non => (match a with
    | .non => some true
    | _ => some false)
  | .bl k => (match a with
    | .bl j => some (decide (j = k))
    | _ => none)
  | _ => none

def cmpop (o : Cm) (a b : D) (S : Sto) : Option Bool := match o with
  | .eq => eqD S a b
  | .ne => (eqD S a b).map (!·)
  | .isin => memS S a b
  | .notin => (memS S a b).map (!·)
  | .is => isD a b
  | .isnot => (isD a b).map (!·)
  | o => match a, b with
    | .int i, .int j => cmpI o i j
    | _, _ => none

def ixN (n : Nat) (i : Int) : Option Nat := if 0 ≤ i then (if i < n then some i.toNat else none) else if -(n : Int) ≤ i then some (i + n).toNat else none
def ixD (S : Sto) (a b : D) : Option D := match b with
  | .int i => (match a with
    | .str l => if l.length ≤ 16777216 then (L2.atI l i).map fun c => .str [c] else none
    | a => (seqOf S a).bind fun xs => L2.atI xs i)
  | _ => none
def cut {α : Type} (xs : List α) (lo hi : Option Int) : List α := (xs.drop (HT.sIx xs.length 0 lo)).take (HT.sIx xs.length xs.length hi - HT.sIx xs.length 0 lo)
def slD (a : D) (lo hi : Option Int) (S : Sto) : R D := match a with
  | .str l => if l.length ≤ 16777216 then .ok (.str (cut l lo hi)) S else .stuck
  | .tup xs => .ok (.tup (cut xs lo hi)) S
  | a => (match lstOf S a with
    | some xs => .ok (.ref S.length) (S ++ [.lst (cut xs lo hi)])
    | none => .stuck)

def isTy : Ty → D → Sto → Option Bool
  | t, .non, _ => some false
  | t, .bl _, _ => some (decide (t = .bool ∨ t = .int))
  | t, .int _, _ => some (decide (t = .int))
  | t, .str _, _ => some (decide (t = .str))
  | t, .tup _, _ => some (decide (t = .tuple))
  | t, .fl _, _ => some (decide (t = .list))
  | t, .ref n, S => match S[n]? with
    | some (.lst _) => some (decide (t = .list))
    | _ => none

def intsOf : List D → Option (List Int)
  | [] => some []
  | .int i :: r => (intsOf r).map (i :: ·)
  | _ => none
def blsOf : List D → Option (List Bool)
  | [] => some []
  | .bl i :: r => (blsOf r).map (i :: ·)
  | _ => none
def strsOf : List D → Option (List (List Nat))
  | [] => some []
  | .str i :: r => (strsOf r).map (i :: ·)
  | _ => none

def maxI : Int → List Int → Int
  | m, [] => m
  | m, i :: r => maxI (if i > m then i else m) r

def bi (b : Bi) (as : List D) (S : Sto) : R D := match b, as with
  | .len, [.str l] => if l.length ≤ 16777216 then .ok (.int l.length) S else .stuck
  | .len, [a] => R.of ((seqOf S a).map fun xs => .int xs.length) S
  | .abs, [.int i] => .ok (.int (if i < 0 then -i else i)) S
  | .int, [.int i] => .ok (.int i) S
  | .int, [.str l] => if l.length ≤ 640 then R.of ((PySem.intText? ⟨l.toArray⟩).map .int) S else .stuck
  | .str, [.int i] => if i.natAbs.log2 < 1920 then .ok (.str (Str.ofString (toString i)).cps.toList) S else .stuck
  | .isin t, [a] => R.of ((isTy t a S).map .bl) S
  | .tuple, [.tup xs] => .ok (.tup xs) S
  | .tuple, [a] => R.of ((lstOf S a).map .tup) S
  | .list, [a] => (match seqOf S a with
    | some xs => .ok (.ref S.length) (S ++ [.lst xs])
    | none => .stuck)
  | .max, [.int i, .int j] => .ok (.int (if j > i then j else i)) S
  | .max, [.int i, .int j, .int k] => .ok (.int (maxI i [j, k])) S
  | .min, [.int i, .int j] => .ok (.int (if j < i then j else i)) S
  | .divmod, [.int i, .int j] => if 0 < j ∧ j < 1073741824 then .ok (.tup [.int (i / j), .int (i % j)]) S else .stuck
  | .gcd, [.int i, .int j] => .ok (.int (Nat.gcd i.natAbs j.natAbs : Nat)) S
  | .sum, [a] => R.of (((lstOf S a).bind intsOf).map fun is => .int is.sum) S
  | .all, [a] => R.of (((lstOf S a).bind blsOf).map fun is => .bl (is.all id)) S
  | .any, [a] => R.of (((lstOf S a).bind blsOf).map fun is => .bl (is.any id)) S
  | .repr, [a] => R.of ((reprD S a).map .str) S
  | _, _ => .stuck

def joinN (sep : List Nat) (ys : List (List Nat)) : List Nat := TL.joinL sep ys

def mt (m : Mt) (a : D) (as : List D) (S : Sto) : R D := match m, a, as with
  | .append, .ref n, [x] => (match S[n]? with
    | some (.lst xs) => if xs.length < 16777216 then .ok .non (S.set n (.lst (xs ++ [x]))) else .stuck
    | _ => .stuck)
  | .pop, .ref n, [] => (match S[n]? with
    | some (.lst xs) => (match xs[xs.length - 1]? with
      | some x => .ok x (S.set n (.lst xs.dropLast))
      | none => .stuck)
    | _ => .stuck)
  | .join, .str l, [b] => (match (seqOf S b).bind strsOf with
    | some ys => if (ys.map List.length).sum + ys.length * l.length ≤ 16777216 then .ok (.str (joinN l ys)) S else .stuck
    | none => .stuck)
  | .split, .str l, [.str m] => if m ≠ [] ∧ l.length + 2 ≤ 16777216 ∧ m.all (· < 256) = true then .ok (.ref S.length) (S ++ [.lst ((TL.spl m 0 [] l).map .str)]) else .stuck
  | .find, .str l, [.str m] => .ok (.int (Txt.find ⟨l.toArray⟩ ⟨m.toArray⟩)) S
  | .rfind, .str l, [.str m] => .ok (.int (Txt.rfind ⟨l.toArray⟩ ⟨m.toArray⟩)) S
  | _, _, _ => .stuck
end Ev
end
section
set_option Elab.async false
set_option linter.all false
set_option maxRecDepth 100000
set_option maxHeartbeats 4000000
/-! Ev2: own syntax and its meaning. -/
namespace Ev
open PySem

/-- a pattern of names -/
inductive Pt where
  | nm (i : Nat)
  | tup (ps : List Pt)

mutual
inductive E where
  | var (i : Nat) | cst (d : D) | glb (i : Nat)
  | bin (o : Op2) (a b : E) | neg (a : E) | not (a : E)
  | and (a b : E) | or (a b : E) | ite (c a b : E)
  | cmp (o : Cm) (a b : E) | chain (o p : Cm) (a b c : E)
  | tup (es : Es) | lst (es : Es)
  | ix (a b : E) | sl (a : E) (lo hi : Oe) | rev (a : E)
  | call (f : Nat) (es : Es) | callk (f : Nat) (es ks : Es) (pm : List Nat)
  | bi (b : Bi) (es : Es) | mt (m : Mt) (a : E) (es : Es)
  | lc (own : List (Str × Nat)) (elt : E) (p : Pt) (it : It) (c : Oe)
  | lc2 (own : List (Str × Nat)) (own1 : List Nat) (elt : E) (p : Pt) (it : It) (p1 : Pt) (it1 : It)
  | fld (a : E) (c : Nat) (f : Str)
  | mk (c f : Nat) (es : Es)
  | mth (f c : Nat) (m : Str) (a : E) (es : Es)
  | mthk (f c : Nat) (m : Str) (a : E) (es ks : Es) (pm : List Nat)
  | lam (f k : Nat) (q : Str) (body : E)
inductive Es where
  | nil | cons (a : E) (r : Es) | star (a : E) (r : Es)
inductive Oe where
  | none | some (a : E)
inductive It where
  | seq (a : E) | rng1 (a : E) | rng2 (a b : E) | rng3 (a b c : E) | enum (a : E) | zip (a b : E)
end

/-- what is walked: its items, the list places that must stand as they are -/
structure Src where
  its : List D
  live : List (Nat × List D)

def Src.ok (s : Src) (S : Sto) : Prop := ∀ p ∈ s.live, lstOf S (.ref p.1) = some p.2

mutual
def Pt.set : Pt → D → En → Option En
  | .nm i, d, en => some (en.set i (some d))
  | .tup ps, .tup xs, en => Pt.sets ps xs en
  | .tup _, _, _ => none
def Pt.sets : List Pt → List D → En → Option En
  | [], [], en => some en
  | p :: ps, d :: ds, en => (Pt.set p d en).bind fun en' => Pt.sets ps ds en'
  | _, _, _ => none
end

abbrev slots (own : List (Str × Nat)) : List Nat := own.map fun q => q.2
def wipeE (en : En) : List Nat → En
  | [] => en
  | v :: vs => (wipeE en vs).set v none

open Classical in
/-- the loop of a comprehension -/
noncomputable def lcL (s : Src) (f : D → Sto → R (Option D)) : List D → List D → Sto → R (List D)
  | [], acc, S => if s.ok S then .ok acc S else .stuck
  | d :: r, acc, S => if s.ok S then (f d S).bind fun o S => match o with
      | none => lcL s f r acc S
      | some y => if acc.length < 16777216 then lcL s f r (acc ++ [y]) S else .stuck
    else .stuck
open Classical in
/-- the inner loop of two: the list made so far goes through -/
noncomputable def lcL1 (s : Src) (f : D → Sto → R D) : List D → List D → Sto → R (List D)
  | [], acc, S => if s.ok S then .ok acc S else .stuck
  | d :: r, acc, S => if s.ok S then (f d S).bind fun y S => if acc.length < 16777216 then lcL1 s f r (acc ++ [y]) S else .stuck
    else .stuck
open Classical in
noncomputable def lcL2 (s : Src) (f : D → List D → Sto → R (List D)) : List D → List D → Sto → R (List D)
  | [], acc, S => if s.ok S then .ok acc S else .stuck
  | d :: r, acc, S => if s.ok S then (f d acc S).bind fun acc S => lcL2 s f r acc S else .stuck

/-- the receiver's type is looked at ahead of the arguments -/
def mtTy (m : Mt) (x : D) (S : Sto) : Bool := match m with
  | .append => (lstOf S x).isSome
  | .pop => (lstOf S x).isSome
  | _ => match x with
    | .str _ => true
    | _ => false

/-- what the program's text says: its defs' meanings, its constants -/
structure Gm where
  fn : Nat → List D → Sto → R D
  cs : List D
  /-- a def handed a lambda -/
  lf : Nat → (Sto → R D) → Sto → R D
  /-- the function that was handed over -/
  act : Sto → R D
  /-- its place -/
  ap : Nat

/-- what a call of the function that was handed over does -/
def actM (gp : Nat) (m : Sto → R D) (i : Nat) (en : En) (S : Sto) : R D := match en.getD i none with
  | some (.ref p) => if p = gp then m S else .stuck
  | _ => .stuck
/-- a field of an instance -/
def fldD (S : Sto) (x : D) (c : Nat) (f : Str) : Option D := match x with
  | .ref n => (match S[n]? with
    | some (.ins c' fs) => if c' = c then fs.lookup f else none
    | _ => none)
  | _ => none
/-- an instance of the class c that has no field of the name m -/
def isIns (c : Nat) (m : Str) (x : D) (S : Sto) : Bool := match x with
  | .ref n => (match S[n]? with
    | some (.ins c' fs) => decide (c' = c) && (fs.lookup m).isNone
    | _ => false)
  | _ => false
def isTbl (k : Nat) (q : Str) (S : Sto) : Bool := match S[k]? with
  | some (.tbl q') => decide (q' = q)
  | _ => false
/-- fields with one put -/
def putD (f : Str) (d : D) : List (Str × D) → List (Str × D)
  | [] => [(f, d)]
  | (g, e) :: r => if g = f then (g, d) :: r else (g, e) :: putD f d r
/-- a field written -/
def setFld (x : D) (c : Nat) (f : Str) (d : D) (S : Sto) : Option Sto := match x with
  | .ref n => (match S[n]? with
    | some (.ins c' fs) => if c' = c ∧ fs.length < 900 then some (S.set n (.ins c' (putD f d fs))) else none
    | _ => none)
  | _ => none

def small (i : Int) : Prop := -(2 ^ 62) ≤ i ∧ i < 2 ^ 62
instance (i : Int) : Decidable (small i) := by unfold small; infer_instance

def rngD (i j : Int) : List D := (List.range (j - i).toNat).map fun (k : Nat) => .int (i + k)
/-- range(i, j, -1) -/
def rngDn (i j : Int) : List D := (List.range (i - j).toNat).map fun (k : Nat) => .int (i + k * (-1))

def srcSeq (a : D) (S : Sto) : Option Src := match a with
  | .str l => some ⟨l.map fun c => .str [c], []⟩
  | .tup xs => some ⟨xs, []⟩
  | .fl xs => some ⟨xs, []⟩
  | .ref n => (lstOf S (.ref n)).map fun xs => ⟨xs, [(n, xs)]⟩
  | _ => none
def enumD (xs : List D) : List D := xs.zipIdx.map fun p => .tup [.int (p.2 : Nat), p.1]
def srcEnum (a : D) (S : Sto) : Option Src := match a with
  | .tup xs => some ⟨enumD xs, []⟩
  | .fl xs => some ⟨enumD xs, []⟩
  | .ref n => (lstOf S (.ref n)).map fun xs => ⟨enumD xs, [(n, xs)]⟩
  | _ => none
def zipD (xs ys : List D) : List D := (xs.zip ys).map fun p => .tup [p.1, p.2]
def liveOf (a : D) (S : Sto) : Option (List D × List (Nat × List D)) := match a with
  | .fl xs => some (xs, [])
  | .ref n => (lstOf S (.ref n)).map fun xs => (xs, [(n, xs)])
  | _ => none
def srcZip (a b : D) (S : Sto) : Option Src := match a, b with
  | .tup xs, .tup ys => some ⟨zipD xs ys, []⟩
  | a, b => (liveOf a S).bind fun p => (liveOf b S).map fun q => ⟨zipD p.1 q.1, p.2 ++ q.2⟩

section
variable (G : Gm)
mutual
noncomputable def ev : E → En → Sto → R D
  | .var i, en, S => R.of (en.getD i none) S
  | .cst d, _, S => .ok d S
  | .glb i, _, S => R.of (G.cs[i]?) S
  | .bin o a b, en, S => (ev a en S).bind fun x S => (ev b en S).bind fun y S => binop o x y S
  | .neg a, en, S => (ev a en S).bind fun x S => match x with
    | .int i => .ok (.int (-i)) S
    | _ => .stuck
  | .not a, en, S => (ev a en S).bind fun x S => match x with
    | .bl k => .ok (.bl (!k)) S
    | _ => .stuck
  | .and a b, en, S => (ev a en S).bind fun x S => match x with
    | .bl true => ev b en S
    | .bl false => .ok (.bl false) S
    | _ => .stuck
  | .or a b, en, S => (ev a en S).bind fun x S => match x with
    | .bl true => .ok (.bl true) S
    | .bl false => ev b en S
    | _ => .stuck
  | .ite c a b, en, S => (ev c en S).bind fun x S => match x with
    | .bl true => ev a en S
    | .bl false => ev b en S
    | _ => .stuck
  | .cmp o a b, en, S => (ev a en S).bind fun x S => (ev b en S).bind fun y S => R.of ((cmpop o x y S).map .bl) S
  | .chain o p a b c, en, S => (ev a en S).bind fun x S => (ev b en S).bind fun y S => match cmpop o x y S with
    | some true => (ev c en S).bind fun z S => R.of ((cmpop p y z S).map .bl) S
    | some false => .ok (.bl false) S
    | none => .stuck
  | .tup es, en, S => (evs es en S).bind fun xs S => if xs.length ≤ 16777216 then .ok (.tup xs) S else .stuck
  | .lst es, en, S => (evs es en S).bind fun xs S => if xs.length ≤ 16777216 then .ok (.ref S.length) (S ++ [.lst xs]) else .stuck
  | .ix a b, en, S => (ev a en S).bind fun x S => (ev b en S).bind fun y S => R.of (ixD S x y) S
  | .sl a lo hi, en, S => (ev a en S).bind fun x S => (evo lo en S).bind fun l S => (evo hi en S).bind fun h S => slD x l h S
  | .rev a, en, S => (ev a en S).bind fun x S => match lstOf S x with
    | some xs => .ok (.ref S.length) (S ++ [.lst xs.reverse])
    | none => .stuck
  | .call f es, en, S => (evs es en S).bind fun xs S => G.fn f xs S
  | .callk f es ks pm, en, S => (evs es en S).bind fun xs S => (evs ks en S).bind fun zs S => G.fn f (pm.filterMap fun i => (xs ++ zs)[i]?) S
  | .bi b es, en, S => (evs es en S).bind fun xs S => bi b xs S
  | .mt m a es, en, S => (ev a en S).bind fun x S => if mtTy m x S = true then (evs es en S).bind fun xs S => mt m x xs S else .stuck
  | .lc own elt p it c, en, S => (evi it en S).bind fun s S =>
      (lcL s (fun d S => (match p.set d (wipeE en (slots own)) with
        | some en' => (evc c en' S).bind fun b S => if b = true then (ev elt en' S).bind fun y S => .ok (some y) S else .ok none S
        | none => .stuck).noex) s.its [] S).bind fun acc S => .ok (.ref S.length) (S ++ [.lst acc])
  | .lc2 own own1 elt p it p1 it1, en, S => (evi it en S).bind fun s S =>
      (lcL2 s (fun d acc S => (match p.set d (wipeE en (slots own)) with
        | some en' => (evi it1 en' S).bind fun s1 S =>
            lcL1 s1 (fun d1 S => match p1.set d1 (wipeE en' own1) with
              | some en'' => ev elt en'' S
              | none => .stuck) s1.its acc S
        | none => .stuck).noex) s.its [] S).bind fun acc S => .ok (.ref S.length) (S ++ [.lst acc])
  | .fld a c f, en, S => (ev a en S).bind fun x S => R.of (fldD S x c f) S
  | .mk c f es, en, S => (evs es en S).bind fun xs S => (G.fn f (.ref S.length :: xs) (S ++ [.ins c []])).bind fun v S' => match v with
    | .non => .ok (.ref S.length) S'
    | _ => .stuck
  | .mth f c m a es, en, S => (ev a en S).bind fun x S => if isIns c m x S = true then (evs es en S).bind fun xs S => G.fn f (x :: xs) S else .stuck
  | .mthk f c m a es ks pm, en, S => (ev a en S).bind fun x S => if isIns c m x S = true then (evs es en S).bind fun xs S => (evs ks en S).bind fun zs S => G.fn f (pm.filterMap fun i => (x :: xs ++ zs)[i]?) S else .stuck
  | .lam f k q body, en, S => if isTbl k q S = true then G.lf f (fun S => ev body en S) S else .stuck
noncomputable def evs : Es → En → Sto → R (List D)
  | .nil, _, S => .ok [] S
  | .cons a r, en, S => (ev a en S).bind fun x S => (evs r en S).bind fun xs S => .ok (x :: xs) S
  | .star a r, en, S => (ev a en S).bind fun x S => match seqOf S x with
    | some ys => (evs r en S).bind fun xs S => .ok (ys ++ xs) S
    | none => .stuck
/-- a part of a slice -/
noncomputable def evo : Oe → En → Sto → R (Option Int)
  | .none, _, S => .ok none S
  | .some a, en, S => (ev a en S).bind fun x S => match x with
    | .int i => .ok (some i) S
    | _ => .stuck
/-- a comprehension's test -/
noncomputable def evc : Oe → En → Sto → R Bool
  | .none, _, S => .ok true S
  | .some a, en, S => (ev a en S).bind fun x S => match x with
    | .bl k => .ok k S
    | _ => .stuck
noncomputable def evi : It → En → Sto → R Src
  | .seq a, en, S => (ev a en S).bind fun x S => R.of (srcSeq x S) S
  | .rng1 a, en, S => (ev a en S).bind fun x S => match x with
    | .int j => if small j then .ok ⟨rngD 0 j, []⟩ S else .stuck
    | _ => .stuck
  | .rng2 a b, en, S => (ev a en S).bind fun x S => (ev b en S).bind fun y S => match x, y with
    | .int i, .int j => if small i ∧ small j then .ok ⟨rngD i j, []⟩ S else .stuck
    | _, _ => .stuck
  | .rng3 a b c, en, S => (ev a en S).bind fun x S => (ev b en S).bind fun y S => (ev c en S).bind fun z S => match x, y, z with
    | .int i, .int j, .int k => if small i ∧ small j ∧ k = -1 then .ok ⟨rngDn i j, []⟩ S else .stuck
    | _, _, _ => .stuck
  | .enum a, en, S => (ev a en S).bind fun x S => R.of (srcEnum x S) S
  | .zip a b, en, S => (ev a en S).bind fun x S => (ev b en S).bind fun y S => R.of (srcZip x y S) S
end
end

/-! ### statements -/
/-- a target -/
inductive Tg where
  | nm (i : Nat)
  | tup (ts : List Tg)
  | sub (a i : E)
/-- what an except suite reads of its exception: a field, whether it is of a class -/
inductive Xa where
  | fld (f : Str)
  | isc (c : Nat)
  | isb (n : String)

mutual
inductive Sm where
  | asg (t : Tg) (e : E)
  | par (is : List Nat) (es : Es)
  | aug (i : Nat) (o : Op2) (e : E)
  | augs (a i : E) (o : Op2) (e : E)
  | exp (e : E)
  | ret (e : E)
  | retn
  | ite (c : E) (a b : Ss)
  | for (t : Tg) (it : It) (b : Ss)
  | whl (c : E) (b : Ss)
  | brk | cnt | pas | bad
  | rai (c : Nat) (es : Es)
  | sfl (a : E) (c : Nat) (f : Str) (e : E)
  | acs (j i : Nat)
  | ace (i : Nat)
  | tri (b : Ss) (c : Nat) (slot to : Nat) (as : List Xa)
inductive Ss where
  | nil | cons (s : Sm) (r : Ss)
end

inductive O where
  | stuck
  | nx (en : En) (S : Sto)
  | rt (d : D) (S : Sto)
  | bk (en : En) (S : Sto)
  | ct (en : En) (S : Sto)
  | ex (x : Xc) (en : En) (S : Sto)

/-- an expression's end goes on, in a statement -/
def R.then {α : Type} (r : R α) (en : En) (k : α → Sto → O) : O := match r with
  | .stuck => .stuck
  | .ok a S => k a S
  | .ex x S => .ex x en S
@[simp] theorem R.then_ok {α : Type} (a : α) (S : Sto) (en : En) (k : α → Sto → O) : (R.ok a S).then en k = k a S := rfl
@[simp] theorem R.then_ex {α : Type} (x : Xc) (S : Sto) (en : En) (k : α → Sto → O) : (R.ex x S : R α).then en k = .ex x en S := rfl
@[simp] theorem R.then_stuck {α : Type} (en : En) (k : α → Sto → O) : (R.stuck : R α).then en k = .stuck := rfl

def O.seq (o : O) (k : En → Sto → O) : O := match o with
  | .nx en S => k en S
  | o => o
@[simp] theorem O.seq_nx (en : En) (S : Sto) (k : En → Sto → O) : (O.nx en S).seq k = k en S := rfl
@[simp] theorem O.seq_rt (d : D) (S : Sto) (k : En → Sto → O) : (O.rt d S).seq k = .rt d S := rfl
@[simp] theorem O.seq_bk (en : En) (S : Sto) (k : En → Sto → O) : (O.bk en S).seq k = .bk en S := rfl
@[simp] theorem O.seq_ct (en : En) (S : Sto) (k : En → Sto → O) : (O.ct en S).seq k = .ct en S := rfl
@[simp] theorem O.seq_ex (x : Xc) (en : En) (S : Sto) (k : En → Sto → O) : (O.ex x en S).seq k = .ex x en S := rfl
@[simp] theorem O.seq_stuck (k : En → Sto → O) : O.stuck.seq k = .stuck := rfl

/-- a loop's turn: what goes on with k -/
def O.turn (o : O) (k : En → Sto → O) : O := match o with
  | .nx en S => k en S
  | .ct en S => k en S
  | .bk en S => .nx en S
  | o => o
@[simp] theorem O.turn_nx (en : En) (S : Sto) (k : En → Sto → O) : (O.nx en S).turn k = k en S := rfl
@[simp] theorem O.turn_ct (en : En) (S : Sto) (k : En → Sto → O) : (O.ct en S).turn k = k en S := rfl
@[simp] theorem O.turn_bk (en : En) (S : Sto) (k : En → Sto → O) : (O.bk en S).turn k = .nx en S := rfl
@[simp] theorem O.turn_rt (d : D) (S : Sto) (k : En → Sto → O) : (O.rt d S).turn k = .rt d S := rfl
@[simp] theorem O.turn_ex (x : Xc) (en : En) (S : Sto) (k : En → Sto → O) : (O.ex x en S).turn k = .ex x en S := rfl
@[simp] theorem O.turn_stuck (k : En → Sto → O) : O.stuck.turn k = .stuck := rfl

open Classical in
noncomputable def forL (s : Src) (f : D → En → Sto → O) : List D → En → Sto → O
  | [], en, S => if s.ok S then .nx en S else .stuck
  | d :: r, en, S => if s.ok S then (f d en S).turn fun en S => forL s f r en S else .stuck

def wIt (c : En → Sto → R Bool) (b : En → Sto → O) : Nat → En → Sto → O
  | 0, _, _ => .stuck
  | n + 1, en, S => (c en S).then en fun k S => if k = true then (b en S).turn fun en S => wIt c b n en S else .nx en S

open Classical in
noncomputable def whlL (c : En → Sto → R Bool) (b : En → Sto → O) (en : En) (S : Sto) : O :=
  if h : ∃ n, wIt c b n en S ≠ .stuck then wIt c b (Classical.choose h) en S else .stuck

theorem wIt_mono {c : En → Sto → R Bool} {b : En → Sto → O} : ∀ {n : Nat} {en : En} {S : Sto}, wIt c b n en S ≠ .stuck → wIt c b (n + 1) en S = wIt c b n en S := by
  intro n
  induction n with
  | zero => intro en S h; exact absurd rfl h
  | succ n ih =>
    intro en S h
    rw [wIt] at h ⊢
    rw [wIt]
    cases hc : c en S with
    | stuck => rfl
    | ex x S' => rfl
    | ok k S' =>
      rw [hc] at h
      cases k with
      | false => rfl
      | true =>
        simp only [R.then_ok, if_true] at h ⊢
        cases hb : b en S' with
        | nx en' S'' => rw [hb] at h; exact ih h
        | ct en' S'' => rw [hb] at h; exact ih h
        | _ => rfl
theorem wIt_le {c : En → Sto → R Bool} {b : En → Sto → O} {n m : Nat} {en : En} {S : Sto} (h : wIt c b n en S ≠ .stuck) (hm : n ≤ m) : wIt c b m en S = wIt c b n en S := by
  induction m with
  | zero => have : n = 0 := by omega
            subst this; rfl
  | succ m ih =>
    by_cases e : n = m + 1
    · subst e; rfl
    · have q := ih (by omega)
      rw [wIt_mono (by rw [q]; exact h), q]
theorem whlL_of {c : En → Sto → R Bool} {b : En → Sto → O} {n : Nat} {en : En} {S : Sto} (h : wIt c b n en S ≠ .stuck) : whlL c b en S = wIt c b n en S := by
  unfold whlL
  have hx : ∃ n, wIt c b n en S ≠ .stuck := ⟨n, h⟩
  rw [dif_pos hx]
  have h2 := Classical.choose_spec hx
  rcases Nat.le_total n (Classical.choose hx) with q | q
  · exact wIt_le h q
  · exact (wIt_le h2 q).symm
theorem whlL_eq (c : En → Sto → R Bool) (b : En → Sto → O) (en : En) (S : Sto) :
    whlL c b en S = (c en S).then en fun k S => if k = true then (b en S).turn fun en S => whlL c b en S else .nx en S := by
  cases hc : c en S with
  | stuck =>
    unfold whlL
    rw [dif_neg]
    · rfl
    · rintro ⟨n, h⟩
      cases n with
      | zero => exact h rfl
      | succ n => rw [wIt, hc] at h; exact h rfl
  | ex x S' => rw [whlL_of (n := 1) (by rw [wIt, hc]; simp), wIt, hc]; rfl
  | ok k S' =>
    cases k with
    | false => rw [whlL_of (n := 1) (by rw [wIt, hc]; simp), wIt, hc]; rfl
    | true =>
      simp only [R.then_ok, if_true]
      have step : ∀ n, wIt c b (n + 1) en S = (b en S').turn fun en S => wIt c b n en S := fun n => by rw [wIt, hc]; rfl
      have go : ∀ en' S'', (∀ k, (b en S').turn k = k en' S'') → whlL c b en S = whlL c b en' S'' := fun en' S'' hk => by
        by_cases hx : ∃ n, wIt c b n en' S'' ≠ .stuck
        · obtain ⟨n, hn⟩ := hx
          rw [whlL_of hn, whlL_of (n := n + 1) (by rw [step, hk]; exact hn), step, hk]
        · rw [whlL, whlL, dif_neg hx, dif_neg]
          rintro ⟨n, h⟩
          cases n with
          | zero => exact h rfl
          | succ n => rw [step, hk] at h; exact hx ⟨n, h⟩
      have one : ∀ o : O, (∀ k, (b en S').turn k = o) → whlL c b en S = o := fun o hk => by
        by_cases ho : o = .stuck
        · subst ho
          unfold whlL
          rw [dif_neg]
          rintro ⟨n, h⟩
          cases n with
          | zero => exact h rfl
          | succ n => rw [step, hk] at h; exact h rfl
        · rw [whlL_of (n := 1) (by rw [step, hk]; exact ho), step, hk]
      cases hb : b en S' with
      | nx en' S'' => rw [hb] at go; exact go en' S'' fun _ => rfl
      | ct en' S'' => rw [hb] at go; exact go en' S'' fun _ => rfl
      | bk en' S'' => rw [hb] at one; exact one _ fun _ => rfl
      | rt d S'' => rw [hb] at one; exact one _ fun _ => rfl
      | ex x en' S'' => rw [hb] at one; exact one _ fun _ => rfl
      | stuck => rw [hb] at one; exact one _ fun _ => rfl

/-- the text's classes of errors: fields, which is under which (also under a built-in one) -/
structure Cls where
  fs : List Str
  up : List Nat
  bup : List String

section
variable (G : Gm) (C : List Cls)
def augI (o : Op2) (x y : D) : Option D := match o, x, y with
  | .add, .int i, .int j => some (.int (i + j))
  | .sub, .int i, .int j => some (.int (i - j))
  | _, _, _ => none
/-- an item of a list -/
def ixL (S : Sto) (a b : D) : Option D := match b with
  | .int i => (lstOf S a).bind fun xs => L2.atI xs i
  | _ => none
def setSub (a i d : D) (S : Sto) : Option Sto := match a, i with
  | .ref n, .int k => (match S[n]? with
    | some (.lst xs) => (ixN xs.length k).map fun j => S.set n (.lst (xs.set j d))
    | _ => none)
  | _, _ => none
mutual
noncomputable def asgT : Tg → D → En → Sto → R En
  | .nm i, d, en, S => .ok (en.set i (some d)) S
  | .tup ts, d, en, S => match d with
    | .tup xs => asgTs ts xs en S
    | _ => .stuck
  | .sub a i, d, en, S => (ev G a en S).noex.bind fun x S => (ev G i en S).noex.bind fun y S => match setSub x y d S with
    | some S' => .ok en S'
    | none => .stuck
noncomputable def asgTs : List Tg → List D → En → Sto → R En
  | [], [], en, S => .ok en S
  | t :: ts, d :: ds, en, S => (asgT t d en S).bind fun en S => asgTs ts ds en S
  | _, _, _, _ => .stuck
end
def parSet : List Nat → List D → En → Option En
  | [], [], en => some en
  | i :: is, d :: ds, en => parSet is ds (en.set i (some d))
  | _, _, _ => none
/-- what an except suite reads -/
def xaD (k : Cls) (x : Xc) : Xa → Option D
  | .fld f => if k.fs.contains f = true then x.fs.lookup f else none
  | .isc c => some (.bl (decide (c = x.c) || k.up.contains c))
  | .isb n => some (.bl (k.bup.contains n))
/-- what is done with an error of a try's body -/
def triH (c slot to : Nat) (as : List Xa) (x : Xc) (en : En) (S : Sto) : O := if slot < en.length then (match C[x.c]? with
  | some k => if (decide (c = x.c) || k.up.contains c) = true then
      (match mapO (xaD k x) as with
      | some ds => .nx (((en.set slot none).set to (some (.ref S.length))).set slot none) (S ++ [.lst ds])
      | none => .stuck)
    else .ex x en S
  | none => .stuck) else .stuck
mutual
noncomputable def exec : Sm → En → Sto → O
  | .asg t e, en, S => (ev G e en S).then en fun d S => (asgT G t d en S).noex.then en fun en S => .nx en S
  | .par is es, en, S => (evs G es en S).then en fun ds S => match parSet is ds en with
    | some en => .nx en S
    | none => .stuck
  | .aug i o e, en, S => match en.getD i none with
    | some x => (ev G e en S).then en fun y S => match augI o x y with
      | some z => .nx (en.set i (some z)) S
      | none => .stuck
    | none => .stuck
  | .augs a i o e, en, S => (ev G a en S).then en fun x S => (ev G i en S).then en fun y S => match ixL S x y with
    | some old => (ev G e en S).then en fun z S => (match augI o old z with
      | some d => (match setSub x y d S with
        | some S => .nx en S
        | none => .stuck)
      | none => .stuck)
    | none => .stuck
  | .exp e, en, S => (ev G e en S).then en fun _ S => .nx en S
  | .ret e, en, S => (ev G e en S).then en fun d S => .rt d S
  | .retn, _, S => .rt .non S
  | .ite c a b, en, S => (ev G c en S).then en fun x S => match x with
    | .bl true => execs a en S
    | .bl false => execs b en S
    | _ => .stuck
  | .for t it b, en, S => (evi G it en S).then en fun s S => forL s (fun d en S => (asgT G t d en S).noex.then en fun en S => execs b en S) s.its en S
  | .whl c b, en, S => whlL (fun en S => (ev G c en S).bind fun x S => match x with
      | .bl k => .ok k S
      | _ => .stuck) (fun en S => execs b en S) en S
  | .brk, en, S => .bk en S
  | .cnt, en, S => .ct en S
  | .pas, en, S => .nx en S
  | .bad, _, _ => .stuck
  | .rai c es, en, S => (evs G es en S).then en fun ds S => match C[c]? with
    | some k => if ds.length = k.fs.length then .ex ⟨c, k.fs.zip ds⟩ en S else .stuck
    | none => .stuck
  | .sfl a c f e, en, S => (ev G e en S).then en fun d S => (ev G a en S).then en fun x S => match setFld x c f d S with
    | some S => .nx en S
    | none => .stuck
  | .acs j i, en, S => (actM G.ap G.act i en S).then en fun d S => .nx (en.set j (some d)) S
  | .ace i, en, S => (actM G.ap G.act i en S).then en fun _ S => .nx en S
  | .tri b c slot to as, en, S => match execs b en S with
    | .ex x en S => triH C c slot to as x en S
    | o => o
noncomputable def execs : Ss → En → Sto → O
  | .nil, en, S => .nx en S
  | .cons s r, en, S => (exec s en S).seq fun en S => execs r en S
end

/-- a def of the text: how many parameters, how many names, its body -/
structure Fd where
  np : Nat
  nn : Nat
  body : Ss

def O.toR : O → R D
  | .nx _ S => .ok .non S
  | .rt d S => .ok d S
  | .ex x _ S => .ex x S
  | _ => .stuck

noncomputable def runF (f : Fd) (ds : List D) (S : Sto) : R D :=
  if ds.length = f.np then (execs G C f.body (ds.map some ++ List.replicate (f.nn - ds.length) none) S).toR else .stuck
end

/-- the place is left -/
def R.dead (p : Nat) (r : R D) : R D := match r with
  | .ok d S => .ok d (S.set p .dead)
  | .ex x S => .ex x (S.set p .dead)
  | .stuck => .stuck
def noLf : Nat → (Sto → R D) → Sto → R D := fun _ _ _ => .stuck
def noAct : Sto → R D := fun _ => .stuck
/-- a def handed a lambda, a new place standing for it -/
noncomputable def lf0 (F : List Fd) (C : List Cls) (cs : List D) (fn : Nat → List D → Sto → R D) (f : Nat) (a : Sto → R D) (S : Sto) : R D := match F[f]? with
  | some fd => runF ⟨fn, cs, noLf, a, S.length⟩ C fd [.ref S.length] (S ++ [.act])
  | none => .stuck
noncomputable def lfF (F : List Fd) (C : List Cls) (cs : List D) (fn : Nat → List D → Sto → R D) (f : Nat) (a : Sto → R D) (S : Sto) : R D := (lf0 F C cs fn f a S).dead S.length
/-- the defs' meanings, calls n deep -/
noncomputable def fnN (F : List Fd) (C : List Cls) (cs : List D) : Nat → Nat → List D → Sto → R D
  | 0, _, _, _ => .stuck
  | n + 1, f, ds, S => match F[f]? with
    | some fd => runF ⟨fnN F C cs n, cs, lfF F C cs (fnN F C cs n), noAct, 0⟩ C fd ds S
    | none => .stuck
end Ev
end
section
set_option Elab.async false
set_option linter.all false
set_option maxRecDepth 100000
set_option maxHeartbeats 4000000
set_option autoImplicit false
/-! Ev3: how plain data and the store lie in the hand layer's heap. -/
namespace Ev
open PySem PySem.Spec PyProof.Rows L2

/-! ### representation -/
/-- a list that nobody can write: locked, or the written part's -/
def SqF (K : PySem.W.Frag) (H : Hp) (a : Addr) (vs : List V) : Prop := (∃ o, H a = some (.frz o (.lst vs))) ∨
  ∃ (o : Obj) (its : Array Value) (n : Nat), K.lookup a = some o ∧ o.cls = .type "list" ∧ o.dict = none ∧ o.data = .seq its n ∧ its.size ≤ sizeLine ∧ Vals vs its.toList
theorem SqF.l {K : PySem.W.Frag} {H : Hp} {a : Addr} {vs : List V} (h : SqF K H a vs) : SqL K H a vs := by
  rcases h with ⟨o, h⟩ | h
  · exact .inl (.inr ⟨o, h⟩)
  · exact .inr h
mutual
inductive Rep (K : PySem.W.Frag) (ρ : List Addr) (H : Hp) : D → V → Prop where
  | non : Rep K ρ H .non .non
  | bl (b : Bool) : Rep K ρ H (.bl b) (.bl b)
  | int (i : Int) : Rep K ρ H (.int i) (.int i)
  | str (l : List Nat) : Rep K ρ H (.str l) (.str ⟨l.toArray⟩)
  | tup {xs : List D} {a : Addr} {vs : List V} : SqT K H a vs → RepL K ρ H xs vs → Rep K ρ H (.tup xs) (.ref a)
  | ref {n : Nat} {a : Addr} : ρ[n]? = some a → Rep K ρ H (.ref n) (.ref a)
  | fl {xs : List D} {a : Addr} {vs : List V} : SqF K H a vs → RepL K ρ H xs vs → Rep K ρ H (.fl xs) (.ref a)
inductive RepL (K : PySem.W.Frag) (ρ : List Addr) (H : Hp) : List D → List V → Prop where
  | nil : RepL K ρ H [] []
  | cons {d : D} {ds : List D} {v : V} {vs : List V} : Rep K ρ H d v → RepL K ρ H ds vs → RepL K ρ H (d :: ds) (v :: vs)
end

/-- what may be written: the hand layer's, and the tables of code objects -/
def Mu (o : Option HO) : Prop := Mut o ∨ ∃ ps, o = some (.tbl ps)
/-- what changes at most: writable places of the store; new places are new -/
structure Ext (ρ : List Addr) (H : Hp) (ρ' : List Addr) (H' : Hp) : Prop where
  pre : ∃ more, ρ' = ρ ++ more
  new : ∀ b ∈ ρ', b ∈ ρ ∨ H b = none
  keep : ∀ b o, H b = some o → (b ∈ ρ → ¬ Mu (some o)) → H' b = some o
theorem mu_frz {o : Obj} {u : HO} : ¬ Mu (some (.frz o u)) := fun z => by
  rcases z with z | ⟨_, z⟩
  · exact z
  · cases z
theorem mu_tup {u : List V} : ¬ Mu (some (.tup u)) := fun z => by
  rcases z with z | ⟨_, z⟩
  · exact z
  · cases z
theorem Ext.refl (ρ : List Addr) (H : Hp) : Ext ρ H ρ H := ⟨⟨[], (List.append_nil _).symm⟩, fun _ h => .inl h, fun _ _ h _ => h⟩
theorem Ext.trans {ρ ρ1 ρ2 : List Addr} {H H1 H2 : Hp} (a : Ext ρ H ρ1 H1) (b : Ext ρ1 H1 ρ2 H2) : Ext ρ H ρ2 H2 := by
  obtain ⟨m1, e1⟩ := a.pre
  obtain ⟨m2, e2⟩ := b.pre
  have key : ∀ c o, H c = some o → c ∈ ρ1 → c ∈ ρ := fun c o h hc => by
    rcases a.new c hc with z | z
    · exact z
    · rw [z] at h; cases h
  refine ⟨⟨m1 ++ m2, by rw [e2, e1, List.append_assoc]⟩, fun c hc => ?_, fun c o h hn => b.keep c o (a.keep c o h hn) fun hc => hn (key c o h hc)⟩
  rcases b.new c hc with z | z
  · exact a.new c z
  · cases q : H c with
    | none => exact .inr rfl
    | some o =>
      by_cases hc' : c ∈ ρ
      · exact .inl hc'
      · have := a.keep c o q fun y => absurd y hc'
        rw [z] at this; cases this
theorem Ext.get {ρ ρ1 : List Addr} {H H1 : Hp} (a : Ext ρ H ρ1 H1) {n : Nat} {b : Addr} (h : ρ[n]? = some b) : ρ1[n]? = some b := by
  obtain ⟨m, e⟩ := a.pre
  have hl : n < ρ.length := (List.getElem?_eq_some_iff.mp h).1
  rw [e, List.getElem?_append_left hl, h]
theorem Ext.sqF {K : PySem.W.Frag} {ρ ρ1 : List Addr} {H H1 : Hp} (x : Ext ρ H ρ1 H1) {a : Addr} {vs : List V} (h : SqF K H a vs) : SqF K H1 a vs := by
  rcases h with ⟨o, h⟩ | h
  · exact .inl ⟨o, x.keep _ _ h fun _ => mu_frz⟩
  · exact .inr h
theorem Ext.sqT {K : PySem.W.Frag} {ρ ρ1 : List Addr} {H H1 : Hp} (x : Ext ρ H ρ1 H1) {a : Addr} {vs : List V} (h : SqT K H a vs) : SqT K H1 a vs := by
  rcases h with (h | ⟨o, h⟩) | h
  · exact .inl (.inl (x.keep _ _ h fun _ => mu_tup))
  · exact .inl (.inr ⟨o, x.keep _ _ h fun _ => mu_frz⟩)
  · exact .inr h

section
variable {K : PySem.W.Frag} {ρ ρ1 : List Addr} {H H1 : Hp}
/-- what a datum's place leans on -/
structure Kp (K : PySem.W.Frag) (ρ : List Addr) (H : Hp) (ρ1 : List Addr) (H1 : Hp) : Prop where
  get : ∀ (n : Nat) (b : Addr), ρ[n]? = some b → ρ1[n]? = some b
  sqT : ∀ (a : Addr) (vs : List V), SqT K H a vs → SqT K H1 a vs
  sqF : ∀ (a : Addr) (vs : List V), SqF K H a vs → SqF K H1 a vs
  frz : ∀ (a : Addr) (o : Obj) (u : HO), H a = some (.frz o u) → H1 a = some (.frz o u)
theorem Ext.kp (x : Ext ρ H ρ1 H1) : Kp K ρ H ρ1 H1 := ⟨fun _ _ h => x.get h, fun _ _ h => x.sqT h, fun _ _ h => x.sqF h, fun _ _ _ h => x.keep _ _ h fun _ => mu_frz⟩
theorem Kp.trans {ρ2 : List Addr} {H2 : Hp} (a : Kp K ρ H ρ1 H1) (b : Kp K ρ1 H1 ρ2 H2) : Kp K ρ H ρ2 H2 := ⟨fun n c h => b.get n c (a.get n c h), fun c vs h => b.sqT c vs (a.sqT c vs h), fun c vs h => b.sqF c vs (a.sqF c vs h), fun c o u h => b.frz c o u (a.frz c o u h)⟩
theorem Kp.refl : Kp K ρ H ρ H := ⟨fun _ _ h => h, fun _ _ h => h, fun _ _ h => h, fun _ _ _ h => h⟩
theorem Kp.none : Kp K [] (fun _ => none) ρ H := ⟨fun n b h => by simp at h, fun a vs h => by
  rcases h with (h | ⟨o, h⟩) | h
  · cases h
  · cases h
  · exact .inr h, fun a vs h => by
  rcases h with ⟨o, h⟩ | h
  · cases h
  · exact .inr h, fun _ _ _ h => by cases h⟩
mutual
theorem Rep.mono (x : Kp K ρ H ρ1 H1) : ∀ {d : D} {v : V}, Rep K ρ H d v → Rep K ρ1 H1 d v
  | .non, _, h => by cases h; exact .non
  | .bl b, _, h => by cases h; exact .bl b
  | .int i, _, h => by cases h; exact .int i
  | .str l, _, h => by cases h; exact .str l
  | .tup xs, _, h => by
    cases h with
    | tup h1 h2 => exact .tup (x.sqT _ _ h1) (RepL.mono x h2)
  | .ref n, _, h => by
    cases h with
    | ref h1 => exact .ref (x.get _ _ h1)
  | .fl xs, _, h => by
    cases h with
    | fl h1 h2 => exact .fl (x.sqF _ _ h1) (RepL.mono x h2)
theorem RepL.mono (x : Kp K ρ H ρ1 H1) : ∀ {ds : List D} {vs : List V}, RepL K ρ H ds vs → RepL K ρ1 H1 ds vs
  | [], _, h => by cases h; exact .nil
  | d :: ds, _, h => by
    cases h with
    | cons h1 h2 => exact .cons (Rep.mono x h1) (RepL.mono x h2)
end
theorem Rep.ext (x : Ext ρ H ρ1 H1) {d : D} {v : V} (h : Rep K ρ H d v) : Rep K ρ1 H1 d v := h.mono x.kp
theorem RepL.ext (x : Ext ρ H ρ1 H1) {ds : List D} {vs : List V} (h : RepL K ρ H ds vs) : RepL K ρ1 H1 ds vs := h.mono x.kp
/-- a list of nobody's written -/
theorem Kp.other {D : Addr} {vs ws : List V} (h : H D = some (.lst vs)) : Kp K ρ H ρ (upd H D (.lst ws)) := by
  have ne : ∀ {b : Addr} {o : HO}, H b = some o → (∀ xs, o ≠ .lst xs) → b ≠ D := fun {b o} e hn z => by subst z; rw [h] at e; exact hn vs (Option.some.inj e).symm
  refine ⟨fun _ _ h => h, fun a xs q => ?_, fun a xs q => ?_, fun a o u q => by rw [upd_ne (ne q fun _ z => by cases z)]; exact q⟩
  · rcases q with (q | ⟨o, q⟩) | q
    · exact .inl (.inl (by rw [upd_ne (ne q fun _ z => by cases z)]; exact q))
    · exact .inl (.inr ⟨o, by rw [upd_ne (ne q fun _ z => by cases z)]; exact q⟩)
    · exact .inr q
  · rcases q with ⟨o, q⟩ | q
    · exact .inl ⟨o, by rw [upd_ne (ne q fun _ z => by cases z)]; exact q⟩
    · exact .inr q
theorem Kp.pre {more : List Addr} : Kp K ρ H (ρ ++ more) H := ⟨fun n b h => by
  have hl : n < ρ.length := (List.getElem?_eq_some_iff.mp h).1
  rw [List.getElem?_append_left hl, h], fun _ _ h => h, fun _ _ h => h, fun _ _ _ h => h⟩
theorem RepL.length : ∀ {ds : List D} {vs : List V}, RepL K ρ H ds vs → ds.length = vs.length
  | [], _, h => by cases h; rfl
  | d :: ds, _, h => by
    cases h with
    | cons h1 h2 => exact congrArg Nat.succ h2.length
theorem RepL.get : ∀ {ds : List D} {vs : List V} {i : Nat} {d : D}, RepL K ρ H ds vs → ds[i]? = some d → ∃ v, vs[i]? = some v ∧ Rep K ρ H d v
  | [], _, _, _, _, e => by simp at e
  | d :: ds, _, 0, _, h, e => by
    cases h with
    | cons h1 h2 =>
      simp at e; subst e
      exact ⟨_, rfl, h1⟩
  | d :: ds, _, i + 1, _, h, e => by
    cases h with
    | cons h1 h2 =>
      obtain ⟨v, q, r⟩ := h2.get (i := i) (by simpa using e)
      exact ⟨v, by simpa using q, r⟩
theorem RepL.append : ∀ {ds es : List D} {vs ws : List V}, RepL K ρ H ds vs → RepL K ρ H es ws → RepL K ρ H (ds ++ es) (vs ++ ws)
  | [], _, _, _, h, g => by cases h; exact g
  | d :: ds, _, _, _, h, g => by
    cases h with
    | cons h1 h2 => exact .cons h1 (h2.append g)
theorem RepL.take : ∀ {ds : List D} {vs : List V} (n : Nat), RepL K ρ H ds vs → RepL K ρ H (ds.take n) (vs.take n)
  | _, _, 0, _ => .nil
  | [], _, _ + 1, h => by cases h; exact .nil
  | d :: ds, _, n + 1, h => by
    cases h with
    | cons h1 h2 => exact .cons h1 (h2.take n)
theorem RepL.drop : ∀ {ds : List D} {vs : List V} (n : Nat), RepL K ρ H ds vs → RepL K ρ H (ds.drop n) (vs.drop n)
  | _, _, 0, h => h
  | [], _, _ + 1, h => by cases h; exact .nil
  | d :: ds, _, n + 1, h => by
    cases h with
    | cons h1 h2 => exact h2.drop n
theorem RepL.set {d : D} {v : V} (r : Rep K ρ H d v) : ∀ {ds : List D} {vs : List V} (n : Nat), RepL K ρ H ds vs → RepL K ρ H (ds.set n d) (vs.set n v)
  | [], _, _, h => by cases h; exact .nil
  | e :: ds, _, 0, h => by
    cases h with
    | cons h1 h2 => exact .cons r h2
  | e :: ds, _, n + 1, h => by
    cases h with
    | cons h1 h2 => exact .cons h1 (h2.set r n)
theorem RepL.reverse : ∀ {ds : List D} {vs : List V}, RepL K ρ H ds vs → RepL K ρ H ds.reverse vs.reverse
  | [], _, h => by cases h; exact .nil
  | d :: ds, _, h => by
    cases h with
    | cons h1 h2 => simp only [List.reverse_cons]; exact h2.reverse.append (.cons h1 .nil)
theorem RepL.dropLast : ∀ {ds : List D} {vs : List V}, RepL K ρ H ds vs → RepL K ρ H ds.dropLast vs.dropLast := fun {ds vs} h => by
  have e := h.length
  rw [List.dropLast_eq_take, List.dropLast_eq_take, e]
  exact h.take _
theorem RepL.flatten (k : Nat) : ∀ {ds : List D} {vs : List V}, RepL K ρ H ds vs → RepL K ρ H (List.replicate k ds).flatten (List.replicate k vs).flatten := fun {ds vs} h => by
  induction k with
  | zero => exact .nil
  | succ k ih => simp only [List.replicate_succ, List.flatten_cons]; exact h.append ih

/-- what is known of a text beside the walk: classes of errors, of instances; the first places; an earlier moment -/
structure Cl where
  ex : Nat → Addr
  ic : Nat → Addr
  b0 : List Addr
  r0 : List Addr
  h0 : Hp
instance : CoeFun Cl (fun _ => Nat → Addr) := ⟨Cl.ex⟩
def Cl.base (c : Cl) : Cl := ⟨c.ex, c.ic, c.b0, [], fun _ => none⟩
def Cl.at_ (c : Cl) (ρ : List Addr) (H : Hp) : Cl := ⟨c.ex, c.ic, c.b0, ρ, H⟩
/-- a code object by its name -/
def CodeN (q : Str) (oc : Obj) : Prop := ∃ (vs : Array Value) (t : Tok), oc.data = .fields vs ∧ vs[1]? = some (.str q t)
/-- a table of code objects of one name -/
def TabO (H : Hp) (a : Addr) (q : Str) : Prop := ∃ ps : Array Value, H a = some (.tbl ps) ∧ TriplesOk ps.toList ∧ ∀ (pos : Pos) (cv : Value), codeAmong pos ps.toList = some cv → ∃ (c : Addr) (oc : Obj) (u : HO), cv = .ref c ∧ H c = some (.frz oc u) ∧ CodeN q oc
/-- an object of the store -/
def ObR (K : PySem.W.Frag) (cl : Cl) (ρ : List Addr) (H : Hp) (a : Addr) : Ob → Prop
  | .lst xs => ∃ vs, H a = some (.lst vs) ∧ RepL K ρ H xs vs
  | .ins c fs => ∃ dx ws, H a = some (.ins (cl.ic c) dx ws) ∧ ws.map (·.1) = fs.map (·.1) ∧ RepL K ρ H (fs.map (·.2)) (ws.map (·.2))
  | .tbl q => TabO H a q
  | .act => ∃ o u, H a = some (.frz o u)
  | .dead => H a ≠ none
structure RelS (K : PySem.W.Frag) (cl : Cl) (ρ : List Addr) (H : Hp) (S : Sto) : Prop where
  len : ρ.length = S.length
  inj : ρ.Nodup
  obs : ∀ (n : Nat) (o : Ob), S[n]? = some o → ∃ a : Addr, ρ[n]? = some a ∧ ObR K cl ρ H a o
  pin : ∀ (n : Nat) (b : Addr), cl.b0[n]? = some b → ρ[n]? = some b
  his : Kp K cl.r0 cl.h0 ρ H
structure RelE (K : PySem.W.Frag) (ρ : List Addr) (H : Hp) (en : En) (σ : L2.St) : Prop where
  len : en.length = σ.length
  get : ∀ (i : Nat) (d : D), en[i]? = some (some d) → ∃ v : V, σ[i]? = some (some v) ∧ Rep K ρ H d v
theorem RelE.mono (x : Kp K ρ H ρ1 H1) {en : En} {σ : L2.St} (h : RelE K ρ H en σ) : RelE K ρ1 H1 en σ :=
  ⟨h.len, fun i d e => let ⟨v, q, r⟩ := h.get i d e; ⟨v, q, r.mono x⟩⟩
theorem RelE.ext (x : Ext ρ H ρ1 H1) {en : En} {σ : L2.St} (h : RelE K ρ H en σ) : RelE K ρ1 H1 en σ :=
  ⟨h.len, fun i d e => let ⟨v, q, r⟩ := h.get i d e; ⟨v, q, r.ext x⟩⟩
theorem RelE.set {en : En} {σ : L2.St} (h : RelE K ρ H en σ) {d : D} {v : V} (r : Rep K ρ H d v) (i : Nat) : RelE K ρ H (en.set i (some d)) (σ.set i (some v)) := by
  refine ⟨by simp [h.len], fun j e hj => ?_⟩
  by_cases q : i = j
  · subst q
    by_cases hi : i < en.length
    · rw [List.getElem?_set_self hi] at hj
      cases hj
      exact ⟨v, List.getElem?_set_self (by rw [← h.len]; exact hi), r⟩
    · rw [List.getElem?_eq_none (by simpa using hi)] at hj; cases hj
  · rw [List.getElem?_set_ne q] at hj
    rw [List.getElem?_set_ne q]
    exact h.get j e hj
theorem RelE.unset {en : En} {σ : L2.St} (h : RelE K ρ H en σ) (i : Nat) (o : Option V) : RelE K ρ H (en.set i none) (σ.set i o) := by
  refine ⟨by simp [h.len], fun j e hj => ?_⟩
  by_cases q : i = j
  · subst q
    by_cases hi : i < en.length
    · rw [List.getElem?_set_self hi] at hj; cases hj
    · rw [List.getElem?_eq_none (by simpa using hi)] at hj; cases hj
  · rw [List.getElem?_set_ne q] at hj
    rw [List.getElem?_set_ne q]
    exact h.get j e hj
theorem RelE.wipe {en : En} {σ : L2.St} (h : RelE K ρ H en σ) : ∀ vs : List Nat, RelE K ρ H (wipeE en vs) (wipe σ vs)
  | [] => h
  | v :: vs => (h.wipe vs).unset v none

/-! ### the store's places -/
section
variable {cl : Cl} {S : Sto}
theorem ObR.keep {a : Addr} {o : Ob} (h : ObR K cl ρ H a o) (x : Kp K ρ H ρ1 H1) (hk : ∀ u, H a = some u → H1 a = some u) : ObR K cl ρ1 H1 a o := by
  cases o with
  | lst xs => obtain ⟨vs, e, r⟩ := h; exact ⟨vs, hk _ e, r.mono x⟩
  | ins c fs => obtain ⟨dx, ws, e, m, r⟩ := h; exact ⟨dx, ws, hk _ e, m, r.mono x⟩
  | tbl q =>
    obtain ⟨ps, e, t, g⟩ := h
    refine ⟨ps, hk _ e, t, fun pos cv hc => ?_⟩
    obtain ⟨c, oc, u, e1, e2, e3⟩ := g pos cv hc
    exact ⟨c, oc, u, e1, x.frz _ _ _ e2, e3⟩
  | act => obtain ⟨o, u, e⟩ := h; exact ⟨o, u, hk _ e⟩
  | dead =>
    intro z
    cases e : H a with
    | none => exact h e
    | some u => rw [hk _ e] at z; cases z
theorem ObR.there {a : Addr} {o : Ob} (h : ObR K cl ρ H a o) : H a ≠ none := by
  cases o with
  | lst xs => obtain ⟨vs, e, r⟩ := h; rw [e]; simp
  | ins c fs => obtain ⟨dx, ws, e, m, r⟩ := h; rw [e]; simp
  | tbl q => obtain ⟨ps, e, _⟩ := h; rw [e]; simp
  | act => obtain ⟨o, u, e⟩ := h; rw [e]; simp
  | dead => exact h
theorem RelS.there (h : RelS K cl ρ H S) {b : Addr} (hb : b ∈ ρ) : H b ≠ none := by
  obtain ⟨n, hn, e⟩ := List.getElem_of_mem hb
  have e1 : ρ[n]? = some b := by rw [List.getElem?_eq_getElem hn, e]
  have hs : n < S.length := by rw [← h.len]; exact hn
  obtain ⟨a, e2, q⟩ := h.obs n S[n] (List.getElem?_eq_getElem hs)
  rw [e1] at e2; cases e2
  exact q.there
/-- a new place, others' objects beside it -/
theorem RelS.allocG (h : RelS K cl ρ H S) {p : Addr} {H2 : Hp} {o : Ob} (hp : H p = none) (hk : ∀ b u, H b = some u → (b ∈ ρ → ¬ Mu (some u)) → H2 b = some u) (hr : ∀ b ∈ ρ, ∀ u, H b = some u → H2 b = some u) (ho : ObR K cl (ρ ++ [p]) H2 p o) : Ext ρ H (ρ ++ [p]) H2 ∧ RelS K cl (ρ ++ [p]) H2 (S ++ [o]) := by
  have x : Ext ρ H (ρ ++ [p]) H2 := ⟨⟨[p], rfl⟩, fun b hb => by
    rcases List.mem_append.mp hb with z | z
    · exact .inl z
    · rw [List.mem_singleton.mp z]; exact .inr hp, hk⟩
  have hlen := h.len
  refine ⟨x, ⟨by simp [hlen], ?_, fun n v e => ?_, fun n b e => x.get (h.pin n b e), h.his.trans x.kp⟩⟩
  · rw [List.nodup_append]
    refine ⟨h.inj, by simp, fun a ha b hb z => ?_⟩
    rw [List.mem_singleton] at hb
    subst hb
    subst z
    exact h.there ha hp
  · by_cases hn : n < S.length
    · rw [List.getElem?_append_left hn] at e
      obtain ⟨b, e1, q⟩ := h.obs n v e
      exact ⟨b, x.get e1, q.keep x.kp fun w hw => hr b (List.mem_of_getElem? e1) w hw⟩
    · have h1 := (List.getElem?_eq_some_iff.mp e).1
      have h2 : n = S.length := by simp at h1; omega
      subst h2
      rw [List.getElem?_append_right (Nat.le_refl _)] at e
      simp at e
      subst e
      exact ⟨p, by rw [← hlen]; simp, ho⟩
/-- a new place -/
theorem RelS.alloc (h : RelS K cl ρ H S) {p : Addr} {u : HO} {o : Ob} (hp : H p = none) (ho : ObR K cl (ρ ++ [p]) (upd H p u) p o) : Ext ρ H (ρ ++ [p]) (upd H p u) ∧ RelS K cl (ρ ++ [p]) (upd H p u) (S ++ [o]) :=
  h.allocG hp (fun b v e _ => by rw [upd_ne (ne_of_none e hp)]; exact e) (fun b _ v e => by rw [upd_ne (ne_of_none e hp)]; exact e) ho
/-- what is new beside the store's places -/
theorem RelS.laidG (h : RelS K cl ρ H S) {H2 : Hp} (hk : ∀ b u, H b = some u → H2 b = some u) : Ext ρ H ρ H2 ∧ RelS K cl ρ H2 S := by
  have x : Ext ρ H ρ H2 := ⟨⟨[], (List.append_nil _).symm⟩, fun b hb => .inl hb, fun b v e _ => hk b v e⟩
  refine ⟨x, ⟨h.len, h.inj, fun n v e => ?_, h.pin, h.his.trans x.kp⟩⟩
  obtain ⟨b, e1, q⟩ := h.obs n v e
  exact ⟨b, e1, q.keep x.kp fun w hw => hk b w hw⟩
/-- a new untracked-by-the-store object (a tuple, an iterator's pair) -/
theorem RelS.laid (h : RelS K cl ρ H S) {p : Addr} {u : HO} (hp : H p = none) : Ext ρ H ρ (upd H p u) ∧ RelS K cl ρ (upd H p u) S :=
  h.laidG fun b v e => by rw [upd_ne (ne_of_none e hp)]; exact e
theorem nodup_get : ∀ {l : List Addr} {i j : Nat} {a : Addr}, l.Nodup → l[i]? = some a → l[j]? = some a → i = j := fun {l i j a} nd h1 h2 => by
  obtain ⟨p1, q1⟩ := List.getElem?_eq_some_iff.mp h1
  obtain ⟨p2, q2⟩ := List.getElem?_eq_some_iff.mp h2
  have pw := List.pairwise_iff_getElem.mp nd
  rcases Nat.lt_trichotomy i j with z | z | z
  · exact absurd (q1.trans q2.symm) (pw i j p1 p2 z)
  · exact z
  · exact absurd (q2.trans q1.symm) (pw j i p2 p1 z)
/-- a place written -/
theorem RelS.writeG (h : RelS K cl ρ H S) {n : Nat} {a : Addr} {o o' : Ob} {H2 : Hp} (hn : ρ[n]? = some a) (ho : S[n]? = some o) (hm : Mu (H a)) (hk : ∀ b v, b ≠ a → H b = some v → H2 b = some v)
    (new : Ext ρ H ρ H2 → ObR K cl ρ H2 a o') : Ext ρ H ρ H2 ∧ RelS K cl ρ H2 (S.set n o') := by
  have hmem : a ∈ ρ := List.mem_of_getElem? hn
  have x : Ext ρ H ρ H2 := ⟨⟨[], (List.append_nil _).symm⟩, fun b hb => .inl hb, fun b v e hb => by
    by_cases q : b = a
    · subst q
      have := hb hmem
      rw [e] at hm
      exact absurd hm this
    · exact hk b v q e⟩
  have hlt : n < S.length := (List.getElem?_eq_some_iff.mp ho).1
  refine ⟨x, ⟨by simp [h.len], h.inj, fun m v e => ?_, h.pin, h.his.trans x.kp⟩⟩
  by_cases q : n = m
  · subst q
    rw [List.getElem?_set_self hlt] at e
    cases e
    exact ⟨a, hn, new x⟩
  · rw [List.getElem?_set_ne q] at e
    obtain ⟨b, e1, r⟩ := h.obs m v e
    have hb : b ≠ a := fun z => by subst z; exact q (nodup_get h.inj hn e1)
    exact ⟨b, e1, r.keep x.kp fun w hw => hk b w hb hw⟩
theorem RelS.write (h : RelS K cl ρ H S) {n : Nat} {a : Addr} {o o' : Ob} {u : HO} (hn : ρ[n]? = some a) (ho : S[n]? = some o) (hm : Mut (H a))
    (new : Ext ρ H ρ (upd H a u) → ObR K cl ρ (upd H a u) a o') : Ext ρ H ρ (upd H a u) ∧ RelS K cl ρ (upd H a u) (S.set n o') :=
  h.writeG hn ho (.inl hm) (fun b v q e => by rw [upd_ne q]; exact e) new
/-- a list of nobody's written -/
theorem RelS.other (h : RelS K cl ρ H S) {D : Addr} {vs ws : List V} (hd : H D = some (.lst vs)) (hn : D ∉ ρ) : RelS K cl ρ (upd H D (.lst ws)) S := by
  refine ⟨h.len, h.inj, fun n o e => ?_, h.pin, h.his.trans (Kp.other hd)⟩
  obtain ⟨a, e1, q⟩ := h.obs n o e
  have ha : a ≠ D := fun z => hn (z ▸ List.mem_of_getElem? e1)
  exact ⟨a, e1, q.keep (Kp.other hd) fun u e => by rw [upd_ne ha]; exact e⟩
/-- what stands becomes a place -/
theorem RelS.adoptG (h : RelS K cl ρ H S) {D : Addr} {o : Ob} (hn : D ∉ ρ) (r : ObR K cl (ρ ++ [D]) H D o) : RelS K cl (ρ ++ [D]) H (S ++ [o]) := by
  have hlen := h.len
  refine ⟨by simp [hlen], ?_, fun n o e => ?_, fun n b e => Kp.pre (K := K) (H := H).get n b (h.pin n b e), h.his.trans Kp.pre⟩
  · rw [List.nodup_append]
    refine ⟨h.inj, by simp, fun a ha b hb z => ?_⟩
    rw [List.mem_singleton] at hb
    subst hb
    subst z
    exact hn ha
  · by_cases hl : n < S.length
    · rw [List.getElem?_append_left hl] at e
      obtain ⟨a, e1, q⟩ := h.obs n o e
      exact ⟨a, (Kp.pre (K := K) (H := H)).get _ _ e1, q.keep Kp.pre fun _ e => e⟩
    · have h1 := (List.getElem?_eq_some_iff.mp e).1
      have h2 : n = S.length := by simp at h1; omega
      subst h2
      rw [List.getElem?_append_right (Nat.le_refl _)] at e
      simp at e
      subst e
      exact ⟨D, by rw [← hlen]; simp, r⟩
/-- a list that stands becomes a place -/
theorem RelS.adopt (h : RelS K cl ρ H S) {D : Addr} {vs : List V} {xs : List Ev.D} (hd : H D = some (.lst vs)) (hn : D ∉ ρ) (r : RepL K ρ H xs vs) : RelS K cl (ρ ++ [D]) H (S ++ [.lst xs]) :=
  h.adoptG (o := .lst xs) hn ⟨vs, hd, r.mono Kp.pre⟩
/-- a place that is left -/
theorem RelS.dead (h : RelS K cl ρ H S) (n : Nat) : RelS K cl ρ H (S.set n .dead) := by
  refine ⟨by simp [h.len], h.inj, fun m v e => ?_, h.pin, h.his⟩
  by_cases q : n = m
  · subst q
    by_cases hl : n < S.length
    · rw [List.getElem?_set_self hl] at e
      cases e
      obtain ⟨a, e1, r⟩ := h.obs n S[n] (List.getElem?_eq_getElem hl)
      exact ⟨a, e1, r.there⟩
    · rw [List.getElem?_eq_none (by simpa using hl)] at e
      cases e
  · rw [List.getElem?_set_ne q] at e
    exact h.obs m v e
/-- another moment looked back to -/
theorem RelS.since (h : RelS K cl ρ H S) {r0 : List Addr} {h0 : Hp} (x : Kp K r0 h0 ρ H) : RelS K (cl.at_ r0 h0) ρ H S := ⟨h.len, h.inj, h.obs, h.pin, x⟩
theorem RelS.toBase (h : RelS K cl ρ H S) : RelS K cl.base ρ H S := ⟨h.len, h.inj, h.obs, h.pin, Kp.none⟩
theorem RelS.ofBase (h : RelS K cl.base ρ H S) (x : Kp K cl.r0 cl.h0 ρ H) : RelS K cl ρ H S := ⟨h.len, h.inj, h.obs, h.pin, x⟩
theorem lstOf_rep (s : RelS K cl ρ H S) {a : D} {v : V} {xs : List D} (e : lstOf S a = some xs) (r : Rep K ρ H a v) : ∃ p vs, v = .ref p ∧ SqL K H p vs ∧ RepL K ρ H xs vs := by
  cases a with
  | ref n =>
    unfold lstOf at e
    cases q : S[n]? with
    | none => simp [q] at e
    | some o =>
      cases o with
      | lst ys =>
        simp [q] at e; subst e
        obtain ⟨a, h1, vs, h2, h3⟩ := s.obs n _ q
        cases r with
        | ref h4 =>
          rw [h1] at h4; cases h4
          exact ⟨a, vs, rfl, SqL.of h2, h3⟩
      | _ => simp [q] at e
  | fl ys =>
    cases e
    cases r with
    | fl h1 h2 => exact ⟨_, _, rfl, h1.l, h2⟩
  | _ => cases e
theorem RelS.lst (h : RelS K cl ρ H S) {n : Nat} {xs : List D} {v : V} (e : S[n]? = some (.lst xs)) (r : Rep K ρ H (.ref n) v) : ∃ a vs, v = .ref a ∧ ρ[n]? = some a ∧ H a = some (.lst vs) ∧ RepL K ρ H xs vs := by
  obtain ⟨a, h1, vs, h2, h3⟩ := h.obs n _ e
  cases r with
  | ref h4 =>
    rw [h1] at h4; cases h4
    exact ⟨a, vs, rfl, h1, h2, h3⟩
theorem seqOf_cases {d : D} {xs : List D} (e : seqOf S d = some xs) : d = .tup xs ∨ lstOf S d = some xs := by
  cases d with
  | tup ys => simp [seqOf] at e; subst e; exact .inl rfl
  | fl ys => exact .inr e
  | ref n => exact .inr e
  | _ => cases e
theorem seqOf_rep (h : RelS K cl ρ H S) {d : D} {xs : List D} {v : V} (e : seqOf S d = some xs) (r : Rep K ρ H d v) : ∃ a vs, v = .ref a ∧ (SqL K H a vs ∨ SqT K H a vs) ∧ RepL K ρ H xs vs := by
  rcases seqOf_cases e with q | q
  · subst q
    cases r with
    | tup h1 h2 => exact ⟨_, _, rfl, .inr h1, h2⟩
  · obtain ⟨a, vs, h1, h2, h3⟩ := lstOf_rep h q r
    exact ⟨a, vs, h1, .inl h2, h3⟩
end
end

/-! ### answers -/
def Aft (K : PySem.W.Frag) (cl : Cl) {α : Type} (ρ : List Addr) (H : Hp) (r : R α) (P : List Addr → Hp → Sto → α → Prop) (PX : Xc → List Addr → Hp → Sto → Prop) : Prop :=
  match r with
  | .stuck => False
  | .ok a S => ∀ ρ' H', Ext ρ H ρ' H' → RelS K cl ρ' H' S → P ρ' H' S a
  | .ex x S => ∀ ρ' H', Ext ρ H ρ' H' → RelS K cl ρ' H' S → PX x ρ' H' S
section
variable {K : PySem.W.Frag} {cl : Cl} {α β : Type} {ρ : List Addr} {H : Hp} {r : R α} {P P' : List Addr → Hp → Sto → α → Prop} {PX PX' : Xc → List Addr → Hp → Sto → Prop}
theorem Aft.imp (h : Aft K cl ρ H r P PX) (f : ∀ ρ' H' S a, Ext ρ H ρ' H' → RelS K cl ρ' H' S → P ρ' H' S a → P' ρ' H' S a) (g : ∀ x ρ' H' S, Ext ρ H ρ' H' → PX x ρ' H' S → PX' x ρ' H' S) : Aft K cl ρ H r P' PX' := by
  cases r with
  | stuck => exact h
  | ok a S => exact fun ρ' H' x s => f ρ' H' S a x s (h ρ' H' x s)
  | ex x S => exact fun ρ' H' y s => g x ρ' H' S y (h ρ' H' y s)
theorem Aft.ext {ρ0 : List Addr} {H0 : Hp} (h : Aft K cl ρ0 H0 r P PX) (x : Ext ρ0 H0 ρ H) : Aft K cl ρ H r P PX := by
  cases r with
  | stuck => exact h
  | ok a S => exact fun ρ' H' y s => h ρ' H' (x.trans y) s
  | ex z S => exact fun ρ' H' y s => h ρ' H' (x.trans y) s
theorem Aft.bind {k : α → Sto → R β} {P : List Addr → Hp → Sto → β → Prop} (h : Aft K cl ρ H (r.bind k) P PX) : Aft K cl ρ H r (fun ρ' H' S a => Aft K cl ρ' H' (k a S) P PX) PX := by
  cases r with
  | stuck => exact h
  | ok a S => exact fun ρ' H' x s => Aft.ext h x
  | ex x S => exact h
theorem Aft.noex (h : Aft K cl ρ H r.noex P PX) : Aft K cl ρ H r P fun _ _ _ _ => False := by
  cases r with
  | stuck => exact h
  | ok a S => exact h
  | ex x S => exact False.elim h
theorem Aft.bind0 {k : α → Sto → R β} {P : List Addr → Hp → Sto → β → Prop} (h : Aft K cl ρ H (r.bind k) P PX) : Aft K cl ρ H r (fun _ _ S a => Aft K cl ρ H (k a S) P PX) PX := by
  cases r with
  | stuck => exact h
  | ok a S => exact fun _ _ _ _ => h
  | ex x S => exact h
theorem R.bind_assoc {γ : Type} (r : R α) (k : α → Sto → R β) (f : β → Sto → R γ) : (r.bind k).bind f = r.bind fun a S => (k a S).bind f := by cases r <;> rfl
theorem Aft.here {a : α} {S : Sto} (h : Aft K cl ρ H (.ok a S) P PX) (s : RelS K cl ρ H S) : P ρ H S a := h ρ H (Ext.refl _ _) s
theorem Aft.of {o : Option α} {S : Sto} (h : Aft K cl ρ H (R.of o S) P PX) (s : RelS K cl ρ H S) : ∃ a, o = some a ∧ P ρ H S a := by
  cases o with
  | none => exact h.elim
  | some a => exact ⟨a, rfl, Aft.here (a := a) h s⟩
/-- a new list -/
theorem Aft.newL {S : Sto} {xs : List D} {vs : List V} {P : List Addr → Hp → Sto → D → Prop} (h : Aft K cl ρ H (.ok (.ref S.length) (S ++ [.lst xs])) P PX) (s : RelS K cl ρ H S) (r : RepL K ρ H xs vs) (p : Addr) (hp : H p = none) :
    P (ρ ++ [p]) (upd H p (.lst vs)) (S ++ [.lst xs]) (.ref S.length) ∧ Rep K (ρ ++ [p]) (upd H p (.lst vs)) (.ref S.length) (.ref p) := by
  have xx : Ext ρ H (ρ ++ [p]) (upd H p (.lst vs)) := ⟨⟨[p], rfl⟩, fun b hb => by
    rcases List.mem_append.mp hb with z | z
    · exact .inl z
    · rw [List.mem_singleton.mp z]; exact .inr hp, fun b v e _ => by rw [upd_ne (ne_of_none e hp)]; exact e⟩
  obtain ⟨x, s'⟩ := s.alloc (o := .lst xs) (u := .lst vs) hp ⟨vs, upd_same, r.ext xx⟩
  exact ⟨h _ _ x s', .ref (by rw [← s.len]; simp)⟩
/-- a new tuple -/
theorem Aft.newT {S : Sto} {xs : List D} {vs : List V} {P : List Addr → Hp → Sto → D → Prop} (h : Aft K cl ρ H (.ok (.tup xs) S) P PX) (s : RelS K cl ρ H S) (r : RepL K ρ H xs vs) (p : Addr) (hp : H p = none) :
    P ρ (upd H p (.tup vs)) S (.tup xs) ∧ Rep K ρ (upd H p (.tup vs)) (.tup xs) (.ref p) := by
  obtain ⟨x, s'⟩ := s.laid (u := .tup vs) hp
  exact ⟨h _ _ x s', .tup (SqT.of upd_same) (r.ext x)⟩
end

/-- how an exception of the text lies: its class's object, its own dict -/
def XR (K : PySem.W.Frag) (cl : Cl) (ρ : List Addr) (H : Hp) (x : Xc) (cls : Value) (d : Option Addr) : Prop :=
  cls = .ref (cl x.c) ∧ ((x.fs = [] ∧ d = none) ∨ ∃ (a : Addr) (ws : List (Str × V)), d = some a ∧ H a = some (.xd ws) ∧ ∀ (f : Str) (dd : D), x.fs.lookup f = some dd → ∃ v, ws.lookup f = some v ∧ Rep K ρ H dd v)

/-- an expression's reading by a meaning -/
def tE (K : PySem.W.Frag) (cl : Cl) (W : WX) (m : En → Sto → R D) : TE := fun σ H Q => ∃ ρ en S, RelE K ρ H en σ ∧ RelS K cl ρ H S ∧
  Aft K cl ρ H (m en S) (fun ρ' H' _ d => ∀ v, Rep K ρ' H' d v → Q v H') fun x ρ' H' _ => ∀ cls d, XR K cl ρ' H' x cls d → W cls d σ H'
def tA (K : PySem.W.Frag) (cl : Cl) (W : WX) (m : En → Sto → R (List D)) : TA := fun σ H Q => ∃ ρ en S, RelE K ρ H en σ ∧ RelS K cl ρ H S ∧
  Aft K cl ρ H (m en S) (fun ρ' H' _ ds => ∀ vs, RepL K ρ' H' ds vs → Q vs H') fun x ρ' H' _ => ∀ cls d, XR K cl ρ' H' x cls d → W cls d σ H'
def tB (K : PySem.W.Frag) (cl : Cl) (W : WX) (m : En → Sto → R Bool) : TT := fun σ H Q => ∃ ρ en S, RelE K ρ H en σ ∧ RelS K cl ρ H S ∧
  Aft K cl ρ H (m en S) (fun ρ' H' _ b => Q b H') fun x ρ' H' _ => ∀ cls d, XR K cl ρ' H' x cls d → W cls d σ H'
theorem _root_.L2.PE.weak {X : Cx} {e : Expr} {t t' : TE} (h : PE X e t') (f : ∀ σ H Q, t σ H Q → t' σ H Q) : PE X e t := ⟨fun pins s σ H Q I q => h.run pins s σ H Q I (f _ _ _ q)⟩
theorem _root_.L2.PA.weak {X : Cx} {e : List Expr} {t t' : TA} (h : PA X e t') (f : ∀ σ H Q, t σ H Q → t' σ H Q) : PA X e t := ⟨fun pos pins s σ H Q I q => h.run pos pins s σ H Q I (f _ _ _ q)⟩
theorem _root_.L2.PT.weak {X : Cx} {e : Expr} {t t' : TT} (h : PT X e t') (f : ∀ σ H Q, t σ H Q → t' σ H Q) : PT X e t := ⟨fun pins s σ H Q I q => h.run pins s σ H Q I (f _ _ _ q)⟩
end Ev
end
section
set_option Elab.async false
set_option linter.all false
set_option maxRecDepth 100000
set_option maxHeartbeats 4000000
set_option autoImplicit false
/-! Ev4: operators, built-ins, methods over plain data keep their meaning. -/
namespace Ev
open PySem PySem.Spec PyProof.Rows L2

section
variable {K : PySem.W.Frag} {cl : Cl} {ρ : List Addr} {H : Hp} {S : Sto}

/-! ### data -/
theorem mapO_spec {α β : Type} {f : α → Option β} : ∀ {l : List α} {bs : List β}, mapO f l = some bs → ∀ a ∈ l, ∃ b, f a = some b
  | [], _, _, a, h => by cases h
  | x :: r, bs, e, a, h => by
    unfold mapO at e
    cases q : f x with
    | none => rw [q] at e; cases e
    | some b =>
      rw [q] at e
      simp only [Option.bind_some] at e
      cases q2 : mapO f r with
      | none => rw [q2] at e; cases e
      | some cs =>
        rcases List.mem_cons.mp h with z | z
        · subst z; exact ⟨b, q⟩
        · exact mapO_spec q2 a z
theorem mapO_cons {α β : Type} {f : α → Option β} {x : α} {r : List α} {bs : List β} (e : mapO f (x :: r) = some bs) : ∃ b cs, f x = some b ∧ mapO f r = some cs ∧ bs = b :: cs := by
  unfold mapO at e
  cases q : f x with
  | none => rw [q] at e; cases e
  | some b =>
    rw [q] at e
    simp only [Option.bind_some] at e
    cases q2 : mapO f r with
    | none => rw [q2] at e; cases e
    | some cs =>
      rw [q2] at e
      simp only [Option.bind_some, Option.some.injEq] at e
      exact ⟨b, cs, rfl, rfl, e.symm⟩
theorem dpAll_of {n : Nat} (ih : ∀ {d : D} {v : V} {p : PyData}, toP S n d = some p → Rep K ρ H d v → Dp K H v p ∧ p.depth ≤ n) : ∀ {ds : List D} {vs : List V} {ps : List PyData}, mapO (toP S n) ds = some ps → RepL K ρ H ds vs →
    DpAll K H vs ps ∧ PyData.depthAll ps ≤ n
  | [], _, _, e, r => by
    cases r
    cases e
    exact ⟨.nil, Nat.zero_le _⟩
  | d :: ds, _, _, e, r => by
    obtain ⟨b, cs, h1, h2, rfl⟩ := mapO_cons e
    cases r with
    | cons r1 r2 =>
      obtain ⟨a1, a2⟩ := ih h1 r1
      obtain ⟨b1, b2⟩ := dpAll_of ih h2 r2
      exact ⟨.cons a1 b1, by simp only [PyData.depthAll]; omega⟩
theorem dp_of (s : RelS K cl ρ H S) : ∀ {n : Nat} {d : D} {v : V} {p : PyData}, toP S n d = some p → Rep K ρ H d v → Dp K H v p ∧ p.depth ≤ n
  | 0, d, _, _, e, _ => by cases d <;> cases e
  | n + 1, .non, _, _, e, r => by cases e; cases r; exact ⟨.non, by simp [PyData.depth]⟩
  | n + 1, .bl b, _, _, e, r => by cases e; cases r; exact ⟨.bl b, by simp [PyData.depth]⟩
  | n + 1, .int i, _, _, e, r => by cases e; cases r; exact ⟨.int i, by simp [PyData.depth]⟩
  | n + 1, .str l, _, _, e, r => by cases e; cases r; exact ⟨.str _, by simp [PyData.depth]⟩
  | n + 1, .tup xs, _, _, e, r => by
    simp only [toP] at e
    cases q : mapO (toP S n) xs with
    | none => rw [q] at e; cases e
    | some ps =>
      rw [q] at e
      simp only [Option.map_some, Option.some.injEq] at e
      subst e
      cases r with
      | tup h1 h2 =>
        obtain ⟨a, b⟩ := dpAll_of (fun e r => dp_of s e r) q h2
        exact ⟨.tup h1 a, by simp only [PyData.depth]; omega⟩
  | n + 1, .ref m, v, p, e, r => by
    have key : ∀ xs, lstOf S (.ref m) = some xs → (mapO (toP S n) xs).map PyData.list = some p → Dp K H v p ∧ p.depth ≤ n + 1 := fun xs hx e => by
      cases q : mapO (toP S n) xs with
      | none => rw [q] at e; cases e
      | some ps =>
        rw [q] at e
        simp only [Option.map_some, Option.some.injEq] at e
        subst e
        obtain ⟨a, vs, rfl, h2, h3⟩ := lstOf_rep s hx r
        obtain ⟨a, b⟩ := dpAll_of (fun e r => dp_of s e r) q h3
        exact ⟨.lst h2 a, by simp only [PyData.depth]; omega⟩
    simp only [toP] at e
    cases q : S[m]? with
    | none => rw [q] at e; cases e
    | some o =>
      rw [q] at e
      cases o with
      | lst xs => exact key xs (by simp [lstOf, q]) e
      | _ => cases e
  | n + 1, .fl xs, v, p, e, r => by
    simp only [toP] at e
    cases q : mapO (toP S n) xs with
    | none => rw [q] at e; cases e
    | some ps =>
      rw [q] at e
      simp only [Option.map_some, Option.some.injEq] at e
      subst e
      obtain ⟨a, vs, rfl, h2, h3⟩ := lstOf_rep s (xs := xs) rfl r
      obtain ⟨a, b⟩ := dpAll_of (fun e r => dp_of s e r) q h3
      exact ⟨.lst h2 a, by simp only [PyData.depth]; omega⟩
theorem shaped_of {p : PyData} {n : Nat} (h : p.canLay0 = true) (hd : p.depth ≤ n) (hn : n ≤ 64) : SeqAt.shaped p = true := by
  unfold SeqAt.shaped
  rw [h, Bool.true_and]
  exact decide_eq_true (by omega)
end

/-! ### two values -/
/-- an operator's meaning is served by the layer's reading -/
def Val2 (K : PySem.W.Frag) (cl : Cl) (f : D → D → Sto → R D) (r : R2) : Prop :=
  ∀ (ρ : List Addr) (H : Hp) (S : Sto) (x y : D) (v w : V) (Q : VK) (PX : Xc → List Addr → Hp → Sto → Prop), RelS K cl ρ H S → Rep K ρ H x v → Rep K ρ H y w →
    Aft K cl ρ H (f x y S) (fun ρ' H' _ d => ∀ v, Rep K ρ' H' d v → Q v H') PX → r v w H Q
theorem lift2 {K : PySem.W.Frag} {cl : Cl} {W : WX} {f : D → D → Sto → R D} {r : R2} (hv : Val2 K cl f r) {ma mb : En → Sto → R D} {σ : L2.St} {H : Hp} {Q : VK}
    (h : tE K cl W (fun en S => (ma en S).bind fun x S => (mb en S).bind fun y S => f x y S) σ H Q) : tOp r (tE K cl W ma) (tE K cl W mb) σ H Q := by
  obtain ⟨ρ, en, S, he, hs, h⟩ := h
  refine ⟨ρ, en, S, he, hs, h.bind.imp (fun ρ1 H1 S1 x e1 s1 h1 v rv => ?_) fun x ρ1 H1 S1 _ p => p⟩
  refine ⟨ρ1, en, S1, he.ext e1, s1, h1.bind.imp (fun ρ2 H2 S2 y e2 s2 h2 w rw => ?_) fun x ρ1 H1 S1 _ p => p⟩
  exact hv ρ2 H2 S2 x y v w Q _ s2 (rv.ext e2) rw h2

section
variable {X : Cx}
theorem OpR.or3 {f : Value → Value → Sem Value} {r r' r'' : R2} (h : OpR X f r) (h' : OpR X f r') (h'' : OpR X f r'') : OpR X f (fun x y H Q => r x y H Q ∨ r' x y H Q ∨ r'' x y H Q) := h.or (h'.or h'')

/-! ### operators -/
abbrev rStr2 : R2 := fun x y H Q => ∃ i j, x = .str i ∧ y = .str j ∧ i.length + j.length ≤ sizeLine ∧ Q (.str (i ++ j)) H
def rAddD (K : PySem.W.Frag) : R2 := fun x y H Q => (rI0 fun i j => .int (i + j)) x y H Q ∨ rStr2 x y H Q ∨ rCatA K x y H Q ∨ rCat x y H Q
theorem or_add : OpR X (binaryOp .Add) (rAddD X.K) := op_add.or (op_add_str.or (op_catA.or op_cat))
theorem aft_stuck {K : PySem.W.Frag} {cl : Cl} {α : Type} {ρ : List Addr} {H : Hp} {P : List Addr → Hp → Sto → α → Prop} {PX : Xc → List Addr → Hp → Sto → Prop} {C : Prop} (h : Aft K cl ρ H (.stuck : R α) P PX) : C := False.elim h
theorem sl_eq : (16777216 : Nat) = sizeLine := sizeLine_eq.symm
theorem str_len (l : List Nat) : (⟨l.toArray⟩ : Str).length = l.length := by simp [Str.length]
theorem v_add {K : PySem.W.Frag} {cl : Cl} : Val2 K cl (binop .add) (rAddD K) := by
  intro ρ H S x y v w Q PX s rx ry h
  cases x with
  | int i => cases y with
    | int j => cases rx; cases ry; exact .inl ⟨i, j, rfl, rfl, h.here s _ (.int _)⟩
    | _ => exact aft_stuck h
  | str l => cases y with
    | str m =>
      simp only [binop] at h
      split at h
      · rename_i hz
        cases rx; cases ry
        refine .inr (.inl ⟨_, _, rfl, rfl, by rw [str_len, str_len, ← sl_eq]; exact hz, ?_⟩)
        rw [SX.S_cat]
        exact h.here s _ (.str _)
      · exact aft_stuck h
    | _ => exact aft_stuck h
  | tup xs => cases y with
    | tup ys =>
      simp only [binop] at h
      split at h
      · rename_i hz
        cases rx with
        | @tup _ a vs h1 h2 =>
        cases ry with
        | @tup _ b ws h3 h4 =>
        have l1 := h2.length
        have l2 := h4.length
        refine .inr (.inr (.inl ⟨_, _, _, _, rfl, rfl, h1, h3, by rw [← sl_eq]; omega, fun e => ?_, fun _ e => ?_, fun _ _ p hp => ?_⟩))
        · subst e
          cases h2
          exact h.here s _ (by simpa using Rep.tup h3 h4)
        · subst e
          cases h4
          exact h.here s _ (by simpa using Rep.tup h1 h2)
        · obtain ⟨q, r⟩ := h.newT s (h2.append h4) p hp
          exact q _ r
      · exact aft_stuck h
    | _ => exact aft_stuck h
  | ref m => cases y with
    | ref n =>
      simp only [binop] at h
      split at h
      · rename_i xs ys e1 e2
        split at h
        · rename_i hz
          obtain ⟨a, vs, rfl, _, g1, r1⟩ := s.lst e1 rx
          obtain ⟨b, ws, rfl, _, g2, r2⟩ := s.lst e2 ry
          refine .inr (.inr (.inr ⟨_, _, _, _, rfl, rfl, g1, g2, by rw [← sl_eq, ← r1.length, ← r2.length]; exact hz, fun p hp => ?_⟩))
          obtain ⟨q, r⟩ := h.newL s (r1.append r2) p hp
          exact q _ r
        · exact aft_stuck h
      · exact aft_stuck h
    | _ => exact aft_stuck h
  | _ => exact aft_stuck h
theorem v_sub {K : PySem.W.Frag} {cl : Cl} : Val2 K cl (binop .sub) (rI0 fun i j => .int (i - j)) := by
  intro ρ H S x y v w Q PX s rx ry h
  cases x with
  | int i => cases y with
    | int j => cases rx; cases ry; exact ⟨i, j, rfl, rfl, h.here s _ (.int _)⟩
    | _ => exact aft_stuck h
  | _ => exact aft_stuck h
/-- products of less than a hundred million bits -/
def CMulX (i j : Int) : Prop := i.natAbs.log2 + j.natAbs.log2 < 100000000
theorem CMulX.ok {i j : Int} (h : CMulX i j) : IntMulOk i j := by
  have few (y : Int) : Builtin.Int.intBits y ≤ y.natAbs.log2 + 1 := by
    unfold Builtin.Int.intBits; split <;> omega
  have few1 := few i
  have few2 := few j
  unfold CMulX at h
  have line : bitsLine = 134217728 := by decide
  intro z
  have z2 := (Bool.and_eq_true_iff.mp z).2
  have z3 : ((Builtin.Int.intBits i : Int) + (Builtin.Int.intBits j : Int)) > bitsLine := by simpa [Builtin.Int.intTooBig] using z2
  rw [line] at z3
  omega
theorem op_mulX : OpR X (binaryOp .Mult) (rI CMulX fun i j => .int (i * j)) := opI fun _ _ _ _ _ _ _ hc q => mul_int q hc.ok
def rMulD : R2 := fun x y H Q => (rI CMulX fun i j => .int (i * j)) x y H Q ∨ rRep x y H Q
theorem or_mul : OpR X (binaryOp .Mult) rMulD := op_mulX.or op_rep
theorem v_mul {K : PySem.W.Frag} {cl : Cl} : Val2 K cl (binop .mul) rMulD := by
  intro ρ H S x y v w Q PX s rx ry h
  cases x with
  | int i => cases y with
    | int j =>
      simp only [binop] at h
      split at h
      · rename_i hz
        cases rx; cases ry; exact .inl ⟨i, j, rfl, rfl, hz, h.here s _ (.int _)⟩
      · exact aft_stuck h
    | _ => exact aft_stuck h
  | ref m => cases y with
    | int k =>
      simp only [binop] at h
      split at h
      · rename_i xs e1
        split at h
        · rename_i hz
          obtain ⟨a, vs, rfl, _, g1, r1⟩ := s.lst e1 rx
          cases ry
          refine .inr ⟨_, _, _, rfl, rfl, g1, hz.1, hz.2.1, by rw [← sl_eq, ← r1.length]; exact hz.2.2, fun p hp => ?_⟩
          obtain ⟨q, r⟩ := h.newL s (r1.flatten k.toNat) p hp
          exact q _ r
        · exact aft_stuck h
      · exact aft_stuck h
    | _ => exact aft_stuck h
  | _ => exact aft_stuck h
/-- great divisions have their frames -/
def PyRoom (X : Cx) : Prop := ∀ (pins : List (Addr × Obj)) (s : Shared) (σ : L2.St) (H : Hp), Inv X pins σ H s → PySem.PylongRoom (model X.prog X.w) X.A s
def CDivX (_ j : Int) : Prop := j ≠ 0
theorem or_fdiv (hp : PyRoom X) : OpR X (binaryOp .FloorDiv) (rI CDivX fun i j => .int (i.fdiv j)) := by
  intro pins s σ H x y v u Q I rx ry h
  obtain ⟨i, j, rfl, rfl, hc, q⟩ := h
  obtain ⟨t, rfl⟩ := rx
  obtain ⟨t', rfl⟩ := ry
  exact floordiv_int hc ⟨.int (i.fdiv j), H, I.tok _, ⟨_, rfl⟩, q⟩ (.inr (hp pins s σ H I))
theorem v_fdiv {K : PySem.W.Frag} {cl : Cl} : Val2 K cl (binop .fdiv) (rI CDivX fun i j => .int (i.fdiv j)) := by
  intro ρ H S x y v w Q PX s rx ry h
  cases x with
  | int i => cases y with
    | int j =>
      simp only [binop] at h
      split at h
      · rename_i hz
        cases rx; cases ry; exact ⟨i, j, rfl, rfl, hz, h.here s _ (.int _)⟩
      · exact aft_stuck h
    | _ => exact aft_stuck h
  | _ => exact aft_stuck h
theorem v_mod {K : PySem.W.Frag} {cl : Cl} : Val2 K cl (binop .mod) (rI (fun _ j => j ≠ 0) fun i j => .int (i.fmod j)) := by
  intro ρ H S x y v w Q PX s rx ry h
  cases x with
  | int i => cases y with
    | int j =>
      simp only [binop] at h
      split at h
      · rename_i hz
        cases rx; cases ry; exact ⟨i, j, rfl, rfl, hz, h.here s _ (.int _)⟩
      · exact aft_stuck h
    | _ => exact aft_stuck h
  | _ => exact aft_stuck h
theorem v_pow {K : PySem.W.Frag} {cl : Cl} : Val2 K cl (binop .pow) (rI CPow fun i j => .int (i ^ j.toNat)) := by
  intro ρ H S x y v w Q PX s rx ry h
  cases x with
  | int i => cases y with
    | int j =>
      simp only [binop] at h
      split at h
      · rename_i hz
        cases rx; cases ry; exact ⟨i, j, rfl, rfl, hz, h.here s _ (.int _)⟩
      · exact aft_stuck h
    | _ => exact aft_stuck h
  | _ => exact aft_stuck h
/-- the syntax's operators -/
def op2 : Op2 → Operator
  | .add => .Add | .sub => .Sub | .mul => .Mult | .fdiv => .FloorDiv | .mod => .Mod | .pow => .Pow
theorem or_bin {K : PySem.W.Frag} {cl : Cl} (hp : PyRoom X) (hK : X.K = K) : ∀ o : Op2, ∃ r, OpR X (binaryOp (op2 o)) r ∧ Val2 K cl (binop o) r
  | .add => ⟨_, or_add, hK ▸ v_add⟩
  | .sub => ⟨_, op_sub, v_sub⟩
  | .mul => ⟨_, or_mul, v_mul⟩
  | .fdiv => ⟨_, or_fdiv hp, v_fdiv⟩
  | .mod => ⟨_, op_modN, v_mod⟩
  | .pow => ⟨_, op_pow, v_pow⟩

/-! ### comparisons -/
def VCmp (K : PySem.W.Frag) (cl : Cl) (f : D → D → Sto → Option Bool) (r : R2) : Prop :=
  ∀ (ρ : List Addr) (H : Hp) (S : Sto) (x y : D) (v w : V) (Q : VK) (b : Bool), RelS K cl ρ H S → Rep K ρ H x v → Rep K ρ H y w → f x y S = some b → Q (.bl b) H → r v w H Q
theorem VCmp.val {K : PySem.W.Frag} {cl : Cl} {f : D → D → Sto → Option Bool} {r : R2} (h : VCmp K cl f r) : Val2 K cl (fun x y S => R.of ((f x y S).map .bl) S) r := by
  intro ρ H S x y v w Q PX s rx ry q
  obtain ⟨a, e, p⟩ := q.of s
  cases z : f x y S with
  | none => rw [z] at e; cases e
  | some b =>
    rw [z] at e
    cases e
    exact h ρ H S x y v w Q b s rx ry z (p _ (.bl b))
def rEqX (K : PySem.W.Frag) : R2 := fun x y H Q => (∃ i j, x = .str i ∧ y = .str j ∧ Q (.bl (decide (i = j))) H) ∨ rEqD K x y H Q
theorem or_eq (hu : X.A.units + 64 < cLine) : OpR X (compareOp .Eq) (rEqX X.K) := by
  intro pins s σ H x y v u Q I rx ry h
  rcases h with ⟨i, j, rfl, rfl, q⟩ | h
  · refine op_eq pins s σ H _ _ v u Q I rx ry ⟨rfl, ?_⟩
    have e : decide (V.str i = V.str j) = decide (i = j) := decide_eq_decide.mpr ⟨fun z => V.str.inj z, fun z => by rw [z]⟩
    rw [e]; exact q
  · exact op_eqD hu pins s σ H x y v u Q I rx ry h
theorem toArr_eq {l m : List Nat} : decide ((⟨l.toArray⟩ : Str) = ⟨m.toArray⟩) = decide (l = m) := decide_eq_decide.mpr ⟨fun z => by simpa using z, fun z => by rw [z]⟩
theorem eqD_str (S : Sto) (l m : List Nat) : eqD S (.str l) (.str m) = some (decide (l = m)) := rfl
theorem v_eq {K : PySem.W.Frag} {cl : Cl} : VCmp K cl (cmpop .eq) (rEqX K) := by
  intro ρ H S x y v w Q b s rx ry e q
  have gen : ((toP S 20 x).bind fun p => (toP S 20 y).bind fun q => if p.canLay0 = true ∧ q.canLay0 = true then some (PyData.eqv p q) else none) = some b → rEqX K v w H Q := fun e => by
    cases e1 : toP S 20 x with
    | none => rw [e1] at e; cases e
    | some p =>
      cases e2 : toP S 20 y with
      | none => rw [e1, e2] at e; cases e
      | some p2 =>
        rw [e1, e2] at e
        simp only [Option.bind_some] at e
        split at e
        · rename_i hz
          cases e
          obtain ⟨a1, a2⟩ := dp_of s e1 rx
          obtain ⟨b1, b2⟩ := dp_of s e2 ry
          exact .inr ⟨p, p2, a1, b1, shaped_of hz.1 a2 (by decide), shaped_of hz.2 b2 (by decide), q⟩
        · cases e
  cases x with
  | str l => cases y with
    | str m =>
      cases rx; cases ry
      have e' : some (decide (l = m)) = some b := e
      cases e'
      refine .inl ⟨_, _, rfl, rfl, ?_⟩
      rw [toArr_eq]; exact q
    | _ => exact gen e
  | _ => exact gen e
def rNeX (K : PySem.W.Frag) : R2 := fun x y H Q => (∃ i j, x = .str i ∧ y = .str j ∧ Q (.bl (!decide (i = j))) H) ∨ rNeD K x y H Q
theorem or_ne (hu : X.A.units + 64 < cLine) : OpR X (compareOp .NotEq) (rNeX X.K) := by
  intro pins s σ H x y v u Q I rx ry h
  rcases h with ⟨i, j, rfl, rfl, q⟩ | h
  · refine op_ne pins s σ H _ _ v u Q I rx ry ⟨rfl, ?_⟩
    have e : decide (V.str i = V.str j) = decide (i = j) := decide_eq_decide.mpr ⟨fun z => V.str.inj z, fun z => by rw [z]⟩
    rw [e]; exact q
  · exact op_neD hu pins s σ H x y v u Q I rx ry h
theorem v_ne {K : PySem.W.Frag} {cl : Cl} : VCmp K cl (cmpop .ne) (rNeX K) := by
  intro ρ H S x y v w Q b s rx ry e q
  cases e0 : eqD S x y with
  | none =>
    have : (eqD S x y).map (!·) = some b := e
    rw [e0] at this; cases this
  | some c =>
    have : (eqD S x y).map (!·) = some b := e
    rw [e0] at this; cases this
    have h := v_eq ρ H S x y v w (fun z _ => z = .bl c) c s rx ry e0 rfl
    rcases h with ⟨i, j, h1, h2, h3⟩ | ⟨p, p2, h1, h2, h3, h4, h5⟩
    · refine .inl ⟨i, j, h1, h2, ?_⟩
      rw [show decide (i = j) = c from V.bl.inj h3]
      exact q
    · refine .inr ⟨p, p2, h1, h2, h3, h4, ?_⟩
      rw [show PyData.eqv p p2 = c from V.bl.inj h5]
      exact q
theorem v_lt {K : PySem.W.Frag} {cl : Cl} : VCmp K cl (cmpop .lt) (rI0 fun i j => .bl (decide (i < j))) := by
  intro ρ H S x y v w Q b s rx ry e q
  cases x <;> cases y <;> first | (cases e; done) | (cases rx; cases ry; cases e; exact ⟨_, _, rfl, rfl, q⟩)
theorem v_le {K : PySem.W.Frag} {cl : Cl} : VCmp K cl (cmpop .le) (rI0 fun i j => .bl (decide (i ≤ j))) := by
  intro ρ H S x y v w Q b s rx ry e q
  cases x <;> cases y <;> first | (cases e; done) | (cases rx; cases ry; cases e; exact ⟨_, _, rfl, rfl, q⟩)
theorem v_gt {K : PySem.W.Frag} {cl : Cl} : VCmp K cl (cmpop .gt) (rI0 fun i j => .bl (decide (j < i))) := by
  intro ρ H S x y v w Q b s rx ry e q
  cases x <;> cases y <;> first | (cases e; done) | (cases rx; cases ry; cases e; exact ⟨_, _, rfl, rfl, q⟩)
theorem v_ge {K : PySem.W.Frag} {cl : Cl} : VCmp K cl (cmpop .ge) (rI0 fun i j => .bl (decide (j ≤ i))) := by
  intro ρ H S x y v w Q b s rx ry e q
  cases x <;> cases y <;> first | (cases e; done) | (cases rx; cases ry; cases e; exact ⟨_, _, rfl, rfl, q⟩)
/-- x in a tuple -/
def rInT (K : PySem.W.Frag) : R2 := fun x y H Q => ∃ d ds, Dp K H x d ∧ Dp K H y (.tuple ds) ∧ SeqAt.shaped d = true ∧ SeqAt.shaped (.tuple ds) = true ∧ Q (.bl (ds.any fun z => PyData.eqv z d)) H
def rNotInT (K : PySem.W.Frag) : R2 := fun x y H Q => ∃ d ds, Dp K H x d ∧ Dp K H y (.tuple ds) ∧ SeqAt.shaped d = true ∧ SeqAt.shaped (.tuple ds) = true ∧ Q (.bl (!ds.any fun z => PyData.eqv z d)) H
theorem op_inT (hu : X.A.units + 65 < cLine) : OpR X (compareOp .In) (rInT X.K) := by
  intro pins s σ H x y v u Q I rx ry h
  obtain ⟨d, ds, hd, he, sd, se, q⟩ := h
  obtain ⟨as, r1⟩ := Dp.reads I d x v hd rx
  obtain ⟨bs, r2⟩ := Dp.reads I (.tuple ds) y u he ry
  exact SeqAt.in_tuple_reads r2 r1 (SeqAt.canLay_of_shaped se) (SeqAt.canLay_of_shaped sd) (room_in_shaped sd hu) ⟨.bl _, H, I, rfl, q⟩
theorem op_notInT (hu : X.A.units + 65 < cLine) : OpR X (compareOp .NotIn) (rNotInT X.K) := by
  intro pins s σ H x y v u Q I rx ry h
  obtain ⟨d, ds, hd, he, sd, se, q⟩ := h
  obtain ⟨as, r1⟩ := Dp.reads I d x v hd rx
  obtain ⟨bs, r2⟩ := Dp.reads I (.tuple ds) y u he ry
  exact SeqAt.notIn_tuple_reads r2 r1 (SeqAt.canLay_of_shaped se) (SeqAt.canLay_of_shaped sd) (room_in_shaped sd hu) ⟨.bl _, H, I, rfl, q⟩
def rInS : R2 := fun x y H Q => ∃ i j, x = .str i ∧ y = .str j ∧ Q (.bl (!(Builtin.Str.occurrences j i 0 j.length 1).isEmpty)) H
def rNotInS : R2 := fun x y H Q => ∃ i j, x = .str i ∧ y = .str j ∧ Q (.bl (!(!(Builtin.Str.occurrences j i 0 j.length 1).isEmpty))) H
def rInX (K : PySem.W.Frag) : R2 := fun x y H Q => rInS x y H Q ∨ rInD K x y H Q ∨ rInT K x y H Q
def rNotInX (K : PySem.W.Frag) : R2 := fun x y H Q => rNotInS x y H Q ∨ rNotInD K x y H Q ∨ rNotInT K x y H Q
theorem or_in (hu : X.A.units + 65 < cLine) : OpR X (compareOp .In) (rInX X.K) := op_in_str.or ((op_inD hu).or (op_inT hu))
theorem or_notin (hu : X.A.units + 65 < cLine) : OpR X (compareOp .NotIn) (rNotInX X.K) := op_notin_str.or ((op_notInD hu).or (op_notInT hu))
theorem inD_spec {S : Sto} {x : D} {xs : List D} {b : Bool} (e : inD S x xs = some b) : ∃ p qs, toP S 20 x = some p ∧ mapO (toP S 19) xs = some qs ∧ p.canLay0 = true ∧ PyData.canLayAll0 qs = true ∧ b = qs.any fun z => PyData.eqv z p := by
  unfold inD at e
  cases e1 : toP S 20 x with
  | none => rw [e1] at e; cases e
  | some p =>
    cases e2 : mapO (toP S 19) xs with
    | none => rw [e1, e2] at e; cases e
    | some qs =>
      rw [e1, e2] at e
      simp only [Option.bind_some] at e
      split at e
      · rename_i hz
        cases e
        exact ⟨p, qs, rfl, rfl, hz.1, hz.2, rfl⟩
      · cases e
theorem v_in {K : PySem.W.Frag} {cl : Cl} : VCmp K cl (cmpop .isin) (rInX K) := by
  intro ρ H S x y v w Q b s rx ry e q
  have e' : memS S x y = some b := e
  have gen : (seqOf S y).bind (fun xs => inD S x xs) = some b → rInX K v w H Q := fun e' => by
    cases e0 : seqOf S y with
    | none => rw [e0] at e'; cases e'
    | some xs =>
      rw [e0] at e'
      obtain ⟨p, qs, h1, h2, h3, h4, rfl⟩ := inD_spec (show inD S x xs = some b from e')
      obtain ⟨a1, a2⟩ := dp_of s h1 rx
      rcases seqOf_cases e0 with z | z
      · subst z
        cases ry with
        | tup g1 g2 =>
          obtain ⟨b1, b2⟩ := dpAll_of (fun e r => dp_of s e r) h2 g2
          exact .inr (.inr ⟨p, qs, a1, .tup g1 b1, shaped_of h3 a2 (by decide), shaped_of (n := 20) h4 (by simp only [PyData.depth]; omega) (by decide), q⟩)
      · obtain ⟨a, vs, rfl, g1, g2⟩ := lstOf_rep s z ry
        obtain ⟨b1, b2⟩ := dpAll_of (fun e r => dp_of s e r) h2 g2
        exact .inr (.inl ⟨p, qs, a1, .lst g1 b1, shaped_of h3 a2 (by decide), shaped_of (n := 20) h4 (by simp only [PyData.depth]; omega) (by decide), q⟩)
  cases y with
  | str l =>
    cases x with
    | str m =>
      match m, rx, e' with
      | [c], rx, e' =>
        cases rx; cases ry
        have e2 : some (decide (c ∈ l)) = some b := e'
        cases e2
        refine .inl ⟨_, _, rfl, rfl, ?_⟩
        rw [SX.in_one l c]
        exact q
    | _ => cases e'
  | _ => exact gen e'
theorem v_notin {K : PySem.W.Frag} {cl : Cl} : VCmp K cl (cmpop .notin) (rNotInX K) := by
  intro ρ H S x y v w Q b s rx ry e q
  have e1 : (memS S x y).map (!·) = some b := e
  cases e0 : memS S x y with
  | none => rw [e0] at e1; cases e1
  | some c =>
    rw [e0] at e1
    cases e1
    have h := v_in ρ H S x y v w (fun z _ => z = .bl c) c s rx ry e0 rfl
    rcases h with ⟨i, j, h1, h2, h3⟩ | ⟨p, p2, h1, h2, h3, h4, h5⟩ | ⟨p, p2, h1, h2, h3, h4, h5⟩
    · exact .inl ⟨i, j, h1, h2, by rw [show (!(Builtin.Str.occurrences j i 0 j.length 1).isEmpty) = c from V.bl.inj h3]; exact q⟩
    · exact .inr (.inl ⟨p, p2, h1, h2, h3, h4, by rw [show (p2.any fun z => PyData.eqv z p) = c from V.bl.inj h5]; exact q⟩)
    · exact .inr (.inr ⟨p, p2, h1, h2, h3, h4, by rw [show (p2.any fun z => PyData.eqv z p) = c from V.bl.inj h5]; exact q⟩)
def rIsX : R2 := fun x y H Q => (y = .non ∧ Q (.bl (decide (x = .non))) H) ∨ rIsB x y H Q
def rNotX : R2 := fun x y H Q => (y = .non ∧ Q (.bl (!decide (x = .non))) H) ∨ rNotB x y H Q
theorem or_is : OpR X (compareOp .Is) rIsX := op_isN.or op_isBl
theorem or_isnot : OpR X (compareOp .IsNot) rNotX := op_notN.or op_notBl
def isNon : D → Bool
  | .non => true
  | _ => false
theorem rep_non {K : PySem.W.Frag} {ρ : List Addr} {H : Hp} {d : D} {v : V} (r : Rep K ρ H d v) : isNon d = decide (v = .non) := by
  cases r <;> simp [isNon]
theorem isD_non (d : D) : isD d .non = some (isNon d) := by cases d <;> rfl
theorem v_is {K : PySem.W.Frag} {cl : Cl} : VCmp K cl (cmpop .is) rIsX := by
  intro ρ H S x y v w Q b s rx ry e q
  have e' : isD x y = some b := e
  cases y with
  | non =>
    rw [isD_non, rep_non rx] at e'
    cases e'
    cases ry
    exact .inl ⟨rfl, q⟩
  | bl k => cases x <;> first | (cases e'; done) | (cases rx; cases ry; cases e'; exact .inr ⟨_, _, rfl, rfl, q⟩)
  | _ => cases e'
theorem v_isnot {K : PySem.W.Frag} {cl : Cl} : VCmp K cl (cmpop .isnot) rNotX := by
  intro ρ H S x y v w Q b s rx ry e q
  have e' : (isD x y).map (!·) = some b := e
  cases y with
  | non =>
    rw [isD_non, rep_non rx] at e'
    cases e'
    cases ry
    exact .inl ⟨rfl, q⟩
  | bl k => cases x <;> first | (cases e'; done) | (cases rx; cases ry; cases e'; exact .inr ⟨_, _, rfl, rfl, q⟩)
  | _ => cases e'
def cmO : Cm → CmpOp
  | .eq => .Eq | .ne => .NotEq | .lt => .Lt | .le => .LtE | .gt => .Gt | .ge => .GtE | .isin => .In | .notin => .NotIn | .is => .Is | .isnot => .IsNot
theorem or_cmp {K : PySem.W.Frag} {cl : Cl} (hK : X.K = K) (hu : X.A.units + 65 < cLine) : ∀ o : Cm, ∃ r, OpR X (compareOp (cmO o)) r ∧ VCmp K cl (cmpop o) r
  | .eq => ⟨_, or_eq (by omega), hK ▸ v_eq⟩
  | .ne => ⟨_, or_ne (by omega), hK ▸ v_ne⟩
  | .lt => ⟨_, op_lt, v_lt⟩
  | .le => ⟨_, op_le, v_le⟩
  | .gt => ⟨_, op_gt, v_gt⟩
  | .ge => ⟨_, op_ge, v_ge⟩
  | .isin => ⟨_, or_in hu, hK ▸ v_in⟩
  | .notin => ⟨_, or_notin hu, hK ▸ v_notin⟩
  | .is => ⟨_, or_is, v_is⟩
  | .isnot => ⟨_, or_isnot, v_isnot⟩

/-! ### places, slices -/
theorem atI_rep {K : PySem.W.Frag} {ρ : List Addr} {H : Hp} {ds : List D} {vs : List V} {i : Int} {d : D} (r : RepL K ρ H ds vs) (e : atI ds i = some d) : ∃ v, atI vs i = some v ∧ Rep K ρ H d v := by
  unfold atI at e ⊢
  rw [r.length] at e
  cases q : L2.ixN vs.length i with
  | none => rw [q] at e; cases e
  | some j =>
    rw [q] at e
    exact r.get (by simpa using e)
theorem v_ix {K : PySem.W.Frag} {cl : Cl} : Val2 K cl (fun x y S => R.of (ixD S x y) S) (rIx K) := by
  intro ρ H S x y v w Q PX s rx ry h
  obtain ⟨d, e, p⟩ := h.of s
  cases y with
  | int i =>
    cases ry
    have gen : ∀ x, ((seqOf S x).bind fun xs => atI xs i) = some d → Rep K ρ H x v → rIx K v (.int i) H Q := fun x e rx => by
      cases e0 : seqOf S x with
      | none => rw [e0] at e; cases e
      | some xs =>
        rw [e0] at e
        obtain ⟨a, vs, rfl, g, r⟩ := seqOf_rep s e0 rx
        obtain ⟨u, h1, h2⟩ := atI_rep r (show atI xs i = some d from e)
        rcases g with g | g
        · exact .inl ⟨a, vs, i, u, rfl, rfl, g, h1, p _ h2⟩
        · exact .inr (.inl ⟨a, vs, i, u, rfl, rfl, g, h1, p _ h2⟩)
    cases x with
    | str l =>
      cases rx
      have e' : (if l.length ≤ 16777216 then (atI l i).map (fun c => D.str [c]) else none) = some d := e
      split at e'
      · rename_i hz
        cases e0 : atI l i with
        | none => rw [e0] at e'; cases e'
        | some c =>
          rw [e0] at e'
          cases e'
          exact .inr (.inr ⟨_, i, c, rfl, rfl, by rw [str_len, ← sl_eq]; exact hz, e0, p _ (.str [c])⟩)
      · cases e'
    | _ =>
      refine gen _ ?_ rx
      exact e
  | _ => cases e
def VSl (K : PySem.W.Frag) (cl : Cl) (f : D → Option Int → Option Int → Sto → R D) (r : V → Option Int → Option Int → Hp → VK → Prop) : Prop :=
  ∀ (ρ : List Addr) (H : Hp) (S : Sto) (x : D) (v : V) (lo hi : Option Int) (Q : VK) (PX : Xc → List Addr → Hp → Sto → Prop), RelS K cl ρ H S → Rep K ρ H x v →
    Aft K cl ρ H (f x lo hi S) (fun ρ' H' _ d => ∀ v, Rep K ρ' H' d v → Q v H') PX → r v lo hi H Q
theorem SlR.or {r r' : V → Option Int → Option Int → Hp → VK → Prop} (h : SlR X r) (h' : SlR X r') : SlR X (fun x lo hi H Q => r x lo hi H Q ∨ r' x lo hi H Q) := by
  intro pins s σ H x v vl vu lo hi sl Q I rx hs pl pu q
  rcases q with q | q
  · exact h pins s σ H x v vl vu lo hi sl Q I rx hs pl pu q
  · exact h' pins s σ H x v vl vu lo hi sl Q I rx hs pl pu q
def rSlS : V → Option Int → Option Int → Hp → VK → Prop := fun x lo hi H Q => ∃ z, x = .str z ∧ z.length ≤ sizeLine ∧ Q (.str (cutS z lo hi)) H
theorem sl_s : SlR X rSlS := sl_str
def rSlX' (K : PySem.W.Frag) : V → Option Int → Option Int → Hp → VK → Prop := fun x lo hi H Q => rSlS x lo hi H Q ∨ rSlA K x lo hi H Q ∨ rSlL K x lo hi H Q
theorem sr_sl : SlR X (rSlX' X.K) := SlR.or sl_s (SlR.or sl_tupA sl_list)
theorem RepL.cut {K : PySem.W.Frag} {ρ : List Addr} {H : Hp} {ds : List D} {vs : List V} (r : RepL K ρ H ds vs) (lo hi : Option Int) : RepL K ρ H (cut ds lo hi) (cutV vs lo hi) := by
  unfold Ev.cut cutV
  rw [r.length]
  exact (r.drop _).take _
theorem v_sl {K : PySem.W.Frag} {cl : Cl} : VSl K cl slD (rSlX' K) := by
  intro ρ H S x v lo hi Q PX s rx h
  cases x with
  | str l =>
    simp only [slD] at h
    split at h
    · rename_i hz
      cases rx
      refine .inl ⟨_, rfl, by rw [str_len, ← sl_eq]; exact hz, ?_⟩
      have q := h.here s _ (.str _)
      have e : (⟨(cut l lo hi).toArray⟩ : Str) = cutS ⟨l.toArray⟩ lo hi := by
        unfold cutS cut
        rw [str_len]
      rw [e] at q
      exact q
    · exact aft_stuck h
  | tup xs =>
    cases rx with
    | @tup _ a vs h1 h2 =>
    refine .inr (.inl ⟨a, vs, rfl, h1, fun e => ?_, fun _ p hp => ?_⟩)
    · have hc : cut xs lo hi = xs := by
        unfold cut
        rw [h2.length, e.1, e.2, ← h2.length]
        simp
      have q := h.here s _ (Rep.tup h1 (hc.symm ▸ h2))
      exact q
    · obtain ⟨q, r⟩ := Aft.newT (xs := cut xs lo hi) h s (h2.cut lo hi) p hp
      exact q _ r
  | _ =>
    simp only [slD] at h
    split at h
    · rename_i xs e0
      obtain ⟨a, vs, rfl, g1, g2⟩ := lstOf_rep s e0 rx
      refine .inr (.inr ⟨a, vs, rfl, g1, fun p hp => ?_⟩)
      obtain ⟨q, r⟩ := h.newL s (g2.cut lo hi) p hp
      exact q _ r
    · exact aft_stuck h
end
end Ev
end
section
set_option Elab.async false
set_option linter.all false
set_option maxRecDepth 100000
set_option maxHeartbeats 4000000
set_option autoImplicit false
/-! Ev5: built-ins and methods keep their meaning. -/
namespace Ev
open PySem PySem.Spec PyProof.Rows L2

def ValL (K : PySem.W.Frag) (cl : Cl) (f : List D → Sto → R D) (r : List V → Hp → VK → Prop) : Prop :=
  ∀ (ρ : List Addr) (H : Hp) (S : Sto) (xs : List D) (vs : List V) (Q : VK) (PX : Xc → List Addr → Hp → Sto → Prop), RelS K cl ρ H S → RepL K ρ H xs vs →
    Aft K cl ρ H (f xs S) (fun ρ' H' _ d => ∀ v, Rep K ρ' H' d v → Q v H') PX → r vs H Q

section
variable {X : Cx}
theorem CallR.or {f : Value} {r r' : List V → Hp → VK → Prop} (h : CallR X f r) (h' : CallR X f r') : CallR X f (fun xs H Q => r xs H Q ∨ r' xs H Q) := by
  intro pins s σ H xs us Q I r q
  rcases q with q | q
  · exact h pins s σ H xs us Q I r q
  · exact h' pins s σ H xs us Q I r q
section
variable {K : PySem.W.Frag} {ρ : List Addr} {H : Hp}
theorem repL1 {d : D} {vs : List V} (r : RepL K ρ H [d] vs) : ∃ v, vs = [v] ∧ Rep K ρ H d v := by
  cases r with
  | cons a b => cases b; exact ⟨_, rfl, a⟩
theorem repL2 {d e : D} {vs : List V} (r : RepL K ρ H [d, e] vs) : ∃ v w, vs = [v, w] ∧ Rep K ρ H d v ∧ Rep K ρ H e w := by
  cases r with
  | cons a b =>
    obtain ⟨w, rfl, c⟩ := repL1 b
    exact ⟨_, w, rfl, a, c⟩
theorem repL3 {d e f : D} {vs : List V} (r : RepL K ρ H [d, e, f] vs) : ∃ v w u, vs = [v, w, u] ∧ Rep K ρ H d v ∧ Rep K ρ H e w ∧ Rep K ρ H f u := by
  cases r with
  | cons a b =>
    obtain ⟨w, u, rfl, c, g⟩ := repL2 b
    exact ⟨_, w, u, rfl, a, c, g⟩
end
variable {K : PySem.W.Frag} {cl : Cl}

/-! ### len -/
theorem v_len : ValL K cl (bi .len) (fun xs H Q => (∃ z, xs = [.str z] ∧ z.length ≤ sizeLine ∧ Q (.int z.length) H) ∨ ∃ p ys, xs = [.ref p] ∧ (SqL K H p ys ∨ SqT K H p ys) ∧ Q (.int ys.length) H) := by
  intro ρ H S xs vs Q PX s r h
  unfold bi at h; split at h <;> first | exact aft_stuck h | contradiction | skip
  · obtain ⟨v, rfl, rv⟩ := repL1 r
    split at h
    · rename_i hz
      cases rv
      exact .inl ⟨_, rfl, by rw [str_len, ← sl_eq]; exact hz, by rw [str_len]; exact h.here s _ (.int _)⟩
    · exact aft_stuck h
  · rename_i a _ _
    obtain ⟨v, rfl, rv⟩ := repL1 r
    obtain ⟨d, e, q⟩ := h.of s
    cases e0 : seqOf S a with
    | none => rw [e0] at e; cases e
    | some xs =>
      rw [e0] at e
      cases e
      obtain ⟨p, ys, rfl, g, rr⟩ := seqOf_rep s e0 rv
      exact .inr ⟨p, ys, rfl, g, by rw [← rr.length]; exact q _ (.int _)⟩
/-! ### numbers -/
theorem v_abs : ValL K cl (bi .abs) (fun xs H Q => ∃ i, xs = [.int i] ∧ Q (.int (if i < 0 then -i else i)) H) := by
  intro ρ H S xs vs Q PX s r h
  unfold bi at h; split at h <;> first | exact aft_stuck h | contradiction | skip
  obtain ⟨v, rfl, rv⟩ := repL1 r
  cases rv
  exact ⟨_, rfl, h.here s _ (.int _)⟩
theorem v_int : ValL K cl (bi .int) (fun xs H Q => ((∃ i, xs = [.int i] ∧ Q (.int i) H) ∨ ∃ k, xs = [.bl k] ∧ Q (.int (if k then 1 else 0)) H) ∨ ∃ a n, xs = [.str a] ∧ PySem.intText? a = some n ∧ a.length ≤ 640 ∧ Q (.int n) H) := by
  intro ρ H S xs vs Q PX s r h
  unfold bi at h; split at h <;> first | exact aft_stuck h | contradiction | skip
  · obtain ⟨v, rfl, rv⟩ := repL1 r
    cases rv
    exact .inl (.inl ⟨_, rfl, h.here s _ (.int _)⟩)
  · rename_i l _
    obtain ⟨v, rfl, rv⟩ := repL1 r
    cases rv
    split at h
    · rename_i hz
      obtain ⟨d, e, q⟩ := h.of s
      cases e0 : PySem.intText? ⟨l.toArray⟩ with
      | none => rw [e0] at e; cases e
      | some n =>
        rw [e0] at e
        cases e
        exact .inr ⟨_, n, rfl, e0, by rw [str_len]; exact hz, q _ (.int _)⟩
    · exact aft_stuck h
theorem v_str : ValL K cl (bi .str) (fun xs H Q => ∃ i, xs = [.int i] ∧ i.natAbs.log2 < 1920 ∧ Q (.str (toString i)) H) := by
  intro ρ H S xs vs Q PX s r h
  unfold bi at h; split at h <;> first | exact aft_stuck h | contradiction | skip
  rename_i i _
  obtain ⟨v, rfl, rv⟩ := repL1 r
  cases rv
  split at h
  · rename_i hz
    refine ⟨i, rfl, hz, ?_⟩
    have q := h.here s _ (.str _)
    have e : (⟨(Str.ofString (toString i)).cps.toList.toArray⟩ : Str) = Str.ofString (toString i) := TL.mk_tl _
    rw [e] at q
    exact q
  · exact aft_stuck h
theorem call_max3 (hc : X.calm = true) : CallR X (.builtin "max") (fun xs H Q => ∃ i j k, xs = [.int i, .int j, .int k] ∧ Q (.int (maxI i [j, k])) H) := by
  intro pins s σ H xs us Q I r h
  obtain ⟨i, j, k, rfl, q⟩ := h
  cases r with
  | cons r1 r =>
    obtain ⟨u, w', rfl, ⟨t2, rfl⟩, ⟨t3, rfl⟩⟩ := vals2 r
    obtain ⟨t1, rfl⟩ := r1
    refine max_three_ints (I.ok.hd hc) fun h' tk kp => ⟨_, H, I.kept kp, ?_, q⟩
    simp only [maxI]
    by_cases h1 : j > i <;> by_cases h2 : k > j <;> by_cases h3 : k > i <;> simp only [h1, h2, h3, if_true, if_false] <;> exact ⟨_, rfl⟩
theorem v_max : ValL K cl (bi .max) (fun xs H Q => (∃ i j, xs = [.int i, .int j] ∧ Q (.int (if j > i then j else i)) H) ∨ ∃ i j k, xs = [.int i, .int j, .int k] ∧ Q (.int (maxI i [j, k])) H) := by
  intro ρ H S xs vs Q PX s r h
  unfold bi at h; split at h <;> first | exact aft_stuck h | contradiction | skip
  · obtain ⟨v, w, rfl, rv, rw⟩ := repL2 r
    cases rv; cases rw
    exact .inl ⟨_, _, rfl, h.here s _ (.int _)⟩
  · obtain ⟨v, w, u, rfl, rv, rw, ru⟩ := repL3 r
    cases rv; cases rw; cases ru
    exact .inr ⟨_, _, _, rfl, h.here s _ (.int _)⟩
theorem v_min : ValL K cl (bi .min) (fun xs H Q => ∃ i j, xs = [.int i, .int j] ∧ Q (.int (if j < i then j else i)) H) := by
  intro ρ H S xs vs Q PX s r h
  unfold bi at h; split at h <;> first | exact aft_stuck h | contradiction | skip
  obtain ⟨v, w, rfl, rv, rw⟩ := repL2 r
  cases rv; cases rw
  exact ⟨_, _, rfl, h.here s _ (.int _)⟩
theorem v_divmod : ValL K cl (bi .divmod) (fun xs H Q => ∃ i j, xs = [.int i, .int j] ∧ CDiv i j ∧ ∀ p, H p = none → Q (.ref p) (upd H p (.tup [.int (i / j), .int (i % j)]))) := by
  intro ρ H S xs vs Q PX s r h
  unfold bi at h; split at h <;> first | exact aft_stuck h | contradiction | skip
  obtain ⟨v, w, rfl, rv, rw⟩ := repL2 r
  cases rv; cases rw
  split at h
  · rename_i hz
    refine ⟨_, _, rfl, hz, fun p hp => ?_⟩
    obtain ⟨q, r⟩ := h.newT s (.cons (.int _) (.cons (.int _) .nil)) p hp
    exact q _ r
  · exact aft_stuck h
theorem v_gcd : ValL K cl (bi .gcd) rGcd := by
  intro ρ H S xs vs Q PX s r h
  unfold bi at h; split at h <;> first | exact aft_stuck h | contradiction | skip
  obtain ⟨v, w, rfl, rv, rw⟩ := repL2 r
  cases rv; cases rw
  exact ⟨_, _, rfl, h.here s _ (.int _)⟩
/-! ### tuple, list -/
theorem v_tuple : ValL K cl (bi .tuple) (fun xs H Q => ∃ p ys, xs = [.ref p] ∧ ((SqL K H p ys ∧ ∀ l, H l = none → Q (.ref l) (upd H l (.tup ys))) ∨ (SqT K H p ys ∧ Q (.ref p) H))) := by
  intro ρ H S xs vs Q PX s r h
  unfold bi at h; split at h <;> first | exact aft_stuck h | contradiction | skip
  · obtain ⟨v, rfl, rv⟩ := repL1 r
    cases rv with
    | tup h1 h2 => exact ⟨_, _, rfl, .inr ⟨h1, h.here s _ (.tup h1 h2)⟩⟩
  · rename_i a _ _
    obtain ⟨v, rfl, rv⟩ := repL1 r
    obtain ⟨d, e, _⟩ := h.of s
    cases e0 : lstOf S a with
    | none => rw [e0] at e; cases e
    | some xs =>
      rw [e0] at h
      obtain ⟨a, vs, rfl, h2, h3⟩ := lstOf_rep s e0 rv
      refine ⟨a, vs, rfl, .inl ⟨h2, fun p hp => ?_⟩⟩
      obtain ⟨q, r⟩ := Aft.newT (xs := xs) h s h3 p hp
      exact q _ r
theorem v_list : ValL K cl (bi .list) (fun xs H Q => ∃ p ys, xs = [.ref p] ∧ (SqL K H p ys ∨ SqT K H p ys) ∧ ∀ l, H l = none → Q (.ref l) (upd H l (.lst ys))) := by
  intro ρ H S xs vs Q PX s r h
  unfold bi at h; split at h <;> first | exact aft_stuck h | contradiction | skip
  obtain ⟨v, rfl, rv⟩ := repL1 r
  split at h
  · rename_i e0
    obtain ⟨a, vs, rfl, h2, h3⟩ := seqOf_rep s e0 rv
    refine ⟨a, vs, rfl, h2, fun p hp => ?_⟩
    obtain ⟨q, r⟩ := h.newL s h3 p hp
    exact q _ r
  · exact aft_stuck h
/-! ### sums -/
section
variable {ρ : List Addr} {H : Hp}
theorem ints_rep : ∀ {xs : List D} {vs : List V} {is : List Int}, RepL K ρ H xs vs → intsOf xs = some is → vs = is.map V.int
  | [], _, _, r, e => by cases r; cases e; rfl
  | d :: ds, _, _, r, e => by
    cases r with
    | cons r1 r2 =>
      cases d with
      | int i =>
        simp only [intsOf] at e
        cases q : intsOf ds with
        | none => rw [q] at e; cases e
        | some is =>
          rw [q] at e
          cases e
          cases r1
          rw [ints_rep r2 q]
          rfl
      | _ => cases e
theorem bls_rep : ∀ {xs : List D} {vs : List V} {is : List Bool}, RepL K ρ H xs vs → blsOf xs = some is → vs = is.map V.bl
  | [], _, _, r, e => by cases r; cases e; rfl
  | d :: ds, _, _, r, e => by
    cases r with
    | cons r1 r2 =>
      cases d with
      | bl i =>
        simp only [blsOf] at e
        cases q : blsOf ds with
        | none => rw [q] at e; cases e
        | some is =>
          rw [q] at e
          cases e
          cases r1
          rw [bls_rep r2 q]
          rfl
      | _ => cases e
theorem strs_rep : ∀ {xs : List D} {vs : List V} {is : List (List Nat)}, RepL K ρ H xs vs → strsOf xs = some is → vs = (is.map SX.S).map V.str
  | [], _, _, r, e => by cases r; cases e; rfl
  | d :: ds, _, _, r, e => by
    cases r with
    | cons r1 r2 =>
      cases d with
      | str i =>
        simp only [strsOf] at e
        cases q : strsOf ds with
        | none => rw [q] at e; cases e
        | some is =>
          rw [q] at e
          cases e
          cases r1
          rw [strs_rep r2 q]
          rfl
      | _ => cases e
theorem RepL.strs : ∀ (ls : List (List Nat)), RepL K ρ H (ls.map D.str) ((ls.map SX.S).map V.str)
  | [] => .nil
  | l :: ls => .cons (.str l) (RepL.strs ls)
end
theorem v_sum : ValL K cl (bi .sum) (rSum K) := by
  intro ρ H S xs vs Q PX s r h
  unfold bi at h; split at h <;> first | exact aft_stuck h | contradiction | skip
  rename_i a _
  obtain ⟨v, rfl, rv⟩ := repL1 r
  obtain ⟨d, e, q⟩ := h.of s
  cases e0 : lstOf S a with
  | none => rw [e0] at e; cases e
  | some xs =>
    cases e1 : intsOf xs with
    | none =>
      rw [e0] at e
      simp only [Option.bind_some] at e
      rw [e1] at e; cases e
    | some is =>
      rw [e0] at e
      simp only [Option.bind_some] at e
      rw [e1] at e
      cases e
      obtain ⟨p, ws, rfl, h2, h3⟩ := lstOf_rep s e0 rv
      rw [ints_rep h3 e1] at h2
      exact ⟨p, is, rfl, h2, q _ (.int _)⟩
theorem v_all : ValL K cl (bi .all) (rAll K) := by
  intro ρ H S xs vs Q PX s r h
  unfold bi at h; split at h <;> first | exact aft_stuck h | contradiction | skip
  rename_i a _
  obtain ⟨v, rfl, rv⟩ := repL1 r
  obtain ⟨d, e, q⟩ := h.of s
  cases e0 : lstOf S a with
  | none => rw [e0] at e; cases e
  | some xs =>
    cases e1 : blsOf xs with
    | none =>
      rw [e0] at e
      simp only [Option.bind_some] at e
      rw [e1] at e; cases e
    | some is =>
      rw [e0] at e
      simp only [Option.bind_some] at e
      rw [e1] at e
      cases e
      obtain ⟨p, ws, rfl, h2, h3⟩ := lstOf_rep s e0 rv
      rw [bls_rep h3 e1] at h2
      exact ⟨p, is, rfl, h2, q _ (.bl _)⟩
theorem v_any : ValL K cl (bi .any) (rAny K) := by
  intro ρ H S xs vs Q PX s r h
  unfold bi at h; split at h <;> first | exact aft_stuck h | contradiction | skip
  rename_i a _
  obtain ⟨v, rfl, rv⟩ := repL1 r
  obtain ⟨d, e, q⟩ := h.of s
  cases e0 : lstOf S a with
  | none => rw [e0] at e; cases e
  | some xs =>
    cases e1 : blsOf xs with
    | none =>
      rw [e0] at e
      simp only [Option.bind_some] at e
      rw [e1] at e; cases e
    | some is =>
      rw [e0] at e
      simp only [Option.bind_some] at e
      rw [e1] at e
      cases e
      obtain ⟨p, ws, rfl, h2, h3⟩ := lstOf_rep s e0 rv
      rw [bls_rep h3 e1] at h2
      exact ⟨p, is, rfl, h2, q _ (.bl _)⟩
/-! ### repr -/
theorem noDict_all {S : Sto} {n : Nat} (ih : ∀ (d : D) (p : PyData), toP S n d = some p → p.hasDict = false) : ∀ (ds : List D) (ps : List PyData), mapO (toP S n) ds = some ps → PyData.hasDictAll ps = false
  | [], _, e => by cases e; rfl
  | d :: ds, _, e => by
    obtain ⟨b, cs, h1, h2, rfl⟩ := mapO_cons e
    simp only [PyData.hasDictAll, ih d b h1, noDict_all ih ds cs h2, Bool.or_self]
theorem noDict_toP (S : Sto) : ∀ (n : Nat) (d : D) (p : PyData), toP S n d = some p → p.hasDict = false
  | 0, d, _, e => by cases d <;> cases e
  | n + 1, .non, _, e => by cases e; rfl
  | n + 1, .bl b, _, e => by cases e; rfl
  | n + 1, .int i, _, e => by cases e; rfl
  | n + 1, .str l, _, e => by cases e; rfl
  | n + 1, .tup xs, _, e => by
    simp only [toP] at e
    cases q : mapO (toP S n) xs with
    | none => rw [q] at e; cases e
    | some ps =>
      rw [q] at e
      cases e
      exact noDict_all (noDict_toP S n) xs ps q
  | n + 1, .ref m, p, e => by
    have key : ∀ xs, (mapO (toP S n) xs).map PyData.list = some p → p.hasDict = false := fun xs e => by
      cases q : mapO (toP S n) xs with
      | none => rw [q] at e; cases e
      | some ps =>
        rw [q] at e
        cases e
        exact noDict_all (noDict_toP S n) xs ps q
    simp only [toP] at e
    cases q : S[m]? with
    | none => rw [q] at e; cases e
    | some o =>
      rw [q] at e
      cases o with
      | lst xs => exact key xs e
      | _ => cases e
  | n + 1, .fl xs, p, e => by
    simp only [toP] at e
    cases q : mapO (toP S n) xs with
    | none => rw [q] at e; cases e
    | some ps =>
      rw [q] at e
      cases e
      exact noDict_all (noDict_toP S n) xs ps q
def rRepr (K : PySem.W.Frag) : List V → Hp → VK → Prop := fun vs H Q => ∃ x p, vs = [x] ∧ Dp K H x p ∧ p.showable = true ∧ p.hasDict = false ∧ p.depth ≤ 20 ∧ p.shown.length ≤ sizeLine ∧ Q (.str p.shown) H
theorem call_repr (hg : X.A.guards = some []) (hu : X.A.units + 64 < cLine) : CallR X (.builtin "repr") (rRepr X.K) := by
  intro pins s σ H xs us Q I r h
  obtain ⟨x, p, rfl, hd, hs, hn, hdp, hz, q⟩ := h
  obtain ⟨u, rfl, ru⟩ := vals1 r
  obtain ⟨as, hr⟩ := Dp.reads I p x u hd ru
  cases x with
  | ref a =>
    cases ru
    exact repr_of_reads' hr hs (PyData.noDict_hsm hn) hg (by omega) (fun _ _ e => e) (fun h' t tk hk => ⟨.str _, H, I.kept hk, ⟨t, rfl⟩, q⟩) hz
  | non => cases hd; cases ru; exact PySem.P.repr_of_none ⟨.str _, H, I.tok _, ⟨_, rfl⟩, q⟩
  | bl b => cases hd; cases ru; exact PySem.P.repr_of_bool ⟨.str _, H, I.tok _, ⟨_, rfl⟩, q⟩
  | int i =>
    cases hd
    obtain ⟨t, rfl⟩ := ru
    exact PySem.P.repr_of_int (of_decide_eq_true hs) ⟨.str _, H, I.tok _, ⟨_, rfl⟩, q⟩
  | str z =>
    cases hd
    obtain ⟨t, rfl⟩ := ru
    exact PySem.P.repr_of_str ⟨.str _, H, I.tok _, ⟨_, rfl⟩, q⟩ hz
  | _ => cases hd
theorem v_repr : ValL K cl (bi .repr) (rRepr K) := by
  intro ρ H S xs vs Q PX s r h
  unfold bi at h; split at h <;> first | exact aft_stuck h | contradiction | skip
  rename_i a _
  obtain ⟨v, rfl, rv⟩ := repL1 r
  obtain ⟨d, e, q⟩ := h.of s
  unfold reprD at e
  cases e0 : toP S 20 a with
  | none => rw [e0] at e; cases e
  | some p =>
    rw [e0] at e
    simp only [Option.bind_some] at e
    split at e
    · rename_i hz
      cases e
      obtain ⟨a1, a2⟩ := dp_of s e0 rv
      refine ⟨v, p, rfl, a1, hz.1, noDict_toP S 20 a p e0, a2, by rw [← sl_eq]; exact hz.2, ?_⟩
      have q2 := q _ (.str _)
      have e : (⟨p.shown.cps.toList.toArray⟩ : Str) = p.shown := TL.mk_tl _
      rw [e] at q2
      exact q2
    · cases e
/-! ### isinstance -/
def tyN : Ty → String
  | .int => "int" | .bool => "bool" | .str => "str" | .tuple => "tuple" | .list => "list"
theorem v_isin (t : Ty) : ∀ (ρ : List Addr) (H : Hp) (S : Sto) (x : D) (v : V) (b : Bool), RelS K cl ρ H S → Rep K ρ H x v → isTy t x S = some b → ∃ T, TyX K H v T ∧ PySem.W.kitOne K T (.type (tyN t)) = some b := by
  intro ρ H S x v b s r e
  cases x with
  | non => cases r; cases e; exact ⟨_, .base .non, kit_ty (by cases t <;> decide +kernel)⟩
  | bl k => cases r; cases e; exact ⟨_, .base (.bl k), kit_ty (by cases t <;> decide +kernel)⟩
  | int k => cases r; cases e; exact ⟨_, .base (.int k), kit_ty (by cases t <;> decide +kernel)⟩
  | str k => cases r; cases e; exact ⟨_, .base (.str _), kit_ty (by cases t <;> decide +kernel)⟩
  | tup xs =>
    cases r with
    | tup h1 h2 =>
      cases e
      refine ⟨.type "tuple", ?_, kit_ty (by cases t <;> decide +kernel)⟩
      rcases h1 with (h1 | ⟨o, h1⟩) | ⟨o, its, n, h1, h2, _⟩
      · exact .base (.tup h1)
      · exact .fTuple h1
      · exact .kTuple h1 h2
  | ref n =>
    unfold isTy at e
    cases q : S[n]? with
    | none => simp [q] at e
    | some o =>
      cases o with
      | lst xs =>
        simp [q] at e
        obtain ⟨a, vs, rfl, h2, h3⟩ := lstOf_rep (xs := xs) s (by simp [lstOf, q]) r
        subst e
        refine ⟨.type "list", ?_, kit_ty (by cases t <;> decide +kernel)⟩
        rcases h2 with (h2 | ⟨o, h2⟩) | ⟨o, its, n, h2, h4, _⟩
        · exact .base (.lst h2)
        · exact .base (.frz h2)
        · exact .kList h2 h4
      | _ => simp [q] at e
  | fl xs =>
    cases e
    cases r with
    | fl h2 h3 =>
      refine ⟨.type "list", ?_, kit_ty (by cases t <;> decide +kernel)⟩
      rcases h2 with ⟨o, h2⟩ | ⟨o, its, n, h2, h4, _⟩
      · exact .base (.frz h2)
      · exact .kList h2 h4
/-! ### the built-ins in one -/
def biN : Bi → String
  | .len => "len" | .abs => "abs" | .int => "int" | .str => "str" | .isin _ => "isinstance" | .tuple => "tuple" | .list => "list" | .max => "max" | .min => "min" | .divmod => "divmod" | .gcd => "gcd" | .sum => "sum" | .all => "all" | .any => "any" | .repr => "repr"
/-- a plain built-in: a function, or a type -/
inductive BiV where
  | fn (id : String) | ty (T : String)
def BiV.v : BiV → Value
  | .fn id => .builtin id
  | .ty T => .type T
def biV : Bi → BiV
  | .len => .fn "len" | .abs => .fn "abs" | .int => .ty "int" | .str => .ty "str" | .isin _ => .fn "isinstance" | .tuple => .ty "tuple" | .list => .ty "list" | .max => .fn "max" | .min => .fn "min" | .divmod => .fn "divmod" | .gcd => .fn "math.gcd" | .sum => .fn "sum" | .all => .fn "all" | .any => .fn "any" | .repr => .fn "repr"
def isIsin : Bi → Bool
  | .isin _ => true
  | _ => false
theorem or_bi (hK : X.K = K) (hc : X.calm = true) (hg : X.A.guards = some []) (hu : X.A.units + 64 < cLine) : ∀ b : Bi, isIsin b = false → ∃ r, CallR X (biV b).v r ∧ ValL K cl (bi b) r
  | .len, _ => ⟨_, CallR.or call_len_str call_len_seq, hK ▸ v_len⟩
  | .abs, _ => ⟨_, call_abs, v_abs⟩
  | .int, _ => ⟨_, CallR.or call_int1 call_int_str, v_int⟩
  | .str, _ => ⟨_, call_str_int, v_str⟩
  | .isin _, h => nomatch h
  | .tuple, _ => ⟨_, call_tuple_of, hK ▸ v_tuple⟩
  | .list, _ => ⟨_, call_list_of, hK ▸ v_list⟩
  | .max, _ => ⟨_, CallR.or (call_max2 hc) (call_max3 hc), v_max⟩
  | .min, _ => ⟨_, call_min2 hc, v_min⟩
  | .divmod, _ => ⟨_, call_divmod, v_divmod⟩
  | .gcd, _ => ⟨_, cr_gcd, v_gcd⟩
  | .sum, _ => ⟨_, cr_sum hc, hK ▸ v_sum⟩
  | .all, _ => ⟨_, cr_all hc, hK ▸ v_all⟩
  | .any, _ => ⟨_, cr_any hc, hK ▸ v_any⟩
  | .repr, _ => ⟨_, call_repr hg hu, hK ▸ v_repr⟩
/-! ### methods -/
def mtN : Mt → String
  | .append => "append" | .pop => "pop" | .join => "join" | .split => "split" | .rfind => "rfind" | .find => "find"
def mtT : Mt → String
  | .append => "list" | .pop => "list" | _ => "str"
def ValM (K : PySem.W.Frag) (cl : Cl) (f : D → List D → Sto → R D) (r : V → List V → Hp → VK → Prop) : Prop :=
  ∀ (ρ : List Addr) (H : Hp) (S : Sto) (x : D) (v : V) (xs : List D) (vs : List V) (Q : VK) (PX : Xc → List Addr → Hp → Sto → Prop), RelS K cl ρ H S → Rep K ρ H x v → RepL K ρ H xs vs →
    Aft K cl ρ H (f x xs S) (fun ρ' H' _ d => ∀ v, Rep K ρ' H' d v → Q v H') PX → r v vs H Q
theorem v_mtTy {ρ : List Addr} {H : Hp} {S : Sto} {x : D} {v : V} (m : Mt) (s : RelS K cl ρ H S) (r : Rep K ρ H x v) (h : mtTy m x S = true) : tyV K (mtT m) v H := by
  have ls : (lstOf S x).isSome = true → tyV K "list" v H := fun h => by
    obtain ⟨xs, e⟩ := Option.isSome_iff_exists.mp h
    obtain ⟨p, ws, rfl, h2, _⟩ := lstOf_rep s e r
    exact .inl ⟨rfl, ws, h2⟩
  have st : mtTy .join x S = true → tyV K "str" v H := fun h => by
    cases x with
    | str l => cases r; rfl
    | _ => cases h
  cases m with
  | append => exact ls h
  | pop => exact ls h
  | join => exact st h
  | split => exact st h
  | rfind => exact st h
  | find => exact st h
theorem v_append : ValM K cl (mt .append) rAppend := by
  intro ρ H S x v xs vs Q PX s rx r h
  unfold mt at h; split at h <;> first | exact aft_stuck h | contradiction | skip
  split at h
  · rename_i n y _ _ ys e1
    split at h
    · rename_i hz
      obtain ⟨a, ws, rfl, g0, g1, g2⟩ := s.lst e1 rx
      obtain ⟨w, rfl, ry⟩ := repL1 r
      have hw := s.write (o' := .lst (ys ++ [y])) (u := .lst (ws ++ [w])) g0 e1 (by rw [g1]; trivial) fun x => ⟨_, upd_same, (g2.append (.cons ry .nil)).ext x⟩
      refine ⟨a, ws, w, rfl, rfl, g1, by rw [← sl_eq, ← g2.length]; exact hz, ?_⟩
      exact h _ _ hw.1 hw.2 _ .non
    · exact aft_stuck h
  · exact aft_stuck h
theorem v_pop : ValM K cl (mt .pop) rPop := by
  intro ρ H S x v xs vs Q PX s rx r h
  unfold mt at h; split at h <;> first | exact aft_stuck h | contradiction | skip
  split at h
  · rename_i n _ _ ys e1
    split at h
    · rename_i z e2
      obtain ⟨a, ws, rfl, g0, g1, g2⟩ := s.lst e1 rx
      cases r
      obtain ⟨w, q1, q2⟩ := g2.get e2
      have hw := s.write (o' := .lst ys.dropLast) (u := .lst ws.dropLast) g0 e1 (by rw [g1]; trivial) fun x => ⟨_, upd_same, g2.dropLast.ext x⟩
      refine ⟨a, ws, w, rfl, rfl, g1, by rw [← g2.length]; exact q1, ?_⟩
      exact h _ _ hw.1 hw.2 _ (q2.ext hw.1)
    · exact aft_stuck h
  · exact aft_stuck h
theorem v_join : ValM K cl (mt .join) (fun x xs H Q => ∃ a p, ∃ ys : List Str, x = .str a ∧ xs = [.ref p] ∧ (SqL K H p (ys.map V.str) ∨ SqT K H p (ys.map V.str)) ∧
    (ys.map (·.length)).sum + ys.length * a.length ≤ 16777216 ∧ Q (.str (Txt.join a ys)) H) := by
  intro ρ H S x v xs vs Q PX s rx r h
  unfold mt at h; split at h <;> first | exact aft_stuck h | contradiction | skip
  rename_i l b _
  split at h
  · rename_i ys e1
    split at h
    · rename_i hz
      cases e0 : seqOf S b with
      | none => rw [e0] at e1; cases e1
      | some ds =>
        rw [e0] at e1
        have e1' : strsOf ds = some ys := e1
        obtain ⟨w, rfl, rw⟩ := repL1 r
        obtain ⟨p, ws, rfl, g, gr⟩ := seqOf_rep s e0 rw
        rw [strs_rep gr e1'] at g
        cases rx
        refine ⟨_, p, ys.map SX.S, rfl, rfl, g, ?_, ?_⟩
        · rw [SX.lens, List.length_map, str_len]
          exact hz
        · have q := h.here s _ (.str _)
          have e : Txt.join (SX.S l) (ys.map SX.S) = SX.S (TL.joinL l ys) := SX.join_S l ys
          show Q (.str (Txt.join (SX.S l) (ys.map SX.S))) H
          rw [e]
          exact q
    · exact aft_stuck h
  · exact aft_stuck h
theorem v_split : ValM K cl (mt .split) (fun x xs H Q => ∃ a b, x = .str a ∧ xs = [.str b] ∧ (b.length == 0) = false ∧ a.length + 2 ≤ sizeLine ∧ rNewStrs (Txt.split a b) H Q) := by
  intro ρ H S x v xs vs Q PX s rx r h
  unfold mt at h; split at h <;> first | exact aft_stuck h | contradiction | skip
  rename_i l m _
  split at h
  · rename_i hz
    obtain ⟨w, rfl, rw⟩ := repL1 r
    cases rx
    cases rw
    refine ⟨_, _, rfl, rfl, ?_, by rw [← sl_eq, str_len]; exact hz.2.1, fun p hp => ?_⟩
    · rw [str_len]
      cases m with
      | nil => exact absurd rfl hz.1
      | cons _ _ => rfl
    · have e : Txt.split (SX.S l) (SX.S m) = (TL.spl m 0 [] l).map SX.S := SX.split_S hz.1 hz.2.2
      show Q (.ref p) (upd H p (.lst ((Txt.split (SX.S l) (SX.S m)).map V.str)))
      rw [e]
      obtain ⟨q, r⟩ := h.newL s (RepL.strs _) p hp
      exact q _ r
  · exact aft_stuck h
theorem v_rfind : ValM K cl (mt .rfind) (fun x xs H Q => ∃ a b, x = .str a ∧ xs = [.str b] ∧ Q (.int (Txt.rfind a b)) H) := by
  intro ρ H S x v xs vs Q PX s rx r h
  unfold mt at h; split at h <;> first | exact aft_stuck h | contradiction | skip
  obtain ⟨w, rfl, rw⟩ := repL1 r
  cases rx
  cases rw
  exact ⟨_, _, rfl, rfl, h.here s _ (.int _)⟩
theorem v_find : ValM K cl (mt .find) (fun x xs H Q => ∃ a b, x = .str a ∧ xs = [.str b] ∧ Q (.int (Txt.find a b)) H) := by
  intro ρ H S x v xs vs Q PX s rx r h
  unfold mt at h; split at h <;> first | exact aft_stuck h | contradiction | skip
  obtain ⟨w, rfl, rw⟩ := repL1 r
  cases rx
  cases rw
  exact ⟨_, _, rfl, rfl, h.here s _ (.int _)⟩
theorem or_mt (hK : X.K = K) : ∀ m : Mt, ∃ id r, PlainAttrs (mtT m) ∧ Slot (mtT m) (mtN m) id ∧ typeOf (.builtin id) = pure (.type "method_descriptor") ∧ MtR X id r ∧ ValM K cl (mt m) r
  | .append => ⟨_, _, PySem.F.plainAttrs_list, PySem.F.slot_list_append, PySem.F.type_list_append, mt_append, v_append⟩
  | .pop => ⟨_, _, PySem.F.plainAttrs_list, PySem.F.slot_list_pop, PySem.F.type_list_pop, mt_pop, v_pop⟩
  | .join => ⟨_, _, PySem.F.plainAttrs_str, PySem.F.slot_str_join, PySem.F.type_str_join, mt_join, hK ▸ v_join⟩
  | .split => ⟨_, _, PySem.F.plainAttrs_str, PySem.F.slot_str_split, PySem.F.type_str_split, mt_split, v_split⟩
  | .rfind => ⟨_, _, PySem.F.plainAttrs_str, PySem.F.slot_str_rfind, PySem.F.type_str_rfind, mt_rfind, v_rfind⟩
  | .find => ⟨_, _, PySem.F.plainAttrs_str, PySem.F.slot_str_find, PySem.F.type_str_find, mt_find, v_find⟩
end
end Ev
end
section
set_option Elab.async false
set_option linter.all false
set_option maxRecDepth 100000
set_option maxHeartbeats 4000000
set_option autoImplicit false
/-! Ev6: own syntax against the row's syntax: the checker. -/
namespace Ev
open PySem PySem.Spec PyProof.Rows L2

/-- the names of the text: its defs with their parameters, its constants, the forms of calls with keywords: def, positional values, keywords, the order -/
structure Tbl where
  fns : List (Str × List Str)
  cns : List Str
  kws : List (Nat × Nat × List Str × List Nat)
  ecs : List (Str × Cls) := []
  /-- classes of instances; names that none of them has; methods: class, name, parameters (defs behind fns) -/
  ics : List Str := []
  flds : List Str := []
  mts : List (Nat × Str × List Str) := []
  /-- defs that make lambdas, by their names, with the lambdas' name; defs that are handed one -/
  lams : List (List Str × Str) := []
  lfs : List Nat := []
  lnm : List Str := []
def Tbl.nolam (T : Tbl) : Tbl := { T with lams := [] }

def visB (sc : Scope) (x : Str) : Bool := match sc.names.lookup x with
  | some .local => true
  | some .cell => true
  | some .free => true
  | _ => false
def locB (sc : Scope) (x : Str) : Bool := match sc.names.lookup x with
  | some .local => true
  | some .cell => true
  | _ => false
def glB (sc : Scope) (x : Str) : Bool := match sc.names.lookup x with
  | some .globalImplicit => true
  | _ => false
def plN (x : Str) : Bool := !(x == ("__debug__" : Str)) && (!(x == ("__classdict__" : Str)) && !(x == ("__name__" : Str)))
theorem vis_of {sc : Scope} {x : Str} (h : visB sc x = true) : Vis sc x := by
  unfold visB at h
  unfold Vis
  split at h
  · exact .inl (by assumption)
  · exact .inr (.inl (by assumption))
  · exact .inr (.inr (by assumption))
  · cases h
theorem loc_of {sc : Scope} {x : Str} (h : locB sc x = true) : L2.Loc sc x := by
  unfold locB at h
  unfold L2.Loc
  split at h
  · exact .inl (by assumption)
  · exact .inr (by assumption)
  · cases h
theorem gl_of {sc : Scope} {x : Str} (h : glB sc x = true) : sc.names.lookup x = some .globalImplicit := by
  unfold glB at h
  split at h
  · assumption
  · cases h
theorem pl_of {x : Str} (h : plN x = true) : (x == ("__debug__" : Str)) = false ∧ (x == ("__classdict__" : Str)) = false ∧ x ≠ "__name__" := by
  unfold plN at h
  simp only [Bool.and_eq_true, Bool.not_eq_true'] at h
  exact ⟨h.1, h.2.1, by
    have := h.2.2
    simpa using this⟩
theorem ba {a b : Bool} (h : (a && b) = true) : a = true ∧ b = true := Bool.and_eq_true_iff.mp h

def notStar : PySem.Expr → Bool
  | .Starred .. => false
  | _ => true
def notSlice : PySem.Expr → Bool
  | .Slice .. => false
  | _ => true
def notSet : PySem.Expr → Bool
  | .Set .. => false
  | _ => true
def notCall0 : PySem.Expr → Bool
  | .Call (.Name _ _) [] [] _ => false
  | _ => true
def notComp : PySem.Expr → Bool
  | .ListComp .. => false
  | .SetComp .. => false
  | .DictComp .. => false
  | _ => true
def isTup : PySem.Expr → Bool
  | .Tuple .. => true
  | _ => false
def opB : Op2 → Operator → Bool
  | .add, .Add => true | .sub, .Sub => true | .mul, .Mult => true | .fdiv, .FloorDiv => true | .mod, .Mod => true | .pow, .Pow => true
  | _, _ => false
def cmB : Cm → CmpOp → Bool
  | .eq, .Eq => true | .ne, .NotEq => true | .lt, .Lt => true | .le, .LtE => true | .gt, .Gt => true | .ge, .GtE => true | .isin, .In => true | .notin, .NotIn => true | .is, .Is => true | .isnot, .IsNot => true
  | _, _ => false
theorem opB_of {o : Op2} {p : Operator} (h : opB o p = true) : p = op2 o := by cases o <;> cases p <;> first | rfl | cases h
theorem cmB_of {o : Cm} {p : CmpOp} (h : cmB o p = true) : p = cmO o := by cases o <;> cases p <;> first | rfl | cases h
def cstB : D → Const → Bool
  | .non, .none => true
  | .bl b, .bool c => b == c
  | .int i, .int j => decide (i = j)
  | .str l, .str x => decide (l = x.cps.toList)
  | _, _ => false
/-- a block's scope as it stands within a def's -/
def relB (scope sc : Scope) : Scope := { scope with names := scope.names.map fun (n, k) => if (k == NameKind.free && sc.kind == .function && sc.names.lookup n == some .cell) then (n, NameKind.cell) else (n, k) }
theorem rel_eq (scope : Scope) (env : Env) : relabel scope env = relB scope env.scope := rfl
def cellB (sc : Scope) (x : Str) : Bool := sc.names.lookup x == some .cell
def loclB (sc : Scope) (x : Str) : Bool := match sc.names.lookup x with
  | some .local => true
  | _ => false
theorem locl_of {sc : Scope} {x : Str} (h : loclB sc x = true) : sc.names.lookup x = some .local := by
  unfold loclB at h
  split at h
  · assumption
  · cases h
mutual
/-- a comprehension's target, its names own ones (sc: the block's scope as written, rs: as it stands) -/
def chkP (N : List Str) (sc rs : Scope) (own : List (Str × Nat)) : Pt → PySem.Expr → Bool
  | .nm i, .Name x _ => decide (N[i]? = some x) && (locB rs x && ((cellB sc x || loclB rs x) && own.contains (x, i)))
  | .tup ps, .Tuple es _ _ => chkPs N sc rs own ps es
  | _, _ => false
def chkPs (N : List Str) (sc rs : Scope) (own : List (Str × Nat)) : List Pt → List PySem.Expr → Bool
  | [], [] => true
  | p :: ps, e :: es => notStar e && (chkP N sc rs own p e && chkPs N sc rs own ps es)
  | _, _ => false
end
def Es.len : Es → Nat
  | .nil => 0
  | .cons _ r => r.len + 1
  | .star _ r => r.len + 1
def Es.plain : Es → Bool
  | .nil => true
  | .cons _ r => r.plain
  | .star _ _ => false
/-- the keywords' names -/
def kwN : List Keyword → List (Option Str)
  | [] => []
  | ⟨n, _, _⟩ :: r => n :: kwN r
def kwV : List Keyword → List PySem.Expr
  | [] => []
  | ⟨_, v, _⟩ :: r => v :: kwV r

/-- a lambda of no parameters -/
def noArgs (a : Arguments) : Bool := a.args.isEmpty && (a.posonlyargs.isEmpty && (a.kwonlyargs.isEmpty && (a.vararg.isNone && (a.kwarg.isNone && (a.defaults.isEmpty && a.kw_defaults.isEmpty)))))
/-- a method: its class, its name, how many are passed -/
def mthB (T : Tbl) (f c : Nat) (m : Str) (k : Nat) : Bool := decide (T.fns.length ≤ f) && (match T.mts[f - T.fns.length]? with
  | some (c', m', qs) => decide (c' = c) && (decide (m' = m) && decide (k + 1 = qs.length))
  | none => false)
section
mutual
def chkE (T : Tbl) (N : List Str) (sc : Scope) : E → PySem.Expr → Bool
  | .var i, .Name x _ => decide (N[i]? = some x) && (visB sc x && plN x)
  | .cst d, .Constant c _ _ => cstB d c
  | .glb i, .Name x _ => decide (T.cns[i]? = some x) && (glB sc x && plN x)
  | .bin o a b, .BinOp pa op pb _ => opB o op && (chkE T N sc a pa && chkE T N sc b pb)
  | .neg a, .UnaryOp .USub pa _ => chkE T N sc a pa
  | .not a, .UnaryOp .Not pa _ => chkE T N sc a pa
  | .and a b, .BoolOp .And (pa :: r) pos => chkE T N sc a pa && (match r with
    | [] => false
    | [pb] => chkE T N sc b pb
    | r => chkE T N sc b (.BoolOp .And r pos))
  | .or a b, .BoolOp .Or (pa :: r) pos => chkE T N sc a pa && (match r with
    | [] => false
    | [pb] => chkE T N sc b pb
    | r => chkE T N sc b (.BoolOp .Or r pos))
  | .ite c a b, .IfExp pc pa pb _ => chkE T N sc c pc && (chkE T N sc a pa && chkE T N sc b pb)
  | .cmp o a b, .Compare pa [op] [pb] _ => cmB o op && (notSet pb && (chkE T N sc a pa && chkE T N sc b pb))
  | .chain o p a b c, .Compare pa [op, op'] [pb, pc] _ => (cmB o op && cmB p op') && (notSet pc && (chkE T N sc a pa && (chkE T N sc b pb && chkE T N sc c pc)))
  | .tup es, .Tuple ps _ _ => chkEs T N sc es ps
  | .lst es, .List ps _ => chkEs T N sc es ps
  | .ix a b, .Subscript pa pb _ => notSlice pb && (chkE T N sc a pa && chkE T N sc b pb)
  | .sl a lo hi, .Subscript pa (.Slice plo phi none _) _ => chkE T N sc a pa && (chkO T N sc lo plo && chkO T N sc hi phi)
  | .rev a, .Subscript pa (.Slice none none (some (.UnaryOp .USub (.Constant (.int i) _ _) _)) _) _ => decide (i = 1) && chkE T N sc a pa
  | .call f es, .Call (.Name x _) ps [] _ => (match T.fns[f]? with
      | some (y, qs) => decide (x = y) && decide (es.len = qs.length)
      | none => false) && ((glB sc x && plN x) && (es.plain && chkEs T N sc es ps))
  | .callk f es ks pm, .Call (.Name x _) ps kws _ => (match T.fns[f]? with
      | some (y, qs) => decide (x = y) && ((decide (pm.length = qs.length) && pm.all fun j => decide (j < es.len + ks.len)) && (T.kws.any fun t => decide (t.1 = f) && (decide (t.2.1 = es.len) && (decide (t.2.2.1.map some = kwN kws) && decide (t.2.2.2 = pm)))))
      | none => false) && ((glB sc x && plN x) && ((es.plain && chkEs T N sc es ps) && (ks.plain && chkEs T N sc ks (kwV kws))))
  | .bi (.isin t) (.cons a .nil), .Call (.Name x _) [pa, .Name y _] [] _ => decide (x = ("isinstance" : Str)) && (decide (y = (tyN t : Str)) && ((glB sc x && glB sc y) && (plN y && (notStar pa && chkE T N sc a pa))))
  | .bi b es, .Call (.Name x _) ps [] _ => !isIsin b && (decide (x = (biN b : Str)) && (glB sc x && (decide (es.len ≠ 0) && (es.plain && chkEs T N sc es ps))))
  | .mt m a es, .Call (.Attribute pa y apos) ps [] pos => decide (y = (mtN m : Str)) && ((apos.endLine == pos.line) && (notCall0 pa && (decide (ps.length < 20) && (chkE T N sc a pa && (es.plain && chkEs T N sc es ps)))))
  | .lc own elt p it c, .ListComp pelt [⟨ptg, pit, pifs, 0⟩] scope _ => blkC N sc scope own && (chkP N scope (relB scope sc) own p ptg && (chkI T N sc it pit ptg && (chkC T.nolam N (relB scope sc) c pifs && chkE T.nolam N (relB scope sc) elt pelt)))
  | .lc2 own own1 elt p it p1 it1, .ListComp pelt [⟨ptg, pit, [], 0⟩, ⟨ptg1, pit1, [], 0⟩] scope _ => (blkC N sc scope own && own1.all fun i => (own.map (·.2)).contains i) &&
      ((chkP N scope (relB scope sc) own p ptg && chkP N scope (relB scope sc) (own.filter fun q => own1.contains q.2) p1 ptg1) && ((chkI T N sc it pit ptg && chkI T.nolam N (relB scope sc) it1 pit1 ptg1) && chkE T.nolam N (relB scope sc) elt pelt))
  | .fld a c f, .Attribute pa y _ => (decide (y = f) && (T.flds.contains f && decide (c < T.ics.length))) && (notCall0 pa && chkE T N sc a pa)
  | .mk c f es, .Call (.Name x _) ps [] _ => (decide (T.ics[c]? = some x) && mthB T f c "__init__" es.len) && ((glB sc x && plN x) && (es.plain && chkEs T N sc es ps))
  | .mth f c m a es, .Call (.Attribute pa y apos) ps [] pos => (decide (y = m) && (mthB T f c m es.len && decide (c < T.ics.length))) && ((apos.endLine == pos.line) && (notCall0 pa && (decide (ps.length < 20) && (chkE T N sc a pa && (es.plain && chkEs T N sc es ps)))))
  | .mthk f c m a es ks pm, .Call (.Attribute pa y apos) ps kws pos => ((decide (y = m) && (mthB T f c m (es.len + ks.len) && decide (c < T.ics.length))) && (match T.mts[f - T.fns.length]? with
      | some (_, _, qs) => (decide (pm.length = qs.length) && pm.all fun j => decide (j < es.len + 1 + ks.len)) && (T.kws.any fun t => decide (t.1 = f) && (decide (t.2.1 = es.len + 1) && (decide (t.2.2.1.map some = kwN kws) && decide (t.2.2.2 = pm))))
      | none => false)) && ((apos.endLine == pos.line) && (notCall0 pa && (decide (ps.length < 10) && (decide (0 < ks.len ∧ ks.len < 10) && (chkE T N sc a pa && ((es.plain && chkEs T N sc es ps) && (ks.plain && chkEs T N sc ks (kwV kws))))))))
  | .lam f k q body, .Call (.Name x _) [.Lambda ag pb scope _] [] _ => ((match T.fns[f]? with
      | some (y, qs) => decide (x = y) && decide (qs.length = 1)
      | none => false) && (T.lfs.contains f && decide (T.lams[k]? = some (N, q)))) && ((glB sc x && plN x) && ((noArgs ag && LamX.lamSB sc scope) && chkE T.nolam N scope body pb))
  | _, _ => false
def chkEs (T : Tbl) (N : List Str) (sc : Scope) : Es → List PySem.Expr → Bool
  | .nil, [] => true
  | .cons a r, p :: ps => notStar p && (chkE T N sc a p && chkEs T N sc r ps)
  | .star a r, .Starred p _ :: ps => chkE T N sc a p && chkEs T N sc r ps
  | _, _ => false
def chkO (T : Tbl) (N : List Str) (sc : Scope) : Oe → Option PySem.Expr → Bool
  | .none, none => true
  | .some a, some p => chkE T N sc a p
  | _, _ => false
/-- a comprehension's tests: none or one -/
def chkC (T : Tbl) (N : List Str) (sc : Scope) : Oe → List PySem.Expr → Bool
  | .none, [] => true
  | .some a, [p] => chkE T N sc a p
  | _, _ => false
def chkI (T : Tbl) (N : List Str) (sc : Scope) : It → PySem.Expr → PySem.Expr → Bool
  | .rng1 a, .Call (.Name x _) [pa] [] _, _ => decide (x = ("range" : Str)) && (glB sc x && (notStar pa && chkE T N sc a pa))
  | .rng2 a b, .Call (.Name x _) [pa, pb] [] _, _ => decide (x = ("range" : Str)) && (glB sc x && ((notStar pa && notStar pb) && (chkE T N sc a pa && chkE T N sc b pb)))
  | .rng3 a b c, .Call (.Name x _) [pa, pb, pc] [] _, _ => decide (x = ("range" : Str)) && (glB sc x && ((notStar pa && (notStar pb && notStar pc)) && (chkE T N sc a pa && (chkE T N sc b pb && chkE T N sc c pc))))
  | .enum a, .Call (.Name x _) [pa] [] _, tg => decide (x = ("enumerate" : Str)) && (glB sc x && ((notStar pa && isTup tg) && chkE T N sc a pa))
  | .zip a b, .Call (.Name x _) [pa, pb] [] _, tg => decide (x = ("zip" : Str)) && (glB sc x && ((notStar pa && (notStar pb && isTup tg)) && (chkE T N sc a pa && chkE T N sc b pb)))
  | .seq a, p, _ => notSet p && chkE T N sc a p
  | _, _, _ => false
end
end
end Ev
end
section
set_option Elab.async false
set_option linter.all false
set_option maxRecDepth 100000
set_option maxHeartbeats 4000000
set_option autoImplicit false
/-! Ev7: expressions: what the checker takes keeps its meaning. -/
namespace Ev
open PySem PySem.Spec PyProof.Rows L2

/-! ### side conditions -/
theorem starEach_cons {e : PySem.Expr} {es : List PySem.Expr} {env : Env} (h : notStar e = true) : starEach (e :: es) env = (false, eval e env) :: starEach es env := by
  cases e <;> first | rfl | cases h
theorem fold_set {e : PySem.Expr} {env : Env} (h : notSet e = true) : ∀ x, foldedSetIterable e env x = pure x := by
  intro x
  cases e <;> first | rfl | cases h
theorem marks_of {op : CmpOp} {e : PySem.Expr} (h : notSet e = true) : behindInMarks op e = false := by
  cases e <;> first | rfl | cases h
theorem ix_of {e : PySem.Expr} (h : notSlice e = true) : PlainIx e := by
  intro o i
  cases e <;> first | rfl | cases h
theorem base_of {o : PySem.Expr} {n : Str} {env : Env} {whole : Sem Value} (h : notCall0 o = true) : attributeBase o n env whole = whole := by
  cases o with
  | Call f as ks pos =>
    cases f with
    | Name id p =>
      cases as with
      | nil =>
        cases ks with
        | nil => cases h
        | cons _ _ => rfl
      | cons _ _ => rfl
    | _ => rfl
  | _ => rfl
section
variable {T : Tbl} {N : List Str}
theorem plain_len : ∀ {es : Es} {ps : List PySem.Expr} {sc : Scope}, chkEs T N sc es ps = true → ps.length = es.len
  | .nil, [], _, _ => rfl
  | .nil, _ :: _, _, h => by cases h
  | .cons a r, [], _, h => by cases h
  | .cons a r, p :: ps, sc, h => by
    obtain ⟨_, h2⟩ := ba h
    obtain ⟨_, h3⟩ := ba h2
    exact congrArg Nat.succ (plain_len h3)
  | .star a r, [], _, h => by cases h
  | .star a r, p :: ps, sc, h => by
    cases p with
    | Starred e pos =>
      obtain ⟨_, h3⟩ := ba (show (chkE T N sc a e && chkEs T N sc r ps) = true from h)
      exact congrArg Nat.succ (plain_len h3)
    | _ => cases h
theorem plain_star : ∀ {es : Es} {ps : List PySem.Expr} {sc : Scope} {env : Env}, es.plain = true → chkEs T N sc es ps = true → ∀ q ∈ starEach ps env, q.1 = false
  | .nil, [], _, _, _, _, q, hq => by cases hq
  | .nil, _ :: _, _, _, _, h, _, _ => by cases h
  | .cons a r, [], _, _, _, h, _, _ => by cases h
  | .cons a r, p :: ps, sc, env, hp, h, q, hq => by
    obtain ⟨h1, h2⟩ := ba h
    obtain ⟨_, h3⟩ := ba h2
    rw [starEach_cons h1] at hq
    rcases List.mem_cons.mp hq with e | hq
    · rw [e]
    · exact plain_star (es := r) hp h3 q hq
  | .star a r, _, _, _, hp, _, _, _ => by cases hp
theorem plain_any {es : Es} {ps : List PySem.Expr} {sc : Scope} {env : Env} {pos : Pos} (hp : es.plain = true) (h : chkEs T N sc es ps = true) : (backTo pos (starEach ps env)).any (·.1) = false := by
  rw [List.any_eq_false]
  intro q hq
  unfold backTo at hq
  obtain ⟨r, hr, rfl⟩ := List.mem_map.mp hq
  have := plain_star hp h r hr
  simp [this]
theorem plain_all {es : Es} {ps : List PySem.Expr} {sc : Scope} {env : Env} {pos : Pos} (hp : es.plain = true) (h : chkEs T N sc es ps = true) : (backTo pos (starEach ps env)).all (fun x => !x.1) = true := by
  rw [List.all_eq_true]
  intro q hq
  unfold backTo at hq
  obtain ⟨r, hr, rfl⟩ := List.mem_map.mp hq
  have := plain_star hp h r hr
  simp [this]
/-- a plain, non-empty list's first one is no star -/
theorem plain_head {es : Es} {ps : List PySem.Expr} {sc : Scope} (hp : es.plain = true) (h : chkEs T N sc es ps = true) {p : PySem.Expr} {r : List PySem.Expr} (e : ps = p :: r) : notStar p = true ∧ ∃ a s, es = .cons a s ∧ chkE T N sc a p = true ∧ s.plain = true ∧ chkEs T N sc s r = true := by
  subst e
  cases es with
  | nil => cases h
  | cons a s =>
    obtain ⟨h1, h2⟩ := ba h
    obtain ⟨h3, h4⟩ := ba h2
    exact ⟨h1, a, s, rfl, h3, hp, h4⟩
  | star a s => cases hp
end

/-! ### a def, called where nothing is being shown -/
structure FnG (P : Program) (w : World) (K : PySem.W.Frag) (mg : Str → Option Value) (base : Heap) (k : Nat) (f : Addr) (fd : FuncData) (ps : List Str) (sp : Sp) : Prop where
  len : ∀ vs H Q E, sp vs H Q E → vs.length = ps.length
  run : ∀ (A : Around) (outer : List Env) (s : Shared) (H : Hp) (args : Args) (us : List Value) (vs : List V) (Q : VK) (E : XK), Room k A → A.guards = some [] → Env0 P w K mg base A outer s H → BindsTo s fd args (ps.zip us) → Vals vs us → sp vs H Q E →
    codeAny (model P w) A (.call (.ref f) args) (CR (L2.CX P w) outer P w H s Q E) s
/-- a def's promise by its meaning -/
def spOf (K : PySem.W.Frag) (cl : Cl) (np : Nat) (F : List D → Sto → R D) : Sp := fun vs H Q E => vs.length = np ∧ ∃ ρ ds S, RepL K ρ H ds vs ∧ RelS K cl ρ H S ∧
  Aft K cl ρ H (F ds S) (fun ρ' H' _ d => ∀ v, Rep K ρ' H' d v → Q v H') fun x ρ' H' _ => ∀ cls d, XR K cl ρ' H' x cls d → E cls d H'

/-- what an __init__ of the text does: self.f = f, one by one -/
def iniB : List Str → List PySem.Stmt → Bool
  | [], [] => true
  | f :: fs, .Assign [.Attribute (.Name o _) g _] (.Name y _) _ :: r => (decide (o = ("self" : Str)) && (decide (g = f) && (decide (y = f) && (plN f && decide (f ≠ ("self" : Str)))))) && iniB fs r
  | _, _ => false
def veB : List Value := [.type "ValueError", .type "Exception", .type "BaseException", .type "object"]
/-- a class of errors -/
structure ClsOk (K : PySem.W.Frag) (mg : Str → Option Value) (cl : Cl) (T : Tbl) (c : Nat) (x : Str) (k : Cls) : Prop where
  gl : mg x = some (.ref (cl c))
  oex : OexC K (cl c)
  xf : XfC K (cl c)
  exc : ExcC K (cl c)
  no : ∀ f ∈ k.fs, PySem.W.findIn K (.ref (cl c)) f = some none
  nd : k.fs.Nodup
  init : k.fs ≠ [] → ∃ (fI : Addr) (fd : FuncData) (q : Str) (prs : Arguments) (body : List PySem.Stmt) (sc : Scope), PySem.W.findIn K (.ref (cl c)) "__init__" = some (some (.ref fI)) ∧ PySem.W.typeIn K (.ref fI) = some (.type "function") ∧
    FunD K "__init__" q prs body sc [] [] fI fd ∧ FnScope ("self" :: k.fs) ("self" :: k.fs) sc ∧ (∀ y ∈ ("self" :: k.fs : List Str), sc.names.lookup y = some .local) ∧ iniB k.fs body = true ∧ Binds K fd ("self" :: k.fs) []
  ex0 : k.fs = [] → PySem.W.excIn K (cl c) veB "ValueError.__new__" = true
  exm : ∀ c' : Nat, c' < T.ecs.length → PySem.W.exmOne K (.ref (cl c)) (.ref (cl c')) = some (decide (c' = c) || k.up.contains c')
  kit : ∀ c' : Nat, c' < T.ecs.length → PySem.W.kitOne K (.ref (cl c)) (.ref (cl c')) = some (decide (c' = c) || k.up.contains c')
  kitb : PySem.W.kitOne K (.ref (cl c)) (.type "ValueError") = some (k.bup.contains "ValueError")
/-- a call of the function at the place gp that was handed to the def entered at s from the frames outer -/
def ActRule (P : Program) (w : World) (K : PySem.W.Frag) (mg : Str → Option Value) (base : Heap) (k : Nat) (A : Around) (outer : List Env) (s : Shared) (H : Hp) (cl : Cl) (gp : Nat) (m : Sto → R D) : Prop :=
  ∀ (N : List Str) (qg : Str) (sg : Scope) (fg : Addr) (cdg : Value) (E : XK) (pn : List (Addr × Obj)) (xe : Value → Shared → Prop) (W : WX) (i : Nat) (a : Str) (p1 p2 : Pos),
    Room (k + 1) (A.deeper (envOfC qg sg s.heap.objs.size fg cdg)) → Takes ((cxOf (L2.CX P w) P w K mg base N qg sg fg cdg A outer s H E).tr pn xe) W → N[i]? = some a → visB sg a = true → plN a = true →
    PE ((cxOf (L2.CX P w) P w K mg base N qg sg fg cdg A outer s H E).tr pn xe) (.Call (.Name a p1) [] [] p2) (tE K cl W fun en S => actM gp m i en S)
/-- a def that is handed a lambda -/
structure LfG (P : Program) (w : World) (K : PySem.W.Frag) (mg : Str → Option Value) (base : Heap) (k : Nat) (f : Addr) (cl : Cl) (F : (Sto → R D) → Sto → R D) : Prop where
  run : ∀ (A : Around) (outer : List Env) (s : Shared) (H : Hp) (g : Addr) (o : Obj) (u : HO) (Q : VK) (E : XK) (ρ : List Addr) (S : Sto) (m : Sto → R D), Room (k + 2) A → A.guards = some [] → Env0 P w K mg base A outer s H → S.length = ρ.length → RelS K cl (ρ ++ [g]) H (S ++ [.act]) → H g = some (.frz o u) →
    ActRule P w K mg base k A outer s H (cl.at_ (ρ ++ [g]) H) ρ.length m →
    Aft K (cl.at_ (ρ ++ [g]) H) (ρ ++ [g]) H (F m S) (fun ρ' H' _ d => ∀ v, Rep K ρ' H' d v → Q v H') (fun x ρ' H' _ => ∀ cls d, XR K (cl.at_ (ρ ++ [g]) H) ρ' H' x cls d → E cls d H') →
    codeAny (model P w) A (.call (.ref f) ⟨[.ref g], []⟩) (CR (L2.CX P w) outer P w H s Q E) s
/-- what the written part says of the text -/
structure FTab (P : Program) (w : World) (K : PySem.W.Frag) (mg : Str → Option Value) (base : Heap) (cl : Cl) (T : Tbl) (G : Gm) (n : Nat) : Prop where
  fns : ∀ (i : Nat) (x : Str) (ps : List Str), T.fns[i]? = some (x, ps) → ∃ f fd, mg x = some (.ref f) ∧ PySem.W.keepIn K (.ref f) = true ∧ FnG P w K mg base (4 * n + 34) f fd ps (spOf K cl ps.length (G.fn i)) ∧ Binds K fd ps [] ∧
    ∀ (m : Nat) (ks : List Str) (pm : List Nat), (i, m, ks, pm) ∈ T.kws → KBn K fd ps m ks (fun us ws => pm.filterMap fun j => (us ++ ws)[j]?) fun vs zs => pm.filterMap fun j => (vs ++ zs)[j]?
  cst : ∀ (i : Nat) (x : Str) (d : D), T.cns[i]? = some x → G.cs[i]? = some d → ∃ u v, mg x = some u ∧ RelV v u ∧ ∀ ρ H, Rep K ρ H d v
  gcd : mg "gcd" = some (.builtin "math.gcd")
  bins : ∀ b : Bi, b ≠ .gcd → mg (biN b : Str) = none
  tys : ∀ t : Ty, mg (tyN t : Str) = none
  range : mg "range" = none
  enum : mg "enumerate" = none
  zip : mg "zip" = none
  isin : mg "isinstance" = none
  ve : mg "ValueError" = none
  ecs : ∀ (c : Nat) (x : Str) (k : Cls), T.ecs[c]? = some (x, k) → ClsOk K mg cl T c x k
  ics : ∀ (c : Nat) (x : Str), T.ics[c]? = some x → mg x = some (.ref (cl.ic c)) ∧ PySem.W.keepIn K (.ref (cl.ic c)) = true ∧ L2.Cls K (cl.ic c) ∧ PySem.W.makesIn K (cl.ic c) = true ∧ ∀ f ∈ T.flds, NoAttr K (cl.ic c) f
  mts : ∀ (j c : Nat) (m : Str) (ps : List Str), T.mts[j]? = some (c, m, ps) → ∃ f fd, Meth K (cl.ic c) m f ∧ FnG P w K mg base (4 * n + 34) f fd ps (spOf K cl ps.length (G.fn (T.fns.length + j))) ∧ Binds K fd ps [] ∧
    ∀ (m : Nat) (ks : List Str) (pm : List Nat), (T.fns.length + j, m, ks, pm) ∈ T.kws → KBn K fd ps m ks (fun us ws => pm.filterMap fun j => (us ++ ws)[j]?) fun vs zs => pm.filterMap fun j => (vs ++ zs)[j]?
  lfs : ∀ (i : Nat) (x : Str) (ps : List Str), T.fns[i]? = some (x, ps) → ps.length = 1 → i ∈ T.lfs → ∃ f F, mg x = some (.ref f) ∧ PySem.W.keepIn K (.ref f) = true ∧ (∀ m S, G.lf i m S = (F m S).dead S.length) ∧ LfG P w K mg base (4 * n + 35) f cl F

structure Cxt (T : Tbl) (G : Gm) (cl : Cl) (N : List Str) (n : Nat) (sc : Scope) (W : WX) (X : Cx) : Prop where
  nN : X.N = N
  nd : N.Nodup
  sc : X.env.scope = sc
  calm : X.calm = true
  gd : X.A.guards = some []
  room : Room (4 * n + 35) X.A
  seer : X.base.NoSeer
  tree : X.prog.given.tree = none
  top : ∃ env l, X.stack = env :: l ∧ env.scope.isGenerator = false ∧ env.scope.isCoroutine = false ∧ env.builtins = builtinsNs ∧ env.globals = mainGlobals
  tab : FTab X.prog X.w X.K X.mg X.base cl.base T G n
  tk : Takes X W
  lam : ∀ (k : Nat) (q : Str), T.lams[k]? = some (N, q) → ∃ c P, X.env.qual ++ "<lambda>" = q ∧ X.env.code = .ref c ∧ LamX.TabB X.base X.mg c P ∧ cl.b0[k]? = some P ∧ Room (4 * n + 37) X.A ∧ X.stack = X.env :: X.outer

section
variable {T : Tbl} {G : Gm} {cl : Cl} {N : List Str} {n : Nat} {sc : Scope} {W : WX} {X : Cx}
/-- great divisions have their frames -/
theorem Cxt.py (C : Cxt T G cl N n sc W X) : PyRoom X := fun pins s σ H I => by
  obtain ⟨env, l, e1, e2, e3, e4, e5⟩ := C.top
  refine PySem.PylongRoom.of I.nolimit ?_ (PySem.SeerAt.of (C.seer.keeps I.bk) C.tree (by rw [I.ok.frames, e1]) e2 e3 e4 e5)
  have := C.room.dp
  have e : recursionLimit = 1000 := by decide
  show X.A.depth + 100 < recursionLimit
  omega
theorem Cxt.hu (C : Cxt T G cl N n sc W X) : X.A.units + 65 < cLine := by have := C.room.un; omega
theorem Cxt.gl (C : Cxt T G cl N n sc W X) {x : Str} (h : glB sc x = true) : Gl X x := by
  have := gl_of h
  rw [← C.sc] at this
  exact this

/-! ### a call by values -/
theorem run_call (C : Cxt T G cl N n sc W X) {i : Nat} {x : Str} {ps : List Str} (e : T.fns[i]? = some (x, ps)) : ∃ f, X.mg x = some (.ref f) ∧ PySem.W.keepIn X.K (.ref f) = true ∧
    ∀ (pins : List (Addr × Obj)) (σ : L2.St) (H : Hp) (s : Shared) (Q : VK) (us : List Value) (vs : List V), Inv X pins σ H s → Vals vs us → spOf X.K cl.base ps.length (G.fn i) vs H Q (fun cls d H' => W cls d σ H') →
      wpAny (model X.prog X.w) X.A (call (.ref f) us) (EP X pins σ Q) X.xe s := by
  obtain ⟨f, fd, hm, hk, F, hb, _⟩ := C.tab.fns i x ps e
  refine ⟨f, hm, hk, fun pins σ H s Q us vs I r h => ?_⟩
  have hl : (us ++ ([] : List Value)).length = ps.length := by rw [List.append_nil, ← r.length]; exact F.len _ _ _ _ h
  have hb2 := hb s us I.kIn hl
  rw [List.append_nil] at hb2
  refine wpAny_call (codeAny_mono (F.run X.A X.stack s H ⟨us, []⟩ us vs Q _ (C.room.mono (by omega)) C.gd I.env0 hb2 r h) fun r s' hq => ?_)
  cases r with
  | error e => exact C.tk e s' (XE.of_call I (fun _ _ _ z => z) hq)
  | ok fl =>
    cases fl with
    | ret u => exact I.after hq
    | next => exact False.elim hq
    | brk => exact False.elim hq
    | cont => exact False.elim hq
theorem run_callk (C : Cxt T G cl N n sc W X) {i : Nat} {x : Str} {ps : List Str} (e : T.fns[i]? = some (x, ps)) {m : Nat} {ks : List Str} {pm : List Nat} (hk : (i, m, ks, pm) ∈ T.kws) : ∃ f, X.mg x = some (.ref f) ∧ PySem.W.keepIn X.K (.ref f) = true ∧
    ∀ (pins : List (Addr × Obj)) (σ : L2.St) (H : Hp) (s : Shared) (Q : VK) (us ws : List Value) (vs zs : List V), Inv X pins σ H s → Vals vs us → Vals zs ws → vs.length = m → zs.length = ks.length →
      spOf X.K cl.base ps.length (G.fn i) (pm.filterMap fun j => (vs ++ zs)[j]?) H Q (fun cls d H' => W cls d σ H') →
      wpAny (model X.prog X.w) X.A (call (.ref f) us (ks.zip ws)) (EP X pins σ Q) X.xe s := by
  obtain ⟨f, fd, hm, hkp, F, _, hb⟩ := C.tab.fns i x ps e
  refine ⟨f, hm, hkp, fun pins σ H s Q us ws vs zs I r rz l1 l2 h => ?_⟩
  have B := hb m ks pm hk
  refine wpAny_call (codeAny_mono (F.run X.A X.stack s H ⟨us, ks.zip ws⟩ _ _ Q _ (C.room.mono (by omega)) C.gd I.env0 (B.to s us ws I.kIn (r.length.symm.trans l1) (rz.length.symm.trans l2)) (B.rel r rz) h) fun r s' hq => ?_)
  cases r with
  | error e => exact C.tk e s' (XE.of_call I (fun _ _ _ z => z) hq)
  | ok fl =>
    cases fl with
    | ret u => exact I.after hq
    | next => exact False.elim hq
    | brk => exact False.elim hq
    | cont => exact False.elim hq
theorem FTab.nolam {P : Program} {w : World} {K : PySem.W.Frag} {mg : Str → Option Value} {base : Heap} (h : FTab P w K mg base cl T G n) : FTab P w K mg base cl T.nolam G n :=
  ⟨h.fns, h.cst, h.gcd, h.bins, h.tys, h.range, h.enum, h.zip, h.isin, h.ve, fun c x k e => let O := h.ecs c x k e; ⟨O.gl, O.oex, O.xf, O.exc, O.no, O.nd, O.init, O.ex0, O.exm, O.kit, O.kitb⟩, h.ics, h.mts, h.lfs⟩
/-- the context of a comprehension's block -/
theorem Cxt.blk (C : Cxt T G cl N n sc W X) {scope : Scope} {s : Shared} {H : Hp} {Cc : Addr} {l : List (Str × Addr)} {fp : List Addr} :
    Cxt T.nolam G cl N n (relB scope sc) (fun _ _ _ _ => False) (X.blk s H scope (compEnvC scope l Cc X.env) fp) :=
  ⟨C.nN, C.nd, by rw [← C.sc]; rfl, C.calm, C.gd, C.room, C.seer, C.tree, C.top, C.tab.nolam, fun _ _ ⟨_, _, _, _, _, _, _, _, _, _, _, _, _, _, _, _, w⟩ => w.elim, fun k q e => by cases e⟩
/-- a promise by the meaning, for a moment later on -/
theorem sp_of {K : PySem.W.Frag} {cl : Cl} {np : Nat} {F : List D → Sto → R D} {ρ : List Addr} {H : Hp} {ds : List D} {S : Sto} {vs : List V} {Q : VK} {E : XK} (hl : vs.length = np) (r : RepL K ρ H ds vs) (s : RelS K cl ρ H S)
    (h : Aft K cl ρ H (F ds S) (fun ρ' H' _ d => ∀ v, Rep K ρ' H' d v → Q v H') fun x ρ' H' _ => ∀ cls d, XR K cl ρ' H' x cls d → E cls d H') : spOf K cl.base np F vs H Q E := by
  refine ⟨hl, ρ, ds, S, r, s.toBase, ?_⟩
  cases e : F ds S with
  | stuck => rw [e] at h; exact h
  | ok d S' => rw [e] at h; exact fun ρ' H' x s' => h ρ' H' x (s'.ofBase (s.his.trans x.kp))
  | ex x S' => rw [e] at h; exact fun ρ' H' y s' => h ρ' H' y (s'.ofBase (s.his.trans y.kp))
end
end Ev
end
section
set_option Elab.async false
set_option linter.all false
set_option maxRecDepth 100000
set_option maxHeartbeats 4000000
set_option autoImplicit false
/-! Ev8: lifting rules. -/
namespace Ev
open PySem PySem.Spec PyProof.Rows L2

section
variable {K : PySem.W.Frag} {cl : Cl} {W : WX} {σ : L2.St} {H : Hp}

/-- one value, then the rest -/
theorem lift1 {ma : En → Sto → R D} {k : En → D → Sto → R D} {Q : VK} {r : V → Hp → Prop}
    (h : tE K cl W (fun en S => (ma en S).bind (k en)) σ H Q)
    (f : ∀ ρ H1 S en x v, RelE K ρ H1 en σ → RelS K cl ρ H1 S → Rep K ρ H1 x v → Aft K cl ρ H1 (k en x S) (fun ρ' H' _ d => ∀ v, Rep K ρ' H' d v → Q v H') (fun x ρ' H' _ => ∀ cls d, XR K cl ρ' H' x cls d → W cls d σ H') → r v H1) :
    tE K cl W ma σ H r := by
  obtain ⟨ρ, en, S, he, hs, h⟩ := h
  exact ⟨ρ, en, S, he, hs, h.bind.imp (fun ρ1 H1 S1 x e1 s1 h1 v rv => f ρ1 H1 S1 en x v (he.ext e1) s1 rv h1) fun x ρ1 H1 S1 _ p => p⟩
/-- an argument list, then the rest -/
theorem liftA {ma : En → Sto → R (List D)} {k : En → List D → Sto → R D} {Q : VK} {r : List V → Hp → Prop}
    (h : tE K cl W (fun en S => (ma en S).bind (k en)) σ H Q)
    (f : ∀ ρ H1 S en x v, RelE K ρ H1 en σ → RelS K cl ρ H1 S → RepL K ρ H1 x v → Aft K cl ρ H1 (k en x S) (fun ρ' H' _ d => ∀ v, Rep K ρ' H' d v → Q v H') (fun x ρ' H' _ => ∀ cls d, XR K cl ρ' H' x cls d → W cls d σ H') → r v H1) :
    tA K cl W ma σ H r := by
  obtain ⟨ρ, en, S, he, hs, h⟩ := h
  exact ⟨ρ, en, S, he, hs, h.bind.imp (fun ρ1 H1 S1 x e1 s1 h1 v rv => f ρ1 H1 S1 en x v (he.ext e1) s1 rv h1) fun x ρ1 H1 S1 _ p => p⟩
theorem liftAA {ma mb : En → Sto → R (List D)} {k : En → List D → List D → Sto → R D} {Q : VK} {r : List V → List V → Hp → Prop}
    (h : tE K cl W (fun en S => (ma en S).bind fun x S => (mb en S).bind fun y S => k en x y S) σ H Q)
    (f : ∀ ρ H1 S en x v y w, RelE K ρ H1 en σ → RelS K cl ρ H1 S → RepL K ρ H1 x v → RepL K ρ H1 y w → Aft K cl ρ H1 (k en x y S) (fun ρ' H' _ d => ∀ v, Rep K ρ' H' d v → Q v H') (fun x ρ' H' _ => ∀ cls d, XR K cl ρ' H' x cls d → W cls d σ H') → r v w H1) :
    tA K cl W ma σ H fun v H1 => tA K cl W mb σ H1 (r v) := by
  obtain ⟨ρ, en, S, he, hs, h⟩ := h
  refine ⟨ρ, en, S, he, hs, h.bind.imp (fun ρ1 H1 S1 x e1 s1 h1 v rv => ?_) fun x ρ1 H1 S1 _ p => p⟩
  refine ⟨ρ1, en, S1, he.ext e1, s1, h1.bind.imp (fun ρ2 H2 S2 y e2 s2 h2 w rw => ?_) fun x ρ1 H1 S1 _ p => p⟩
  exact f ρ2 H2 S2 en x v y w ((he.ext e1).ext e2) s2 (rv.ext e2) rw h2
/-- go on with a meaning where one stands -/
theorem tE.mk {ρ : List Addr} {en : En} {S : Sto} {m : En → Sto → R D} {Q : VK} (he : RelE K ρ H en σ) (hs : RelS K cl ρ H S)
    (h : Aft K cl ρ H (m en S) (fun ρ' H' _ d => ∀ v, Rep K ρ' H' d v → Q v H') fun x ρ' H' _ => ∀ cls d, XR K cl ρ' H' x cls d → W cls d σ H') : tE K cl W m σ H Q := ⟨ρ, en, S, he, hs, h⟩
end

/-! ### a part of a slice, a test -/
def tO (K : PySem.W.Frag) (cl : Cl) (W : WX) (m : En → Sto → R (Option Int)) : TO := fun σ H Q => ∃ ρ en S, RelE K ρ H en σ ∧ RelS K cl ρ H S ∧
  Aft K cl ρ H (m en S) (fun ρ' H' _ b => Q b H') fun x ρ' H' _ => ∀ cls d, XR K cl ρ' H' x cls d → W cls d σ H'
theorem _root_.L2.PO.weak {X : Cx} {e : Option PySem.Expr} {t t' : TO} (h : PO X e t') (f : ∀ σ H Q, t σ H Q → t' σ H Q) : PO X e t := ⟨fun pins s σ H Q I q => h.run pins s σ H Q I (f _ _ _ q)⟩
theorem _root_.L2.PTs.weak {X : Cx} {e : List PySem.Expr} {t t' : TT} (h : PTs X e t') (f : ∀ σ H Q, t σ H Q → t' σ H Q) : PTs X e t := ⟨fun pins s σ H Q I q => h.run pins s σ H Q I (f _ _ _ q)⟩

/-! ### what is walked -/
/-- J walks the items of src as long as its places stand -/
def ItOk (K : PySem.W.Frag) (cl : Cl) (ρ : List Addr) (H : Hp) (J : L2.It) (src : Src) : Prop :=
  ∀ ρ1 H1 S1, Kp K ρ H ρ1 H1 → RelS K cl ρ1 H1 S1 → src.ok S1 → ∀ i : Nat,
    (∀ d, src.its[i]? = some d → J.go i H1 ∧ ∀ x H2, J.yld i H1 x H2 → Ext ρ1 H1 ρ1 H2 ∧ RelS K cl ρ1 H2 S1 ∧ Rep K ρ1 H2 d x) ∧ (src.its.length ≤ i → J.stop i H1)
def tI (K : PySem.W.Frag) (cl : Cl) (W : WX) (m : En → Sto → R Src) : TI := fun σ H R => ∃ ρ en S, RelE K ρ H en σ ∧ RelS K cl ρ H S ∧
  Aft K cl ρ H (m en S) (fun ρ' H' _ src => ∀ J, ItOk K cl ρ' H' J src → R J H') fun x ρ' H' _ => ∀ cls d, XR K cl ρ' H' x cls d → W cls d σ H'
theorem _root_.L2.PI.weak {X : Cx} {tg e : PySem.Expr} {t t' : TI} (h : PI X tg e t') (f : ∀ σ H Q, t σ H Q → t' σ H Q) : PI X tg e t := ⟨fun pins s σ H Q I q => h.run pins s σ H Q I (f _ _ _ q)⟩
section
variable {K : PySem.W.Frag} {cl : Cl} {ρ : List Addr} {H : Hp} {S : Sto}
theorem ItOk.list {n : Nat} {a : Addr} {xs : List D} (s : RelS K cl ρ H S) (hn : ρ[n]? = some a) : ItOk K cl ρ H (Itl K a) ⟨xs, [(n, xs)]⟩ := by
  intro ρ1 H1 S1 x1 s1 ok i
  have e0 := ok (n, xs) (List.mem_cons_self ..)
  obtain ⟨p, vs, e1, h2, h3⟩ := lstOf_rep s1 e0 (.ref (x1.get _ _ hn))
  cases e1
  refine ⟨fun d hd => ?_, fun hl => ⟨vs, h2, by rw [← h3.length]; exact hl⟩⟩
  obtain ⟨v, g1, g2⟩ := h3.get hd
  refine ⟨⟨vs, v, h2, g1⟩, fun x H2 ⟨e, y⟩ => ?_⟩
  subst e
  have := y vs h2
  rw [g1] at this
  cases this
  exact ⟨Ext.refl _ _, s1, g2⟩
theorem ItOk.listF {a : Addr} {xs : List D} {vs : List V} (h : SqF K H a vs) (r : RepL K ρ H xs vs) : ItOk K cl ρ H (Itl K a) ⟨xs, []⟩ := by
  intro ρ1 H1 S1 x1 s1 ok i
  have h2 := (x1.sqF _ _ h).l
  have h3 := r.mono x1
  refine ⟨fun d hd => ?_, fun hl => ⟨vs, h2, by rw [← h3.length]; exact hl⟩⟩
  obtain ⟨v, g1, g2⟩ := h3.get hd
  refine ⟨⟨vs, v, h2, g1⟩, fun x H2 ⟨e, y⟩ => ?_⟩
  subst e
  have := y vs h2
  rw [g1] at this
  cases this
  exact ⟨Ext.refl _ _, s1, g2⟩
theorem ItOk.tup {a : Addr} {xs : List D} {vs : List V} (h : SqT K H a vs) (r : RepL K ρ H xs vs) : ItOk K cl ρ H (Itt K a) ⟨xs, []⟩ := by
  intro ρ1 H1 S1 x1 s1 ok i
  have h2 := x1.sqT _ _ h
  have h3 := r.mono x1
  refine ⟨fun d hd => ?_, fun hl => ⟨vs, h2, by rw [← h3.length]; exact hl⟩⟩
  obtain ⟨v, g1, g2⟩ := h3.get hd
  refine ⟨⟨vs, v, h2, g1⟩, fun x H2 ⟨e, y⟩ => ?_⟩
  subst e
  have := y vs h2
  rw [g1] at this
  cases this
  exact ⟨Ext.refl _ _, s1, g2⟩
theorem ItOk.str {l : List Nat} : ItOk K cl ρ H (Its ⟨l.toArray⟩) ⟨l.map fun c => .str [c], []⟩ := by
  intro ρ1 H1 S1 x1 s1 ok i
  refine ⟨fun d hd => ?_, fun hl => ?_⟩
  · rw [List.getElem?_map] at hd
    cases q : l[i]? with
    | none => rw [q] at hd; cases hd
    | some c =>
      rw [q] at hd
      cases hd
      have hi := (List.getElem?_eq_some_iff.mp q).1
      refine ⟨by show i < l.toArray.size; simpa using hi, fun x H2 ⟨e, c', e2, e3⟩ => ?_⟩
      subst e
      have e4 : l.toArray[i]? = some c' := e2
      have e5 : l[i]? = some c' := by simpa using e4
      rw [q] at e5
      cases e5
      subst e3
      exact ⟨Ext.refl _ _, s1, .str [c]⟩
  · show l.toArray.size ≤ i
    simpa using hl
theorem ItOk.rng {i j : Int} : ItOk K cl ρ H (Itr i (j - i).toNat) ⟨rngD i j, []⟩ := by
  intro ρ1 H1 S1 x1 s1 ok k
  refine ⟨fun d hd => ?_, fun hl => ?_⟩
  · unfold rngD at hd
    rw [List.getElem?_map] at hd
    cases q : (List.range (j - i).toNat)[k]? with
    | none => simp only [q] at hd; cases hd
    | some c =>
      simp only [q] at hd
      cases hd
      obtain ⟨hi, e⟩ := List.getElem?_eq_some_iff.mp q
      rw [List.getElem_range] at e
      subst e
      rw [List.length_range] at hi
      refine ⟨hi, fun x H2 ⟨e, e3⟩ => ?_⟩
      subst e
      subst e3
      exact ⟨Ext.refl _ _, s1, .int _⟩
  · show (j - i).toNat ≤ k
    simpa [rngD] using hl
theorem ItOk.dn {i j : Int} : ItOk K cl ρ H (Itc i (-1) (i - j).toNat) ⟨rngDn i j, []⟩ := by
  intro ρ1 H1 S1 x1 s1 ok k
  refine ⟨fun d hd => ?_, fun hl => ?_⟩
  · unfold rngDn at hd
    rw [List.getElem?_map] at hd
    cases q : (List.range (i - j).toNat)[k]? with
    | none => simp only [q] at hd; cases hd
    | some c =>
      simp only [q] at hd
      cases hd
      obtain ⟨hi, e⟩ := List.getElem?_eq_some_iff.mp q
      rw [List.getElem_range] at e
      subst e
      rw [List.length_range] at hi
      refine ⟨hi, fun x H2 ⟨e, e3⟩ => ?_⟩
      subst e
      subst e3
      exact ⟨Ext.refl _ _, s1, .int _⟩
  · show (i - j).toNat ≤ k
    simpa [rngDn] using hl
end
end Ev
end
section
set_option Elab.async false
set_option linter.all false
set_option maxRecDepth 100000
set_option maxHeartbeats 4000000
set_option autoImplicit false
/-! Ev9: patterns, comprehensions' loops. -/
namespace Ev
open PySem PySem.Spec PyProof.Rows L2

/-! ### patterns -/
mutual
def gPt (K : PySem.W.Frag) : Pt → TG
  | .nm i => gName i
  | .tup ps => gTup K ps.length (gPts K ps)
def gPts (K : PySem.W.Frag) : List Pt → TGs
  | [] => gNil
  | p :: ps => gCons (gPt K p) (gPts K ps)
end
theorem assignEach_cons {e : PySem.Expr} {es : List PySem.Expr} {env : Env} (h : notStar e = true) : assignEach (e :: es) env = (false, assign e env) :: assignEach es env := by
  cases e <;> first | rfl | cases h
section
variable {X : Cx} {N : List Str} {sc rs : Scope} {own : List (Str × Nat)}
theorem chkPs_len : ∀ {ps : List Pt} {es : List PySem.Expr}, chkPs N sc rs own ps es = true → (assignEach es X.env).length = ps.length ∧ (assignEach es X.env).findIdx? (·.1) = none
  | [], [], _ => ⟨rfl, rfl⟩
  | [], _ :: _, h => by cases h
  | _ :: _, [], h => by cases h
  | p :: ps, e :: es, h => by
    obtain ⟨h1, h2⟩ := ba h
    obtain ⟨h3, h4⟩ := ba h2
    obtain ⟨q1, q2⟩ := chkPs_len h4
    rw [assignEach_cons h1]
    refine ⟨by simp [q1], ?_⟩
    rw [List.findIdx?_cons]
    simp [q2]
mutual
theorem pg_pt (hN : X.N = N) (hd : N.Nodup) (hs : X.env.scope = rs) (hf : ∀ x, cellB sc x = true → X.fn x = true) (hc : X.calm = true) : ∀ {p : Pt} {e : PySem.Expr}, chkP N sc rs own p e = true → PG X e (gPt X.K p)
  | .nm i, e, h => by
    cases e with
    | Name x pos =>
      obtain ⟨h1, h2⟩ := ba (show (decide (N[i]? = some x) && (locB rs x && ((cellB sc x || loclB rs x) && own.contains (x, i)))) = true from h)
      obtain ⟨h3, h4⟩ := ba h2
      obtain ⟨h5, _⟩ := ba h4
      refine pg_name (by rw [hN]; exact hd) (by rw [hN]; exact of_decide_eq_true h1) (by rw [hs]; exact loc_of h3) ?_
      rcases Bool.or_eq_true_iff.mp h5 with q | q
      · exact .inl (hf x q)
      · exact .inr (by rw [hs]; exact locl_of q)
    | _ => cases h
  | .tup ps, e, h => by
    cases e with
    | Tuple es k pos =>
      have h' : chkPs N sc rs own ps es = true := h
      obtain ⟨q1, q2⟩ := chkPs_len (X := X) h'
      exact pg_tup hc (pgs_pt hN hd hs hf hc h') q1 q2
    | _ => cases h
theorem pgs_pt (hN : X.N = N) (hd : N.Nodup) (hs : X.env.scope = rs) (hf : ∀ x, cellB sc x = true → X.fn x = true) (hc : X.calm = true) : ∀ {ps : List Pt} {es : List PySem.Expr}, chkPs N sc rs own ps es = true → PGs X es (gPts X.K ps)
  | [], [], _ => pgs_nil
  | [], _ :: _, h => by cases h
  | _ :: _, [], h => by cases h
  | p :: ps, e :: es, h => by
    obtain ⟨h1, h2⟩ := ba h
    obtain ⟨h3, h4⟩ := ba h2
    exact pgs_cons (pg_pt hN hd hs hf hc h3) (pgs_pt hN hd hs hf hc h4) (by rw [assignEach_cons h1]; rfl)
end
end

theorem wipe_get (σ : L2.St) : ∀ (vs : List Nat) (j : Nat), (wipe σ vs)[j]? = if j ∈ vs then σ[j]?.map (fun _ => none) else σ[j]?
  | [], j => by simp [wipe]
  | v :: vs, j => by
    unfold wipe
    by_cases e : v = j
    · subst e
      rw [if_pos (List.mem_cons_self ..), List.getElem?_set_self', wipe_get σ vs v]
      by_cases h : v ∈ vs
      · rw [if_pos h]; cases σ[v]? <;> rfl
      · rw [if_neg h]; cases σ[v]? <;> rfl
    · rw [List.getElem?_set_ne e, wipe_get σ vs j]
      by_cases h : j ∈ vs
      · rw [if_pos h, if_pos (List.mem_cons_of_mem _ h)]
      · rw [if_neg h, if_neg fun z => (List.mem_cons.mp z).elim (fun q => e q.symm) h]
theorem wipe_set {σ : L2.St} {vs : List Nat} {i : Nat} {v : V} (h : i ∈ vs) : wipe (σ.set i (some v)) vs = wipe σ vs := by
  apply List.ext_getElem?
  intro j
  rw [wipe_get, wipe_get]
  by_cases hj : j ∈ vs
  · rw [if_pos hj, if_pos hj]
    by_cases e : i = j
    · subst e
      rw [List.getElem?_set_self']
      cases σ[i]? <;> rfl
    · rw [List.getElem?_set_ne e]
  · rw [if_neg hj, if_neg hj, List.getElem?_set_ne]
    intro e
    subst e
    exact hj h
section
variable {K : PySem.W.Frag} {ρ : List Addr} {H : Hp} {N : List Str} {sc rs : Scope} {own : List (Str × Nat)}
mutual
theorem gPt_ok {vs : List Nat} (hv : ∀ q ∈ own, q.2 ∈ vs) : ∀ {p : Pt} {e : PySem.Expr} {d : D} {en en' : En} {σ : L2.St} {v : V} {Q : L2.St → Hp → Prop}, chkP N sc rs own p e = true → RelE K ρ H en σ → Rep K ρ H d v → p.set d en = some en' →
    (∀ σ', RelE K ρ H en' σ' → wipe σ' vs = wipe σ vs → Q σ' H) → gPt K p v σ H Q
  | .nm i, e, d, en, en', σ, v, Q, h, he, r, hs, q => by
    cases e with
    | Name x pos =>
      obtain ⟨h1, h2⟩ := ba (show (decide (N[i]? = some x) && (locB rs x && ((cellB sc x || loclB rs x) && own.contains (x, i)))) = true from h)
      obtain ⟨h3, h4⟩ := ba h2
      obtain ⟨_, h5⟩ := ba h4
      have hs' : some (en.set i (some d)) = some en' := hs
      cases hs'
      exact q _ (he.set r i) (wipe_set (hv (x, i) (by simpa using h5)))
    | _ => cases h
  | .tup ps, e, d, en, en', σ, v, Q, h, he, r, hs, q => by
    cases e with
    | Tuple es k pos =>
      have h' : chkPs N sc rs own ps es = true := h
      cases d with
      | tup xs =>
        cases r with
        | tup h1 h2 =>
          have hs' : Pt.sets ps xs en = some en' := by unfold Pt.set at hs; exact hs
          exact ⟨_, _, rfl, h1, by rw [← h2.length]; exact (gPts_len hs').symm, gPts_ok hv h' he h2 hs' q⟩
      | _ => unfold Pt.set at hs; cases hs
    | _ => cases h
theorem gPts_ok {vs : List Nat} (hv : ∀ q ∈ own, q.2 ∈ vs) : ∀ {ps : List Pt} {es : List PySem.Expr} {ds : List D} {en en' : En} {σ : L2.St} {us : List V} {Q : L2.St → Hp → Prop}, chkPs N sc rs own ps es = true → RelE K ρ H en σ → RepL K ρ H ds us → Pt.sets ps ds en = some en' →
    (∀ σ', RelE K ρ H en' σ' → wipe σ' vs = wipe σ vs → Q σ' H) → gPts K ps us σ H Q
  | [], es, [], en, en', σ, us, Q, h, he, r, hs, q => by
    cases r
    have hs' : some en = some en' := by unfold Pt.sets at hs; exact hs
    cases hs'
    exact ⟨rfl, q σ he rfl⟩
  | [], es, _ :: _, en, en', σ, us, Q, h, he, r, hs, q => by unfold Pt.sets at hs; cases hs
  | _ :: _, es, [], en, en', σ, us, Q, h, he, r, hs, q => by unfold Pt.sets at hs; cases hs
  | p :: ps, [], d :: ds, en, en', σ, us, Q, h, he, r, hs, q => by cases h
  | p :: ps, e :: es, d :: ds, en, en', σ, us, Q, h, he, r, hs, q => by
    obtain ⟨h1, h2⟩ := ba h
    obtain ⟨h3, h4⟩ := ba h2
    cases r with
    | cons r1 r2 =>
      have hs' : (Pt.set p d en).bind (fun en' => Pt.sets ps ds en') = some en' := by unfold Pt.sets at hs; exact hs
      cases z : Pt.set p d en with
      | none => rw [z] at hs'; cases hs'
      | some en1 =>
        rw [z] at hs'
        refine ⟨_, _, rfl, gPt_ok hv h3 he r1 z fun σ1 he1 w1 => ?_⟩
        exact gPts_ok hv h4 he1 r2 hs' fun σ2 he2 w2 => q σ2 he2 (w2.trans w1)
theorem gPts_len : ∀ {ps : List Pt} {ds : List D} {en en' : En}, Pt.sets ps ds en = some en' → ps.length = ds.length
  | [], [], _, _, _ => rfl
  | [], _ :: _, _, _, hs => by unfold Pt.sets at hs; cases hs
  | _ :: _, [], _, _, hs => by unfold Pt.sets at hs; cases hs
  | p :: ps, d :: ds, en, en', hs => by
    have hs' : (Pt.set p d en).bind (fun en' => Pt.sets ps ds en') = some en' := by unfold Pt.sets at hs; exact hs
    cases z : Pt.set p d en with
    | none => rw [z] at hs'; cases hs'
    | some en1 =>
      rw [z] at hs'
      exact congrArg Nat.succ (gPts_len (en := en1) hs')
end
end

/-! ### the loop of a comprehension -/
abbrev W0 : WX := fun _ _ _ _ => False
section
variable {K : PySem.W.Frag} {cl : Cl} {ρ1 : List Addr} {H1 : Hp}
/-- the list that grows, at D -/
structure Grow (K : PySem.W.Frag) (cl : Cl) (ρ1 : List Addr) (H1 : Hp) (D : Addr) (acc : List Ev.D) (ρ : List Addr) (S : Sto) (vs : List V) (H : Hp) : Prop where
  ext : Ext ρ1 H1 ρ H
  rs : RelS K cl ρ H S
  at_ : H D = some (.lst vs)
  out : D ∉ ρ
  rep : RepL K ρ H acc vs
theorem Grow.go {D : Addr} {acc : List Ev.D} {ρ ρ' : List Addr} {S S' : Sto} {vs : List V} {H H' : Hp} (g : Grow K cl ρ1 H1 D acc ρ S vs H) (x : Ext ρ H ρ' H') (s : RelS K cl ρ' H' S') : Grow K cl ρ1 H1 D acc ρ' S' vs H' := by
  refine ⟨g.ext.trans x, s, x.keep _ _ g.at_ fun z => absurd z g.out, fun z => ?_, g.rep.ext x⟩
  rcases x.new D z with y | y
  · exact g.out y
  · rw [g.at_] at y; cases y
theorem Grow.push {D : Addr} {acc : List Ev.D} {ρ : List Addr} {S : Sto} {vs : List V} {H : Hp} (g : Grow K cl ρ1 H1 D acc ρ S vs H) (hD : H1 D = none) {d : Ev.D} {v : V} (r : Rep K ρ H d v) : Grow K cl ρ1 H1 D (acc ++ [d]) ρ S (vs ++ [v]) (upd H D (.lst (vs ++ [v]))) :=
  ⟨⟨g.ext.pre, g.ext.new, fun b o e h => by
    have hb : b ≠ D := fun z => by subst z; rw [hD] at e; cases e
    rw [upd_ne hb]; exact g.ext.keep b o e h⟩, g.rs.other g.at_ g.out, upd_same, g.out, (g.rep.append (.cons r .nil)).mono (Kp.other g.at_)⟩
theorem Grow.start {D : Addr} {S : Sto} (s : RelS K cl ρ1 H1 S) (hD : H1 D = none) : Grow K cl ρ1 H1 D [] ρ1 S [] (upd H1 D (.lst [])) := by
  obtain ⟨x, s'⟩ := s.laid (u := .lst []) hD
  exact ⟨x, s', upd_same, fun z => s.there z hD, .nil⟩
theorem Grow.fin {D : Addr} {acc : List Ev.D} {ρ : List Addr} {S : Sto} {vs : List V} {H : Hp} (g : Grow K cl ρ1 H1 D acc ρ S vs H) (hD : H1 D = none) : Ext ρ1 H1 (ρ ++ [D]) H ∧ RelS K cl (ρ ++ [D]) H (S ++ [.lst acc]) ∧ Rep K (ρ ++ [D]) H (.ref S.length) (.ref D) := by
  obtain ⟨m, e⟩ := g.ext.pre
  refine ⟨⟨⟨m ++ [D], by rw [e, List.append_assoc]⟩, fun b hb => ?_, g.ext.keep⟩, g.rs.adopt g.at_ g.out g.rep, .ref (by rw [← g.rs.len]; simp)⟩
  rcases List.mem_append.mp hb with z | z
  · exact g.ext.new b z
  · rw [List.mem_singleton.mp z]; exact .inr hD

theorem drop_cons {α : Type} {l : List α} {i : Nat} {d : α} (h : l[i]? = some d) : l.drop i = d :: l.drop (i + 1) := by
  obtain ⟨hi, e⟩ := List.getElem?_eq_some_iff.mp h
  rw [List.drop_eq_getElem_cons hi, e]

theorem wipe_wipe (σ : L2.St) (vs : List Nat) : wipe (wipe σ vs) vs = wipe σ vs := by
  apply List.ext_getElem?
  intro j
  rw [wipe_get, wipe_get]
  by_cases hj : j ∈ vs
  · rw [if_pos hj, if_pos hj]; cases σ[j]? <;> rfl
  · rw [if_neg hj, if_neg hj]
/-- one item of a comprehension -/
noncomputable def lcF (p : Pt) (vs : List Nat) (mc : En → Sto → R Bool) (me : En → Sto → R D) (en : En) (d : D) (S : Sto) : R (Option D) :=
  (match p.set d (wipeE en vs) with
    | some en' => (mc en' S).bind fun b S => if b = true then (me en' S).bind fun y S => .ok (some y) S else .ok none S
    | none => .stuck).noex
theorem lc_run {N : List Str} {sc rs : Scope} {own : List (Str × Nat)} {p : Pt} {tg : PySem.Expr} {σ : L2.St} {en : En} {S : Sto} {src : Src} {J : L2.It} {mc : En → Sto → R Bool} {me : En → Sto → R D} {P : List Addr → Hp → Sto → D → Prop} {PX : Xc → List Addr → Hp → Sto → Prop} {Q : V → Hp → Prop}
    (hp : chkP N sc rs own p tg = true) (he : RelE K ρ1 H1 en σ) (hs : RelS K cl ρ1 H1 S) (hJ : ItOk K cl ρ1 H1 J src)
    (h : Aft K cl ρ1 H1 ((lcL src (lcF p (slots own) mc me en) src.its [] S).bind fun acc S => .ok (.ref S.length) (S ++ [.lst acc])) P PX)
    (hP : ∀ ρ H S d v, P ρ H S d → Rep K ρ H d v → Q v H) (D : Addr) (hD : H1 D = none) :
    ∃ Wf : Nat → Nat → Hp → Prop, (∃ m, Wf 0 m (upd H1 D (.lst []))) ∧ ∀ i m H, Wf i m H →
      (J.stop i H ∧ Q (.ref D) H) ∨ (J.go i H ∧ ∃ Nx : Hp → Prop, (∀ H', Nx H' → ∃ m', m' < m ∧ Wf (i + 1) m' H') ∧ ∀ x H', J.yld i H x H' → gPt K p x (wipe σ (slots own)) H' fun σ2 H2 => wipe σ2 (slots own) = wipe σ (slots own) ∧ tB K cl W0 mc σ2 H2 fun b H3 =>
        if b = true then tE K cl W0 me σ2 H3 fun y H4 => ∃ acc, H4 D = some (.lst acc) ∧ acc.length < sizeLine ∧ Nx (upd H4 D (.lst (acc ++ [y]))) else Nx H3) := by
  have hv : ∀ q ∈ own, q.2 ∈ slots own := fun q hq => List.mem_map.mpr ⟨q, hq, rfl⟩
  generalize hF : lcF p (slots own) mc me en = F at h
  let Wf : Nat → Nat → Hp → Prop := fun i m H => m = src.its.length - i ∧ i ≤ src.its.length ∧ ∃ ρ S acc vs, Grow K cl ρ1 H1 D acc ρ S vs H ∧
    Aft K cl ρ1 H1 ((lcL src F (src.its.drop i) acc S).bind fun acc S => .ok (.ref S.length) (S ++ [.lst acc])) P PX
  refine ⟨Wf, ⟨_, rfl, Nat.zero_le _, ρ1, S, [], [], Grow.start hs hD, by rw [List.drop_zero]; exact h⟩, ?_⟩
  rintro i m H ⟨rfl, hi, ρ, S, acc, vs, g, ha⟩
  by_cases hl : i < src.its.length
  · refine .inr ?_
    obtain ⟨d, hd⟩ : ∃ d, src.its[i]? = some d := ⟨_, List.getElem?_eq_getElem hl⟩
    rw [drop_cons hd, lcL] at ha
    split at ha
    · rename_i ok
      obtain ⟨go, yl⟩ := (hJ ρ H S g.ext.kp g.rs ok i).1 d hd
      refine ⟨go, fun H' => ∃ m, Wf (i + 1) m H', fun H' ⟨m', w⟩ => ⟨m', by rw [w.1]; omega, w⟩, fun x H2 y => ?_⟩
      obtain ⟨x2, s2, r2⟩ := yl x H2 y
      have g2 := g.go x2 s2
      rw [R.bind_assoc, ← hF] at ha
      have ha3 := Aft.ext (Aft.bind0 ha).noex g2.ext
      rw [hF] at ha3
      cases hset : p.set d (wipeE en (slots own)) with
      | none => rw [hset] at ha3; exact False.elim ha3
      | some en' =>
        rw [hset] at ha3
        refine gPt_ok hv hp ((he.ext g2.ext).wipe (slots own)) r2 hset fun σ2 he2 w2 => ⟨w2.trans (wipe_wipe _ _), ?_⟩
        refine ⟨ρ, en', S, he2, s2, (Aft.bind ha3).imp (fun ρ3 H3 S3 b x3 s3 h3 => ?_) fun _ _ _ _ _ z => z.elim⟩
        have g3 := g2.go x3 s3
        cases b with
        | false =>
          have h4 := Aft.here (a := none) h3 s3
          exact ⟨_, rfl, hl, ρ3, S3, acc, vs, g3, h4⟩
        | true =>
          refine ⟨ρ3, en', S3, he2.ext x3, s3, (Aft.bind h3).imp (fun ρ4 H4 S4 z x4 s4 h4 => ?_) fun _ _ _ _ _ z => z.elim⟩
          intro v rv
          have g4 := g3.go x4 s4
          have h5 := Aft.here (a := some z) h4 s4
          simp only at h5
          split at h5
          · rename_i hz
            exact ⟨vs, g4.at_, by rw [← sl_eq, ← g4.rep.length]; exact hz, _, rfl, hl, ρ4, S4, acc ++ [z], vs ++ [v], g4.push hD rv, h5⟩
          · exact aft_stuck h5
    · exact aft_stuck ha
  · have e : i = src.its.length := by omega
    subst e
    rw [List.drop_length, lcL] at ha
    split at ha
    · rename_i ok
      refine .inl ⟨(hJ ρ H S g.ext.kp g.rs ok _).2 (Nat.le_refl _), ?_⟩
      obtain ⟨f1, f2, f3⟩ := g.fin hD
      exact hP _ _ _ _ _ (ha _ _ f1 f2) f3
    · exact aft_stuck ha
/-- one item of the outer one of two -/
noncomputable def lcF1 (p1 : Pt) (vs1 : List Nat) (me : En → Sto → R D) (en' : En) (d1 : D) (S : Sto) : R D := match p1.set d1 (wipeE en' vs1) with
  | some en'' => me en'' S
  | none => .stuck
noncomputable def lcF2 (p : Pt) (vs : List Nat) (m1 : En → Sto → R Src) (p1 : Pt) (vs1 : List Nat) (me : En → Sto → R D) (en : En) (d : D) (acc : List D) (S : Sto) : R (List D) :=
  (match p.set d (wipeE en vs) with
    | some en' => (m1 en' S).bind fun s1 S => lcL1 s1 (lcF1 p1 vs1 me en') s1.its acc S
    | none => .stuck).noex
theorem lc2_run {N : List Str} {sc rs : Scope} {own own1 : List (Str × Nat)} {vs1 : List Nat} {p p1 : Pt} {tg tg1 : PySem.Expr} {σ : L2.St} {en : En} {S : Sto} {src : Src} {J : L2.It} {m1 : En → Sto → R Src} {me : En → Sto → R D} {P : List Addr → Hp → Sto → D → Prop} {PX : Xc → List Addr → Hp → Sto → Prop} {Q : V → Hp → Prop}
    (hp : chkP N sc rs own p tg = true) (hp1 : chkP N sc rs own1 p1 tg1 = true) (hv1 : ∀ q ∈ own1, q.2 ∈ vs1) (he : RelE K ρ1 H1 en σ) (hs : RelS K cl ρ1 H1 S) (hJ : ItOk K cl ρ1 H1 J src)
    (h : Aft K cl ρ1 H1 ((lcL2 src (lcF2 p (slots own) m1 p1 vs1 me en) src.its [] S).bind fun acc S => .ok (.ref S.length) (S ++ [.lst acc])) P PX)
    (hP : ∀ ρ H S d v, P ρ H S d → Rep K ρ H d v → Q v H) (D : Addr) (hD : H1 D = none) :
    ∃ Wf : Nat → Nat → Hp → Prop, (∃ m, Wf 0 m (upd H1 D (.lst []))) ∧ ∀ i m H, Wf i m H →
      (J.stop i H ∧ Q (.ref D) H) ∨ (J.go i H ∧ ∃ Nx : Hp → Prop, (∀ H', Nx H' → ∃ m', m' < m ∧ Wf (i + 1) m' H') ∧ ∀ x H', J.yld i H x H' → gPt K p x (wipe σ (slots own)) H' fun σ2 H2 => wipe σ2 (slots own) = wipe σ (slots own) ∧ tYes σ2 H2 fun b H3 =>
        if b = true then tI K cl W0 m1 σ2 H3 fun J1 H4 => ∃ W1 : Nat → Nat → Hp → Prop, (∃ m, W1 0 m H4) ∧ ∀ j k H, W1 j k H →
          (J1.stop j H ∧ Nx H) ∨ (J1.go j H ∧ ∃ Nx1 : Hp → Prop, (∀ H', Nx1 H' → ∃ k', k' < k ∧ W1 (j + 1) k' H') ∧ ∀ x H', J1.yld j H x H' → gPt K p1 x (wipe σ2 vs1) H' fun σ3 H5 => wipe σ3 vs1 = wipe σ2 vs1 ∧ tYes σ3 H5 fun b H6 =>
            if b = true then tE K cl W0 me σ3 H6 fun y H7 => ∃ acc, H7 D = some (.lst acc) ∧ acc.length < sizeLine ∧ Nx1 (upd H7 D (.lst (acc ++ [y]))) else Nx1 H6)
        else Nx H3) := by
  have hv : ∀ q ∈ own, q.2 ∈ slots own := fun q hq => List.mem_map.mpr ⟨q, hq, rfl⟩
  generalize hF : lcF2 p (slots own) m1 p1 vs1 me en = F at h
  let Wf : Nat → Nat → Hp → Prop := fun i m H => m = src.its.length - i ∧ i ≤ src.its.length ∧ ∃ ρ S acc vs, Grow K cl ρ1 H1 D acc ρ S vs H ∧
    Aft K cl ρ1 H1 ((lcL2 src F (src.its.drop i) acc S).bind fun acc S => .ok (.ref S.length) (S ++ [.lst acc])) P PX
  refine ⟨Wf, ⟨_, rfl, Nat.zero_le _, ρ1, S, [], [], Grow.start hs hD, by rw [List.drop_zero]; exact h⟩, ?_⟩
  rintro i m H ⟨rfl, hi, ρ, S, acc, vs, g, ha⟩
  by_cases hl : i < src.its.length
  · refine .inr ?_
    obtain ⟨d, hd⟩ : ∃ d, src.its[i]? = some d := ⟨_, List.getElem?_eq_getElem hl⟩
    rw [drop_cons hd, lcL2] at ha
    split at ha
    · rename_i ok
      obtain ⟨go, yl⟩ := (hJ ρ H S g.ext.kp g.rs ok i).1 d hd
      refine ⟨go, fun H' => ∃ m, Wf (i + 1) m H', fun H' ⟨m', w⟩ => ⟨m', by rw [w.1]; omega, w⟩, fun x H2 y => ?_⟩
      obtain ⟨x2, s2, r2⟩ := yl x H2 y
      have g2 := g.go x2 s2
      rw [R.bind_assoc, ← hF] at ha
      have ha3 := (Aft.bind0 ha).noex
      rw [hF] at ha3
      cases hset : p.set d (wipeE en (slots own)) with
      | none => rw [hset] at ha3; exact False.elim ha3
      | some en' =>
        rw [hset] at ha3
        refine gPt_ok hv hp ((he.ext g2.ext).wipe (slots own)) r2 hset fun σ2 he2 w2 => ⟨w2.trans (wipe_wipe _ _), ?_⟩
        simp only [tYes, if_true]
        refine ⟨ρ, en', S, he2, s2, (Aft.ext (Aft.bind0 ha3) g2.ext).imp (fun ρ4 H4 S4 s1 x4 s4 h4 => ?_) fun _ _ _ _ _ z => z.elim⟩
        intro J1 hJ1
        have g4 := g2.go x4 s4
        let W1 : Nat → Nat → Hp → Prop := fun j k H => k = s1.its.length - j ∧ j ≤ s1.its.length ∧ ∃ ρ S acc vs, Grow K cl ρ1 H1 D acc ρ S vs H ∧ Kp K ρ4 H4 ρ H ∧
          Aft K cl ρ1 H1 (lcL1 s1 (lcF1 p1 vs1 me en') (s1.its.drop j) acc S) (fun _ _ S acc => Aft K cl ρ1 H1 ((lcL2 src F (src.its.drop (i + 1)) acc S).bind fun acc S => .ok (.ref S.length) (S ++ [.lst acc])) P PX) fun _ _ _ _ => False
        refine ⟨W1, ⟨_, rfl, Nat.zero_le _, ρ4, S4, acc, vs, g4, Kp.refl, by rw [List.drop_zero]; exact h4⟩, ?_⟩
        rintro j k H5 ⟨rfl, hj, ρ5, S5, acc5, vs5, g5, kp5, ha5⟩
        by_cases hl5 : j < s1.its.length
        · refine .inr ?_
          obtain ⟨d1, hd1⟩ : ∃ d1, s1.its[j]? = some d1 := ⟨_, List.getElem?_eq_getElem hl5⟩
          rw [drop_cons hd1, lcL1] at ha5
          split at ha5
          · rename_i ok5
            obtain ⟨go5, yl5⟩ := (hJ1 ρ5 H5 S5 kp5 g5.rs ok5 j).1 d1 hd1
            refine ⟨go5, fun H' => ∃ m, W1 (j + 1) m H', fun H' ⟨m', w⟩ => ⟨m', by rw [w.1]; omega, w⟩, fun x H6 y => ?_⟩
            obtain ⟨x6, s6, r6⟩ := yl5 x H6 y
            have g6 := g5.go x6 s6
            have kp6 := kp5.trans x6.kp
            have ha6 := Aft.ext (Aft.bind0 ha5) g6.ext
            have he6 : RelE K ρ5 H6 en' σ2 := (he2.ext x4).mono kp6
            unfold lcF1 at ha6
            cases hset1 : p1.set d1 (wipeE en' vs1) with
            | none => rw [hset1] at ha6; exact False.elim ha6
            | some en'' =>
              rw [hset1] at ha6
              refine gPt_ok hv1 hp1 (he6.wipe vs1) r6 hset1 fun σ3 he7 w7 => ⟨w7.trans (wipe_wipe _ _), ?_⟩
              refine ⟨ρ5, en'', S5, he7, s6, ha6.imp (fun ρ8 H8 S8 z x8 s8 h8 => ?_) fun _ _ _ _ _ z => z.elim⟩
              intro v rv
              have g8 := g6.go x8 s8
              split at h8
              · rename_i hz
                exact ⟨vs5, g8.at_, by rw [← sl_eq, ← g8.rep.length]; exact hz, _, rfl, hl5, ρ8, S8, acc5 ++ [z], vs5 ++ [v], g8.push hD rv, (kp6.trans x8.kp).trans (Kp.other g8.at_), h8⟩
              · exact aft_stuck h8
          · exact aft_stuck ha5
        · have e : j = s1.its.length := by omega
          subst e
          rw [List.drop_length, lcL1] at ha5
          split at ha5
          · rename_i ok5
            refine .inl ⟨(hJ1 ρ5 H5 S5 kp5 g5.rs ok5 _).2 (Nat.le_refl _), ?_⟩
            have h9 := ha5 _ _ g5.ext g5.rs
            exact ⟨_, rfl, hl, ρ5, S5, acc5, vs5, g5, h9⟩
          · exact aft_stuck ha5
    · exact aft_stuck ha
  · have e : i = src.its.length := by omega
    subst e
    rw [List.drop_length, lcL2] at ha
    split at ha
    · rename_i ok
      refine .inl ⟨(hJ ρ H S g.ext.kp g.rs ok _).2 (Nat.le_refl _), ?_⟩
      obtain ⟨f1, f2, f3⟩ := g.fin hD
      exact hP _ _ _ _ _ (ha _ _ f1 f2) f3
    · exact aft_stuck ha
end
end Ev
end
section
set_option Elab.async false
set_option linter.all false
set_option maxRecDepth 100000
set_option maxHeartbeats 4000000
set_option autoImplicit false
/-! Ev9b: what is walked: a text, a list or a tuple by its value; enumerate of a tuple. -/
namespace Ev
open PySem PySem.Spec PyProof.Rows L2

section
variable {X : Cx} {tg : PySem.Expr}
/-- a list, a tuple, a text -/
def iSeqV (K : PySem.W.Frag) (R : L2.It → Hp → Prop) (x : V) (H : Hp) : Prop :=
  (∃ a xs, x = .ref a ∧ SqL K H a xs ∧ R (Itl K a) H) ∨ (∃ a xs, x = .ref a ∧ SqT K H a xs ∧ R (Itt K a) H) ∨ ∃ z, x = .str z ∧ R (Its z) H
theorem pi_seq {e : PySem.Expr} {te : TE} (he : PE X e te) : PI X tg e (fun σ H R => te σ H fun x H1 => iSeqV X.K R x H1) := by
  refine ⟨fun pins s σ H R I h => ?_⟩
  refine thn (he.run pins s σ H _ I h) fun v s1 ⟨x, H1, I1, r1, q1⟩ => ?_
  rcases q1 with ⟨a, xs, ex, hq, q⟩ | ⟨a, xs, ex, hq, q⟩ | ⟨z, ex, q⟩
  · subst ex
    cases r1
    obtain ⟨its, rv, p, hz⟩ := I1.list hq
    refine wpAny_pyIter_list p.isList ?_
    exact pi_one (tk := s1.toks) I1 _ (turn_list a _) ⟨_, Heap.get?_push_size _ rfl, rfl, rfl⟩ q
  · subst ex
    cases r1
    obtain ⟨its, rv, p, hz⟩ := I1.tuple hq
    refine wpAny_pyIter_tuple (show s1.heap.IsTuple a its.toArray from p) ?_
    exact pi_one (tk := s1.toks) I1 _ (turn_tuple a _) ⟨_, Heap.get?_push_size _ rfl, rfl, rfl⟩ q
  · subst ex
    obtain ⟨t, rfl⟩ := r1
    cases ha : z.cps.all (· < 128)
    · exact wpAny_pyIter_wide ha (pi_one (tk := s1.toks) I1 _ (turn_str _ z t "str_iterator" (.inr rfl)) ⟨_, Heap.get?_push_size _ rfl, rfl, rfl⟩ q)
    · exact wpAny_pyIter_ascii ha (pi_one (tk := s1.toks) I1 _ (turn_str _ z t "str_ascii_iterator" (.inl rfl)) ⟨_, Heap.get?_push_size _ rfl, rfl, rfl⟩ q)
end

/-! ### enumerate of a tuple -/
section
variable {prog : Program} {w : World} {A : Around} {E : Value → Shared → Prop} {s : Shared}
theorem enumT_end {e it l : Addr} {i : Nat} {items : Array Value} {old : Value} {Q : Option Value → Shared → Prop} (hh : A.handled = none)
    (he : IsEnum s.heap e it i old) (hit : s.heap.IsTupleIter it l i) (hl : s.heap.IsTuple l items) (hx : items[i]? = none)
    (hQ : ∀ h', Heap.ExtBut it s.heap h' → Q none { s with heap := h' }) : wpAny (model prog w) A (pyNext (.ref e)) Q E s := by
  have hT : s.TypeIs (.ref e) "enumerate" := ⟨_, he, rfl⟩
  unfold pyNext
  refine wpAny_bind (wpAny_attempt (wpAny_callSpecial?_slot (name := Str.ofString "__next__") hT F.slot_enumerate_next
    (wpAny_call_entry F.slot_enumerate_next hT F.entry_enumerate_next ?_ (F.args_enumerate_next_1 _))))
  show wpAny _ _ (field (.ref e) 2 >>= _) _ _ _
  refine wpAny_bind (wpAny_field he rfl (x := .ref it) rfl ?_)
  refine wpAny_bind (wpAny_nextOf_tuple_end hh hit hl hx fun h' x he' hx' => ?_)
  obtain ⟨o, ho, hc⟩ := hx'
  refine wpAny_bind (wpAny_isInstance (T := "StopIteration") (b := true) ⟨o, ho, hc⟩ isSubtype_stop ?_)
  exact wpAny_pure (hQ _ he')
end
theorem meets_enumT {v : Value} {o : Obj} {H : Heap → Prop} (B : Begins v o H) :
    Meets (Builtin.«enumerate.__new__» ⟨[.type "enumerate", v], []⟩) (fun _ R s => H s.heap ∧
      R (.ok (.ret (.ref (s.heap.push o).objs.size))) { s with heap := (s.heap.push o).push { cls := .type "enumerate", data := .fields #[.none, .bool false, .ref s.heap.objs.size, rawInt 0, .none, .none] } }) :=
  .of_wp fun prog w A R s h => by
    obtain ⟨hp, g, d, tk, os⟩ := s; obtain ⟨h1, h⟩ := h
    have hsub := sub_enumerate
    have q1 : ∀ {A' : Around} {E : Value → Shared → Prop} {Q : Value → Shared → Prop}, Q (.ref hp.objs.size) ⟨hp.push o, g, d, tk, os⟩ → wpAny (model prog w) A' (pyIter v) Q E ⟨hp, g, d, tk, os⟩ :=
      fun q => B.iter prog w _ _ ⟨hp, g, d, tk, os⟩ _ h1 q
    wp_walk using q1
    refine wpAny_stack_any fun st => wpAny_pure ?_
    split
    · rename_i c _ _ _ _ _
      cases (c == Value.type "enumerate")
      · wp_walk using q1
        exact ⟨_, rfl, h⟩
      · wp_walk using q1
        exact ⟨_, rfl, h⟩
    · wp_walk using q1
      exact ⟨_, rfl, h⟩
section
variable {prog : Program} {w : World} {A : Around} {E : Value → Shared → Prop} {s : Shared}
theorem call_enumT {l : Addr} {items : Array Value} {Q : Value → Shared → Prop} (hL : s.heap.IsTuple l items)
    (h : ∀ h', IsEnum h' (s.heap.objs.size + 1) s.heap.objs.size 0 .none → h'.IsTupleIter s.heap.objs.size l 0 → h'.objs.size = s.heap.objs.size + 2 →
      (∀ b o, s.heap.get? b = some o → h'.get? b = some o) → Q (.ref (s.heap.objs.size + 1)) { s with heap := h' }) :
    wpAny (model prog w) A (call (.type "enumerate") [.ref l]) Q E s := by
  refine callType_new F.called_enumerate (by decide) (F.typeCall_enumerate_1 _) (F.newCall_enumerate_1 _) (fun obj => F.args_object_init_2 obj _) F.entry_enumerate_new
    (meets_enumT (begins_tuple l items)) ⟨hL, ?_⟩
  generalize ho : ({ cls := .type "tuple_iterator", data := .fields #[.ref l, .int 0 0] } : Obj) = o
  have hfree : o.isFreed = false := by rw [← ho]; rfl
  have hz : (s.heap.push o).objs.size = s.heap.objs.size + 1 := Heap.size_push ..
  show _ ∧ _
  rw [hz]
  have he : IsEnum ((s.heap.push o).push { cls := .type "enumerate", data := .fields #[.none, .bool false, .ref s.heap.objs.size, rawInt 0, .none, .none] }) (s.heap.objs.size + 1) s.heap.objs.size 0 .none := by
    have := Heap.get?_push_size (s.heap.push o) (o := { cls := .type "enumerate", data := .fields #[.none, .bool false, .ref s.heap.objs.size, rawInt 0, .none, .none] }) rfl
    rw [hz] at this; exact this
  refine ⟨⟨_, he, rfl⟩, h _ he ⟨_, Heap.get?_push_of_some _ (Heap.get?_push_size _ hfree), by rw [← ho], by rw [← ho]; rfl⟩ (by rw [Heap.size_push, hz]) fun b o x => Heap.get?_push_of_some _ (Heap.get?_push_of_some _ x)⟩
end
def IteT (K : PySem.W.Frag) (a : Addr) : L2.It :=
  ⟨fun i H => ∃ (xs : List V) (x : V), SqT K H a xs ∧ xs[i]? = some x, fun i H v H' => ∃ T x, v = .ref T ∧ H T = none ∧ H' = upd H T (.tup [.int (i : Nat), x]) ∧ ∀ xs, SqT K H a xs → xs[i]? = some x, fun i H => ∃ xs : List V, SqT K H a xs ∧ xs.length ≤ i⟩
theorem turn_enumT {P : Program} {w : World} {K : PySem.W.Frag} {elts : List PySem.Expr} {kk : Nat} {tpos : Pos} (a e it : Addr) (hat : a ≠ it) (hae : a ≠ e) :
    Turn P w K (.Tuple elts kk tpos) (IteT K a) [e, it] e (fun i h => (∃ old, IsEnum h e it ((i : Nat) : Int) old) ∧ h.IsTupleIter it a i ∧ e ≠ it) where
  mem := by simp
  obj := fun i h st b hb => by
    obtain ⟨⟨old, he⟩, ⟨o, ho, hc, hd⟩, _⟩ := st
    have e' : b = e ∨ b = it := by simpa using hb
    rcases e' with z | z
    · rw [z]; exact ⟨_, he, fun v q => nomatch q⟩
    · rw [z]; exact ⟨o, ho, fun v q => by rw [hd] at q; cases q⟩
  keep := fun i h h' st k => let ⟨⟨old, he⟩, hi, hne⟩ := st; ⟨⟨old, k e (by simp) _ he⟩, hi.at fun o q => k it (by simp) o q, hne⟩
  item := by
    intro X hP hw hK hc i pins s σ H E I hf st hg
    subst hP hw hK
    obtain ⟨⟨old, he⟩, hit, hne⟩ := st
    obtain ⟨xs, x, hq, hx⟩ := hg
    obtain ⟨its, rv, p, hz⟩ := I.tuple hq
    obtain ⟨u, hu, ru⟩ := rv.get hx
    have hel : e < s.heap.objs.size := Heap.lt_size he
    have hil : it < s.heap.objs.size := by obtain ⟨_, q, _⟩ := hit; exact Heap.lt_size q
    have hlt : i < its.toArray.size := by
      have := (List.getElem?_eq_some_iff.mp hu).1
      simpa using this
    have D := Draws.tuple (prog := X.prog) (w := X.w) (A := X.A.in1) (I.ok.hd hc) it a hat its.toArray
    refine wpAny_pyNext_enum_itemC (c := ((i : Nat) : Int)) D he ⟨hit, p⟩ hlt hne (by simp [hne, Ne.symm hae]) fun x' h' tk hPx ho st' hT hsz hk => ?_
    have ex : x' = u := by
      have h1 : its.toArray[i]? = some x' := hPx
      rw [List.getElem?_toArray] at h1
      rw [hu] at h1
      cases h1
      rfl
    subst ex
    refine ⟨_, rfl, wpAny_letOwnedTupleGo_enum (s := { s with heap := h', toks := tk + 1 }) ho fun h'' he' sb => ?_⟩
    have hT2 : h''.get? s.heap.objs.size = some { cls := .type "tuple", data := .seq #[.int i tk, x'] } := (sb.2 _ (Nat.ne_of_gt hel)).trans hT
    have new : ObjOk X.prog X.w (upd H s.heap.objs.size (.tup [.int (i : Nat), x])) h'' s.heap.objs.size (.tup [.int (i : Nat), x]) :=
      ⟨by show 2 ≤ sizeLine; decide, [.int i tk, x'], .cons ⟨_, rfl⟩ (.cons ru .nil), ⟨_, hT2, rfl, _, rfl⟩⟩
    have I1 : Inv X pins σ (upd H s.heap.objs.size (.tup [.int (i : Nat), x])) { s with heap := h'', toks := tk + 1 } :=
      I.turnedNew (ch := [e, it]) (fun b ob hb q => (sb.2 b (fun z => hb (by simp [z]))).trans (hk b ob (fun z => hb (by simp [z])) (fun z => hb (by simp [z])) q)) hf (Nat.le_refl _) new
    refine ⟨.ref s.heap.objs.size, _, I1, rfl, ⟨_, x, rfl, I.hok.fresh (Nat.le_refl _), rfl, fun ys hy => by rw [I.tuple_inj hy hq]; exact hx⟩, ⟨⟨x', ?_⟩, st'.1.at fun o q => (sb.2 it (Ne.symm hne)).trans q, hne⟩, fun b hb => ?_⟩
    · have e1 : ((i + 1 : Nat) : Int) = (i : Int) + 1 := by omega
      rw [e1]; exact he'
    · have hb' : b < s.heap.objs.size := by
        have e' : b = e ∨ b = it := by simpa using hb
        rcases e' with z | z
        · rw [z]; exact hel
        · rw [z]; exact hil
      rw [upd_ne (Nat.ne_of_lt hb')]
      exact (hf b hb).1
  done := by
    intro X hP hw hK hc i pins s σ H E I hf st hg
    subst hP hw hK
    obtain ⟨⟨old, he⟩, hit, hne⟩ := st
    obtain ⟨xs, hq, hx⟩ := hg
    obtain ⟨its, rv, p, hz⟩ := I.tuple hq
    have hl := rv.length
    have hge : its.toArray.size ≤ i := by simp; omega
    exact enumT_end (I.ok.hd hc) he hit p (by simp; omega) fun h' eb => ⟨rfl, I.turnedL (t' := s.toks) (ch := [e, it]) (fun b o hb q => eb b o (fun z => hb (by simp [z])) q) hf⟩
  self := fun A i s Q E st h => let ⟨⟨_, he⟩, _⟩ := st; wpAny_pyIter_enum he h

def iEnumV (K : PySem.W.Frag) (ta : TA) : TI := fun σ H R => ta σ H fun vs H1 => ∃ a xs, vs = [.ref a] ∧ ((SqL K H1 a xs ∧ R (Ite K a) H1) ∨ (SqT K H1 a xs ∧ R (IteT K a) H1))
theorem pi_enumV {X : Cx} {e : PySem.Expr} {ta : TA} {p pos tpos : Pos} {elts : List PySem.Expr} {kk : Nat} (hg : Gl X "enumerate") (hm : X.mg "enumerate" = none) (ha : PA X [e] ta) (hs : starEach [e] X.env = [(false, eval e X.env)] := by rfl) :
    PI X (.Tuple elts kk tpos) (.Call (.Name "enumerate" p) [e] [] pos) (iEnumV X.K ta) := by
  refine ⟨fun pins s σ H R I h => ?_⟩
  refine Call_ (ld_blt I hg hm boot_enumerate (PyProof.Rows.callWith_type1 (thn (ha.run pos pins s σ H _ I h) fun us s1 ⟨vs, H1, I1, r1, q1⟩ => ?_) hs rfl))
  obtain ⟨a, xs, ex, q1⟩ := q1
  subst ex
  cases r1 with
  | cons r rr =>
    cases rr
    cases r
    have fresh : ∀ b, b ∈ [s1.heap.objs.size + 1, s1.heap.objs.size] → FpOk X pins H1 b := fun b hb => by
      have e' : b = s1.heap.objs.size + 1 ∨ b = s1.heap.objs.size := by simpa using hb
      have hle : s1.heap.objs.size ≤ b := by
        rcases e' with z | z
        · rw [z]; exact Nat.le_succ _
        · rw [z]; exact Nat.le_refl _
      exact I1.fpOk hle (I1.hok.fresh hle)
    rcases q1 with ⟨hq, q⟩ | ⟨hq, q⟩
    · obtain ⟨its, rv, p', hz⟩ := I1.list hq
      refine call_enumerate_list p'.isList fun h' he hit hsz hk => wpAny_pyIter_enum he ?_
      have I2 : Inv X pins σ H1 { s1 with heap := h' } := I1.kept (t' := s1.toks) hk
      exact ⟨s1.heap.objs.size + 1, [s1.heap.objs.size + 1, s1.heap.objs.size], _, _, H1, rfl, I2, turn_enum a (s1.heap.objs.size + 1) s1.heap.objs.size, ⟨⟨.none, he⟩, hit, Nat.succ_ne_self _⟩, fresh, q⟩
    · obtain ⟨its, rv, p', hz⟩ := I1.tuple hq
      obtain ⟨o, ho, _⟩ := id p'
      have hlt : a < s1.heap.objs.size := Heap.lt_size ho
      refine call_enumT (show s1.heap.IsTuple a its.toArray from p') fun h' he hit hsz hk => wpAny_pyIter_enum he ?_
      have I2 : Inv X pins σ H1 { s1 with heap := h' } := I1.kept (t' := s1.toks) hk
      exact ⟨s1.heap.objs.size + 1, [s1.heap.objs.size + 1, s1.heap.objs.size], _, _, H1, rfl, I2, turn_enumT a (s1.heap.objs.size + 1) s1.heap.objs.size (Nat.ne_of_lt hlt) (Nat.ne_of_lt (Nat.lt_succ_of_lt hlt)), ⟨⟨.none, he⟩, hit, Nat.succ_ne_self _⟩, fresh, q⟩
end Ev
end
section
set_option Elab.async false
set_option linter.all false
set_option maxRecDepth 100000
set_option maxHeartbeats 4000000
set_option autoImplicit false
/-! Ev9c: enumerate, zip: what is walked. -/
namespace Ev
open PySem PySem.Spec PyProof.Rows L2

section
variable {K : PySem.W.Frag} {cl : Cl} {ρ : List Addr} {H : Hp} {S : Sto}
theorem enumD_get (xs : List D) (i : Nat) : (enumD xs)[i]? = xs[i]?.map fun d => .tup [.int (i : Nat), d] := by
  unfold enumD
  rw [List.getElem?_map, List.getElem?_zipIdx]
  cases xs[i]? <;> simp
theorem enumD_len (xs : List D) : (enumD xs).length = xs.length := by unfold enumD; simp
theorem pair_laid {ρ1 : List Addr} {H1 : Hp} {S1 : Sto} (s1 : RelS K cl ρ1 H1 S1) {T : Addr} (hT : H1 T = none) {a b : D} {v w : V} (ra : Rep K ρ1 H1 a v) (rb : Rep K ρ1 H1 b w) :
    Ext ρ1 H1 ρ1 (upd H1 T (.tup [v, w])) ∧ RelS K cl ρ1 (upd H1 T (.tup [v, w])) S1 ∧ Rep K ρ1 (upd H1 T (.tup [v, w])) (.tup [a, b]) (.ref T) := by
  obtain ⟨x, s⟩ := s1.laid (u := .tup [v, w]) hT
  exact ⟨x, s, .tup (.inl (.inl (upd_same ..))) (.cons (ra.ext x) (.cons (rb.ext x) .nil))⟩
theorem ItOk.enumL {a : Addr} {xs : List D} {live : List (Nat × List D)}
    (h : ∀ ρ1 H1 S1, Kp K ρ H ρ1 H1 → RelS K cl ρ1 H1 S1 → (∀ p ∈ live, lstOf S1 (.ref p.1) = some p.2) → ∃ vs, SqL K H1 a vs ∧ RepL K ρ1 H1 xs vs) : ItOk K cl ρ H (Ite K a) ⟨enumD xs, live⟩ := by
  intro ρ1 H1 S1 x1 s1 ok i
  obtain ⟨vs, h2, h3⟩ := h ρ1 H1 S1 x1 s1 ok
  refine ⟨fun d hd => ?_, fun hl => ⟨vs, h2, by rw [← h3.length]; rw [enumD_len] at hl; exact hl⟩⟩
  replace hd : (enumD xs)[i]? = some d := hd
  rw [enumD_get] at hd
  cases q : xs[i]? with
  | none => rw [q] at hd; cases hd
  | some c =>
    rw [q] at hd
    cases hd
    obtain ⟨v, g1, g2⟩ := h3.get q
    refine ⟨⟨vs, v, h2, g1⟩, fun y H2 ⟨T, z, e1, e2, e3, e4⟩ => ?_⟩
    have := e4 vs h2
    rw [g1] at this
    cases this
    subst e1
    subst e3
    exact pair_laid s1 e2 (.int _) g2
theorem ItOk.enumT {a : Addr} {xs : List D} {vs : List V} (h : SqT K H a vs) (r : RepL K ρ H xs vs) : ItOk K cl ρ H (IteT K a) ⟨enumD xs, []⟩ := by
  intro ρ1 H1 S1 x1 s1 ok i
  have h2 := x1.sqT _ _ h
  have h3 := r.mono x1
  refine ⟨fun d hd => ?_, fun hl => ⟨vs, h2, by rw [← h3.length]; rw [enumD_len] at hl; exact hl⟩⟩
  replace hd : (enumD xs)[i]? = some d := hd
  rw [enumD_get] at hd
  cases q : xs[i]? with
  | none => rw [q] at hd; cases hd
  | some c =>
    rw [q] at hd
    cases hd
    obtain ⟨v, g1, g2⟩ := h3.get q
    refine ⟨⟨vs, v, h2, g1⟩, fun y H2 ⟨T, z, e1, e2, e3, e4⟩ => ?_⟩
    have := e4 vs h2
    rw [g1] at this
    cases this
    subst e1
    subst e3
    exact pair_laid s1 e2 (.int _) g2
theorem zipD_get (xs ys : List D) (i : Nat) {d : D} (h : (zipD xs ys)[i]? = some d) : ∃ x y, xs[i]? = some x ∧ ys[i]? = some y ∧ d = .tup [x, y] := by
  unfold zipD at h
  rw [List.getElem?_map] at h
  cases q : (xs.zip ys)[i]? with
  | none => rw [q] at h; cases h
  | some p =>
    rw [q] at h
    cases h
    obtain ⟨h1, h2⟩ := List.getElem?_zip_eq_some.mp q
    exact ⟨_, _, h1, h2, rfl⟩
theorem ItOk.zipL {a b : Addr} {xs ys : List D} {live : List (Nat × List D)}
    (h : ∀ ρ1 H1 S1, Kp K ρ H ρ1 H1 → RelS K cl ρ1 H1 S1 → (∀ p ∈ live, lstOf S1 (.ref p.1) = some p.2) → (∃ vs, SqL K H1 a vs ∧ RepL K ρ1 H1 xs vs) ∧ ∃ vs, SqL K H1 b vs ∧ RepL K ρ1 H1 ys vs) : ItOk K cl ρ H (Itz K a b) ⟨zipD xs ys, live⟩ := by
  intro ρ1 H1 S1 x1 s1 ok i
  obtain ⟨⟨vs, h2, h3⟩, ws, k2, k3⟩ := h ρ1 H1 S1 x1 s1 ok
  refine ⟨fun d hd => ?_, fun hl => ⟨vs, ws, h2, k2, ?_⟩⟩
  · obtain ⟨c, e, q1, q2, rfl⟩ := zipD_get _ _ _ hd
    obtain ⟨v, g1, g2⟩ := h3.get q1
    obtain ⟨w, g3, g4⟩ := k3.get q2
    refine ⟨⟨vs, ws, v, w, h2, k2, g1, g3⟩, fun y H2 ⟨T, z, z', e1, e2, e3, e4, e5⟩ => ?_⟩
    have t1 := e4 vs h2
    rw [g1] at t1
    cases t1
    have t2 := e5 ws k2
    rw [g3] at t2
    cases t2
    subst e1
    subst e3
    exact pair_laid s1 e2 g2 g4
  · rw [← h3.length, ← k3.length]
    have : (zipD xs ys).length ≤ i := hl
    unfold zipD at this
    rw [List.length_map, List.length_zip] at this
    omega
theorem ItOk.zipT {a b : Addr} {xs ys : List D} {vs ws : List V} (h : SqT K H a vs) (r : RepL K ρ H xs vs) (k : SqT K H b ws) (rk : RepL K ρ H ys ws) : ItOk K cl ρ H (RZ.ItzT K a b) ⟨zipD xs ys, []⟩ := by
  intro ρ1 H1 S1 x1 s1 ok i
  have h2 := x1.sqT _ _ h
  have h3 := r.mono x1
  have k2 := x1.sqT _ _ k
  have k3 := rk.mono x1
  refine ⟨fun d hd => ?_, fun hl => ⟨vs, ws, h2, k2, ?_⟩⟩
  · obtain ⟨c, e, q1, q2, rfl⟩ := zipD_get _ _ _ hd
    obtain ⟨v, g1, g2⟩ := h3.get q1
    obtain ⟨w, g3, g4⟩ := k3.get q2
    refine ⟨⟨vs, ws, v, w, h2, k2, g1, g3⟩, fun y H2 ⟨T, z, z', e1, e2, e3, e4, e5⟩ => ?_⟩
    have t1 := e4 vs h2
    rw [g1] at t1
    cases t1
    have t2 := e5 ws k2
    rw [g3] at t2
    cases t2
    subst e1
    subst e3
    exact pair_laid s1 e2 g2 g4
  · rw [← h3.length, ← k3.length]
    have : (zipD xs ys).length ≤ i := hl
    unfold zipD at this
    rw [List.length_map, List.length_zip] at this
    omega

/-! ### what srcSeq, srcEnum, srcZip name -/
theorem v_srcSeq {a : D} {v : V} {src : Src} {R : L2.It → Hp → Prop} (s : RelS K cl ρ H S) (r : Rep K ρ H a v) (e : srcSeq a S = some src) (q : ∀ J, ItOk K cl ρ H J src → R J H) : iSeqV K R v H := by
  cases a with
  | str l =>
    cases r
    cases e
    exact .inr (.inr ⟨_, rfl, q _ ItOk.str⟩)
  | tup xs =>
    cases r with
    | tup h1 h2 =>
      cases e
      exact .inr (.inl ⟨_, _, rfl, h1, q _ (ItOk.tup h1 h2)⟩)
  | fl xs =>
    cases r with
    | fl h1 h2 =>
      cases e
      exact .inl ⟨_, _, rfl, h1.l, q _ (ItOk.listF h1 h2)⟩
  | ref n =>
    replace e : (lstOf S (.ref n)).map (fun xs => (⟨xs, [(n, xs)]⟩ : Src)) = some src := e
    cases z : lstOf S (.ref n) with
    | none => rw [z] at e; cases e
    | some xs =>
      rw [z] at e
      cases e
      obtain ⟨p, vs, rfl, h1, h2⟩ := lstOf_rep s z r
      cases r with
      | ref h => exact .inl ⟨_, _, rfl, h1, q _ (ItOk.list s h)⟩
  | _ => cases e
theorem v_liveOf {a : D} {v : V} {xs : List D} {live : List (Nat × List D)} (s : RelS K cl ρ H S) (r : Rep K ρ H a v) (e : liveOf a S = some (xs, live)) :
    ∃ p, v = .ref p ∧ (∃ vs, SqL K H p vs) ∧ (∀ p ∈ live, lstOf S (.ref p.1) = some p.2) ∧ ∀ ρ1 H1 S1, Kp K ρ H ρ1 H1 → RelS K cl ρ1 H1 S1 → (∀ p ∈ live, lstOf S1 (.ref p.1) = some p.2) → ∃ vs, SqL K H1 p vs ∧ RepL K ρ1 H1 xs vs := by
  cases a with
  | fl ys =>
    cases r with
    | fl h1 h2 =>
      cases e
      exact ⟨_, rfl, ⟨_, h1.l⟩, (fun p hp => by cases hp), fun ρ1 H1 S1 x s1 _ => ⟨_, (x.sqF _ _ h1).l, h2.mono x⟩⟩
  | ref n =>
    replace e : (lstOf S (.ref n)).map (fun xs => (xs, [(n, xs)])) = some (xs, live) := e
    cases z : lstOf S (.ref n) with
    | none => rw [z] at e; cases e
    | some ys =>
      rw [z] at e
      cases e
      obtain ⟨p, vs, rfl, h1, h2⟩ := lstOf_rep s z r
      cases r with
      | ref h =>
        refine ⟨_, rfl, ⟨_, h1⟩, (fun q hq => by rw [List.mem_singleton.mp hq]; exact z), fun ρ1 H1 S1 x s1 hl => ?_⟩
        have e0 := hl (n, xs) (List.mem_cons_self ..)
        obtain ⟨p', ws, e1, g2, g3⟩ := lstOf_rep s1 e0 (.ref (x.get _ _ h))
        cases e1
        exact ⟨ws, g2, g3⟩
  | _ => cases e
theorem v_srcEnum {a : D} {v : V} {src : Src} {R : L2.It → Hp → Prop} (s : RelS K cl ρ H S) (r : Rep K ρ H a v) (e : srcEnum a S = some src) (q : ∀ J, ItOk K cl ρ H J src → R J H) :
    ∃ p vs, v = .ref p ∧ ((SqL K H p vs ∧ R (Ite K p) H) ∨ (SqT K H p vs ∧ R (IteT K p) H)) := by
  have go : ∀ {xs live}, liveOf a S = some (xs, live) → src = ⟨enumD xs, live⟩ → ∃ p vs, v = .ref p ∧ ((SqL K H p vs ∧ R (Ite K p) H) ∨ (SqT K H p vs ∧ R (IteT K p) H)) := fun {xs live} e1 e2 => by
    obtain ⟨p, rfl, ⟨vs, h1⟩, _, h2⟩ := v_liveOf s r e1
    subst e2
    exact ⟨p, vs, rfl, .inl ⟨h1, q _ (ItOk.enumL h2)⟩⟩
  cases a with
  | tup xs =>
    cases r with
    | tup h1 h2 =>
      cases e
      exact ⟨_, _, rfl, .inr ⟨h1, q _ (ItOk.enumT h1 h2)⟩⟩
  | fl xs => cases e; exact go rfl rfl
  | ref n =>
    replace e : (lstOf S (.ref n)).map (fun xs => (⟨enumD xs, [(n, xs)]⟩ : Src)) = some src := e
    cases z : lstOf S (.ref n) with
    | none => rw [z] at e; cases e
    | some xs => rw [z] at e; cases e; exact go (live := [(n, xs)]) (by show (lstOf S (.ref n)).map (fun xs => (xs, [(n, xs)])) = _; rw [z]; rfl) rfl
  | _ => cases e
theorem v_srcZip {a b : D} {v w : V} {src : Src} {R : L2.It → Hp → Prop} (s : RelS K cl ρ H S) (ra : Rep K ρ H a v) (rb : Rep K ρ H b w) (e : srcZip a b S = some src) (q : ∀ J, ItOk K cl ρ H J src → R J H) :
    ∃ p p' xs ys, [v, w] = [.ref p, .ref p'] ∧ ((SqL K H p xs ∧ SqL K H p' ys ∧ R (Itz K p p') H) ∨ (SqT K H p xs ∧ SqT K H p' ys ∧ R (RZ.ItzT K p p') H)) := by
  have go : ((liveOf a S).bind fun p => (liveOf b S).map fun q => (⟨zipD p.1 q.1, p.2 ++ q.2⟩ : Src)) = some src → ∃ p p' xs ys, [v, w] = [.ref p, .ref p'] ∧ ((SqL K H p xs ∧ SqL K H p' ys ∧ R (Itz K p p') H) ∨ (SqT K H p xs ∧ SqT K H p' ys ∧ R (RZ.ItzT K p p') H)) := fun e => by
    cases z : liveOf a S with
    | none => rw [z] at e; cases e
    | some x =>
      cases z' : liveOf b S with
      | none => rw [z, z'] at e; cases e
      | some y =>
        rw [z, z'] at e
        cases e
        obtain ⟨p, rfl, ⟨vs, h1⟩, _, h2⟩ := v_liveOf s ra z
        obtain ⟨p', rfl, ⟨vs', h1'⟩, _, h2'⟩ := v_liveOf s rb z'
        exact ⟨p, p', vs, vs', rfl, .inl ⟨h1, h1', q _ (ItOk.zipL fun ρ1 H1 S1 x s1 hl => ⟨h2 ρ1 H1 S1 x s1 fun p hp => hl p (List.mem_append_left _ hp), h2' ρ1 H1 S1 x s1 fun p hp => hl p (List.mem_append_right _ hp)⟩)⟩⟩
  cases a with
  | tup xs =>
    cases b with
    | tup ys =>
      cases ra with
      | tup h1 h2 =>
        cases rb with
        | tup k1 k2 =>
          cases e
          exact ⟨_, _, _, _, rfl, .inr ⟨h1, k1, q _ (ItOk.zipT h1 h2 k1 k2)⟩⟩
    | _ => exact go e
  | _ => exact go e
end
end Ev
end
section
set_option Elab.async false
set_option linter.all false
set_option maxRecDepth 100000
set_option maxHeartbeats 4000000
set_option autoImplicit false
/-! Ev9d: keywords, built-ins' names. -/
namespace Ev
open PySem PySem.Spec PyProof.Rows L2

/-! ### keywords, names of built-ins -/
theorem kw_names {env : Env} {pos : Pos} : ∀ kws : List Keyword, (backToKw pos (keywordEach kws env)).map (·.1) = kwN kws
  | [] => rfl
  | ⟨n, v, p⟩ :: r => congrArg (n :: ·) (kw_names r)
theorem kw_facts {env : Env} {pos : Pos} {kws : List Keyword} {ks : List Str} (h : ks.map some = kwN kws) :
    (backToKw pos (keywordEach kws env)).all (·.1.isSome) = true ∧ (backToKw pos (keywordEach kws env)).filterMap (·.1) = ks ∧ (backToKw pos (keywordEach kws env)).any (·.1.isNone) = false := by
  have e := (kw_names (env := env) (pos := pos) kws).trans h.symm
  clear h
  generalize backToKw pos (keywordEach kws env) = l at e
  induction l generalizing ks with
  | nil => cases ks with
    | nil => exact ⟨rfl, rfl, rfl⟩
    | cons a b => cases e
  | cons p l ih =>
    cases ks with
    | nil => cases e
    | cons a b =>
      simp only [List.map_cons, List.cons.injEq] at e
      obtain ⟨e1, e2⟩ := e
      obtain ⟨i1, i2, i3⟩ := ih e2
      refine ⟨by simp [e1, i1], ?_, by simp [e1, i3]⟩
      rw [List.filterMap_cons, e1]
      simp [i2]
theorem bi_name (b : Bi) : (biN b : Str) ≠ "__name__" ∧ ((biN b : Str) == ("__debug__" : Str)) = false := by
  cases b with
  | isin t => cases t <;> exact ⟨by decide, by decide⟩
  | _ => exact ⟨by decide, by decide⟩
theorem bi_boot (b : Bi) (h : b ≠ .gcd) : bootBuiltins (biN b : Str) = some (biV b).v := by
  cases b with
  | gcd => exact absurd rfl h
  | isin t => cases t <;> decide +kernel
  | _ => decide +kernel
theorem ty_boot (t : Ty) : bootBuiltins (tyN t : Str) = some (.type (tyN t)) := by cases t <;> decide +kernel
theorem chk_bi {T : Tbl} {N : List Str} {sc : Scope} {b : Bi} {es : Es} {pe : PySem.Expr} (h : chkE T N sc (.bi b es) pe = true) : ∃ x p ps pos, pe = .Call (.Name x p) ps [] pos ∧
    ((∃ t a pa y py, b = .isin t ∧ es = .cons a .nil ∧ ps = [pa, .Name y py] ∧ (decide (x = ("isinstance" : Str)) && (decide (y = (tyN t : Str)) && ((glB sc x && glB sc y) && (plN y && (notStar pa && chkE T N sc a pa))))) = true) ∨
    (!isIsin b && (decide (x = (biN b : Str)) && (glB sc x && (decide (es.len ≠ 0) && (es.plain && chkEs T N sc es ps))))) = true) := by
  cases pe with
  | Call pf ps kws pos =>
    cases pf with
    | Name x p =>
      cases kws with
      | nil =>
        refine ⟨x, p, ps, pos, rfl, ?_⟩
        unfold chkE at h
        split at h <;> first | (cases h; done) | (rename_i e _; cases e; done) | (rename_i e; cases e; done) | skip
        · rename_i e1 e2
          cases e1
          cases e2
          exact .inl ⟨_, _, _, _, _, rfl, rfl, rfl, h⟩
        · rename_i e1 e2
          cases e1
          cases e2
          exact .inr h
      | cons _ _ => unfold chkE at h; split at h <;> first | (cases h; done) | (rename_i e; cases e; done) | (rename_i e _; cases e; done) | skip
    | _ => unfold chkE at h; split at h <;> first | (cases h; done) | (rename_i e; cases e; done) | (rename_i e _; cases e; done) | skip
  | _ => unfold chkE at h; split at h <;> first | (cases h; done) | (rename_i e; cases e; done) | (rename_i e _; cases e; done) | skip
theorem kw_len : ∀ kws : List Keyword, (kwN kws).length = (kwV kws).length
  | [] => rfl
  | ⟨_, _, _⟩ :: r => congrArg Nat.succ (kw_len r)
theorem pm_len {α : Type} {l : List α} {pm : List Nat} (h : ∀ j ∈ pm, j < l.length) : (pm.filterMap fun j => l[j]?).length = pm.length := by
  induction pm with
  | nil => rfl
  | cons j r ih =>
    have hj := h j (List.mem_cons_self ..)
    rw [List.filterMap_cons, List.getElem?_eq_getElem hj]
    simp only [List.length_cons]
    rw [ih fun k hk => h k (List.mem_cons_of_mem _ hk)]
theorem RepL.perm {K : PySem.W.Frag} {ρ : List Addr} {H : Hp} {xs : List D} {vs : List V} (r : RepL K ρ H xs vs) : ∀ pm : List Nat, RepL K ρ H (pm.filterMap fun j => xs[j]?) (pm.filterMap fun j => vs[j]?)
  | [] => .nil
  | j :: pm => by
    rw [List.filterMap_cons, List.filterMap_cons]
    cases e : xs[j]? with
    | none =>
      have hv : vs[j]? = none := by rw [List.getElem?_eq_none_iff] at e ⊢; rw [← r.length]; exact e
      rw [hv]
      exact r.perm pm
    | some d =>
      obtain ⟨v, g1, g2⟩ := r.get e
      rw [g1]
      exact .cons g2 (r.perm pm)
theorem _root_.L2.PK.weak {X : Cx} {e : List Keyword} {t t' : TA} (h : PK X e t') (f : ∀ σ H Q, t σ H Q → t' σ H Q) : PK X e t := ⟨fun pos pins s σ H Q I q => h.run pos pins s σ H Q I (f _ _ _ q)⟩
section
variable {T : Tbl} {N : List Str} {sc : Scope} {p tg : PySem.Expr}
theorem chk_seq {a : E} (h : chkI T N sc (.seq a) p tg = true) : (notSet p && chkE T N sc a p) = true := h
theorem chk_r1 {a : E} (h : chkI T N sc (.rng1 a) p tg = true) : ∃ x pn pa pos, p = .Call (.Name x pn) [pa] [] pos ∧ (decide (x = ("range" : Str)) && (glB sc x && (notStar pa && chkE T N sc a pa))) = true := by
  unfold chkI at h
  split at h <;> first | (cases h; done) | (rename_i e; cases e; done) | (rename_i e _; cases e; done) | skip
  rename_i e
  cases e
  exact ⟨_, _, _, _, rfl, h⟩
theorem chk_r2 {a b : E} (h : chkI T N sc (.rng2 a b) p tg = true) : ∃ x pn pa pb pos, p = .Call (.Name x pn) [pa, pb] [] pos ∧ (decide (x = ("range" : Str)) && (glB sc x && ((notStar pa && notStar pb) && (chkE T N sc a pa && chkE T N sc b pb)))) = true := by
  unfold chkI at h
  split at h <;> first | (cases h; done) | (rename_i e; cases e; done) | (rename_i e _; cases e; done) | skip
  rename_i e
  cases e
  exact ⟨_, _, _, _, _, rfl, h⟩
theorem chk_r3 {a b c : E} (h : chkI T N sc (.rng3 a b c) p tg = true) : ∃ x pn pa pb pc pos, p = .Call (.Name x pn) [pa, pb, pc] [] pos ∧ (decide (x = ("range" : Str)) && (glB sc x && ((notStar pa && (notStar pb && notStar pc)) && (chkE T N sc a pa && (chkE T N sc b pb && chkE T N sc c pc))))) = true := by
  unfold chkI at h
  split at h <;> first | (cases h; done) | (rename_i e; cases e; done) | (rename_i e _; cases e; done) | skip
  rename_i e
  cases e
  exact ⟨_, _, _, _, _, _, rfl, h⟩
theorem chk_en {a : E} (h : chkI T N sc (.enum a) p tg = true) : ∃ x pn pa pos, p = .Call (.Name x pn) [pa] [] pos ∧ (decide (x = ("enumerate" : Str)) && (glB sc x && ((notStar pa && isTup tg) && chkE T N sc a pa))) = true := by
  unfold chkI at h
  split at h <;> first | (cases h; done) | (rename_i e; cases e; done) | (rename_i e _; cases e; done) | skip
  rename_i e
  cases e
  exact ⟨_, _, _, _, rfl, h⟩
theorem chk_zp {a b : E} (h : chkI T N sc (.zip a b) p tg = true) : ∃ x pn pa pb pos, p = .Call (.Name x pn) [pa, pb] [] pos ∧ (decide (x = ("zip" : Str)) && (glB sc x && ((notStar pa && (notStar pb && isTup tg)) && (chkE T N sc a pa && chkE T N sc b pb)))) = true := by
  unfold chkI at h
  split at h <;> first | (cases h; done) | (rename_i e; cases e; done) | (rename_i e _; cases e; done) | skip
  rename_i e
  cases e
  exact ⟨_, _, _, _, _, rfl, h⟩
theorem chkI_fold {it : It} (h : chkI T N sc it p tg = true) {env : Env} : ∀ x, foldedSetIterable p env x = pure x := by
  cases it with
  | seq a => exact fold_set (ba (chk_seq h)).1
  | rng1 a => obtain ⟨_, _, _, _, rfl, _⟩ := chk_r1 h; exact fun _ => rfl
  | rng2 a b => obtain ⟨_, _, _, _, _, rfl, _⟩ := chk_r2 h; exact fun _ => rfl
  | rng3 a b c => obtain ⟨_, _, _, _, _, _, rfl, _⟩ := chk_r3 h; exact fun _ => rfl
  | enum a => obtain ⟨_, _, _, _, rfl, _⟩ := chk_en h; exact fun _ => rfl
  | zip a b => obtain ⟨_, _, _, _, _, rfl, _⟩ := chk_zp h; exact fun _ => rfl
theorem chk_lc {own : List (Str × Nat)} {elt : E} {pt : Pt} {it : It} {c : Oe} (h : chkE T N sc (.lc own elt pt it c) p = true) : ∃ pelt ptg pit pifs scope pos, p = .ListComp pelt [⟨ptg, pit, pifs, 0⟩] scope pos ∧
    (blkC N sc scope own && (chkP N scope (relB scope sc) own pt ptg && (chkI T N sc it pit ptg && (chkC T.nolam N (relB scope sc) c pifs && chkE T.nolam N (relB scope sc) elt pelt)))) = true := by
  unfold chkE at h
  split at h <;> first | (cases h; done) | (rename_i e; cases e; done) | (rename_i e _; cases e; done) | skip
  rename_i e1 e2
  cases e1
  cases e2
  exact ⟨_, _, _, _, _, _, rfl, h⟩
theorem chk_lc2 {own : List (Str × Nat)} {own1 : List Nat} {elt : E} {pt p1 : Pt} {it it1 : It} (h : chkE T N sc (.lc2 own own1 elt pt it p1 it1) p = true) : ∃ pelt ptg pit ptg1 pit1 scope pos, p = .ListComp pelt [⟨ptg, pit, [], 0⟩, ⟨ptg1, pit1, [], 0⟩] scope pos ∧
    ((blkC N sc scope own && own1.all fun i => (own.map (·.2)).contains i) &&
      ((chkP N scope (relB scope sc) own pt ptg && chkP N scope (relB scope sc) (own.filter fun q => own1.contains q.2) p1 ptg1) && ((chkI T N sc it pit ptg && chkI T.nolam N (relB scope sc) it1 pit1 ptg1) && chkE T.nolam N (relB scope sc) elt pelt))) = true := by
  unfold chkE at h
  split at h <;> first | (cases h; done) | (rename_i e; cases e; done) | (rename_i e _; cases e; done) | skip
  rename_i e1 e2
  cases e1
  cases e2
  exact ⟨_, _, _, _, _, _, _, rfl, h⟩
end
end Ev
end
section
set_option Elab.async false
set_option linter.all false
set_option maxRecDepth 100000
set_option maxHeartbeats 4000000
set_option autoImplicit false
/-! Ev9e: a lambda is made, and called in the def that got it. -/
namespace Ev
open PySem PySem.Spec PyProof.Rows L2 LamX

theorem among_snoc {at_ p1 : Pos} {new cv : Value} (l : List Value) (h : TriplesOk l) (e : codeAmong p1 (l ++ [rawInt at_.line, rawInt at_.col, new]) = some cv) : codeAmong p1 l = some cv ∨ cv = new := among_app l h e
section
variable {X : Cx} {pins : List (Addr × Obj)} {σ : L2.St} {H : Hp} {s : Shared}
/-- a table grows by a new code object, that is known from now on -/
theorem inv_tab {P c : Addr} {oc : Obj} {old more : Array Value} {h' : Heap} {t' : Nat} (I : Inv X pins σ H s) (hP : H P = some (.tbl old)) (kp : ∀ b o, b ≠ P → s.heap.get? b = some o → h'.get? b = some o)
    (tb : h'.get? P = some { cls := .none, data := .fields (old ++ more) }) (new : s.heap.objs.size ≤ c) (hoc : h'.get? c = some oc) :
    Inv X pins σ (upd (upd H P (.tbl (old ++ more))) c (.frz oc (.own 0))) { s with heap := h', toks := t' } := by
  have c0 : H c = none := I.hok.fresh new
  have Pc : P ≠ c := ne_of_none hP c0
  have other : ∀ b, b ≠ P → b ≠ c → upd (upd H P (.tbl (old ++ more))) c (.frz oc (.own 0)) b = H b := fun b g1 g2 => (upd_ne g2).trans (upd_ne g1)
  have here : upd (upd H P (.tbl (old ++ more))) c (.frz oc (.own 0)) P = some (.tbl (old ++ more)) := (upd_ne Pc).trans upd_same
  have noP : ∀ b u, H b = some u → (∀ z, u ≠ .tbl z) → b ≠ P := fun b u e n z => by
    subst z
    exact n old (Option.some.inj (e.symm.trans hP))
  have noP0 : ∀ b, H b = none → b ≠ P := fun b e z => by
    subst z
    exact nomatch e.symm.trans hP
  have noC : ∀ b o, s.heap.get? b = some o → b ≠ c := fun b o e z => by
    subst z
    exact Nat.lt_irrefl _ (Nat.lt_of_lt_of_le (Heap.lt_size e) new)
  have noC2 : ∀ b u, H b = some u → b ≠ c := fun b u e => ne_of_none e c0
  refine I.step (d' := s.drawn) (g' := s.gens) (ch := []) (fun b z => nomatch z) (fun b o _ _ _ e n => kp b o (noP0 b n) e) (fun b o _ _ _ e n => ⟨o.slots, kp b o (noP0 b n) e⟩) (fun b o _ e n => (other b (noP0 b n) (noC b o e)).trans n) (fun b o _ e => ?_)
    (fun b xs e => (other b (noP b _ e fun _ z => nomatch z) (noC2 b _ e)).trans e) (fun b o u e => (other b (noP b _ e fun _ z => nomatch z) (noC2 b _ e)).trans e) (fun b z e => ?_) (fun m hm => ?_) (fun b u e => ?_) I.bare
  · rcases Decidable.em (b = P) with z | z
    · exact ⟨_, by rw [z]; exact tb⟩
    · exact ⟨o, kp b o z e⟩
  · rcases Decidable.em (b = P) with y | y
    · subst y
      cases hP.symm.trans e
      exact ⟨more, here⟩
    · exact ⟨#[], by rw [other b y (noC2 b _ e), e]; simp⟩
  · obtain ⟨ob, es, ep, q, r⟩ := hm
    exact ⟨ob, es, ep, kp _ ob (noP0 _ I.free) q, r⟩
  · rcases Decidable.em (b = c) with z | z
    · subst z
      cases upd_same.symm.trans e
      exact ⟨hoc, oc, hoc⟩
    · rcases Decidable.em (b = P) with y | y
      · subst y
        cases here.symm.trans e
        exact tb
      · have e' := (other b y z).symm.trans e
        refine (I.hok b u e').stay (fun d v hd q => kp d v (fun zz => ?_) q) (fun d q => (other d (noP d _ q fun _ z => nomatch z) (noC2 d _ q)).trans q) fun d xs q => (other d (noP d _ q fun _ z => nomatch z) (noC2 d _ q)).trans q
        subst zz
        rcases hd with hd | hd
        · exact y hd.symm
        · cases hP.symm.trans hd
/-- an Inv, a thing laid anew that is known to the object -/
theorem inv_known {o : Obj} {t' : Nat} (I : Inv X pins σ H s) (hf : o.isFreed = false := by rfl) : Inv X pins σ (upd H s.heap.objs.size (.frz o (.own 0))) { s with heap := s.heap.push o, toks := t' } := by
  have e : (s.heap.push o).get? s.heap.objs.size = some o := Heap.get?_push_size _ hf
  exact I.laid (a := s.heap.objs.size) (fun b u q => Heap.get?_push_of_some _ q) (Nat.le_refl _) ⟨e, o, e⟩
/-- a lambda is made: its code object is new, or it stands in the table -/
theorem lam_new {c P : Addr} {q : Str} {ag : Arguments} {pb : PySem.Expr} {scope : Scope} {pos : Pos} {E : Value → Shared → Prop} {Q : Value → Shared → Prop} (I : Inv X pins σ H s) (TB : TabB X.base X.mg c P) (hcode : X.env.code = .ref c) (hq : X.env.qual ++ "<lambda>" = q)
    (hT : TabO H P q) (hdef : defaultsOf ag X.env = ([], [])) (hfree : ∀ y ∈ scope.names, y.2 = .free → ∃ c, X.env.cells.lookup y.1 = some c)
    (h : ∀ (g c' : Addr) (oc : Obj) (u : HO) (pm ctv : Value) (H1 : Hp) (s' : Shared), Inv X pins σ H1 s' → (∀ b v, b ≠ P → H b = some v → H1 b = some v) → TabO H1 P q → H g = none →
      H1 g = some (.frz (PySem.W.kla_obj "<lambda>" q ag pb scope (cloFrom X.env.cells scope.names []) pm c' ctv) (.own 0)) → H1 c' = some (.frz oc u) → CodeN q oc → Q (.ref g) s') :
    wpAny (model X.prog X.w) X.A (eval (.Lambda ag pb scope pos) X.env) Q E s := by
  subst hq
  obtain ⟨old, hP, ht, hall⟩ := hT
  refine PySem.W.kla_eval hdef ?_
  have bP := TB.bm.keeps (h' := s.heap) I.bk
  have atP : s.heap.get? P = some { cls := .none, data := .fields old } := I.hok P _ hP
  rcases hc : codeAmong pos old.toList with _ | cv
  · refine PySem.W.kla_makeFunction (c := c) (P := P) (mg := X.mg) (ps := old) (closure_ok hfree) I.ok.glob (I.mod.glob.keeps I.bk) hcode (TB.code.keeps I.bk) atP ht hc TB.gP bP fun c' ctv h' tk hx hge hlt hrec htb => ?_
    obtain ⟨c2, oc, vs, t, e2, hoc, hd, hv⟩ := hrec
    cases e2
    have I1 := inv_tab (t' := tk) (old := old) (more := #[rawInt pos.line, rawInt pos.col, .ref c']) I hP (fun b o hb e => hx b o hb e) htb hge hoc
    have c0 : H c' = none := I.hok.fresh hge
    have Pc : P ≠ c' := ne_of_none hP c0
    have g0 : upd (upd H P (.tbl (old ++ #[rawInt pos.line, rawInt pos.col, .ref c']))) c' (.frz oc (.own 0)) h'.objs.size = none := I1.hok.fresh (Nat.le_refl _)
    have I2 := inv_known (o := PySem.W.kla_obj "<lambda>" (X.env.qual ++ "<lambda>") ag pb scope (cloFrom X.env.cells scope.names []) ((X.mg "__name__").getD .none) c' ctv) (t' := tk) I1
    have keep : ∀ b v, b ≠ P → H b = some v → upd (upd (upd H P (.tbl (old ++ #[rawInt pos.line, rawInt pos.col, .ref c']))) c' (.frz oc (.own 0))) h'.objs.size (.frz (PySem.W.kla_obj "<lambda>" (X.env.qual ++ "<lambda>") ag pb scope (cloFrom X.env.cells scope.names []) ((X.mg "__name__").getD .none) c' ctv) (.own 0)) b = some v := fun b v hb e => by
      have e1 : upd (upd H P (.tbl (old ++ #[rawInt pos.line, rawInt pos.col, .ref c']))) c' (.frz oc (.own 0)) b = some v := (upd_ne (ne_of_none e c0)).trans ((upd_ne hb).trans e)
      exact (upd_ne (ne_of_none e1 g0)).trans e1
    have hcg : c' ≠ h'.objs.size := Nat.ne_of_lt hlt
    have hc1 : upd (upd (upd H P (.tbl (old ++ #[rawInt pos.line, rawInt pos.col, .ref c']))) c' (.frz oc (.own 0))) h'.objs.size (.frz (PySem.W.kla_obj "<lambda>" (X.env.qual ++ "<lambda>") ag pb scope (cloFrom X.env.cells scope.names []) ((X.mg "__name__").getD .none) c' ctv) (.own 0)) c' = some (.frz oc (.own 0)) := (upd_ne hcg).trans upd_same
    refine h h'.objs.size c' oc (.own 0) _ ctv _ _ I2 keep ?_ ?_ upd_same hc1 ⟨vs, t, hd, hv⟩
    · refine ⟨old ++ #[rawInt pos.line, rawInt pos.col, .ref c'], ?_, ?_, fun p1 cv hcv => ?_⟩
      · have e1 : upd (upd H P (.tbl (old ++ #[rawInt pos.line, rawInt pos.col, .ref c']))) c' (.frz oc (.own 0)) P = some (.tbl (old ++ #[rawInt pos.line, rawInt pos.col, .ref c'])) := (upd_ne Pc).trans upd_same
        exact (upd_ne (ne_of_none e1 g0)).trans e1
      · rw [Array.toList_append]
        exact PySem.TriplesOk_snoc _ _ _ _ ht
      · rw [Array.toList_append] at hcv
        rcases among_snoc (at_ := pos) (new := .ref c') _ ht hcv with z | z
        · obtain ⟨c0', o0, u0, r1, r2, r3⟩ := hall p1 cv z
          refine ⟨c0', o0, u0, r1, keep c0' _ (fun zz => ?_) r2, r3⟩
          subst zz
          cases hP.symm.trans r2
        · exact ⟨c', oc, .own 0, z, hc1, vs, t, hd, hv⟩
    · cases e : H h'.objs.size with
      | none => rfl
      | some v =>
        rcases Decidable.em (h'.objs.size = P) with z | z
        · have q := Heap.lt_size htb
          rw [← z] at q
          exact absurd q (Nat.lt_irrefl _)
        · have e1 : upd (upd H P (.tbl (old ++ #[rawInt pos.line, rawInt pos.col, .ref c']))) c' (.frz oc (.own 0)) h'.objs.size = some v := (upd_ne (ne_of_none e c0)).trans ((upd_ne z).trans e)
          exact nomatch e1.symm.trans g0
  · obtain ⟨c', oc, u, rfl, hco, hn⟩ := hall pos cv hc
    refine PySem.W.kla_makeFunctionHit (c := c) (P := P) (mg := X.mg) (ps := old) (closure_ok hfree) I.ok.glob (I.mod.glob.keeps I.bk) hcode (TB.code.keeps I.bk) atP ht hc bP fun ctv h' tk hx hsz => ?_
    have I1 : Inv X pins σ H { s with heap := h', toks := tk } := I.kept fun b o e => hx b o e
    have I2 := inv_known (o := PySem.W.kla_obj "<lambda>" (X.env.qual ++ "<lambda>") ag pb scope (cloFrom X.env.cells scope.names []) ((X.mg "__name__").getD .none) c' ctv) (t' := tk) I1
    have g0 : H h'.objs.size = none := I1.hok.fresh (Nat.le_refl _)
    have keep : ∀ b v, H b = some v → upd H h'.objs.size (.frz (PySem.W.kla_obj "<lambda>" (X.env.qual ++ "<lambda>") ag pb scope (cloFrom X.env.cells scope.names []) ((X.mg "__name__").getD .none) c' ctv) (.own 0)) b = some v := fun b v e => (upd_ne (ne_of_none e g0)).trans e
    refine h h'.objs.size c' oc u _ ctv _ _ I2 (fun b v _ e => keep b v e) ⟨old, keep _ _ hP, ht, fun p1 cv hcv => ?_⟩ g0 upd_same (keep _ _ hco) hn
    obtain ⟨c0', o0, u0, r1, r2, r3⟩ := hall p1 cv hcv
    exact ⟨c0', o0, u0, r1, keep _ _ r2, r3⟩
/-- the lambda called in the def that got it -/
theorem act_rule {g c' : Addr} {oc : Obj} {u : HO} {pm ctv : Value} {q : Str} {ag : Arguments} {pb : PySem.Expr} {scope : Scope} {k gp : Nat} {cl' : Cl} {m : En → Sto → R D} {en : En}
    (I : Inv X pins σ H s) (L : LamS X.env.scope scope) (hq : X.env.qual ++ "<lambda>" = q) (hg : H g = some (.frz (PySem.W.kla_obj "<lambda>" q ag pb scope (cloFrom X.env.cells scope.names []) pm c' ctv) (.own 0))) (hc : H c' = some (.frz oc u)) (hn : CodeN q oc)
    (hbind : bindArgs (PySem.W.kla_fn "<lambda>" q ag pb scope (cloFrom X.env.cells scope.names []) pm (.ref c') ctv) ⟨[], []⟩ = pure []) (hgd : X.A.guards = some []) (hp : cl'.r0[gp]? = some g) (hh : cl'.h0 = H) (he : RelE X.K cl'.r0 H en σ)
    (hbody : ∀ (A : Around) (outer : List Env) (s2 : Shared) (H2 : Hp) (E2 : XK), Room k (A.deeper (lamEnv X scope s2.heap.objs.size g c')) → A.guards = some [] → PE (lamCx X A outer s2 H2 E2 scope g c') pb (tE X.K cl' (fun cls d _ H => E2 cls d H) m)) :
    ActRule X.prog X.w X.K X.mg X.base k X.A X.stack s H cl' gp fun S => m en S := by
  subst hq
  intro N qg sg fg cdg E pn xe W i a p1 p2 room tk hN hv hpl
  obtain ⟨z1, z2, _⟩ := pl_of hpl
  refine ⟨fun pinsZ sZ σZ HZ Q IZ h => ?_⟩
  obtain ⟨ρ, enZ, S, heZ, hsZ, aft⟩ := h
  replace aft : Aft X.K cl' ρ HZ (actM gp (fun S => m en S) i enZ S) (fun ρ' H' _ d => ∀ v, Rep X.K ρ' H' d v → Q v H') (fun x ρ' H' _ => ∀ cls d, XR X.K cl' ρ' H' x cls d → W cls d σZ H') := aft
  have slot : ∃ p : Nat, enZ[i]? = some (some (.ref p)) ∧ p = gp ∧ Aft X.K cl' ρ HZ (m en S) (fun ρ' H' _ d => ∀ v, Rep X.K ρ' H' d v → Q v H') (fun x ρ' H' _ => ∀ cls d, XR X.K cl' ρ' H' x cls d → W cls d σZ H') := by
    unfold actM at aft
    split at aft
    · rename_i p e
      split at aft
      · rename_i hpg
        refine ⟨p, ?_, hpg, aft⟩
        rw [List.getD_eq_getElem?_getD] at e
        cases y : enZ[i]? with
        | none => rw [y] at e; cases e
        | some o => rw [y] at e; exact congrArg some e
      · exact aft.elim
    · exact aft.elim
  obtain ⟨p, e1, rfl, aft2⟩ := slot
  obtain ⟨v0, hs0, rv0⟩ := heZ.get i _ e1
  have his := hsZ.his
  rw [hh] at his
  have hgZ := his.get p g hp
  have hgo := his.frz g _ _ hg
  have hco := his.frz c' _ _ hc
  have hv0 : v0 = .ref g := by
    cases rv0 with
    | ref y => rw [hgZ] at y; cases y; rfl
  subst hv0
  refine wpAny_Call_Name_kw (thn ((pe_var (pos := p1) (i := i) hN (vis_of hv) z1 z2).run pinsZ sZ σZ HZ (fun v H1 => v = .ref g ∧ H1 = HZ) IZ ⟨.ref g, hs0, rfl, rfl⟩) fun u0 s1 ⟨v, H1, I1, r1, q1⟩ => ?_)
  obtain ⟨ev0, eH⟩ := q1
  subst ev0
  subst eH
  cases (show u0 = Value.ref g from r1)
  obtain ⟨of1, _⟩ := I1.hok g _ hgo
  obtain ⟨oc1, _⟩ := I1.hok c' _ hco
  obtain ⟨vs, t, hdc, hvc⟩ := hn
  have un : Un (frs X.stack) [] H H1 s.heap s1.heap := I1.base
  refine PySem.W.callWith_F0 ⟨_, _, _, _, of1⟩ ?_
  have rc : codeAny (model X.prog X.w) (X.A.deeper (envOfC qg sg s.heap.objs.size fg cdg)) (.call (.ref g) ⟨[], []⟩) (CR (L2.CX X.prog X.w) (envOfC qg sg s.heap.objs.size fg cdg :: X.stack) X.prog X.w H1 s1 Q (fun cls d H' => W cls d σZ H')) s1 := by
    refine PySem.W.kla_callFunE room.depth of1 rfl L.co L.gen rfl ⟨c', oc, vs, t, rfl, oc1, hdc, hvc⟩ ?_
    rw [hbind]
    refine wpAny_pure (wpAny_newFunctionEnv (fun y hy => (L.own y hy).2) (fun y hy => nomatch hy) (fun h₁ hns hsb => ⟨I1.nolimit.fresh _ hsb, ?_⟩) L.kind)
    show codeAny _ _ (.expr pb (lamEnv X scope s1.heap.objs.size g c')) _ _
    have kp : ∀ b o, s1.heap.get? b = some o → h₁.get? b = some o := fun b o q => hsb.extBut b o (Nat.ne_of_lt (Heap.lt_size q)) (Heap.get?_push_of_some _ q)
    have J : Inv (lamCx X (X.A.deeper (envOfC qg sg s.heap.objs.size fg cdg)) (envOfC qg sg s.heap.objs.size fg cdg :: X.stack) s1 H1 (fun cls d H' => W cls d σZ H') scope g c') [] σ H1 { s1 with heap := h₁, toks := s1.toks + ([] : List (Str × Value)).length } :=
      lam_start2 I L I1.env0 room.hd un hns kp
    refine PySem.W.kla_codeExpr (wpAny_mono ((hbody _ _ s1 H1 _ (room.deeper _) hgd).run [] _ _ H1 Q J ⟨ρ, en, S, he.mono his, hsZ, aft2⟩) (fun v s' z => ?_) fun e s' z => z)
    obtain ⟨w', H', J', rv, z⟩ := z
    exact ⟨w', H', J'.os, J'.bare, J'.base, J'.hok, rv, z⟩
  refine wpAny_call (codeAny_mono rc fun r s' z => ?_)
  cases r with
  | error e => exact tk e s' (XE.of_call I1 (fun _ _ _ z => z) z)
  | ok fl =>
    cases fl with
    | ret u => exact I1.after z
    | next => exact False.elim z
    | brk => exact False.elim z
    | cont => exact False.elim z
end
end Ev
end
section
set_option Elab.async false
set_option linter.all false
set_option maxRecDepth 100000
set_option maxHeartbeats 4000000
set_option autoImplicit false
/-! Ev9f: methods, instances. -/
namespace Ev
open PySem PySem.Spec PyProof.Rows L2

theorem mth_call {P : Program} {w : World} {A : Around} {E : Value → Shared → Prop} {s : Shared} {env : Env} {o : PySem.Expr} {name : Str} {apos pos : Pos} {args : List PySem.Expr} {kws : List Keyword} {Q : Value → Shared → Prop} (hbase : attributeBase o name env (eval o env) = eval o env)
    (hform : methodCallForm (args.length + kws.length) (backTo pos (starEach args env)) (backToKw pos (keywordEach kws env)) = true) (hline : (apos.endLine == pos.line) = true)
    (h : wpAny (model P w) A (eval o env) (fun ov s1 => ∀ pl, wpAny (model P w) A (getMethod ov name pl) (fun fx s2 => wpAny (model P w) A (callWith pos fx.1 fx.2 (backTo pos (starEach args env)) (backToKw pos (keywordEach kws env))) Q E s2) E s1) E s) :
    wpAny (model P w) A (eval (.Call (.Attribute o name apos) args kws pos) env) Q E s := by
  rw [arm_eval_Call, hbase]
  refine wpAny_bind (wpAny_mono h (fun ov s1 h1 => wpAny_bind (wpAny_standAt ?_)) fun _ _ x => x)
  unfold methodCall
  rw [hform]
  have hpos : methodCallPos true o env apos pos = pure pos := by unfold methodCallPos; simp [hline]
  refine wpAny_bind (wpAny_holding ?_)
  unfold calleeOf
  rw [if_pos rfl]
  exact wpAny_mono (h1 _) (fun fx s2 h2 => wpAny_bind (wpAny_of_eq hpos h2)) fun _ _ x => x
theorem kwN_len : ∀ kws : List Keyword, (kwN kws).length = kws.length
  | [] => rfl
  | ⟨_, _, _⟩ :: r => congrArg Nat.succ (kwN_len r)
section
variable {K : PySem.W.Frag} {cl : Cl} {ρ : List Addr} {H : Hp} {S : Sto}
theorem lk_rep : ∀ {fs : List (Str × D)} {ws : List (Str × V)} {f : Str}, ws.map (·.1) = fs.map (·.1) → RepL K ρ H (fs.map (·.2)) (ws.map (·.2)) → (∀ d, fs.lookup f = some d → ∃ w, ws.lookup f = some w ∧ Rep K ρ H d w) ∧ (fs.lookup f = none → ws.lookup f = none)
  | [], [], f, _, _ => ⟨(fun d h => by simp at h), (fun _ => rfl)⟩
  | [], _ :: _, f, h, _ => by cases h
  | _ :: _, [], f, h, _ => by cases h
  | (x, d) :: fs, (y, w) :: ws, f, h, r => by
    simp only [List.map_cons, List.cons.injEq] at h
    obtain ⟨h1, h2⟩ := h
    subst h1
    simp only [List.map_cons] at r
    cases r with
    | cons r1 r2 =>
      obtain ⟨i1, i2⟩ := lk_rep (f := f) h2 r2
      by_cases e : f = y
      · subst e
        refine ⟨fun d' hd => ?_, fun hd => ?_⟩
        · simp [List.lookup] at hd
          subst hd
          exact ⟨w, by simp [List.lookup], r1⟩
        · simp [List.lookup] at hd
      · have e2 : (f == y) = false := by simpa using e
        refine ⟨fun d' hd => ?_, fun hd => ?_⟩
        · simp only [List.lookup, e2] at hd ⊢
          exact i1 d' hd
        · simp only [List.lookup, e2] at hd ⊢
          exact i2 hd
theorem ins_at {c : Nat} {m : Str} {x : D} {v : V} (hs : RelS K cl ρ H S) (r : Rep K ρ H x v) (h : isIns c m x S = true) : ∃ (p dx : Addr) (ws : List (Str × V)), v = .ref p ∧ H p = some (.ins (cl.ic c) dx ws) ∧ ws.lookup m = none := by
  unfold isIns at h
  split at h
  · rename_i n
    split at h
    · rename_i c' fs e
      obtain ⟨h1, h2⟩ := ba h
      have e1 : c' = c := of_decide_eq_true h1
      subst e1
      obtain ⟨a, g1, dx, ws, g2, g3, g4⟩ := hs.obs n _ e
      cases r with
      | ref y =>
        rw [g1] at y
        cases y
        exact ⟨a, dx, ws, rfl, g2, (lk_rep g3 g4).2 (by simpa using h2)⟩
    · cases h
  · cases h
theorem fld_at {c : Nat} {f : Str} {x d : D} {v : V} (hs : RelS K cl ρ H S) (r : Rep K ρ H x v) (h : fldD S x c f = some d) : ∃ (p dx : Addr) (ws : List (Str × V)) (w : V), v = .ref p ∧ H p = some (.ins (cl.ic c) dx ws) ∧ ws.lookup f = some w ∧ Rep K ρ H d w := by
  unfold fldD at h
  split at h
  · rename_i n
    split at h
    · rename_i c' fs e
      split at h
      · rename_i e1
        subst e1
        obtain ⟨a, g1, dx, ws, g2, g3, g4⟩ := hs.obs n _ e
        obtain ⟨w, w1, w2⟩ := (lk_rep g3 g4).1 d h
        cases r with
        | ref y =>
          rw [g1] at y
          cases y
          exact ⟨a, dx, ws, w, rfl, g2, w1, w2⟩
      · cases h
    · cases h
  · cases h
theorem put_rep {f : Str} {d : D} {w : V} (rd : Rep K ρ H d w) : ∀ {fs : List (Str × D)} {ws : List (Str × V)}, ws.map (·.1) = fs.map (·.1) → RepL K ρ H (fs.map (·.2)) (ws.map (·.2)) →
    (putF f w ws).map (·.1) = (putD f d fs).map (·.1) ∧ RepL K ρ H ((putD f d fs).map (·.2)) ((putF f w ws).map (·.2))
  | [], [], _, _ => ⟨rfl, .cons rd .nil⟩
  | [], _ :: _, h, _ => by cases h
  | _ :: _, [], h, _ => by cases h
  | (x, e) :: fs, (y, u) :: ws, h, r => by
    simp only [List.map_cons, List.cons.injEq] at h
    obtain ⟨h1, h2⟩ := h
    subst h1
    simp only [List.map_cons] at r
    cases r with
    | cons r1 r2 =>
      obtain ⟨i1, i2⟩ := put_rep rd h2 r2
      unfold putF putD
      by_cases e : y = f
      · rw [if_pos e, if_pos e]
        refine ⟨?_, ?_⟩
        · simp [h2]
        · simp only [List.map_cons]
          exact .cons rd r2
      · rw [if_neg e, if_neg e]
        refine ⟨?_, ?_⟩
        · show y :: _ = y :: _
          rw [i1]
        · simp only [List.map_cons]
          exact .cons r1 i2
theorem mk_sp {c np : Nat} {F : List D → Sto → R D} {xs : List D} {vs : List V} {Q : VK} {E : XK} (hs : RelS K cl ρ H S) (r : RepL K ρ H xs vs)
    (q : Aft K cl ρ H ((F (.ref S.length :: xs) (S ++ [.ins c []])).bind fun v S' => match v with
      | .non => .ok (.ref S.length) S'
      | _ => .stuck) (fun ρ' H' _ d => ∀ v, Rep K ρ' H' d v → Q v H') fun x ρ' H' _ => ∀ cls d, XR K cl ρ' H' x cls d → E cls d H')
    (hl : (V.ref 0 :: vs).length = np) {p dx : Addr} (hp : H p = none) (hdx : H dx = none) (hne : dx ≠ p) : spOf K cl.base np F (.ref p :: vs) (upd (upd H dx (.own p)) p (.ins (cl.ic c) dx [])) (fun v H2 => v = .non ∧ Q (.ref p) H2) E := by
  have kk : ∀ b u, H b = some u → upd (upd H dx (.own p)) p (.ins (cl.ic c) dx []) b = some u := fun b u e => (upd_ne (ne_of_none e hp)).trans ((upd_ne (ne_of_none e hdx)).trans e)
  obtain ⟨x, s'⟩ := hs.allocG (o := .ins c []) hp (fun b u e _ => kk b u e) (fun b _ u e => kk b u e) ⟨dx, [], upd_same, rfl, .nil⟩
  have r0 : Rep K (ρ ++ [p]) (upd (upd H dx (.own p)) p (.ins (cl.ic c) dx [])) (.ref S.length) (.ref p) := .ref (by rw [← hs.len]; simp)
  refine sp_of hl (.cons r0 (r.ext x)) s' ((Aft.ext (Aft.bind q) x).imp (fun ρ' H' S' a x1 s1 q1 => ?_) fun _ _ _ _ _ z => z)
  intro v rv
  cases a with
  | non =>
    cases rv
    exact ⟨rfl, (Aft.here (a := D.ref S.length) q1 s1) _ (r0.ext x1)⟩
  | _ => exact q1.elim
end
section
variable {T : Tbl} {G : Gm} {cl : Cl} {N : List Str} {n : Nat} {sc : Scope} {W : WX} {X : Cx}
theorem mth_of {f c k : Nat} {m : Str} (C : Cxt T G cl N n sc W X) (h : mthB T f c m k = true) : ∃ (fa : Addr) (fd : FuncData) (ps : List Str), T.mts[f - T.fns.length]? = some (c, m, ps) ∧ k + 1 = ps.length ∧ Meth X.K (cl.ic c) m fa ∧
    FnG X.prog X.w X.K X.mg X.base (4 * n + 34) fa fd ps (spOf X.K cl.base ps.length (G.fn f)) ∧ L2.Binds X.K fd ps [] ∧
    ∀ (m : Nat) (ks : List Str) (pm : List Nat), (f, m, ks, pm) ∈ T.kws → KBn X.K fd ps m ks (fun us ws => pm.filterMap fun j => (us ++ ws)[j]?) fun vs zs => pm.filterMap fun j => (vs ++ zs)[j]? := by
  obtain ⟨h1, h2⟩ := ba h
  have hf : T.fns.length ≤ f := of_decide_eq_true h1
  cases e : T.mts[f - T.fns.length]? with
  | none => rw [e] at h2; cases h2
  | some q =>
    obtain ⟨c', m', qs⟩ := q
    rw [e] at h2
    obtain ⟨h3, h4⟩ := ba h2
    obtain ⟨h5, h6⟩ := ba h4
    have e1 : c' = c := of_decide_eq_true h3
    have e2 : m' = m := of_decide_eq_true h5
    subst e1
    subst e2
    obtain ⟨fa, fd, g1, g2, g3, g4⟩ := C.tab.mts _ _ _ _ e
    rw [show T.fns.length + (f - T.fns.length) = f by omega] at g2 g4
    exact ⟨fa, fd, qs, rfl, of_decide_eq_true h6, g1, g2, g3, g4⟩
theorem run_m (C : Cxt T G cl N n sc W X) {F : List D → Sto → R D} {fa : Addr} {fd : FuncData} {ps : List Str} (FG : FnG X.prog X.w X.K X.mg X.base (4 * n + 34) fa fd ps (spOf X.K cl.base ps.length F)) (hb : L2.Binds X.K fd ps [])
    {pins : List (Addr × Obj)} {σ : L2.St} {H : Hp} {s : Shared} {Q : VK} {us : List Value} {vs : List V} (I : Inv X pins σ H s) (r : Vals vs us) (h : spOf X.K cl.base ps.length F vs H Q (fun cls d H' => W cls d σ H')) :
    wpAny (model X.prog X.w) X.A (call (.ref fa) us) (EP X pins σ Q) X.xe s := by
  have hl : (us ++ ([] : List Value)).length = ps.length := by rw [List.append_nil, ← r.length]; exact h.1
  have hb2 := hb s us I.kIn hl
  rw [List.append_nil] at hb2
  refine wpAny_call (codeAny_mono (FG.run X.A X.stack s H ⟨us, []⟩ us vs Q _ (C.room.mono (by omega)) C.gd I.env0 hb2 r h) fun r s' hq => ?_)
  cases r with
  | error e => exact C.tk e s' (XE.of_call I (fun _ _ _ z => z) hq)
  | ok fl =>
    cases fl with
    | ret u => exact I.after hq
    | next => exact False.elim hq
    | brk => exact False.elim hq
    | cont => exact False.elim hq
theorem run_mk (C : Cxt T G cl N n sc W X) {F : List D → Sto → R D} {fa : Addr} {fd : FuncData} {ps : List Str} {m : Nat} {ks : List Str} {pm : List Nat} (FG : FnG X.prog X.w X.K X.mg X.base (4 * n + 34) fa fd ps (spOf X.K cl.base ps.length F))
    (B : KBn X.K fd ps m ks (fun us ws => pm.filterMap fun j => (us ++ ws)[j]?) fun vs zs => pm.filterMap fun j => (vs ++ zs)[j]?) {pins : List (Addr × Obj)} {σ : L2.St} {H : Hp} {s : Shared} {Q : VK} {us ws : List Value} {vs zs : List V} (I : Inv X pins σ H s) (r : Vals vs us) (rz : Vals zs ws)
    (l1 : vs.length = m) (l2 : zs.length = ks.length) (h : spOf X.K cl.base ps.length F (pm.filterMap fun j => (vs ++ zs)[j]?) H Q (fun cls d H' => W cls d σ H')) : wpAny (model X.prog X.w) X.A (call (.ref fa) us (ks.zip ws)) (EP X pins σ Q) X.xe s := by
  refine wpAny_call (codeAny_mono (FG.run X.A X.stack s H ⟨us, ks.zip ws⟩ _ _ Q _ (C.room.mono (by omega)) C.gd I.env0 (B.to s us ws I.kIn (r.length.symm.trans l1) (rz.length.symm.trans l2)) (B.rel r rz) h) fun r s' hq => ?_)
  cases r with
  | error e => exact C.tk e s' (XE.of_call I (fun _ _ _ z => z) hq)
  | ok fl =>
    cases fl with
    | ret u => exact I.after hq
    | next => exact False.elim hq
    | brk => exact False.elim hq
    | cont => exact False.elim hq
/-- a new instance -/
theorem run_new (C : Cxt T G cl N n sc W X) {F : List D → Sto → R D} {c : Nat} {x : Str} (hx : T.ics[c]? = some x) {fa : Addr} {fd : FuncData} {ps : List Str} (Mt : Meth X.K (cl.ic c) "__init__" fa) (FG : FnG X.prog X.w X.K X.mg X.base (4 * n + 34) fa fd ps (spOf X.K cl.base ps.length F)) (hb : L2.Binds X.K fd ps [])
    {pins : List (Addr × Obj)} {σ : L2.St} {H : Hp} {s : Shared} {Q : VK} {us : List Value} {vs : List V} (I : Inv X pins σ H s) (r : Vals vs us)
    (h : ∀ p dx : Addr, H p = none → H dx = none → dx ≠ p → spOf X.K cl.base ps.length F (.ref p :: vs) (upd (upd H dx (.own p)) p (.ins (cl.ic c) dx [])) (fun v H2 => v = .non ∧ Q (.ref p) H2) (fun cls d H' => W cls d σ H')) :
    wpAny (model X.prog X.w) X.A (call (.ref (cl.ic c)) us) (EP X pins σ Q) X.xe s := by
  obtain ⟨_, _, _, mk, _⟩ := C.tab.ics c x hx
  have hq := h (s.heap.objs.size + 1) s.heap.objs.size (I.hok.fresh (Nat.le_succ _)) (I.hok.fresh (Nat.le_refl _)) (Nat.ne_of_lt (Nat.lt_succ_self _))
  have I2 := Inv.made (C := cl.ic c) I
  have r2 : Vals (V.ref (s.heap.objs.size + 1) :: vs) (Value.ref (s.heap.objs.size + 1) :: us) := .cons rfl r
  have hl : ((Value.ref (s.heap.objs.size + 1) :: us) ++ ([] : List Value)).length = ps.length := by
    rw [List.append_nil, ← r2.length]
    exact hq.1
  have hb2 := hb _ (Value.ref (s.heap.objs.size + 1) :: us) I2.kIn hl
  rw [List.append_nil] at hb2
  refine wpAny_call (make_map (f := fa) I.kIn mk Mt.at_ (beq_iff_eq.mp Mt.fn) (codeAny_mono (FG.run _ X.stack _ _ ⟨Value.ref (s.heap.objs.size + 1) :: us, []⟩ (Value.ref (s.heap.objs.size + 1) :: us) _ _ _ (Room.make (C.room.mono (by omega)) (cl.ic c) us [])
    C.gd (I2.env0.make (cl.ic c) us []) hb2 r2 hq) fun r s' hz => ?_))
  cases r with
  | error e => exact C.tk e s' (XE.of_call I2 (fun _ _ _ z => z) hz)
  | ok fl =>
    cases fl with
    | ret u =>
      obtain ⟨v, H', I3, rv, ev, q3⟩ := I2.after hz
      subst ev
      exact ⟨rv, V.ref (s.heap.objs.size + 1), H', I3, rfl, q3⟩
    | next => exact False.elim hz
    | brk => exact False.elim hz
    | cont => exact False.elim hz
end
end Ev
end
section
set_option Elab.async false
set_option linter.all false
set_option maxRecDepth 100000
set_option maxHeartbeats 4000000
set_option autoImplicit false
/-! Ev10: expressions are sound. -/
namespace Ev
open PySem PySem.Spec PyProof.Rows L2

/-! ### tests -/
def asB (x : D) (S : Sto) : R Bool := match x with
  | .bl k => .ok k S
  | _ => .stuck
def toB (m : En → Sto → R D) : En → Sto → R Bool := fun en S => (m en S).bind asB
section
variable {K : PySem.W.Frag} {cl : Cl} {W : WX} {σ : L2.St} {H : Hp}
/-- a test's reading by the value's -/
theorem toB_val {m : En → Sto → R D} {Q : Bool → Hp → Prop} (h : tB K cl W (toB m) σ H Q) : tE K cl W m σ H fun x H1 => ∃ c, x = .bl c ∧ Q c H1 := by
  obtain ⟨ρ, en, S, he, hs, h⟩ := h
  refine ⟨ρ, en, S, he, hs, (Aft.bind h).imp (fun ρ1 H1 S1 x x1 s1 h1 v rv => ?_) fun _ _ _ _ _ z => z⟩
  cases x with
  | bl k => cases rv; exact ⟨k, rfl, Aft.here (a := k) h1 s1⟩
  | _ => exact aft_stuck h1
/-- the value's reading by a test's: one bool, then the rest -/
theorem lift1B {ma : En → Sto → R D} {k : En → D → Sto → R D} {Q : VK} {r : Bool → Hp → Prop}
    (h : tE K cl W (fun en S => (ma en S).bind (k en)) σ H Q) (hk : ∀ en x S, (∀ b, x ≠ .bl b) → k en x S = .stuck)
    (f : ∀ ρ H1 S en b, RelE K ρ H1 en σ → RelS K cl ρ H1 S → Aft K cl ρ H1 (k en (.bl b) S) (fun ρ' H' _ d => ∀ v, Rep K ρ' H' d v → Q v H') (fun x ρ' H' _ => ∀ cls d, XR K cl ρ' H' x cls d → W cls d σ H') → r b H1) :
    tB K cl W (toB ma) σ H r := by
  obtain ⟨ρ, en, S, he, hs, h⟩ := h
  refine ⟨ρ, en, S, he, hs, ?_⟩
  have h2 := h.bind
  unfold toB
  cases z : ma en S with
  | stuck => rw [z] at h2; exact h2
  | ex x S1 => rw [z] at h2; exact h2
  | ok x S1 =>
    rw [z] at h2
    cases x with
    | bl b => exact fun ρ1 H1 x1 s1 => f ρ1 H1 S1 en b (he.ext x1) s1 (h2 ρ1 H1 x1 s1)
    | _ =>
      exfalso
      have h3 : Aft K cl ρ H ((ma en S).bind (k en)) _ _ := h
      rw [z] at h3
      simp only [R.bind_ok] at h3
      rw [hk en _ S1 (fun b => by intro q; cases q)] at h3
      exact h3
theorem lift1BB {ma : En → Sto → R D} {k : En → D → Sto → R D} {Q : Bool → Hp → Prop} {r : Bool → Hp → Prop}
    (h : tB K cl W (toB fun en S => (ma en S).bind (k en)) σ H Q) (hk : ∀ en x S, (∀ b, x ≠ .bl b) → k en x S = .stuck)
    (f : ∀ ρ H1 S en b, RelE K ρ H1 en σ → RelS K cl ρ H1 S → Aft K cl ρ H1 ((k en (.bl b) S).bind asB) (fun ρ' H' _ b => Q b H') (fun x ρ' H' _ => ∀ cls d, XR K cl ρ' H' x cls d → W cls d σ H') → r b H1) :
    tB K cl W (toB ma) σ H r := by
  obtain ⟨ρ, en, S, he, hs, h⟩ := h
  refine ⟨ρ, en, S, he, hs, ?_⟩
  unfold toB at h ⊢
  rw [R.bind_assoc] at h
  have h2 := h.bind
  cases z : ma en S with
  | stuck => rw [z] at h2; exact h2
  | ex x S1 => rw [z] at h2; exact h2
  | ok x S1 =>
    rw [z] at h2
    cases x with
    | bl b => exact fun ρ1 H1 x1 s1 => f ρ1 H1 S1 en b (he.ext x1) s1 (h2 ρ1 H1 x1 s1)
    | _ =>
      exfalso
      rw [z] at h
      simp only [R.bind_ok] at h
      rw [hk en _ S1 (fun b => by intro q; cases q)] at h
      exact h
end
section
variable {X : Cx} {cl : Cl} {W : WX}
theorem both {pe : PySem.Expr} {m : En → Sto → R D} (h : PE X pe (tE X.K cl W m)) (hp : ∀ whole, isTrue pe X.env whole = (do let v ← whole; standAt pe.pos; holding [v] (truthy v))) :
    PE X pe (tE X.K cl W m) ∧ PT X pe (tB X.K cl W (toB m)) := ⟨h, (pt_val h hp).weak fun σ H Q q => toB_val q⟩
theorem pw_of_pt {op : BoolOp} {vs : List PySem.Expr} {pos : Pos} {t : TT} (h : PT X (.BoolOp op vs pos) t) : PW X (.BoolOp op vs pos) t := ⟨fun wh pins s σ H Q I q => by
  have := h.run pins s σ H Q I q
  rw [arm_isTrue_BoolOp] at this ⊢
  exact this⟩
theorem pt_ite {c a b : PySem.Expr} {pos : Pos} {tc ta tb : TT} (hc : PT X c tc) (ha : PT X a ta) (hb : PT X b tb) : PT X (.IfExp c a b pos) (fun σ H Q => tc σ H fun k H1 => if k = true then ta σ H1 Q else tb σ H1 Q) := by
  refine ⟨fun pins s σ H Q I h => ?_⟩
  show wpAny _ _ (do if ← isTrue c X.env (eval c X.env) then isTrue a X.env (eval a X.env) else isTrue b X.env (eval b X.env)) _ _ _
  refine wpAny_bind (thn (hc.run pins s σ H _ I h) fun k s1 ⟨H1, I1, q1⟩ => ?_)
  cases k with
  | true => exact ha.run pins s1 σ H1 Q I1 q1
  | false => exact hb.run pins s1 σ H1 Q I1 q1
end

/-! ### the theorem -/
section
variable {T : Tbl} {G : Gm} {cl : Cl} {N : List Str} {n : Nat}
theorem evs_len : ∀ {es : Es} {en : En} {S S' : Sto} {xs : List D}, es.plain = true → evs G es en S = .ok xs S' → xs.length = es.len
  | .nil, en, S, S', xs, _, h => by
    unfold evs at h
    cases h
    rfl
  | .cons a r, en, S, S', xs, hp, h => by
    unfold evs at h
    cases z : ev G a en S with
    | stuck => rw [z] at h; cases h
    | ex x S1 => rw [z] at h; cases h
    | ok x S1 =>
      rw [z, R.bind_ok] at h
      cases y : evs G r en S1 with
      | stuck => rw [y] at h; cases h
      | ex x S2 => rw [y] at h; cases h
      | ok ys S2 =>
        rw [y, R.bind_ok] at h
        cases h
        exact congrArg Nat.succ (evs_len (es := r) hp y)
  | .star a r, _, _, _, _, hp, _ => by cases hp
theorem tA_len {K : PySem.W.Frag} {W : WX} {es : Es} {σ : L2.St} {H : Hp} {Q : List V → Hp → Prop} (hp : es.plain = true) (h : tA K cl W (evs G es) σ H fun vs H1 => vs.length = es.len → Q vs H1) : tA K cl W (evs G es) σ H Q := by
  obtain ⟨ρ, en, S, he, hs, h⟩ := h
  refine ⟨ρ, en, S, he, hs, ?_⟩
  cases z : evs G es en S with
  | stuck => rw [z] at h; exact h
  | ex x S1 => rw [z] at h; exact h
  | ok xs S1 =>
    rw [z] at h
    exact fun ρ1 H1 x1 s1 vs r => h ρ1 H1 x1 s1 vs r (r.length.symm.trans (evs_len hp z))
theorem cst_ok {d : D} {c : Const} {k : Nat} {pos : Pos} {X : Cx} {W : WX} (h : cstB d c = true) : PE X (.Constant c k pos) (tE X.K cl W fun _ S => .ok d S) := by
  have fin : ∀ {σ : L2.St} {H : Hp} {Q : VK} {v : V}, tE X.K cl W (fun _ S => .ok d S) σ H Q → (∀ ρ H, Rep X.K ρ H d v) → Q v H := fun {σ H Q v} ⟨ρ, en, S, he, hs, q⟩ r => q.here hs v (r _ _)
  cases d <;> cases c <;> first | (cases h; done) | skip
  · exact pe_non.weak fun σ H Q q => fin q fun _ _ => .non
  · have e := beq_iff_eq.mp (show (_ == _) = true from h)
    subst e
    exact pe_bl.weak fun σ H Q q => fin q fun _ _ => .bl _
  · have e := of_decide_eq_true (show decide (_ = _) = true from h)
    subst e
    exact pe_int.weak fun σ H Q q => fin q fun _ _ => .int _
  · have e := of_decide_eq_true (show decide (_ = _) = true from h)
    subst e
    exact pe_str.weak fun σ H Q q => fin q fun _ _ => by
      have := Rep.str (K := X.K) (ρ := ‹_›) (H := ‹_›) (‹Str›).cps.toList
      simpa using this
theorem noArgs_is {a : Arguments} (h : noArgs a = true) : a = ⟨[], [], none, [], [], none, []⟩ := by
  obtain ⟨a1, a2, a3, a4, a5, a6, a7⟩ := a
  unfold noArgs at h
  simp only [Bool.and_eq_true, List.isEmpty_iff, Option.isNone_iff_eq_none] at h
  obtain ⟨h1, h2, h3, h4, h5, h6, h7⟩ := h
  subst h1 h2 h3 h4 h5 h6 h7
  rfl
theorem tbl_is {k : Nat} {q : Str} {S : Sto} (h : isTbl k q S = true) : S[k]? = some (.tbl q) := by
  unfold isTbl at h
  split at h
  · rename_i q' e
    have := of_decide_eq_true h
    subst this
    exact e
  · cases h
theorem TabO.at_ {H : Hp} {a : Addr} {q : Str} (h : TabO H a q) : ∃ ps, H a = some (.tbl ps) := let ⟨ps, e, _⟩ := h; ⟨ps, e⟩
theorem set_same {α : Type} {l : List α} {k : Nat} {a : α} (h : l[k]? = some a) : l.set k a = l := by
  apply List.ext_getElem?
  intro i
  by_cases e : k = i
  · subst e
    have hl := (List.getElem?_eq_some_iff.mp h).1
    rw [List.getElem?_set_self hl, h]
  · rw [List.getElem?_set_ne e]
theorem sz1 : (16777216 : Nat) = sizeLine := sl_eq
mutual
theorem sndE : ∀ (e : E) {T : Tbl} {cl : Cl} {sc : Scope} {W : WX} {X : Cx} {pe : PySem.Expr}, Cxt T G cl N n sc W X → chkE T N sc e pe = true → PE X pe (tE X.K cl W (ev G e)) ∧ PT X pe (tB X.K cl W (toB (ev G e)))
  | .var i, T, cl, sc, W, X, pe, C, h => by
    cases pe with
    | Name x pos =>
      obtain ⟨h1, h2⟩ := ba (show (decide (N[i]? = some x) && (visB sc x && plN x)) = true from h)
      obtain ⟨h3, h4⟩ := ba h2
      obtain ⟨p1, p2, p3⟩ := pl_of h4
      refine both ((pe_var (i := i) (by rw [C.nN]; exact of_decide_eq_true h1) (by rw [C.sc]; exact vis_of h3) p1 p2).weak fun σ H Q q => ?_) fun _ => rfl
      obtain ⟨ρ, en, S, he, hs, q⟩ := q
      obtain ⟨d, e, p⟩ := Aft.of q hs
      have e2 : en[i]? = some (some d) := by
        rw [List.getD_eq_getElem?_getD] at e
        cases z : en[i]? with
        | none => rw [z] at e; cases e
        | some o => rw [z] at e; simp at e; rw [e]
      obtain ⟨v, g1, g2⟩ := he.get i d e2
      exact ⟨v, g1, p v g2⟩
    | _ => cases h
  | .cst d, T, cl, sc, W, X, pe, C, h => by
    cases pe with
    | Constant c k pos => exact both (cst_ok h) fun _ => rfl
    | _ => cases h
  | .glb i, T, cl, sc, W, X, pe, C, h => by
    cases pe with
    | Name x pos =>
      obtain ⟨h1, h2⟩ := ba (show (decide (T.cns[i]? = some x) && (glB sc x && plN x)) = true from h)
      obtain ⟨h3, h4⟩ := ba h2
      obtain ⟨p1, p2, p3⟩ := pl_of h4
      cases z : G.cs[i]? with
      | none =>
        have dead : ∀ σ H Q, ¬ tE X.K cl W (ev G (.glb i)) σ H Q := fun σ H Q ⟨ρ, en, S, he, hs, q⟩ => by
          simp only [ev, z] at q
          exact q
        exact both ⟨fun pins s σ H Q I q => (dead σ H Q q).elim⟩ fun _ => rfl
      | some d =>
        obtain ⟨u, v, m1, m2, m3⟩ := C.tab.cst i x d (of_decide_eq_true h1) z
        refine both ((pe_glob (C.gl h3) m1 m2 p1).weak fun σ H Q q => ?_) fun _ => rfl
        obtain ⟨ρ, en, S, he, hs, q⟩ := q
        simp only [ev, z] at q
        exact Aft.here (a := d) q hs v (m3 _ _)
    | _ => cases h
  | .bin o a b, T, cl, sc, W, X, pe, C, h => by
    cases pe with
    | BinOp pa op pb pos =>
      obtain ⟨h1, h2⟩ := ba (show (opB o op && (chkE T N sc a pa && chkE T N sc b pb)) = true from h)
      obtain ⟨h3, h4⟩ := ba h2
      rw [opB_of h1]
      obtain ⟨r, o1, o2⟩ := or_bin (cl := cl) (X := X) C.py rfl o
      exact both ((pe_op o1 (sndE a C h3).1 (sndE b C h4).1).weak fun σ H Q q => lift2 o2 q) fun _ => rfl
    | _ => cases h
  | .neg a, T, cl, sc, W, X, pe, C, h => by
    cases pe with
    | UnaryOp op pa pos =>
      cases op with
      | USub =>
        refine both ((pe_un un_neg (sndE a C (show chkE T N sc a pa = true from h)).1).weak fun σ H Q q => lift1 q fun ρ H1 S en x v he hs r q => ?_) fun _ => rfl
        cases x with
        | int i => cases r; exact ⟨i, rfl, q.here hs _ (.int _)⟩
        | _ => exact aft_stuck q
      | _ => cases h
    | _ => cases h
  | .not a, T, cl, sc, W, X, pe, C, h => by
    cases pe with
    | UnaryOp op pa pos =>
      cases op with
      | Not =>
        have h' : chkE T N sc a pa = true := h
        refine ⟨(pe_not (sndE a C h').1).weak fun σ H Q q => lift1 q fun ρ H1 S en x v he hs r q => ?_, (pt_not (sndE a C h').2).weak fun σ H Q q => ?_⟩
        · cases x with
          | bl k => cases r; exact ⟨k, rfl, q.here hs _ (.bl _)⟩
          | _ => exact aft_stuck q
        · refine lift1BB (k := fun _ x S => match x with | .bl k => .ok (.bl (!k)) S | _ => .stuck) q (fun en x S hx => ?_) fun ρ H1 S en b he hs q => ?_
          · cases x with
            | bl b => exact absurd rfl (hx b)
            | _ => rfl
          · exact Aft.here (a := !b) q hs
      | _ => cases h
    | _ => cases h
  | .and a b, T, cl, sc, W, X, pe, C, h => by
    have hk : ∀ (en : En) (x : D) (S : Sto), (∀ b, x ≠ .bl b) → (match x with | .bl true => ev G b en S | .bl false => .ok (.bl false) S | _ => (.stuck : R D)) = .stuck := fun en x S hx => by
      cases x with
      | bl b => exact absurd rfl (hx b)
      | _ => rfl
    cases pe with
    | BoolOp op vs pos =>
      cases op with
      | And =>
        match vs, h with
        | pa :: pb :: r, h =>
          obtain ⟨h1, h2⟩ := ba (show (chkE T N sc a pa && (match (pb :: r : List PySem.Expr) with
            | [] => false
            | [pb] => chkE T N sc b pb
            | r => chkE T N sc b (.BoolOp .And r pos))) = true from h)
          have A := sndE a C h1
          have B : PE X (.BoolOp .And (pb :: r) pos) (tE X.K cl W (ev G b)) ∧ PW X (.BoolOp .And (pb :: r) pos) (tB X.K cl W (toB (ev G b))) := by
            match r, h2 with
            | [], h2 =>
              have B := sndE b C (pe := pb) h2
              exact ⟨pe_one B.1, pw_and1 B.2⟩
            | pc :: r, h2 =>
              have B := sndE b C (pe := .BoolOp .And (pb :: pc :: r) pos) h2
              exact ⟨B.1, pw_of_pt B.2⟩
          refine ⟨(pe_and A.1 B.1).weak fun σ H Q q => lift1 q fun ρ H1 S en x v he hs r q => ?_, (PW.pt (pw_and A.2 B.2)).weak fun σ H Q q => ?_⟩
          · cases x with
            | bl k =>
              cases r
              refine ⟨k, rfl, ?_⟩
              cases k with
              | true => rw [if_pos rfl]; exact tE.mk he hs q
              | false => rw [if_neg (by decide)]; exact Aft.here (a := D.bl false) q hs _ (.bl _)
            | _ => exact aft_stuck q
          · refine lift1BB (k := fun en x S => match x with | .bl true => ev G b en S | .bl false => .ok (.bl false) S | _ => .stuck) q hk fun ρ H1 S en k he hs q => ?_
            cases k with
            | true => rw [if_pos rfl]; exact ⟨ρ, en, S, he, hs, q⟩
            | false => rw [if_neg (by decide)]; exact Aft.here (a := false) q hs
        | [pa], h => exact absurd (ba (show (chkE T N sc a pa && false) = true from h)).2 (by decide)
        | [], h => cases h
      | Or => cases h
    | _ => cases h
  | .or a b, T, cl, sc, W, X, pe, C, h => by
    have hk : ∀ (en : En) (x : D) (S : Sto), (∀ b, x ≠ .bl b) → (match x with | .bl true => R.ok (D.bl true) S | .bl false => ev G b en S | _ => (.stuck : R D)) = .stuck := fun en x S hx => by
      cases x with
      | bl b => exact absurd rfl (hx b)
      | _ => rfl
    cases pe with
    | BoolOp op vs pos =>
      cases op with
      | Or =>
        match vs, h with
        | pa :: pb :: r, h =>
          obtain ⟨h1, h2⟩ := ba (show (chkE T N sc a pa && (match (pb :: r : List PySem.Expr) with
            | [] => false
            | [pb] => chkE T N sc b pb
            | r => chkE T N sc b (.BoolOp .Or r pos))) = true from h)
          have A := sndE a C h1
          have B : PE X (.BoolOp .Or (pb :: r) pos) (tE X.K cl W (ev G b)) ∧ PW X (.BoolOp .Or (pb :: r) pos) (tB X.K cl W (toB (ev G b))) := by
            match r, h2 with
            | [], h2 =>
              have B := sndE b C (pe := pb) h2
              exact ⟨pe_one B.1, pw_or1 B.2⟩
            | pc :: r, h2 =>
              have B := sndE b C (pe := .BoolOp .Or (pb :: pc :: r) pos) h2
              exact ⟨B.1, pw_of_pt B.2⟩
          refine ⟨(pe_or A.1 B.1).weak fun σ H Q q => lift1 q fun ρ H1 S en x v he hs r q => ?_, (PW.pt (pw_or A.2 B.2)).weak fun σ H Q q => ?_⟩
          · cases x with
            | bl k =>
              cases r
              refine ⟨k, rfl, ?_⟩
              cases k with
              | false => rw [if_neg (by decide)]; exact tE.mk he hs q
              | true => rw [if_pos rfl]; exact Aft.here (a := D.bl true) q hs _ (.bl _)
            | _ => exact aft_stuck q
          · refine lift1BB (k := fun en x S => match x with | .bl true => .ok (.bl true) S | .bl false => ev G b en S | _ => .stuck) q hk fun ρ H1 S en k he hs q => ?_
            cases k with
            | false => rw [if_neg (by decide)]; exact ⟨ρ, en, S, he, hs, q⟩
            | true => rw [if_pos rfl]; exact Aft.here (a := true) q hs
        | [pa], h => exact absurd (ba (show (chkE T N sc a pa && false) = true from h)).2 (by decide)
        | [], h => cases h
      | And => cases h
    | _ => cases h
  | .ite c a b, T, cl, sc, W, X, pe, C, h => by
    have hk : ∀ (en : En) (x : D) (S : Sto), (∀ b, x ≠ .bl b) → (match x with | .bl true => ev G a en S | .bl false => ev G b en S | _ => (.stuck : R D)) = .stuck := fun en x S hx => by
      cases x with
      | bl b => exact absurd rfl (hx b)
      | _ => rfl
    cases pe with
    | IfExp pc pa pb pos =>
      obtain ⟨h1, h2⟩ := ba (show (chkE T N sc c pc && (chkE T N sc a pa && chkE T N sc b pb)) = true from h)
      obtain ⟨h3, h4⟩ := ba h2
      have A := sndE a C h3
      have B := sndE b C h4
      have CC := sndE c C h1
      refine ⟨(pe_ifExp CC.2 A.1 B.1).weak fun σ H Q q => ?_, (pt_ite CC.2 A.2 B.2).weak fun σ H Q q => ?_⟩
      · refine lift1B (k := fun en x S => match x with | .bl true => ev G a en S | .bl false => ev G b en S | _ => .stuck) q hk fun ρ H1 S en k he hs q => ?_
        cases k with
        | true => rw [if_pos rfl]; exact tE.mk he hs q
        | false => rw [if_neg (by decide)]; exact tE.mk he hs q
      · refine lift1BB (k := fun en x S => match x with | .bl true => ev G a en S | .bl false => ev G b en S | _ => .stuck) q hk fun ρ H1 S en k he hs q => ?_
        cases k with
        | true => rw [if_pos rfl]; exact ⟨ρ, en, S, he, hs, q⟩
        | false => rw [if_neg (by decide)]; exact ⟨ρ, en, S, he, hs, q⟩
    | _ => cases h
  | .cmp o a b, T, cl, sc, W, X, pe, C, h => by
    cases pe with
    | Compare pa ops cs pos =>
      match ops, cs, h with
      | [op], [pb], h =>
        obtain ⟨h1, h2⟩ := ba (show (cmB o op && (notSet pb && (chkE T N sc a pa && chkE T N sc b pb))) = true from h)
        obtain ⟨h3, h4⟩ := ba h2
        obtain ⟨h5, h6⟩ := ba h4
        rw [cmB_of h1]
        obtain ⟨r, o1, o2⟩ := or_cmp (cl := cl) (X := X) rfl C.hu o
        have A := (sndE a C h5).1
        have B := (sndE b C h6).1
        exact ⟨(pe_cmpR o1 A B (marks_of h3)).weak fun σ H Q q => lift2 (VCmp.val o2) q, (pt_cmpR o1 A B (marks_of h3)).weak fun σ H Q q => lift2 (VCmp.val o2) (toB_val q)⟩
      | [], _, h => cases h
      | [_], [], h => cases h
      | [_], _ :: _ :: _, h => cases h
      | _ :: _ :: _, [], h => cases h
      | _ :: _ :: _, [_], h => cases h
      | [_, _], [_, _], h => cases h
      | [_, _], _ :: _ :: _ :: _, h => cases h
      | _ :: _ :: _ :: _, _ :: _ :: _, h => cases h
    | _ => cases h
  | .chain o p a b c, T, cl, sc, W, X, pe, C, h => by
    cases pe with
    | Compare pa ops cs pos =>
      match ops, cs, h with
      | [op, op'], [pb, pc], h =>
        obtain ⟨h1, h2⟩ := ba (show ((cmB o op && cmB p op') && (notSet pc && (chkE T N sc a pa && (chkE T N sc b pb && chkE T N sc c pc)))) = true from h)
        obtain ⟨g1, g2⟩ := ba h1
        obtain ⟨h3, h4⟩ := ba h2
        obtain ⟨h5, h6⟩ := ba h4
        obtain ⟨h7, h8⟩ := ba h6
        rw [cmB_of g1, cmB_of g2]
        obtain ⟨r, o1, o2⟩ := or_cmp (cl := cl) (X := X) rfl C.hu o
        obtain ⟨r', o1', o2'⟩ := or_cmp (cl := cl) (X := X) rfl C.hu p
        have hm : lastMarks [cmO o, cmO p] [pb, pc] = false := marks_of (op := cmO p) h3
        have key : ∀ {σ : L2.St} {H : Hp} {Q : VK}, tE X.K cl W (ev G (.chain o p a b c)) σ H Q → tChain r r' (tE X.K cl W (ev G a)) (tE X.K cl W (ev G b)) (tE X.K cl W (ev G c)) σ H Q := fun {σ H Q} q => by
          refine lift1 q fun ρ1 H1 S1 en x v he hs rv q => ?_
          refine ⟨ρ1, en, S1, he, hs, (Aft.bind q).imp (fun ρ2 H2 S2 y x2 s2 q2 => ?_) fun _ _ _ _ _ z => z⟩
          intro w rw
          split at q2
          · rename_i e
            refine o2 ρ2 H2 S2 x y v w _ true s2 (rv.ext x2) rw e ⟨true, rfl, ?_⟩
            rw [if_pos rfl]
            refine ⟨ρ2, en, S2, he.ext x2, s2, (Aft.bind q2).imp (fun ρ3 H3 S3 z x3 s3 q3 => ?_) fun _ _ _ _ _ z => z⟩
            intro u ru
            exact VCmp.val o2' ρ3 H3 S3 y z w u Q _ s3 (rw.ext x3) ru q3
          · rename_i e
            refine o2 ρ2 H2 S2 x y v w _ false s2 (rv.ext x2) rw e ⟨false, rfl, ?_⟩
            rw [if_neg (by decide)]
            exact Aft.here (a := D.bl false) q2 s2 _ (.bl _)
          · exact aft_stuck q2
        exact ⟨(pe_chain o1 o1' (sndE a C h5).1 (sndE b C h7).1 (sndE c C h8).1 hm).weak fun σ H Q q => key q, (pt_chain o1 o1' (sndE a C h5).1 (sndE b C h7).1 (sndE c C h8).1 hm).weak fun σ H Q q => key (toB_val q)⟩
      | [], _, h => cases h
      | [_], [], h => cases h
      | [_], _ :: _, h => cases h
      | [_, _], [], h => cases h
      | _ :: _ :: _ :: _, [], h => cases h
      | [_, _], [_], h => cases h
      | _ :: _ :: _ :: _, [_], h => cases h
      | [_, _], _ :: _ :: _ :: _, h => cases h
      | _ :: _ :: _ :: _, _ :: _ :: _, h => cases h
    | _ => cases h
  | .tup es, T, cl, sc, W, X, pe, C, h => by
    cases pe with
    | Tuple ps k pos =>
      refine both ((pe_tup (sndEs es C (show chkEs T N sc es ps = true from h))).weak fun σ H Q q => liftA q fun ρ H1 S en xs vs he hs r q => ?_) fun _ => rfl
      split at q
      · rename_i hz
        refine ⟨by rw [← r.length, ← sl_eq]; exact hz, fun p hp => ?_⟩
        obtain ⟨q, rr⟩ := q.newT hs r p hp
        exact q _ rr
      · exact aft_stuck q
    | _ => cases h
  | .lst es, T, cl, sc, W, X, pe, C, h => by
    cases pe with
    | List ps pos =>
      refine both ((pe_lst (sndEs es C (show chkEs T N sc es ps = true from h))).weak fun σ H Q q => liftA q fun ρ H1 S en xs vs he hs r q => ?_) fun _ => rfl
      split at q
      · rename_i hz
        refine ⟨by rw [← r.length, ← sl_eq]; exact hz, fun p hp => ?_⟩
        obtain ⟨q, rr⟩ := q.newL hs r p hp
        exact q _ rr
      · exact aft_stuck q
    | _ => cases h
  | .ix a b, T, cl, sc, W, X, pe, C, h => by
    cases pe with
    | Subscript pa pb pos =>
      have gen : notSlice pb = true → chkE T N sc a pa = true → chkE T N sc b pb = true → PE X (.Subscript pa pb pos) (tE X.K cl W (ev G (.ix a b))) ∧ PT X (.Subscript pa pb pos) (tB X.K cl W (toB (ev G (.ix a b)))) := fun h1 h2 h3 =>
        both ((pe_ix (ix_seq (X := X)) (sndE a C h2).1 (sndE b C h3).1 (ix_of h1)).weak fun σ H Q q => lift2 v_ix q) fun _ => rfl
      obtain ⟨h1, h2⟩ := ba (show (notSlice pb && (chkE T N sc a pa && chkE T N sc b pb)) = true from h)
      obtain ⟨h3, h4⟩ := ba h2
      exact gen h1 h3 h4
    | _ => cases h
  | .sl a lo hi, T, cl, sc, W, X, pe, C, h => by
    cases pe with
    | Subscript pa pb pos =>
      cases pb with
      | Slice plo phi pst p2 =>
        cases pst with
        | none =>
          obtain ⟨h1, h2⟩ := ba (show (chkE T N sc a pa && (chkO T N sc lo plo && chkO T N sc hi phi)) = true from h)
          obtain ⟨h3, h4⟩ := ba h2
          refine both ((pe_slice (sr_sl (X := X)) (sndE a C h1).1 (sndO lo C h3) (sndO hi C h4)).weak fun σ H Q q => ?_) fun _ => rfl
          refine lift1 q fun ρ1 H1 S1 en x v he hs rv q => ?_
          refine ⟨ρ1, en, S1, he, hs, (Aft.bind q).imp (fun ρ2 H2 S2 l x2 s2 q2 => ?_) fun _ _ _ _ _ z => z⟩
          refine ⟨ρ2, en, S2, he.ext x2, s2, (Aft.bind q2).imp (fun ρ3 H3 S3 u x3 s3 q3 => ?_) fun _ _ _ _ _ z => z⟩
          exact v_sl ρ3 H3 S3 x v l u Q _ s3 ((rv.ext x2).ext x3) q3
        | some _ => cases h
      | _ => cases h
    | _ => cases h
  | .rev a, T, cl, sc, W, X, pe, C, h => by
    cases pe with
    | Subscript pa pb pos =>
      cases pb with
      | Slice plo phi pst p2 =>
        match plo, phi, pst, h with
        | none, none, some (.UnaryOp .USub (.Constant (.int i) k p3) p4), h =>
          obtain ⟨h1, h2⟩ := ba (show (decide (i = 1) && chkE T N sc a pa) = true from h)
          have e := of_decide_eq_true h1
          subst e
          refine both ((pe_revL (sndE a C h2).1).weak fun σ H Q q => lift1 q fun ρ H1 S en x v he hs r q => ?_) fun _ => rfl
          split at q
          · rename_i xs e0
            obtain ⟨p, vs, rfl, g1, g2⟩ := lstOf_rep hs e0 r
            refine ⟨p, vs, rfl, g1, fun l hl => ?_⟩
            obtain ⟨q, rr⟩ := q.newL hs g2.reverse l hl
            exact q _ rr
          · exact aft_stuck q
      | _ => cases h
    | _ => cases h
  | .call f es, T, cl, sc, W, X, pe, C, h => by
    cases pe with
    | Call pf ps kws pos =>
      cases pf with
      | Name x p =>
        match kws, h with
        | [], h =>
          obtain ⟨h1, h2⟩ := ba (show ((match T.fns[f]? with
            | some (y, qs) => decide (x = y) && decide (es.len = qs.length)
            | none => false) && ((glB sc x && plN x) && (es.plain && chkEs T N sc es ps))) = true from h)
          obtain ⟨h3, h4⟩ := ba h2
          obtain ⟨h5, h6⟩ := ba h3
          obtain ⟨h7, h8⟩ := ba h4
          obtain ⟨p1, p2, p3⟩ := pl_of h6
          cases e : T.fns[f]? with
          | none => rw [e] at h1; cases h1
          | some yq =>
            obtain ⟨y, qs⟩ := yq
            rw [e] at h1
            obtain ⟨g1, g2⟩ := ba h1
            have ex : x = y := of_decide_eq_true g1
            subst ex
            have el : es.len = qs.length := of_decide_eq_true g2
            obtain ⟨fa, m1, m2, m3⟩ := run_call C e
            have IA := sndEs es C h8
            have fin : ∀ {σ : L2.St} {H : Hp} {Q : VK}, tE X.K cl W (ev G (.call f es)) σ H Q → tA X.K cl W (evs G es) σ H (fun vs H1 => spOf X.K cl.base qs.length (G.fn f) vs H1 Q (fun cls d H' => W cls d σ H')) := fun {σ H Q} q =>
              tA_len h7 (liftA q fun ρ H1 S en xs vs he hs r q hl => sp_of (hl.trans el) r hs q)
            refine both ⟨fun pins s σ H Q I q => ?_⟩ fun _ => rfl
            have q2 := fin q
            refine wpAny_Call_Name_kw (ld_glob I (C.gl h5) m1 ?_ p1)
            have hlen : ps.length = es.len := plain_len h8
            match ps, IA, h8, hlen with
            | [], IA, h8, hlen =>
              refine PySem.W.callWith_K0 I.kIn m2 ?_
              have hes : es = .nil := by
                cases es with
                | nil => rfl
                | cons _ _ => cases h8
                | star _ _ => cases h8
              subst hes
              obtain ⟨ρ, en, S, he, hs, q3⟩ := q2
              exact m3 pins σ H s Q [] [] I .nil (Aft.here (a := []) q3 hs [] .nil)
            | p0 :: pr, IA, h8, hlen =>
              obtain ⟨k1, a, es', e2, k2, k3, k4⟩ := plain_head h7 h8 rfl
              refine PySem.W.callWith_K (h₀ := X.base) I.ok.mod.kin m2 ?_ (starEach_cons k1) (plain_any k3 k4)
              refine thn (IA.run pos pins s σ H _ I q2) fun us s1 ⟨vs, H1, I1, r1, q1⟩ => ⟨I1.kIn, ?_⟩
              exact m3 pins σ H1 s1 Q us vs I1 r1 q1
        | _ :: _, h => cases h
      | _ => cases h
    | _ => cases h
  | .callk f es ks pm, T, cl, sc, W, X, pe, C, h => by
    cases pe with
    | Call pf ps kws pos =>
      cases pf with
      | Name x p =>
        obtain ⟨h1, h2⟩ := ba (show ((match T.fns[f]? with
          | some (y, qs) => decide (x = y) && ((decide (pm.length = qs.length) && pm.all fun j => decide (j < es.len + ks.len)) && (T.kws.any fun t => decide (t.1 = f) && (decide (t.2.1 = es.len) && (decide (t.2.2.1.map some = kwN kws) && decide (t.2.2.2 = pm)))))
          | none => false) && ((glB sc x && plN x) && ((es.plain && chkEs T N sc es ps) && (ks.plain && chkEs T N sc ks (kwV kws))))) = true from h)
        obtain ⟨h3, h4⟩ := ba h2
        obtain ⟨h5, h6⟩ := ba h3
        obtain ⟨h7, h8⟩ := ba h4
        obtain ⟨h9, h10⟩ := ba h7
        obtain ⟨h11, h12⟩ := ba h8
        obtain ⟨p1, p2, p3⟩ := pl_of h6
        cases e : T.fns[f]? with
        | none => rw [e] at h1; cases h1
        | some yq =>
          obtain ⟨y, qs⟩ := yq
          rw [e] at h1
          obtain ⟨g1, g2⟩ := ba h1
          obtain ⟨g3, g4⟩ := ba g2
          have ex : x = y := of_decide_eq_true g1
          subst ex
          obtain ⟨g3, g5⟩ := ba g3
          have el : pm.length = qs.length := of_decide_eq_true g3
          have ej : ∀ j ∈ pm, j < es.len + ks.len := fun j hj => of_decide_eq_true (List.all_eq_true.mp g5 j hj)
          obtain ⟨⟨f', m, kn, pm'⟩, gm, gt⟩ := List.any_eq_true.mp g4
          obtain ⟨t1, t2⟩ := ba gt
          obtain ⟨t3, t4⟩ := ba t2
          obtain ⟨t5, t6⟩ := ba t4
          have u1 : f' = f := of_decide_eq_true t1
          have u2 : m = es.len := of_decide_eq_true t3
          have u3 : kn.map some = kwN kws := of_decide_eq_true t5
          have u4 : pm' = pm := of_decide_eq_true t6
          subst u1
          subst u2
          subst u4
          obtain ⟨fa, m1, m2, m3⟩ := run_callk C e gm
          have IA := sndEs es C h10
          have IK := sndK ks C h11 h12
          have hkl : kn.length = ks.len := by
            have z := congrArg List.length u3
            rw [List.length_map] at z
            rw [z, ← plain_len h12]
            exact kw_len kws
          obtain ⟨k1, k2, k3⟩ := kw_facts (env := X.env) (pos := pos) u3
          refine both ⟨fun pins s σ H Q I q => ?_⟩ fun _ => rfl
          have q2 : tA X.K cl W (evs G es) σ H (fun vs H1 => vs.length = es.len ∧ tA X.K cl W (evs G ks) σ H1 fun zs H2 => zs.length = ks.len ∧ spOf X.K cl.base qs.length (G.fn f') (pm'.filterMap fun j => (vs ++ zs)[j]?) H2 Q (fun cls d H' => W cls d σ H')) := by
            refine tA_len h9 ?_
            obtain ⟨ρ, en, S, he, hs, q⟩ := q
            refine ⟨ρ, en, S, he, hs, (Aft.bind q).imp (fun ρ1 H1 S1 xs x1 s1 q1 => ?_) fun _ _ _ _ _ z => z⟩
            intro vs rv hl
            refine ⟨hl, tA_len h11 ⟨ρ1, en, S1, he.ext x1, s1, (Aft.bind q1).imp (fun ρ2 H2 S2 zs x2 s2 q2 => ?_) fun _ _ _ _ _ z => z⟩⟩
            intro ws rw hl2
            have rr : RepL X.K ρ2 H2 (xs ++ zs) (vs ++ ws) := (rv.ext x2).append rw
            have hlen : (pm'.filterMap fun j => (vs ++ ws)[j]?).length = qs.length := by
              rw [← el]
              exact pm_len fun j hj => by rw [List.length_append, hl, hl2]; exact ej j hj
            exact ⟨hl2, sp_of hlen (rr.perm pm') s2 q2⟩
          refine wpAny_Call_Name_kw (ld_glob I (C.gl h5) m1 ?_ p1)
          have hlen : ps.length = es.len := plain_len h10
          match ps, IA, h10, hlen with
          | [], IA, h10, hlen =>
            refine PySem.W.callWith_KW0 (h₀ := X.base) I.ok.mod.kin m2 k1 ?_ (by rw [k3]; rfl)
            have hes : es = .nil := by
              cases es with
              | nil => rfl
              | cons _ _ => cases h10
              | star _ _ => cases h10
            subst hes
            obtain ⟨ρ, en, S, he, hs, q3⟩ := q2
            obtain ⟨_, q4⟩ := Aft.here (a := []) q3 hs [] .nil
            refine thn (IK.run pos pins s σ H _ I q4) fun ws s2 ⟨zs, H2, I2, rz, hz, q5⟩ => ⟨I2.kIn, ?_⟩
            rw [k2]
            exact m3 pins σ H2 s2 Q [] ws [] zs I2 .nil rz rfl (hz.trans hkl.symm) q5
          | p0 :: pr, IA, h10, hlen =>
            obtain ⟨n1, a, es', e2, n2, n3, n4⟩ := plain_head h9 h10 rfl
            refine PySem.W.callWith_KW (h₀ := X.base) I.ok.mod.kin m2 k1 ?_ (by rw [k3, Bool.or_false]; exact plain_any h9 h10) (starEach_cons n1)
            refine thn (IA.run pos pins s σ H _ I q2) fun us s1 ⟨vs, H1, I1, r1, hl, q1⟩ => ?_
            refine thn (IK.run pos pins s1 σ H1 _ I1 q1) fun ws s2 ⟨zs, H2, I2, rz, hz, q5⟩ => ⟨I2.kIn, ?_⟩
            rw [k2]
            exact m3 pins σ H2 s2 Q us ws vs zs I2 r1 rz hl (hz.trans hkl.symm) q5
      | _ => cases h
    | _ => cases h
  | .bi b es, T, cl, sc, W, X, pe, C, h => by
    obtain ⟨x, p, ps, pos, epe, hh⟩ := chk_bi h
    clear h
    subst epe
    rcases hh with ⟨t, a, pa, y, py, rfl, rfl, rfl, h⟩ | h
    · obtain ⟨h1, h2⟩ := ba h
      obtain ⟨h3, h4⟩ := ba h2
      obtain ⟨h5, h6⟩ := ba h4
      obtain ⟨h7, h8⟩ := ba h5
      obtain ⟨h9, h10⟩ := ba h6
      obtain ⟨h11, h12⟩ := ba h10
      have e1 : x = ("isinstance" : Str) := of_decide_eq_true h1
      have e2 : y = (tyN t : Str) := of_decide_eq_true h3
      subst e1
      subst e2
      obtain ⟨p1, p2, p3⟩ := pl_of h9
      have B : PE X (.Name (tyN t : Str) py) (tC (.ty (tyN t))) := pe_bltn (C.gl h8) (C.tab.tys t) (ty_boot t) rfl p3 p1
      have A := (sndE a C h12).1
      have hs2 : starEach ([.Name (tyN t : Str) py] : List PySem.Expr) X.env = (false, eval (.Name (tyN t : Str) py) X.env) :: starEach [] X.env := rfl
      refine both ((pe_callB call_isi (C.gl h7) (C.tab.bins (.isin t) (fun z => nomatch z)) (bi_boot (.isin t) (fun z => nomatch z)) (pa_cons A (pa_cons B pa_nil hs2) (starEach_cons h11)) (by decide) (by decide) (starEach_cons h11) rfl).weak fun σ H Q q => ?_) fun _ => rfl
      obtain ⟨ρ, en, S, he, hs, q⟩ := q
      simp only [ev, evs] at q
      rw [R.bind_assoc] at q
      refine ⟨ρ, en, S, he, hs, (Aft.bind q).imp (fun ρ1 H1 S1 d x1 s1 q1 => ?_) fun _ _ _ _ _ z => z⟩
      intro v rv
      simp only [R.bind_ok, bi] at q1
      cases z : isTy t d S1 with
      | none => rw [z] at q1; exact aft_stuck q1
      | some k =>
        rw [z] at q1
        obtain ⟨Ty', y1, y2⟩ := v_isin t ρ1 H1 S1 d v k s1 rv z
        exact ⟨v, .ty (tyN t), Ty', .type (tyN t), k, rfl, .ty _, y1, y2, Aft.here (a := D.bl k) q1 s1 _ (.bl _)⟩
    · obtain ⟨h1, h2⟩ := ba h
      obtain ⟨h3, h4⟩ := ba h2
      obtain ⟨h5, h6⟩ := ba h4
      obtain ⟨h7, h8⟩ := ba h6
      obtain ⟨h9, h10⟩ := ba h8
      have e1 : x = (biN b : Str) := of_decide_eq_true h3
      subst e1
      have hb : isIsin b = false := by simpa using h1
      have hne : es.len ≠ 0 := of_decide_eq_true h7
      obtain ⟨n1, n2⟩ := bi_name b
      obtain ⟨r, o1, o2⟩ := or_bi (cl := cl) (X := X) rfl C.calm C.gd (by have := C.hu; omega) b hb
      have IA := sndEs es C h10
      have hlen : ps.length = es.len := plain_len h10
      match ps, IA, h10, hlen with
      | [], IA, h10, hlen => exact absurd hlen.symm hne
      | p0 :: pr, IA, h10, hlen =>
        obtain ⟨k1, a, es', e2, k2, k3, k4⟩ := plain_head h9 h10 rfl
        have fin : ∀ {pe' : PySem.Expr}, PE X pe' (tCB r (tA X.K cl W (evs G es))) → PE X pe' (tE X.K cl W (ev G (.bi b es))) := fun hp => hp.weak fun σ H Q q => by
          refine liftA q fun ρ H1 S en xs vs he hs rr q => ?_
          exact o2 ρ H1 S xs vs Q _ hs rr q
        refine both (fin ?_) fun _ => rfl
        by_cases hg : b = .gcd
        · subst hg
          exact pe_callBfun o1 (C.gl h5) C.tab.gcd IA n2 (starEach_cons k1) (plain_any k3 k4)
        · have hv := bi_boot b hg
          cases z : biV b with
          | fn id =>
            rw [z] at o1 hv
            exact pe_callB o1 (C.gl h5) (C.tab.bins b hg) hv IA n1 n2 (starEach_cons k1) (plain_any k3 k4)
          | ty Ty' =>
            rw [z] at o1 hv
            exact pe_callTy o1 (C.gl h5) (C.tab.bins b hg) hv IA n1 n2 (starEach_cons k1) (plain_any k3 k4)
  | .mt m a es, T, cl, sc, W, X, pe, C, h => by
    cases pe with
    | Call pf ps kws pos =>
      cases pf with
      | Attribute pa y apos =>
        cases kws with
        | nil =>
          obtain ⟨h1, h2⟩ := ba (show (decide (y = (mtN m : Str)) && ((apos.endLine == pos.line) && (notCall0 pa && (decide (ps.length < 20) && (chkE T N sc a pa && (es.plain && chkEs T N sc es ps)))))) = true from h)
          obtain ⟨h3, h4⟩ := ba h2
          obtain ⟨h5, h6⟩ := ba h4
          obtain ⟨h7, h8⟩ := ba h6
          obtain ⟨h9, h10⟩ := ba h8
          obtain ⟨h11, h12⟩ := ba h10
          have e1 : y = (mtN m : Str) := of_decide_eq_true h1
          subst e1
          have hl20 : ps.length < 20 := of_decide_eq_true h7
          obtain ⟨id, r, o1, o2, o3, o4, o5⟩ := or_mt (cl := cl) (X := X) rfl m
          have A := (sndE a C h9).1
          have IA := sndEs es C h12
          have key : ∀ {σ : L2.St} {H : Hp} {Q : VK}, tE X.K cl W (ev G (.mt m a es)) σ H Q → tE X.K cl W (ev G a) σ H fun x H1 => tyV X.K (mtT m) x H1 ∧ tA X.K cl W (evs G es) σ H1 fun xs H2 => r x xs H2 Q := fun {σ H Q} q =>
            lift1 q fun ρ H1 S en x v he hs rv q => by
              split at q
              · rename_i hm
                refine ⟨v_mtTy m hs rv hm, ρ, en, S, he, hs, (Aft.bind q).imp (fun ρ2 H2 S2 xs x2 s2 q2 => ?_) fun _ _ _ _ _ z => z⟩
                intro vs rvs
                exact o5 ρ2 H2 S2 x v xs vs Q _ s2 (rv.ext x2) rvs q2
              · exact aft_stuck q
          have hlen : ps.length = es.len := plain_len h12
          refine both ?_ fun _ => rfl
          match ps, IA, h12, hlen, hl20 with
          | [], IA, h12, hlen, _ =>
            have hes : es = .nil := by
              cases es with
              | nil => rfl
              | cons _ _ => cases h12
              | star _ _ => cases h12
            subst hes
            refine (pe_bm0 o1 o2 o3 o4 A (base_of h5) h3).weak fun σ H Q q => ?_
            obtain ⟨ρ, en, S, he, hs, q⟩ := key q
            refine ⟨ρ, en, S, he, hs, q.imp (fun ρ1 H1 S1 x x1 s1 q1 => ?_) fun _ _ _ _ _ z => z⟩
            intro v rv
            obtain ⟨ty, ρ2, en2, S2, he2, hs2, q2⟩ := q1 v rv
            exact ⟨ty, Aft.here (a := []) q2 hs2 [] .nil⟩
          | p0 :: pr, IA, h12, hlen, hl20 =>
            obtain ⟨k1, a', es', e2, k2, k3, k4⟩ := plain_head h11 h12 rfl
            refine (pe_bm o1 o2 o3 o4 A IA (base_of h5) ?_ h3 (starEach_cons k1) (plain_any k3 k4)).weak fun σ H Q q => key q
            have q1 := plain_all (pos := pos) (env := X.env) h11 h12
            have q2 : decide ((p0 :: pr).length + ([] : List Keyword).length + (if ([] : List Keyword).isEmpty then 0 else 1) < 30) = true := by
              apply decide_eq_true
              simp only [List.length_nil, List.isEmpty_nil, if_true]
              omega
            exact Bool.and_eq_true_iff.mpr ⟨Bool.and_eq_true_iff.mpr ⟨q1, rfl⟩, q2⟩
        | cons _ _ => cases h
      | _ => cases h
    | _ => cases h
  | .lc own elt pt it c, T, cl, sc, W, X, pe, C, h => by
    obtain ⟨pelt, ptg, pit, pifs, scope, pos, epe, hh⟩ := chk_lc h
    clear h
    subst epe
    obtain ⟨h1, h2⟩ := ba hh
    obtain ⟨h3, h4⟩ := ba h2
    obtain ⟨h5, h6⟩ := ba h4
    obtain ⟨h7, h8⟩ := ba h6
    refine both ((pe_lc (own := own) (g := gPt X.K pt) (wi := tI X.K cl W (evi G it)) (tt := tB X.K cl W0 (evc G c)) (te := tE X.K cl W0 (ev G elt)) C.calm (by rw [C.nN]; exact C.nd) (sndI it C h5) (by rw [C.nN, C.sc]; exact blkOk_by h1)
      (fun s H Cc l fp => pg_pt (X := X.blk s H scope (compEnvC scope l Cc X.env) fp) (sc := scope) (rs := relB scope sc) C.nN C.nd (C.blk.sc) (fun x hx => hx) C.calm h3)
      (fun s H Cc l fp => sndC c (C.blk (s := s) (H := H) (Cc := Cc) (l := l) (fp := fp) (scope := scope)) h7)
      (fun s H Cc l fp => (sndE elt (C.blk (s := s) (H := H) (Cc := Cc) (l := l) (fp := fp) (scope := scope)) h8).1) (chkI_fold h5)).weak fun σ H Q q => ?_) fun _ => rfl
    obtain ⟨ρ, en, S, he, hs, q⟩ := q
    refine ⟨ρ, en, S, he, hs, (Aft.bind q).imp (fun ρ1 H1 S1 src x1 s1 q1 => ?_) fun _ _ _ _ _ z => z⟩
    intro J hJ Dn hD
    exact lc_run h3 (he.ext x1) s1 hJ q1 (fun ρ H S d v z r => z v r) Dn hD
  | .lc2 own own1 elt pt it p1 it1, T, cl, sc, W, X, pe, C, h => by
    obtain ⟨pelt, ptg, pit, ptg1, pit1, scope, pos, epe, hh⟩ := chk_lc2 h
    clear h
    subst epe
    obtain ⟨h1, h2⟩ := ba hh
    obtain ⟨h3, h4⟩ := ba h1
    obtain ⟨h5, h6⟩ := ba h2
    obtain ⟨h7, h8⟩ := ba h5
    obtain ⟨h9, h10⟩ := ba h6
    obtain ⟨h11, h12⟩ := ba h9
    refine both ((pe_lc2 (own := own) (vs1 := own1) (g := gPt X.K pt) (g1 := gPt X.K p1) (wi := tI X.K cl W (evi G it)) (wi1 := tI X.K cl W0 (evi G it1)) (te := tE X.K cl W0 (ev G elt)) C.calm (by rw [C.nN]; exact C.nd) (sndI it C h11) (by rw [C.nN, C.sc]; exact blkOk_by h3) (fun i hi => by
        have := List.all_eq_true.mp h4 i hi
        simpa using this)
      (fun s H Cc l fp => pg_pt (X := X.blk s H scope (compEnvC scope l Cc X.env) fp) (sc := scope) (rs := relB scope sc) C.nN C.nd (C.blk.sc) (fun x hx => hx) C.calm h7)
      (fun s H Cc l fp => pts_nil)
      (fun s H Cc l fp => sndI it1 (C.blk (s := s) (H := H) (Cc := Cc) (l := l) (fp := fp) (scope := scope)) h12)
      (fun s H Cc l fp => pg_pt (X := X.blk s H scope (compEnvC scope l Cc X.env) fp) (sc := scope) (rs := relB scope sc) C.nN C.nd (C.blk.sc) (fun x hx => hx) C.calm h8)
      (fun s H Cc l fp => pts_nil)
      (fun s H Cc l fp => (sndE elt (C.blk (s := s) (H := H) (Cc := Cc) (l := l) (fp := fp) (scope := scope)) h10).1) (chkI_fold h11) (fun env => chkI_fold h12)).weak fun σ H Q q => ?_) fun _ => rfl
    obtain ⟨ρ, en, S, he, hs, q⟩ := q
    refine ⟨ρ, en, S, he, hs, (Aft.bind q).imp (fun ρ1 H1 S1 src x1 s1 q1 => ?_) fun _ _ _ _ _ z => z⟩
    intro J hJ Dn hD
    exact lc2_run (own1 := own.filter fun q => own1.contains q.2) (vs1 := own1) h7 h8 (fun q hq => by simpa using (List.mem_filter.mp hq).2) (he.ext x1) s1 hJ q1 (fun ρ H S d v z r => z v r) Dn hD
  | .fld a c f, T, cl, sc, W, X, pe, C, h => by
    cases pe with
    | Attribute pa y pos =>
      obtain ⟨h1, h2⟩ := ba (show ((decide (y = f) && (T.flds.contains f && decide (c < T.ics.length))) && (notCall0 pa && chkE T N sc a pa)) = true from h)
      obtain ⟨h3, h4⟩ := ba h1
      obtain ⟨h5, h6⟩ := ba h2
      obtain ⟨h7, h8⟩ := ba h4
      have e : y = f := of_decide_eq_true h3
      subst e
      obtain ⟨_, _, m3, _, m5⟩ := C.tab.ics c _ (List.getElem?_eq_getElem (of_decide_eq_true h8))
      refine both ((pe_fld (sndE a C h6).1 (base_of h5)).weak fun σ H Q q => lift1 q fun ρ H1 S en x v he hs r q => ?_) fun _ => rfl
      obtain ⟨d, e, q⟩ := q.of hs
      obtain ⟨p, dx, ws, w, rfl, g1, g2, g3⟩ := fld_at hs r e
      exact ⟨p, cl.ic c, dx, ws, w, rfl, g1, m3, m5 _ (List.contains_iff_mem.mp h7), g2, q _ g3⟩
    | _ => cases h
  | .mk c f es, T, cl, sc, W, X, pe, C, h => by
    cases pe with
    | Call pf ps kws pos =>
      cases pf with
      | Name x p =>
        match kws, h with
        | [], h =>
          obtain ⟨h1, h2⟩ := ba (show ((decide (T.ics[c]? = some x) && mthB T f c "__init__" es.len) && ((glB sc x && plN x) && (es.plain && chkEs T N sc es ps))) = true from h)
          obtain ⟨h3, h4⟩ := ba h2
          obtain ⟨h5, h6⟩ := ba h3
          obtain ⟨h7, h8⟩ := ba h4
          obtain ⟨g1, g2⟩ := ba h1
          obtain ⟨p1, p2, p3⟩ := pl_of h6
          have hx : T.ics[c]? = some x := of_decide_eq_true g1
          obtain ⟨fa, fd, qs, t1, t2, Mt, FG, hb, _⟩ := mth_of C g2
          obtain ⟨m1, m2, m3, m4, m5⟩ := C.tab.ics c x hx
          have IA := sndEs es C h8
          have fin : ∀ {σ : L2.St} {H : Hp} {Q : VK}, tE X.K cl W (ev G (.mk c f es)) σ H Q → tA X.K cl W (evs G es) σ H (fun vs H1 => ∀ p dx : Addr, H1 p = none → H1 dx = none → dx ≠ p →
              spOf X.K cl.base qs.length (G.fn f) (.ref p :: vs) (upd (upd H1 dx (.own p)) p (.ins (cl.ic c) dx [])) (fun v H2 => v = .non ∧ Q (.ref p) H2) (fun cls d H' => W cls d σ H')) := fun {σ H Q} q =>
            tA_len h7 (liftA q fun ρ H1 S en xs vs he hs r q hl p dx hp hdx hne => mk_sp hs r q (by simp [hl, t2]) hp hdx hne)
          refine both ⟨fun pins s σ H Q I q => ?_⟩ fun _ => rfl
          have q2 := fin q
          refine wpAny_Call_Name_kw (ld_glob I (C.gl h5) m1 ?_ p1)
          have hlen : ps.length = es.len := plain_len h8
          match ps, IA, h8, hlen with
          | [], IA, h8, hlen =>
            refine PySem.W.callWith_K0 I.kIn m2 ?_
            have hes : es = .nil := by
              cases es with
              | nil => rfl
              | cons _ _ => cases h8
              | star _ _ => cases h8
            subst hes
            obtain ⟨ρ, en, S, he, hs, q3⟩ := q2
            exact run_new C hx Mt FG hb I .nil (Aft.here (a := []) q3 hs [] .nil)
          | p0 :: pr, IA, h8, hlen =>
            obtain ⟨k1, a, es', e2, k2, k3, k4⟩ := plain_head h7 h8 rfl
            refine PySem.W.callWith_K (h₀ := X.base) I.ok.mod.kin m2 ?_ (starEach_cons k1) (plain_any k3 k4)
            refine thn (IA.run pos pins s σ H _ I q2) fun us s1 ⟨vs, H1, I1, r1, q1⟩ => ⟨I1.kIn, ?_⟩
            exact run_new C hx Mt FG hb I1 r1 q1
        | _ :: _, h => cases h
      | _ => cases h
    | _ => cases h
  | .mth f c m a es, T, cl, sc, W, X, pe, C, h => by
    cases pe with
    | Call pf ps kws pos =>
      cases pf with
      | Attribute pa y apos =>
        match kws, h with
        | [], h =>
          obtain ⟨h1, h2⟩ := ba (show ((decide (y = m) && (mthB T f c m es.len && decide (c < T.ics.length))) && ((apos.endLine == pos.line) && (notCall0 pa && (decide (ps.length < 20) && (chkE T N sc a pa && (es.plain && chkEs T N sc es ps)))))) = true from h)
          obtain ⟨h3, h4⟩ := ba h2
          obtain ⟨h5, h6⟩ := ba h4
          obtain ⟨h7, h8⟩ := ba h6
          obtain ⟨h9, h10⟩ := ba h8
          obtain ⟨h11, h12⟩ := ba h10
          obtain ⟨g1, g2⟩ := ba h1
          obtain ⟨g3, g4⟩ := ba g2
          have e1 : y = m := of_decide_eq_true g1
          subst e1
          have hl20 : ps.length < 20 := of_decide_eq_true h7
          have hcl : c < T.ics.length := of_decide_eq_true g4
          obtain ⟨fa, fd, qs, t1, t2, Mt, FG, hb, _⟩ := mth_of C g3
          obtain ⟨m1, m2, m3, m4, m5⟩ := C.tab.ics c _ (List.getElem?_eq_getElem hcl)
          have A := (sndE a C h9).1
          have IA := sndEs es C h12
          have key : ∀ {σ : L2.St} {H : Hp} {Q : VK}, tE X.K cl W (ev G (.mth f c y a es)) σ H Q → tE X.K cl W (ev G a) σ H fun x H1 => ∃ p dx fs, x = .ref p ∧ H1 p = some (.ins (cl.ic c) dx fs) ∧ fs.lookup y = none ∧
              tA X.K cl W (evs G es) σ H1 fun vs H2 => spOf X.K cl.base qs.length (G.fn f) (x :: vs) H2 Q (fun cls d H' => W cls d σ H') := fun {σ H Q} q => lift1 q fun ρ H1 S en x v he hs rv q => by
            split at q
            · rename_i hm
              obtain ⟨p, dx, ws, rfl, hp, hlk⟩ := ins_at hs rv hm
              refine ⟨p, dx, ws, rfl, hp, hlk, tA_len h11 ⟨ρ, en, S, he, hs, (Aft.bind q).imp (fun ρ2 H2 S2 xs x2 s2 q2 => ?_) fun _ _ _ _ _ z => z⟩⟩
              intro vs rvs hl
              exact sp_of (by simp [hl, t2]) (.cons (rv.ext x2) rvs) s2 q2
            · exact aft_stuck q
          have hlen : ps.length = es.len := plain_len h12
          have hform : methodCallForm (ps.length + ([] : List Keyword).length) (backTo pos (starEach ps X.env)) (backToKw pos (keywordEach [] X.env)) = true := by
            have q1 := plain_all (pos := pos) (env := X.env) h11 h12
            unfold methodCallForm
            refine Bool.and_eq_true_iff.mpr ⟨Bool.and_eq_true_iff.mpr ⟨q1, rfl⟩, decide_eq_true ?_⟩
            have : (backToKw pos (keywordEach [] X.env)).isEmpty = true := rfl
            rw [this]
            simp only [List.length_nil, if_true]
            omega
          refine both ⟨fun pins s σ H Q I q => ?_⟩ fun _ => rfl
          refine mth_call (base_of h5) hform h3 (thn (A.run pins s σ H _ I (key q)) fun u s1 ⟨x, H1, I1, rx, p, dx, fs, ex, ea, l, q1⟩ pl => ?_)
          subst ex
          obtain rfl : u = Value.ref p := rx
          refine getmeth_ok I1 ea m3 Mt l ?_
          match ps, IA, h12, hlen with
          | [], IA, h12, hlen =>
            have hes : es = .nil := by
              cases es with
              | nil => rfl
              | cons _ _ => cases h12
              | star _ _ => cases h12
            subst hes
            obtain ⟨ρ, en, S, he, hs, q3⟩ := q1
            exact PySem.W.callWith_K0 (first := [.ref p]) I1.kIn Mt.kp (run_m (us := [.ref p]) (vs := [.ref p]) C FG hb I1 (.cons rfl .nil) (Aft.here (a := []) q3 hs [] .nil))
          | p0 :: pr, IA, h12, hlen =>
            obtain ⟨k1, a', es', e2, k2, k3, k4⟩ := plain_head h11 h12 rfl
            refine PySem.W.callWith_K (first := [.ref p]) (h₀ := X.base) I.ok.mod.kin Mt.kp ?_ (starEach_cons k1) (plain_any k3 k4)
            refine thn (IA.run pos pins s1 σ H1 _ I1 q1) fun us s2 ⟨vs, H2, I2, r2, q2⟩ => ⟨I2.kIn, ?_⟩
            exact run_m (us := .ref p :: us) (vs := .ref p :: vs) C FG hb I2 (.cons rfl r2) q2
        | _ :: _, h => cases h
      | _ => cases h
    | _ => cases h
  | .mthk f c m a es ks pm, T, cl, sc, W, X, pe, C, h => by
    cases pe with
    | Call pf ps kws pos =>
      cases pf with
      | Attribute pa y apos =>
        obtain ⟨h1, h2⟩ := ba (show (((decide (y = m) && (mthB T f c m (es.len + ks.len) && decide (c < T.ics.length))) && (match T.mts[f - T.fns.length]? with
          | some (_, _, qs) => (decide (pm.length = qs.length) && pm.all fun j => decide (j < es.len + 1 + ks.len)) && (T.kws.any fun t => decide (t.1 = f) && (decide (t.2.1 = es.len + 1) && (decide (t.2.2.1.map some = kwN kws) && decide (t.2.2.2 = pm))))
          | none => false)) && ((apos.endLine == pos.line) && (notCall0 pa && (decide (ps.length < 10) && (decide (0 < ks.len ∧ ks.len < 10) && (chkE T N sc a pa && ((es.plain && chkEs T N sc es ps) && (ks.plain && chkEs T N sc ks (kwV kws))))))))) = true from h)
        obtain ⟨h3, h4⟩ := ba h2
        obtain ⟨h5, h6⟩ := ba h4
        obtain ⟨h7, h8⟩ := ba h6
        obtain ⟨h9, h10⟩ := ba h8
        obtain ⟨h11, h12⟩ := ba h10
        obtain ⟨h13, h14⟩ := ba h12
        obtain ⟨h15, h16⟩ := ba h13
        obtain ⟨h17, h18⟩ := ba h14
        obtain ⟨g0, g5⟩ := ba h1
        obtain ⟨g1, g2⟩ := ba g0
        obtain ⟨g3, g4⟩ := ba g2
        have e1 : y = m := of_decide_eq_true g1
        subst e1
        have hl10 : ps.length < 10 := of_decide_eq_true h7
        have hk10 : 0 < ks.len ∧ ks.len < 10 := of_decide_eq_true h9
        have hcl : c < T.ics.length := of_decide_eq_true g4
        obtain ⟨fa, fd, qs, t1, t2, Mt, FG, hb, hbk⟩ := mth_of C g3
        obtain ⟨m1, m2, m3, m4, m5⟩ := C.tab.ics c _ (List.getElem?_eq_getElem hcl)
        rw [t1] at g5
        obtain ⟨g6, g7⟩ := ba g5
        obtain ⟨g8, g9⟩ := ba g6
        have el : pm.length = qs.length := of_decide_eq_true g8
        have ej : ∀ j ∈ pm, j < es.len + 1 + ks.len := fun j hj => of_decide_eq_true (List.all_eq_true.mp g9 j hj)
        obtain ⟨⟨f', mm, kn, pm'⟩, gm, gt⟩ := List.any_eq_true.mp g7
        obtain ⟨u1, v1⟩ := ba gt
        obtain ⟨u2, v2⟩ := ba v1
        obtain ⟨u3, u4⟩ := ba v2
        have w1 : f' = f := of_decide_eq_true u1
        have w2 : mm = es.len + 1 := of_decide_eq_true u2
        have w3 : kn.map some = kwN kws := of_decide_eq_true u3
        have w4 : pm' = pm := of_decide_eq_true u4
        subst w1
        subst w2
        subst w4
        have B := hbk _ _ _ gm
        have A := (sndE a C h11).1
        have IA := sndEs es C h16
        have IK := sndK ks C h17 h18
        have hkl : kn.length = ks.len := by
          have z := congrArg List.length w3
          rw [List.length_map] at z
          rw [z, ← plain_len h18]
          exact kw_len kws
        obtain ⟨k1, k2, k3⟩ := kw_facts (env := X.env) (pos := pos) w3
        have key : ∀ {σ : L2.St} {H : Hp} {Q : VK}, tE X.K cl W (ev G (.mthk f' c y a es ks pm')) σ H Q → tE X.K cl W (ev G a) σ H fun x H1 => ∃ p dx fs, x = .ref p ∧ H1 p = some (.ins (cl.ic c) dx fs) ∧ fs.lookup y = none ∧
            tA X.K cl W (evs G es) σ H1 (fun vs H2 => vs.length = es.len ∧ tA X.K cl W (evs G ks) σ H2 fun zs H3 => zs.length = ks.len ∧ spOf X.K cl.base qs.length (G.fn f') (pm'.filterMap fun j => ((x :: vs) ++ zs)[j]?) H3 Q (fun cls d H' => W cls d σ H')) := fun {σ H Q} q => lift1 q fun ρ H1 S en x v he hs rv q => by
          split at q
          · rename_i hm
            obtain ⟨p, dx, ws, rfl, hp, hlk⟩ := ins_at hs rv hm
            refine ⟨p, dx, ws, rfl, hp, hlk, tA_len h15 ⟨ρ, en, S, he, hs, (Aft.bind q).imp (fun ρ2 H2 S2 xs x2 s2 q2 => ?_) fun _ _ _ _ _ z => z⟩⟩
            intro vs rvs hl
            refine ⟨hl, tA_len h17 ⟨ρ2, en, S2, he.ext x2, s2, (Aft.bind q2).imp (fun ρ3 H3 S3 zs x3 s3 q3 => ?_) fun _ _ _ _ _ z => z⟩⟩
            intro ws' rw' hl2
            refine ⟨hl2, sp_of ?_ ((((RepL.cons (rv.ext x2) rvs).ext x3).append rw').perm pm') s3 q3⟩
            rw [← el]
            exact pm_len fun j hj => by rw [List.length_append, List.length_cons, hl, hl2]; exact ej j hj
          · exact aft_stuck q
        have hlen : ps.length = es.len := plain_len h16
        have hkw : kws.length = ks.len := by rw [← plain_len h18, ← kw_len]; exact (kwN_len kws).symm
        have hform : methodCallForm (ps.length + kws.length) (backTo pos (starEach ps X.env)) (backToKw pos (keywordEach kws X.env)) = true := by
          have q1 := plain_all (pos := pos) (env := X.env) h15 h16
          unfold methodCallForm
          refine Bool.and_eq_true_iff.mpr ⟨Bool.and_eq_true_iff.mpr ⟨q1, k1⟩, decide_eq_true ?_⟩
          split <;> omega
        refine both ⟨fun pins s σ H Q I q => ?_⟩ fun _ => rfl
        refine mth_call (base_of h5) hform h3 (thn (A.run pins s σ H _ I (key q)) fun u s1 ⟨x, H1, I1, rx, p, dx, fs, ex, ea, l, q1⟩ pl => ?_)
        subst ex
        obtain rfl : u = Value.ref p := rx
        refine getmeth_ok I1 ea m3 Mt l ?_
        match ps, IA, h16, hlen with
        | [], IA, h16, hlen =>
          have hes : es = .nil := by
            cases es with
            | nil => rfl
            | cons _ _ => cases h16
            | star _ _ => cases h16
          subst hes
          refine PySem.W.callWith_KW0 (first := [.ref p]) (h₀ := X.base) I.ok.mod.kin Mt.kp k1 ?_ (by rw [k3]; rfl)
          obtain ⟨ρ, en, S, he, hs, q3⟩ := q1
          obtain ⟨_, q4⟩ := Aft.here (a := []) q3 hs [] .nil
          refine thn (IK.run pos pins s1 σ H1 _ I1 q4) fun ws s2 ⟨zs, H2, I2, rz, hz, q5⟩ => ⟨I2.kIn, ?_⟩
          rw [k2]
          exact run_mk (us := [.ref p]) (vs := [.ref p]) C FG B I2 (.cons rfl .nil) rz rfl (hz.trans hkl.symm) q5
        | p0 :: pr, IA, h16, hlen =>
          obtain ⟨n1, a', es', e2, n2, n3, n4⟩ := plain_head h15 h16 rfl
          refine PySem.W.callWith_KW (first := [.ref p]) (h₀ := X.base) I.ok.mod.kin Mt.kp k1 ?_ (by rw [k3, Bool.or_false]; exact plain_any h15 h16) (starEach_cons n1)
          refine thn (IA.run pos pins s1 σ H1 _ I1 q1) fun us s2 ⟨vs, H2, I2, r2, hl, q2⟩ => ?_
          refine thn (IK.run pos pins s2 σ H2 _ I2 q2) fun ws s3 ⟨zs, H3, I3, rz, hz, q5⟩ => ⟨I3.kIn, ?_⟩
          rw [k2]
          exact run_mk (us := .ref p :: us) (vs := .ref p :: vs) C FG B I3 (.cons rfl r2) rz (by rw [List.length_cons, hl]) (hz.trans hkl.symm) q5
      | _ => cases h
    | _ => cases h
  | .lam f k q body, T, cl, sc, W, X, pe, C, h => by
    cases pe with
    | Call pf ps kws pos =>
      cases pf with
      | Name x p =>
        match ps, kws, h with
        | [.Lambda ag pb scope lpos], [], h =>
          obtain ⟨h1, h2⟩ := ba (show (((match T.fns[f]? with
            | some (y, qs) => decide (x = y) && decide (qs.length = 1)
            | none => false) && (T.lfs.contains f && decide (T.lams[k]? = some (N, q)))) && ((glB sc x && plN x) && ((noArgs ag && LamX.lamSB sc scope) && chkE T.nolam N scope body pb))) = true from h)
          obtain ⟨h3, h4⟩ := ba h2
          obtain ⟨h5, h6⟩ := ba h3
          obtain ⟨h7, h8⟩ := ba h4
          obtain ⟨h9, h10⟩ := ba h7
          obtain ⟨g1, g2⟩ := ba h1
          obtain ⟨g3, g4⟩ := ba g2
          obtain ⟨p1, p2, p3⟩ := pl_of h6
          cases e : T.fns[f]? with
          | none => rw [e] at g1; cases g1
          | some yq =>
            obtain ⟨y, qs⟩ := yq
            rw [e] at g1
            obtain ⟨g5, g6⟩ := ba g1
            have ex : x = y := of_decide_eq_true g5
            subst ex
            obtain ⟨c, P, l1, l2, l3, l4, l5, l6⟩ := C.lam k q (of_decide_eq_true g4)
            obtain ⟨fa, F, m1, m2, m3, m4⟩ := C.tab.lfs f x qs e (of_decide_eq_true g6) (List.contains_iff_mem.mp g3)
            have L := LamX.lamS_by h10
            rw [← C.sc] at L
            have hag := noArgs_is h9
            subst hag
            refine both ⟨fun pins s σ H Q I q1 => ?_⟩ fun _ => rfl
            obtain ⟨ρ, en, S, he, hs, q1⟩ := q1
            replace q1 : Aft X.K cl ρ H (if isTbl k q S = true then G.lf f (fun S => ev G body en S) S else .stuck) (fun ρ' H' _ d => ∀ v, Rep X.K ρ' H' d v → Q v H') (fun x ρ' H' _ => ∀ cls d, XR X.K cl ρ' H' x cls d → W cls d σ H') := q1
            by_cases ht : isTbl k q S = true
            · rw [if_pos ht, m3] at q1
              have hS := tbl_is ht
              have hPk : ρ[k]? = some P := hs.pin k P l4
              have hT : TabO H P q := by
                obtain ⟨a, a1, a2⟩ := hs.obs k _ hS
                rw [hPk] at a1
                cases a1
                exact a2
              refine wpAny_Call_Name_kw (ld_glob I (C.gl h5) m1 ?_ p1)
              refine PySem.W.callWith_K (h₀ := X.base) I.ok.mod.kin m2 ?_ (by rfl) (by rfl)
              show wpAny (model X.prog X.w) X.A (spliced ((false, eval (.Lambda ⟨[], [], none, [], [], none, []⟩ pb scope lpos) X.env) :: backTo pos (starEach [] X.env))) _ X.xe s
              refine Calls.spliced_cons (lam_new I l3 l2 l1 hT rfl (L.has I.ok) fun g c' oc u pm ctv H1 s' I1 keep tab g0 hg hc hn => ?_)
              refine Calls.spliced_nil ⟨I1.kIn, ?_⟩
              obtain ⟨x1, w1⟩ := hs.writeG (o' := .tbl q) hPk hS (.inr hT.at_) keep fun _ => tab
              rw [set_same hS] at w1
              have gn : g ∉ ρ := fun z => hs.there z g0
              have w2 := w1.adoptG (o := .act) gn ⟨_, _, hg⟩
              have xg : Ext ρ H (ρ ++ [g]) H1 := ⟨⟨[g], rfl⟩, fun b hb => (List.mem_append.mp hb).imp id fun z => by rw [List.mem_singleton.mp z]; exact g0, x1.keep⟩
              have AR : ActRule X.prog X.w X.K X.mg X.base (4 * n + 35) X.A X.stack s' H1 (cl.at_ (ρ ++ [g]) H1) ρ.length fun S => ev G body en S :=
                act_rule I1 L l1 hg hc hn rfl C.gd (show (ρ ++ [g])[ρ.length]? = some g by simp) rfl (he.ext xg) fun A outer s2 H2 E2 room gd =>
                  (sndE body (T := T.nolam) (cl := cl.at_ (ρ ++ [g]) H1) (sc := scope) (X := LamX.lamCx X A outer s2 H2 E2 scope g c') (W := fun cls d _ H => E2 cls d H)
                    ⟨C.nN, C.nd, rfl, rfl, gd, room, C.seer, C.tree, ⟨_, outer, rfl, L.gen, L.co, rfl, rfl⟩, C.tab.nolam, takes_of rfl rfl rfl rfl, fun k q e => by cases e⟩ h8).1
              refine wpAny_call (codeAny_mono (m4.run X.A X.stack s' H1 g _ _ Q (fun cls d H' => W cls d σ H') ρ S _ l5 C.gd I1.env0 hs.len.symm w2.toBase hg AR ?_) fun r s2 hq => ?_)
              · have back : ∀ {ρ' : List Addr} {H' : Hp} {S' : Sto}, Ext (ρ ++ [g]) H1 ρ' H' → RelS X.K (cl.at_ (ρ ++ [g]) H1) ρ' H' S' → Ext ρ H ρ' H' ∧ RelS X.K cl ρ' H' (S'.set S.length .dead) := fun {ρ' H' S'} x' s'' => by
                  refine ⟨xg.trans x', ?_⟩
                  have z := s''.since (w2.his.trans x'.kp)
                  exact z.dead S.length
                cases y : F (fun S => ev G body en S) S with
                | stuck => rw [y] at q1; exact q1
                | ok d S' => rw [y] at q1; exact fun ρ' H' x' s'' => q1 ρ' H' (back x' s'').1 (back x' s'').2
                | ex xc S' => rw [y] at q1; exact fun ρ' H' x' s'' => q1 ρ' H' (back x' s'').1 (back x' s'').2
              · cases r with
                | error e => exact C.tk e s2 (XE.of_call I1 (fun _ _ _ z => z) hq)
                | ok fl =>
                  cases fl with
                  | ret u => exact I1.after hq
                  | next => exact False.elim hq
                  | brk => exact False.elim hq
                  | cont => exact False.elim hq
            · rw [if_neg ht] at q1
              exact q1.elim
      | _ => cases h
    | _ => cases h
theorem sndEs : ∀ (es : Es) {T : Tbl} {cl : Cl} {sc : Scope} {W : WX} {X : Cx} {ps : List PySem.Expr}, Cxt T G cl N n sc W X → chkEs T N sc es ps = true → PA X ps (tA X.K cl W (evs G es))
  | .nil, T, cl, sc, W, X, ps, C, h => by
    cases ps with
    | nil => exact pa_nil.weak fun σ H Q ⟨ρ, en, S, he, hs, q⟩ => Aft.here (a := []) q hs [] .nil
    | cons _ _ => cases h
  | .cons a r, T, cl, sc, W, X, ps, C, h => by
    cases ps with
    | nil => cases h
    | cons p ps =>
      obtain ⟨h1, h2⟩ := ba (show (notStar p && (chkE T N sc a p && chkEs T N sc r ps)) = true from h)
      obtain ⟨h3, h4⟩ := ba h2
      refine (pa_cons (sndE a C h3).1 (sndEs r C h4) (starEach_cons h1)).weak fun σ H Q q => ?_
      obtain ⟨ρ, en, S, he, hs, q⟩ := q
      refine ⟨ρ, en, S, he, hs, (Aft.bind q).imp (fun ρ1 H1 S1 d x1 s1 q1 => ?_) fun _ _ _ _ _ z => z⟩
      intro v rv
      refine ⟨ρ1, en, S1, he.ext x1, s1, (Aft.bind q1).imp (fun ρ2 H2 S2 ds x2 s2 q2 => ?_) fun _ _ _ _ _ z => z⟩
      intro vs rvs
      exact Aft.here (a := d :: ds) q2 s2 _ (.cons (rv.ext x2) rvs)
  | .star a r, T, cl, sc, W, X, ps, C, h => by
    cases ps with
    | nil => cases h
    | cons p ps =>
      cases p with
      | Starred e pos =>
        obtain ⟨h3, h4⟩ := ba (show (chkE T N sc a e && chkEs T N sc r ps) = true from h)
        refine (StX.pa_star (sndE a C h3).1 (sndEs r C h4)).weak fun σ H Q q => ?_
        obtain ⟨ρ, en, S, he, hs, q⟩ := q
        refine ⟨ρ, en, S, he, hs, (Aft.bind q).imp (fun ρ1 H1 S1 d x1 s1 q1 => ?_) fun _ _ _ _ _ z => z⟩
        intro v rv
        cases z : seqOf S1 d with
        | none => rw [z] at q1; exact aft_stuck q1
        | some ys =>
          rw [z] at q1
          obtain ⟨pp, ws, e1, e2, e3⟩ := seqOf_rep s1 z rv
          refine ⟨pp, ws, e1, e2.symm, ρ1, en, S1, he.ext x1, s1, (Aft.bind q1).imp (fun ρ2 H2 S2 ds x2 s2 q2 => ?_) fun _ _ _ _ _ z => z⟩
          intro vs rvs
          exact Aft.here (a := ys ++ ds) q2 s2 _ ((e3.ext x2).append rvs)
      | _ => cases h
theorem sndK : ∀ (es : Es) {T : Tbl} {cl : Cl} {sc : Scope} {W : WX} {X : Cx} {kws : List Keyword}, Cxt T G cl N n sc W X → es.plain = true → chkEs T N sc es (kwV kws) = true → PK X kws (tA X.K cl W (evs G es))
  | .nil, T, cl, sc, W, X, kws, C, _, h => by
    cases kws with
    | nil => exact pk_nil.weak fun σ H Q ⟨ρ, en, S, he, hs, q⟩ => Aft.here (a := []) q hs [] .nil
    | cons k _ => obtain ⟨_, _, _⟩ := k; cases h
  | .cons a r, T, cl, sc, W, X, kws, C, hp, h => by
    cases kws with
    | nil => cases h
    | cons k kws =>
      obtain ⟨kn, p, kp⟩ := k
      obtain ⟨h1, h2⟩ := ba (show (notStar p && (chkE T N sc a p && chkEs T N sc r (kwV kws))) = true from h)
      obtain ⟨h3, h4⟩ := ba h2
      refine (pk_cons (sndE a C h3).1 (sndK r C hp h4)).weak fun σ H Q q => ?_
      obtain ⟨ρ, en, S, he, hs, q⟩ := q
      refine ⟨ρ, en, S, he, hs, (Aft.bind q).imp (fun ρ1 H1 S1 d x1 s1 q1 => ?_) fun _ _ _ _ _ z => z⟩
      intro v rv
      refine ⟨ρ1, en, S1, he.ext x1, s1, (Aft.bind q1).imp (fun ρ2 H2 S2 ds x2 s2 q2 => ?_) fun _ _ _ _ _ z => z⟩
      intro vs rvs
      exact Aft.here (a := d :: ds) q2 s2 _ (.cons (rv.ext x2) rvs)
  | .star a r, T, cl, sc, W, X, kws, C, hp, h => by cases hp
theorem sndO : ∀ (o : Oe) {T : Tbl} {cl : Cl} {sc : Scope} {W : WX} {X : Cx} {p : Option PySem.Expr}, Cxt T G cl N n sc W X → chkO T N sc o p = true → PO X p (tO X.K cl W (evo G o))
  | .none, T, cl, sc, W, X, p, C, h => by
    cases p with
    | none => exact po_none.weak fun σ H Q ⟨ρ, en, S, he, hs, q⟩ => Aft.here (a := (none : Option Int)) q hs
    | some _ => cases h
  | .some a, T, cl, sc, W, X, p, C, h => by
    cases p with
    | none => cases h
    | some p =>
      refine (po_some (sndE a C (show chkE T N sc a p = true from h)).1).weak fun σ H Q q => ?_
      obtain ⟨ρ, en, S, he, hs, q⟩ := q
      refine ⟨ρ, en, S, he, hs, (Aft.bind q).imp (fun ρ1 H1 S1 d x1 s1 q1 => ?_) fun _ _ _ _ _ z => z⟩
      intro v rv
      cases d with
      | int i => cases rv; exact ⟨i, rfl, Aft.here (a := some i) q1 s1⟩
      | _ => exact aft_stuck q1
theorem sndC : ∀ (o : Oe) {T : Tbl} {cl : Cl} {sc : Scope} {W : WX} {X : Cx} {p : List PySem.Expr}, Cxt T G cl N n sc W X → chkC T N sc o p = true → PTs X p (tB X.K cl W (evc G o))
  | .none, T, cl, sc, W, X, p, C, h => by
    cases p with
    | nil => exact pts_nil.weak fun σ H Q ⟨ρ, en, S, he, hs, q⟩ => Aft.here (a := true) q hs
    | cons _ _ => cases h
  | .some a, T, cl, sc, W, X, p, C, h => by
    match p, h with
    | [], h => cases h
    | [p], h => exact pts_one (sndE a C (show chkE T N sc a p = true from h)).2
    | _ :: _ :: _, h => cases h
theorem sndI : ∀ (it : It) {T : Tbl} {cl : Cl} {sc : Scope} {W : WX} {X : Cx} {p tg : PySem.Expr}, Cxt T G cl N n sc W X → chkI T N sc it p tg = true → PI X tg p (tI X.K cl W (evi G it))
  | .seq a, T, cl, sc, W, X, p, tg, C, h => by
    obtain ⟨h1, h2⟩ := ba (chk_seq h)
    refine (pi_seq (sndE a C h2).1).weak fun σ H Q q => ?_
    obtain ⟨ρ, en, S, he, hs, q⟩ := q
    refine ⟨ρ, en, S, he, hs, (Aft.bind q).imp (fun ρ1 H1 S1 d x1 s1 q1 => ?_) fun _ _ _ _ _ z => z⟩
    intro v rv
    obtain ⟨src, e, z⟩ := Aft.of q1 s1
    exact v_srcSeq s1 rv e z
  | .rng1 a, T, cl, sc, W, X, p, tg, C, h => by
    obtain ⟨x, pn, pa, pos, rfl, h⟩ := chk_r1 h
    obtain ⟨h1, h2⟩ := ba h
    obtain ⟨h3, h4⟩ := ba h2
    obtain ⟨h5, h6⟩ := ba h4
    have ex : x = ("range" : Str) := of_decide_eq_true h1
    subst ex
    refine (pi_range1 (C.gl h3) C.tab.range (pa_cons (sndE a C h6).1 pa_nil (starEach_cons h5)) (starEach_cons h5)).weak fun σ H Q q => ?_
    obtain ⟨ρ, en, S, he, hs, q⟩ := q
    refine ⟨ρ, en, S, he, hs, (Aft.bind q).imp (fun ρ1 H1 S1 d x1 s1 q1 => ?_) fun _ _ _ _ _ z => z⟩
    intro v rv
    cases d with
    | int j =>
      cases rv
      simp only at q1
      split at q1
      · rename_i hz
        exact ⟨j, rfl, hz.1, hz.2, by simpa using Aft.here q1 s1 _ (ItOk.rng (i := 0) (j := j))⟩
      · exact aft_stuck q1
    | _ => exact aft_stuck q1
  | .rng2 a b, T, cl, sc, W, X, p, tg, C, h => by
    obtain ⟨x, pn, pa, pb, pos, rfl, h⟩ := chk_r2 h
    obtain ⟨h1, h2⟩ := ba h
    obtain ⟨h3, h4⟩ := ba h2
    obtain ⟨h5, h6⟩ := ba h4
    obtain ⟨h7, h8⟩ := ba h5
    obtain ⟨h9, h10⟩ := ba h6
    have ex : x = ("range" : Str) := of_decide_eq_true h1
    subst ex
    refine (pi_range2 (C.gl h3) C.tab.range (pa_cons (sndE a C h9).1 (pa_cons (sndE b C h10).1 pa_nil (starEach_cons h8)) (starEach_cons h7)) (by rw [starEach_cons h7, starEach_cons h8]; rfl) (starEach_cons h8)).weak fun σ H Q q => ?_
    obtain ⟨ρ, en, S, he, hs, q⟩ := q
    refine ⟨ρ, en, S, he, hs, (Aft.bind q).imp (fun ρ1 H1 S1 d x1 s1 q1 => ?_) fun _ _ _ _ _ z => z⟩
    intro v rv
    refine ⟨ρ1, en, S1, he.ext x1, s1, (Aft.bind q1).imp (fun ρ2 H2 S2 e x2 s2 q2 => ?_) fun _ _ _ _ _ z => z⟩
    intro w rw
    cases d with
    | int i =>
      cases e with
      | int j =>
        cases rv
        cases rw
        simp only at q2
        split at q2
        · rename_i hz
          exact ⟨i, j, rfl, ⟨hz.1.1, hz.1.2, hz.2.1, hz.2.2⟩, Aft.here q2 s2 _ (ItOk.rng (i := i) (j := j))⟩
        · exact aft_stuck q2
      | _ => exact aft_stuck q2
    | _ => exact aft_stuck q2
  | .rng3 a b c, T, cl, sc, W, X, p, tg, C, h => by
    obtain ⟨x, pn, pa, pb, pc, pos, rfl, h⟩ := chk_r3 h
    obtain ⟨h1, h2⟩ := ba h
    obtain ⟨h3, h4⟩ := ba h2
    obtain ⟨h5, h6⟩ := ba h4
    obtain ⟨h7, h8⟩ := ba h5
    obtain ⟨h8, h8'⟩ := ba h8
    obtain ⟨h9, h10⟩ := ba h6
    obtain ⟨h10, h11⟩ := ba h10
    have ex : x = ("range" : Str) := of_decide_eq_true h1
    subst ex
    refine (pi_range3 (C.gl h3) C.tab.range (pa_cons (sndE a C h9).1 (pa_cons (sndE b C h10).1 (pa_cons (sndE c C h11).1 pa_nil (starEach_cons h8')) (starEach_cons h8)) (starEach_cons h7)) (starEach_cons h7) (by rw [starEach_cons h8, starEach_cons h8']; rfl)).weak fun σ H Q q => ?_
    obtain ⟨ρ, en, S, he, hs, q⟩ := q
    refine ⟨ρ, en, S, he, hs, (Aft.bind q).imp (fun ρ1 H1 S1 d x1 s1 q1 => ?_) fun _ _ _ _ _ z => z⟩
    intro v rv
    refine ⟨ρ1, en, S1, he.ext x1, s1, (Aft.bind q1).imp (fun ρ2 H2 S2 e x2 s2 q2 => ?_) fun _ _ _ _ _ z => z⟩
    intro w rw
    refine ⟨ρ2, en, S2, (he.ext x1).ext x2, s2, (Aft.bind q2).imp (fun ρ3 H3 S3 f x3 s3 q3 => ?_) fun _ _ _ _ _ z => z⟩
    intro u ru
    cases d with
    | int i =>
      cases e with
      | int j =>
        cases f with
        | int k =>
          cases rv
          cases rw
          cases ru
          simp only at q3
          split at q3
          · rename_i hz
            obtain ⟨z1, z2, z3⟩ := hz
            subst z3
            exact ⟨i, j, -1, (i - j).toNat, rfl, RgC.neg z1.1 z1.2 z2.1 z2.2, Aft.here q3 s3 _ (ItOk.dn (i := i) (j := j))⟩
          · exact aft_stuck q3
        | _ => exact aft_stuck q3
      | _ => exact aft_stuck q3
    | _ => exact aft_stuck q3
  | .enum a, T, cl, sc, W, X, p, tg, C, h => by
    obtain ⟨x, pn, pa, pos, rfl, h⟩ := chk_en h
    obtain ⟨h1, h2⟩ := ba h
    obtain ⟨h3, h4⟩ := ba h2
    obtain ⟨h5, h6⟩ := ba h4
    obtain ⟨h7, h8⟩ := ba h5
    have ex : x = ("enumerate" : Str) := of_decide_eq_true h1
    subst ex
    cases tg with
    | Tuple elts kk tpos =>
      refine (pi_enumV (C.gl h3) C.tab.enum (pa_cons (sndE a C h6).1 pa_nil (starEach_cons h7)) (starEach_cons h7)).weak fun σ H Q q => ?_
      obtain ⟨ρ, en, S, he, hs, q⟩ := q
      refine ⟨ρ, en, S, he, hs, (Aft.bind q).imp (fun ρ1 H1 S1 d x1 s1 q1 => ?_) fun _ _ _ _ _ z => z⟩
      intro v rv
      obtain ⟨src, e, z⟩ := Aft.of q1 s1
      obtain ⟨pp, vs, rfl, r⟩ := v_srcEnum s1 rv e z
      exact ⟨pp, vs, rfl, r⟩
    | _ => cases h8
  | .zip a b, T, cl, sc, W, X, p, tg, C, h => by
    obtain ⟨x, pn, pa, pb, pos, rfl, h⟩ := chk_zp h
    obtain ⟨h1, h2⟩ := ba h
    obtain ⟨h3, h4⟩ := ba h2
    obtain ⟨h5, h6⟩ := ba h4
    obtain ⟨h7, h8⟩ := ba h5
    obtain ⟨h88, h89⟩ := ba h8
    obtain ⟨h9, h10⟩ := ba h6
    have ex : x = ("zip" : Str) := of_decide_eq_true h1
    subst ex
    cases tg with
    | Tuple elts kk tpos =>
      refine (RZ.pi_zipA (C.gl h3) C.tab.zip (pa_cons (sndE a C h9).1 (pa_cons (sndE b C h10).1 pa_nil (starEach_cons h88)) (starEach_cons h7)) (starEach_cons h7) (by rw [starEach_cons h88]; rfl)).weak fun σ H Q q => ?_
      obtain ⟨ρ, en, S, he, hs, q⟩ := q
      refine ⟨ρ, en, S, he, hs, (Aft.bind q).imp (fun ρ1 H1 S1 d x1 s1 q1 => ?_) fun _ _ _ _ _ z => z⟩
      intro v rv
      refine ⟨ρ1, en, S1, he.ext x1, s1, (Aft.bind q1).imp (fun ρ2 H2 S2 e x2 s2 q2 => ?_) fun _ _ _ _ _ z => z⟩
      intro w rw
      obtain ⟨src, e, z⟩ := Aft.of q2 s2
      exact v_srcZip s2 (rv.ext x2) rw e z
    | _ => cases h89
end
end
end Ev
end
section
set_option Elab.async false
set_option linter.all false
set_option maxRecDepth 100000
set_option maxHeartbeats 4000000
set_option autoImplicit false
/-! Ev11: statements: the checker, the readings. -/
namespace Ev
open PySem PySem.Spec PyProof.Rows L2

/-! ### the order of stores -/
def isFn (sc : Scope) : Bool := match sc.kind with
  | .function => true
  | _ => false
theorem isFn_of {sc : Scope} (h : isFn sc = true) : sc.kind = .function := by
  unfold isFn at h
  split at h
  · assumption
  · cases h
theorem blk_fn {env : Env} (h : env.scope.kind = .function) : env.blockKind = .function := by unfold Env.blockKind; rw [h]; rfl
/-- a comprehension's own names -/
def compSc : PySem.Expr → Option Scope
  | .ListComp _ _ s _ => some s
  | .SetComp _ _ s _ => some s
  | .DictComp _ _ _ s _ => some s
  | _ => none
/-- name = [..] on one line -/
def swapB (sc : Scope) (tg e : PySem.Expr) : Bool := match compSc e, tg with
  | some s, .Name t pos => (sc.names.lookup t == some .local) && (pos.line == e.pos.line) && !(s.names.any fun (n, k) => n == t && (k == .local || k == .cell))
  | _, _ => false
theorem swaps_eq {env : Env} {tg e : PySem.Expr} {l : Nat} (hk : env.scope.kind = .function) : swapsWith e (some tg) l env = pure (swapB env.scope tg e) := by
  have hb := blk_fn hk
  have q : ∀ t : Str, env.kindOf t = env.scope.names.lookup t := fun _ => rfl
  cases e with
  | ListComp a b s p => cases tg <;> first | rfl | (show pure (env.blockKind == .function && env.kindOf _ == some .local && _ && _) = _; rw [hb, q]; rfl)
  | SetComp a b s p => cases tg <;> first | rfl | (show pure (env.blockKind == .function && env.kindOf _ == some .local && _ && _) = _; rw [hb, q]; rfl)
  | DictComp a b c s p => cases tg <;> first | rfl | (show pure (env.blockKind == .function && env.kindOf _ == some .local && _ && _) = _; rw [hb, q]; rfl)
  | _ => rfl
def isStarE : PySem.Expr → Bool
  | .Starred .. => true
  | _ => false
/-- the plain local names of a tuple of targets -/
def nmS (sc : Scope) (ts : List PySem.Expr) : List Str := ts.filterMap fun
  | .Name id pos => if sc.names.lookup id == some .local && pos.line == (ts.head?.map (·.pos.line)).getD 0 then some id else none
  | _ => none
def swQuick (sc : Scope) (ts vs : List PySem.Expr) : Bool :=
  !(ts.length == 2 || ts.length == 3) || vs.length != ts.length || vs.any isStarE || ((nmS sc ts).length != ts.length || (nmS sc ts).eraseDups.length != (nmS sc ts).length) || vs.all (foldedForSure 8)
theorem sw_none {env : Env} {ts vs : List PySem.Expr} {k k2 : Nat} {p p2 : Pos} (hk : env.scope.kind = .function) (h : swQuick env.scope ts vs = true) : swappedStores [.Tuple ts k p] (.Tuple vs k2 p2) env = pure none := by
  have hb := blk_fn hk
  unfold swQuick at h
  unfold swappedStores
  simp only [Bool.or_eq_true] at h
  show (if (!(ts.length == 2 || ts.length == 3) || vs.length != ts.length || env.blockKind != .function) = true then pure none else _) = _
  split
  · rfl
  · rename_i h1
    simp only [hb, bne_self_eq_false, Bool.or_false, Bool.or_eq_true, not_or] at h1
    show (if vs.any isStarE = true then pure none else _) = _
    split
    · rfl
    · rename_i h2
      show (if ((nmS env.scope ts).length != ts.length || (nmS env.scope ts).eraseDups.length != (nmS env.scope ts).length) = true then pure none else _) = _
      split
      · rfl
      · rename_i h3
        show (if vs.all (foldedForSure 8) = true then pure none else _) = _
        split
        · rfl
        · rename_i h4
          exfalso
          rcases h with (((h | h) | h) | h) | h
          · exact h1.1 h
          · exact h1.2 h
          · exact h2 h
          · exact h3 (by simpa using h)
          · exact h4 h
theorem sw_some {env : Env} {ts vs : List PySem.Expr} {k k2 : Nat} {p p2 : Pos} (hk : env.scope.kind = .function) (h : swQuick env.scope ts vs = false) (h2 : vs.all (constantsAlone 8) = false) : swappedStores [.Tuple ts k p] (.Tuple vs k2 p2) env = pure (some (nmS env.scope ts)) := by
  have hb := blk_fn hk
  unfold swQuick at h
  simp only [Bool.or_eq_false_iff] at h
  obtain ⟨⟨⟨⟨g1, g2⟩, g3⟩, g4, g4'⟩, g5⟩ := h
  unfold swappedStores
  show (if (!(ts.length == 2 || ts.length == 3) || vs.length != ts.length || env.blockKind != .function) = true then pure none else _) = _
  rw [if_neg (by rw [g1, g2, hb]; decide)]
  show (if vs.any isStarE = true then pure none else _) = _
  rw [if_neg (by rw [g3]; decide)]
  show (if ((nmS env.scope ts).length != ts.length || (nmS env.scope ts).eraseDups.length != (nmS env.scope ts).length) = true then pure none else _) = _
  rw [if_neg (by rw [g4, g4']; decide)]
  show (if vs.all (foldedForSure 8) = true then pure none else _) = _
  rw [if_neg (by rw [g5]; decide)]
  show (if vs.all (constantsAlone 8) = true then _ else pure (some (nmS env.scope ts))) = _
  rw [if_neg (by rw [h2]; decide)]
/-- stored from the left, one by one -/
def swNo (sc : Scope) (tg e : PySem.Expr) : Bool := match tg, e with
  | .Tuple ts _ _, .Tuple vs _ _ => swQuick sc ts vs
  | .List _ _, .Tuple _ _ _ => false
  | _, _ => true
theorem sw_no {env : Env} {tg e : PySem.Expr} (hk : env.scope.kind = .function) (h : swNo env.scope tg e = true) : swappedStores [tg] e env = pure none := by
  cases tg with
  | Tuple ts k p =>
    cases e with
    | Tuple vs k2 p2 => exact sw_none hk h
    | _ => rfl
  | List ts p =>
    cases e with
    | Tuple vs k2 p2 => cases h
    | _ => rfl
  | _ => rfl

/-! ### the checker -/
section
variable (T : Tbl) (N : List Str)
mutual
def chkT (sc : Scope) : Tg → PySem.Expr → Bool
  | .nm i, .Name x _ => decide (N[i]? = some x) && locB sc x
  | .tup ts, .Tuple es _ _ => chkTs sc ts es
  | .sub a i, .Subscript pa pi _ => notSlice pi && (chkE T N sc a pa && chkE T N sc i pi)
  | _, _ => false
def chkTs (sc : Scope) : List Tg → List PySem.Expr → Bool
  | [], [] => true
  | t :: ts, e :: es => notStar e && (chkT sc t e && chkTs sc ts es)
  | _, _ => false
end
/-- name, name[, name] = .. with plain local names -/
def chkPar (sc : Scope) : List Nat → List PySem.Expr → List PySem.Expr → Bool
  | [i, j], [.Name x px, .Name y py], [a, b] => (decide (N[i]? = some x) && decide (N[j]? = some y)) && (decide (i ≠ j) && ((loclB sc x && loclB sc y) && ((!swQuick sc [.Name x px, .Name y py] [a, b] && !([a, b].all (constantsAlone 8))) && decide (nmS sc [.Name x px, .Name y py] = [x, y]))))
  | [i, j, l], [.Name x px, .Name y py, .Name z pz], [a, b, c] => (decide (N[i]? = some x) && (decide (N[j]? = some y) && decide (N[l]? = some z))) && ((decide (i ≠ j) && (decide (i ≠ l) && decide (j ≠ l))) && ((loclB sc x && (loclB sc y && loclB sc z)) && ((!swQuick sc [.Name x px, .Name y py, .Name z pz] [a, b, c] && !([a, b, c].all (constantsAlone 8))) && decide (nmS sc [.Name x px, .Name y py, .Name z pz] = [x, y, z]))))
  | _, _, _ => false
def isLc : E → Bool
  | .lc .. => true
  | .lc2 .. => true
  | _ => false
def augB : Op2 → Operator → Bool
  | .add, .Add => true
  | .sub, .Sub => true
  | _, _ => false
/-- what an except suite lays in its list; e: the error's name -/
def chkX (sc : Scope) (e : Str) : Xa → PySem.Expr → Bool
  | .fld f, .Attribute (.Name y _) g _ => decide (y = e) && decide (g = f)
  | .isc c, .Call (.Name i _) [.Name y _, .Name z _] [] _ => (decide (i = ("isinstance" : Str)) && glB sc i) && (decide (y = e) && (decide ((T.ecs[c]?).map (·.1) = some z) && (glB sc z && plN z)))
  | .isb m, .Call (.Name i _) [.Name y _, .Name z _] [] _ => (decide (i = ("isinstance" : Str)) && glB sc i) && (decide (y = e) && (decide (m = "ValueError") && (decide (z = ("ValueError" : Str)) && glB sc z)))
  | _, _ => false
def chkXs (sc : Scope) (e : Str) : List Xa → List PySem.Expr → Bool
  | [], [] => true
  | a :: as, p :: ps => notStar p && (chkX T sc e a p && chkXs sc e as ps)
  | _, _ => false
mutual
def chkS (sc : Scope) : Sm → PySem.Stmt → Bool
  | .asg t e, .Assign [tg] pe _ => chkT T N sc t tg && (chkE T N sc e pe && (swNo sc tg pe && (!swapB sc tg pe || isLc e)))
  | .par is es, .Assign [.Tuple ts _ _] (.Tuple ps _ _) _ => chkPar N sc is ts ps && chkEs T N sc es ps
  | .aug i o e, .AugAssign (.Name x _) op pe _ => decide (N[i]? = some x) && (locB sc x && (augB o op && chkE T N sc e pe))
  | .augs a i o e, .AugAssign (.Subscript pa pi _) op pe _ => notSlice pi && (augB o op && (chkE T N sc a pa && (chkE T N sc i pi && chkE T N sc e pe)))
  | .exp e, .Expr pe _ => notComp pe && chkE T N sc e pe
  | .ret e, .Return (some pe) _ => chkE T N sc e pe
  | .retn, .Return none _ => true
  | .ite c a b, .If pc pa pb _ => chkE T N sc c pc && (chkSs sc a pa && chkSs sc b pb)
  | .for t it b, .For tg pit body [] _ => chkT T N sc t tg && (chkI T N sc it pit tg && chkSs sc b body)
  | .whl c b, .While pc body [] _ => chkE T N sc c pc && chkSs sc b body
  | .brk, .Break _ => true
  | .cnt, .Continue _ => true
  | .pas, .Pass _ => true
  | .bad, _ => true
  | .rai c es, .Raise (some (.Call (.Name x _) ps [] _)) none _ => (match T.ecs[c]? with
      | some (y, k) => decide (x = y) && (decide (es.len = k.fs.length) && decide (k.fs.length ≤ 2))
      | none => false) && ((glB sc x && plN x) && (es.plain && chkEs T N sc es ps))
  | .sfl a c f e, .Assign [.Attribute pa y _] pe _ => (decide (y = f) && (T.flds.contains f && decide (c < T.ics.length))) && (chkE T N sc a pa && chkE T N sc e pe)
  | .acs j i, .Assign [.Name x _] (.Call (.Name a _) [] [] _) _ => (decide (N[j]? = some x) && locB sc x) && (decide (N[i]? = some a) && (visB sc a && plN a))
  | .ace i, .Expr (.Call (.Name a _) [] [] _) _ => decide (N[i]? = some a) && (visB sc a && plN a)
  | .tri b c slot to as, .Try body [.ExceptHandler (some (.Name x _)) (some e) [.Assign [.Name y _] (.List ps _) _] _] [] [] _ => chkSs sc b body && ((decide ((T.ecs[c]?).map (·.1) = some x) && (glB sc x && plN x)) && ((decide (N[slot]? = some e) && (loclB sc e && plN e)) && ((decide (N[to]? = some y) && locB sc y) && (decide (as.length ≤ 1000) && chkXs T sc e as ps))))
  | _, _ => false
def chkSs (sc : Scope) : Ss → List PySem.Stmt → Bool
  | .nil, [] => true
  | .cons s r, p :: ps => chkS sc s p && chkSs sc r ps
  | _, _ => false
end
end

/-! ### the readings -/
/-- what is wanted behind a statement -/
structure EndsO where
  nx : List Addr → Hp → Sto → En → Prop
  rt : List Addr → Hp → Sto → D → Prop
  bk : List Addr → Hp → Sto → En → Prop
  ct : List Addr → Hp → Sto → En → Prop
  ex : Xc → List Addr → Hp → Sto → En → Prop
def AftO (K : PySem.W.Frag) (cl : Cl) (ρ : List Addr) (H : Hp) (o : O) (Z : EndsO) : Prop :=
  match o with
  | .stuck => False
  | .nx en S => ∀ ρ' H', Ext ρ H ρ' H' → RelS K cl ρ' H' S → Z.nx ρ' H' S en
  | .rt d S => ∀ ρ' H', Ext ρ H ρ' H' → RelS K cl ρ' H' S → Z.rt ρ' H' S d
  | .bk en S => ∀ ρ' H', Ext ρ H ρ' H' → RelS K cl ρ' H' S → Z.bk ρ' H' S en
  | .ct en S => ∀ ρ' H', Ext ρ H ρ' H' → RelS K cl ρ' H' S → Z.ct ρ' H' S en
  | .ex x en S => ∀ ρ' H', Ext ρ H ρ' H' → RelS K cl ρ' H' S → Z.ex x ρ' H' S en
section
variable {K : PySem.W.Frag} {cl : Cl} {α : Type} {ρ : List Addr} {H : Hp} {o : O} {Z Z' : EndsO}
theorem AftO.ext {ρ0 : List Addr} {H0 : Hp} (h : AftO K cl ρ0 H0 o Z) (x : Ext ρ0 H0 ρ H) : AftO K cl ρ H o Z := by
  cases o <;> first | exact h | exact fun ρ' H' y s => h ρ' H' (x.trans y) s
theorem AftO.then {r : R α} {en : En} {k : α → Sto → O} (h : AftO K cl ρ H (r.then en k) Z) : Aft K cl ρ H r (fun ρ' H' S a => AftO K cl ρ' H' (k a S) Z) fun x ρ' H' S => Z.ex x ρ' H' S en := by
  cases r with
  | stuck => exact h
  | ok a S => exact fun ρ' H' x s => AftO.ext h x
  | ex x S => exact h
theorem AftO.seq {k : En → Sto → O} (h : AftO K cl ρ H (o.seq k) Z) : AftO K cl ρ H o { Z with nx := fun ρ' H' S en => AftO K cl ρ' H' (k en S) Z } := by
  cases o <;> first | exact h | exact fun ρ' H' x s => AftO.ext h x
theorem AftO.turn {k : En → Sto → O} (h : AftO K cl ρ H (o.turn k) Z) : AftO K cl ρ H o { Z with nx := fun ρ' H' S en => AftO K cl ρ' H' (k en S) Z, ct := fun ρ' H' S en => AftO K cl ρ' H' (k en S) Z, bk := Z.nx } := by
  cases o <;> first | exact h | exact fun ρ' H' x s => AftO.ext h x
theorem AftO.here {en : En} {S : Sto} (h : AftO K cl ρ H (.nx en S) Z) (s : RelS K cl ρ H S) : Z.nx ρ H S en := h ρ H (Ext.refl _ _) s
end
/-- the layer's ends -/
structure EOk (K : PySem.W.Frag) (cl : Cl) (W : WX) (Z : EndsO) (D : Ends) : Prop where
  nx : ∀ ρ' H' S' en', Z.nx ρ' H' S' en' → ∀ σ', RelE K ρ' H' en' σ' → RelS K cl ρ' H' S' → D.nx σ' H'
  rt : ∀ ρ' H' S' d, Z.rt ρ' H' S' d → ∀ v, Rep K ρ' H' d v → RelS K cl ρ' H' S' → D.rt v H'
  bk : ∀ ρ' H' S' en', Z.bk ρ' H' S' en' → ∀ σ', RelE K ρ' H' en' σ' → RelS K cl ρ' H' S' → D.bk σ' H'
  ct : ∀ ρ' H' S' en', Z.ct ρ' H' S' en' → ∀ σ', RelE K ρ' H' en' σ' → RelS K cl ρ' H' S' → D.ct σ' H'
  ex : ∀ x ρ' H' S' en', Z.ex x ρ' H' S' en' → ∀ σ' cls d, RelE K ρ' H' en' σ' → RelS K cl ρ' H' S' → XR K cl ρ' H' x cls d → W cls d σ' H'
def tS (K : PySem.W.Frag) (cl : Cl) (W : WX) (m : En → Sto → O) : TS := fun D σ H => ∃ ρ en S Z, RelE K ρ H en σ ∧ RelS K cl ρ H S ∧ AftO K cl ρ H (m en S) Z ∧ EOk K cl W Z D
/-- a target's -/
def gT (K : PySem.W.Frag) (cl : Cl) (m : D → En → Sto → R En) : TG := fun v σ H Q => ∃ ρ en S d, RelE K ρ H en σ ∧ RelS K cl ρ H S ∧ Rep K ρ H d v ∧
  Aft K cl ρ H (m d en S) (fun ρ' H' S' en' => ∀ σ', RelE K ρ' H' en' σ' → RelS K cl ρ' H' S' → Q σ' H') fun _ _ _ _ => False
def gTs (K : PySem.W.Frag) (cl : Cl) (m : List D → En → Sto → R En) : TGs := fun vs σ H Q => ∃ ρ en S ds, RelE K ρ H en σ ∧ RelS K cl ρ H S ∧ RepL K ρ H ds vs ∧
  Aft K cl ρ H (m ds en S) (fun ρ' H' S' en' => ∀ σ', RelE K ρ' H' en' σ' → RelS K cl ρ' H' S' → Q σ' H') fun _ _ _ _ => False
theorem _root_.L2.PG.weak {X : Cx} {e : PySem.Expr} {t t' : TG} (h : PG X e t') (f : ∀ v σ H Q, t v σ H Q → t' v σ H Q) : PG X e t := ⟨fun pins s σ H v u Q I r q => h.run pins s σ H v u Q I r (f _ _ _ _ q)⟩
theorem _root_.L2.PGs.weak {X : Cx} {e : List PySem.Expr} {t t' : TGs} (h : PGs X e t') (f : ∀ v σ H Q, t v σ H Q → t' v σ H Q) : PGs X e t := ⟨fun pins s σ H v u Q I r q => h.run pins s σ H v u Q I r (f _ _ _ _ q)⟩
theorem _root_.L2.PS.weak {X : Cx} {e : PySem.Stmt} {t t' : TS} (h : PS X e t') (f : ∀ D σ H, t D σ H → t' D σ H) : PS X e t := ⟨fun pins s σ H D I q => h.run pins s σ H D I (f _ _ _ q)⟩
theorem _root_.L2.PSs.weak {X : Cx} {e : List PySem.Stmt} {t t' : TS} (h : PSs X e t') (f : ∀ D σ H, t D σ H → t' D σ H) : PSs X e t := ⟨fun pins s σ H D I q => h.run pins s σ H D I (f _ _ _ q)⟩
section
variable {K : PySem.W.Frag} {cl : Cl} {α : Type} {ρ : List Addr} {H : Hp} {r : R α} {P P' : List Addr → Hp → Sto → α → Prop} {PX PX' : Xc → List Addr → Hp → Sto → Prop}
theorem Aft.imp2 (h : Aft K cl ρ H r P PX) (f : ∀ ρ' H' S a, Ext ρ H ρ' H' → RelS K cl ρ' H' S → P ρ' H' S a → P' ρ' H' S a) (g : ∀ x ρ' H' S, Ext ρ H ρ' H' → RelS K cl ρ' H' S → PX x ρ' H' S → PX' x ρ' H' S) : Aft K cl ρ H r P' PX' := by
  cases r with
  | stuck => exact h
  | ok a S => exact fun ρ' H' x s => f ρ' H' S a x s (h ρ' H' x s)
  | ex x S => exact fun ρ' H' y s => g x ρ' H' S y s (h ρ' H' y s)
end
/-- a value, then the rest of the statement -/
theorem liftS {K : PySem.W.Frag} {cl : Cl} {W : WX} {σ : L2.St} {H : Hp} {me : En → Sto → R D} {k : En → D → Sto → O} {D : Ends} {r : V → Hp → Prop} (h : tS K cl W (fun en S => (me en S).then en (k en)) D σ H)
    (f : ∀ ρ H1 S en x v Z, RelE K ρ H1 en σ → RelS K cl ρ H1 S → Rep K ρ H1 x v → AftO K cl ρ H1 (k en x S) Z → EOk K cl W Z D → r v H1) : tE K cl W me σ H r := by
  obtain ⟨ρ, en, S, Z, he, hs, h, z⟩ := h
  refine ⟨ρ, en, S, he, hs, Aft.imp2 (AftO.then h) (fun ρ1 H1 S1 x x1 s1 q v rv => f ρ1 H1 S1 en x v Z (he.ext x1) s1 rv q z) fun x ρ1 H1 S1 x1 s1 q cls d xr => ?_⟩
  exact z.ex x ρ1 H1 S1 en q σ cls d (he.ext x1) s1 xr
theorem liftSB {K : PySem.W.Frag} {cl : Cl} {W : WX} {σ : L2.St} {H : Hp} {me : En → Sto → R D} {k : En → D → Sto → O} {D : Ends} {r : Bool → Hp → Prop} (h : tS K cl W (fun en S => (me en S).then en (k en)) D σ H) (hk : ∀ en x S, (∀ b, x ≠ .bl b) → k en x S = .stuck)
    (f : ∀ ρ H1 S en b Z, RelE K ρ H1 en σ → RelS K cl ρ H1 S → AftO K cl ρ H1 (k en (.bl b) S) Z → EOk K cl W Z D → r b H1) : tB K cl W (toB me) σ H r := by
  obtain ⟨ρ, en, S, Z, he, hs, h, z⟩ := h
  refine ⟨ρ, en, S, he, hs, ?_⟩
  have h2 := AftO.then h
  unfold toB
  cases y : me en S with
  | stuck => rw [y] at h2; exact h2
  | ex x S1 =>
    rw [y] at h2
    exact fun ρ1 H1 x1 s1 cls d xr => z.ex x ρ1 H1 S1 en (h2 ρ1 H1 x1 s1) σ cls d (he.ext x1) s1 xr
  | ok x S1 =>
    rw [y] at h2
    cases x with
    | bl b => exact fun ρ1 H1 x1 s1 => f ρ1 H1 S1 en b Z (he.ext x1) s1 (h2 ρ1 H1 x1 s1) z
    | _ =>
      exfalso
      have h3 : AftO K cl ρ H ((me en S).then en (k en)) Z := h
      rw [y] at h3
      simp only [R.then_ok] at h3
      rw [hk en _ S1 (fun b => by intro q; cases q)] at h3
      exact h3
end Ev
end
section
set_option Elab.async false
set_option linter.all false
set_option maxRecDepth 100000
set_option maxHeartbeats 4000000
set_option autoImplicit false
/-! Ev12: statements are sound. -/
namespace Ev
open PySem PySem.Spec PyProof.Rows L2

/-! ### targets -/
section
variable {X : Cx}
theorem get_list : PGet X (rIxL X.K) := by
  intro pins s σ H x y v u Q I rx ry h
  obtain ⟨p, xs, i, z, rfl, rfl, hq, he, q⟩ := h
  cases rx
  obtain ⟨t, rfl⟩ := ry
  obtain ⟨its, r, pl, hz⟩ := I.list hq
  obtain ⟨j, h1, h2, h3, h4, h5⟩ := atI_get he
  obtain ⟨w, ew, rw'⟩ := r.get h2
  have hl := r.length
  have hn := line63
  have fin : EP X pins σ Q w s := ⟨z, H, I, rw', q⟩
  by_cases h0 : 0 ≤ i
  · have hj : i.toNat = j := by
      rw [seqIndex_of h0 h5] at h1
      exact Option.some.inj h1
    exact wpAny_getItem_list pl.isList h0 (by omega) (by rw [hj]; simpa using ew) fin
  · have hj : (i + (its.toArray.size : Int)).toNat = j := by
      rw [seqIndex_neg (by omega) h4] at h1
      rw [List.size_toArray, ← hl]
      exact Option.some.inj h1
    exact wpAny_getItem_list_neg pl.isList (by omega) (by rw [List.size_toArray] <;> omega) (by omega) (by rw [hj]; simpa using ew) fin
theorem asg_ix {o i : PySem.Expr} {pos : Pos} {env : Env} (h : notSlice i = true) : ∀ v, assign (.Subscript o i pos) env v = (do
      let ov ← holding [v] (eval o env)
      let iv ← holding [v, ov] (eval i env)
      standAt pos
      holding [v, ov, iv] (setItem ov iv v)
      release [v, ov, iv] []) := by
  intro v
  rw [assign_Subscript]
  cases i <;> first | rfl | cases h
theorem aug_ix {i : PySem.Expr} (h : notSlice i = true) : ∀ ov iv new, augStore i ov iv new = (do holding [new, ov, iv] (setItem ov iv new); release [new, ov, iv] []; pure .next) := by
  intro ov iv new
  cases i <;> first | rfl | cases h
end
section
variable {K : PySem.W.Frag} {cl : Cl} {ρ : List Addr} {H : Hp} {S : Sto}
/-- a store at a place -/
theorem v_setSub {x y d : D} {o i v : V} {S' : Sto} (s : RelS K cl ρ H S) (rx : Rep K ρ H x o) (ry : Rep K ρ H y i) (rd : Rep K ρ H d v) (e : setSub x y d S = some S') {Q : Hp → Prop}
    (f : ∀ H', Ext ρ H ρ H' → RelS K cl ρ H' S' → Q H') : rSetL o i v H Q := by
  cases x with
  | ref n =>
    cases y with
    | int k =>
      cases rx with
      | ref hn =>
        cases ry
        rename_i a
        unfold setSub at e
        simp only at e
        cases q : S[n]? with
        | none => rw [q] at e; cases e
        | some ob =>
          rw [q] at e
          cases ob with
          | lst xs =>
            simp only at e
            cases z : ixN xs.length k with
            | none => rw [z] at e; cases e
            | some j =>
              rw [z] at e
              cases e
              obtain ⟨a', e1, vs, e2, r⟩ := s.obs n _ q
              rw [hn] at e1
              cases e1
              obtain ⟨x1, s1⟩ := s.write (o' := .lst (xs.set j d)) (u := .lst (vs.set j v)) hn q (by rw [e2]; exact trivial) fun x => ⟨_, upd_same, (RepL.set rd j r).ext x⟩
              exact ⟨a, vs, k, j, rfl, rfl, e2, by rw [← r.length]; exact z, f _ x1 s1⟩
          | _ => cases e
    | _ => cases e
  | _ => cases e
end
/-- the statements' context -/
structure CxtS (T : Tbl) (G : Gm) (cl : Cl) (N : List Str) (n : Nat) (sc : Scope) (W : WX) (X : Cx) : Prop extends Cxt T G cl N n sc W X where
  po : PassesOwn (model X.prog X.w) X.A X.env X.xe
  fnT : ∀ x, X.fn x = true
  stk : X.stack = X.env :: X.outer
  frm : X.env.frame = some X.env.locals
  act : ∀ (a : Str) (i : Nat) (p1 p2 : Pos) (W' : WX) (pn : List (Addr × Obj)) (xe : Value → Shared → Prop), N[i]? = some a → visB X.env.scope a = true → plN a = true → Takes (X.tr pn xe) W' → PE (X.tr pn xe) (.Call (.Name a p1) [] [] p2) (tE X.K cl W' fun en S => actM G.ap G.act i en S)
/-- no function was handed over -/
theorem act_no {K : PySem.W.Frag} {cl : Cl} {gp : Nat} {X : Cx} {W : WX} {i : Nat} {pe : PySem.Expr} : PE X pe (tE K cl W fun en S => actM gp noAct i en S) := ⟨fun pins s σ H Q I q => by
  obtain ⟨ρ, en, S, _, _, q⟩ := q
  replace q : Aft K cl ρ H (actM gp noAct i en S) (fun ρ' H' _ d => ∀ v, Rep K ρ' H' d v → Q v H') (fun x ρ' H' _ => ∀ cls d, XR K cl ρ' H' x cls d → W cls d σ H') := q
  unfold actM at q
  split at q
  · split at q
    · exact q.elim
    · exact q.elim
  · exact q.elim⟩
section
variable {T : Tbl} {G : Gm} {cl : Cl} {N : List Str} {n : Nat}
theorem chkTs_len {env : Env} {sc : Scope} : ∀ {ts : List Tg} {es : List PySem.Expr}, chkTs T N sc ts es = true → (assignEach es env).length = ts.length ∧ (assignEach es env).findIdx? (·.1) = none
  | [], [], _ => ⟨rfl, rfl⟩
  | [], _ :: _, h => by cases h
  | _ :: _, [], h => by cases h
  | p :: ps, e :: es, h => by
    obtain ⟨h1, h2⟩ := ba (show (notStar e && (chkT T N sc p e && chkTs T N sc ps es)) = true from h)
    obtain ⟨h3, h4⟩ := ba h2
    obtain ⟨q1, q2⟩ := chkTs_len (env := env) h4
    rw [assignEach_cons h1]
    refine ⟨by simp [q1], ?_⟩
    rw [List.findIdx?_cons]
    simp [q2]
mutual
theorem asgT_nx : ∀ {t : Tg} {d : D} {en : En} {S : Sto} {x : Xc} {S' : Sto}, asgT G t d en S ≠ .ex x S'
  | .nm i, d, en, S, x, S', h => by unfold asgT at h; cases h
  | .tup ts, d, en, S, x, S', h => by
    unfold asgT at h
    cases d with
    | tup ds => exact asgTs_nx (ts := ts) h
    | _ => cases h
  | .sub a i, d, en, S, x, S', h => by
    unfold asgT at h
    cases z : ev G a en S with
    | stuck => rw [z] at h; cases h
    | ex y S1 => rw [z] at h; cases h
    | ok v S1 =>
      rw [z] at h
      simp only [R.noex_ok, R.bind_ok] at h
      cases y : ev G i en S1 with
      | stuck => rw [y] at h; cases h
      | ex _ S2 => rw [y] at h; cases h
      | ok w S2 =>
        rw [y] at h
        simp only [R.noex_ok, R.bind_ok] at h
        split at h <;> cases h
theorem asgTs_nx : ∀ {ts : List Tg} {ds : List D} {en : En} {S : Sto} {x : Xc} {S' : Sto}, asgTs G ts ds en S ≠ .ex x S'
  | [], ds, en, S, x, S', h => by unfold asgTs at h; cases ds <;> cases h
  | t :: ts, ds, en, S, x, S', h => by
    unfold asgTs at h
    cases ds with
    | nil => cases h
    | cons d ds =>
      cases z : asgT G t d en S with
      | stuck => simp only [z] at h; cases h
      | ex y S1 => exact asgT_nx (t := t) z
      | ok en1 S1 =>
        simp only [z, R.bind_ok] at h
        exact asgTs_nx (ts := ts) h
end
theorem asgTs_ln : ∀ {ts : List Tg} {ds : List D} {en : En} {S : Sto}, asgTs G ts ds en S ≠ .stuck → ts.length = ds.length
  | [], [], _, _, _ => rfl
  | [], _ :: _, _, _, h => absurd (by unfold asgTs; rfl) h
  | _ :: _, [], _, _, h => absurd (by unfold asgTs; rfl) h
  | t :: ts, d :: ds, en, S, h => by
    unfold asgTs at h
    cases z : asgT G t d en S with
    | stuck => rw [z] at h; exact absurd rfl h
    | ex x S1 => exact absurd z asgT_nx
    | ok en1 S1 =>
      rw [z] at h
      exact congrArg Nat.succ (asgTs_ln (ts := ts) h)
mutual
theorem sndT : ∀ (t : Tg) {sc : Scope} {W : WX} {X : Cx} {tg : PySem.Expr}, CxtS T G cl N n sc W X → chkT T N sc t tg = true → PG X tg (gT X.K cl (asgT G t))
  | .nm i, sc, W, X, tg, C, h => by
    cases tg with
    | Name x pos =>
      obtain ⟨h1, h2⟩ := ba (show (decide (N[i]? = some x) && locB sc x) = true from h)
      refine (pg_name (by rw [C.nN]; exact C.nd) (by rw [C.nN]; exact of_decide_eq_true h1) (by rw [C.sc]; exact loc_of h2) (.inl (C.fnT x))).weak fun v σ H Q q => ?_
      obtain ⟨ρ, en, S, d, he, hs, r, q⟩ := q
      exact Aft.here (a := en.set i (some d)) q hs _ (he.set r i) hs
    | _ => cases h
  | .tup ts, sc, W, X, tg, C, h => by
    cases tg with
    | Tuple es k pos =>
      have h' : chkTs T N sc ts es = true := h
      obtain ⟨q1, q2⟩ := chkTs_len (env := X.env) h'
      refine (pg_tup C.calm (sndTs ts C h') q1 q2).weak fun v σ H Q q => ?_
      obtain ⟨ρ, en, S, d, he, hs, r, q⟩ := q
      cases d with
      | tup ds =>
        cases r with
        | tup r1 r2 =>
          rename_i a vs
          have hl : ts.length = ds.length := asgTs_ln fun z => by
            have q' : Aft X.K cl ρ H (asgTs G ts ds en S) _ _ := q
            rw [z] at q'
            exact q'
          exact ⟨a, vs, rfl, r1, by rw [← r2.length, hl], ρ, en, S, ds, he, hs, r2, q⟩
      | _ => exact aft_stuck q
    | _ => cases h
  | .sub a i, sc, W, X, tg, C, h => by
    cases tg with
    | Subscript pa pi pos =>
      obtain ⟨h1, h2⟩ := ba (show (notSlice pi && (chkE T N sc a pa && chkE T N sc i pi)) = true from h)
      obtain ⟨h3, h4⟩ := ba h2
      refine (pg_sub (sndE a C.toCxt h3).1 (sndE i C.toCxt h4).1 set_list (asg_ix h1)).weak fun v σ H Q q => ?_
      obtain ⟨ρ, en, S, d, he, hs, r, q⟩ := q
      refine ⟨ρ, en, S, he, hs, Aft.imp (Aft.noex (Aft.bind q)) (fun ρ1 H1 S1 x x1 s1 q1 => ?_) fun _ _ _ _ _ z => z.elim⟩
      intro o ro
      refine ⟨ρ1, en, S1, he.ext x1, s1, Aft.imp (Aft.noex (Aft.bind q1)) (fun ρ2 H2 S2 y x2 s2 q2 => ?_) fun _ _ _ _ _ z => z.elim⟩
      intro u ru
      cases e : setSub x y d S2 with
      | none => rw [e] at q2; exact aft_stuck q2
      | some S3 =>
        rw [e] at q2
        exact v_setSub s2 (ro.ext x2) ru ((r.ext x1).ext x2) e fun H' x3 s3 => q2 ρ2 H' x3 s3 σ (((he.ext x1).ext x2).ext x3) s3
    | _ => cases h
theorem sndTs : ∀ (ts : List Tg) {sc : Scope} {W : WX} {X : Cx} {es : List PySem.Expr}, CxtS T G cl N n sc W X → chkTs T N sc ts es = true → PGs X es (gTs X.K cl (asgTs G ts))
  | [], sc, W, X, es, C, h => by
    cases es with
    | nil =>
      refine pgs_nil.weak fun vs σ H Q q => ?_
      obtain ⟨ρ, en, S, ds, he, hs, r, q⟩ := q
      cases ds with
      | nil => cases r; exact ⟨rfl, Aft.here (a := en) q hs _ he hs⟩
      | cons _ _ => exact aft_stuck q
    | cons _ _ => cases h
  | t :: ts, sc, W, X, es, C, h => by
    cases es with
    | nil => cases h
    | cons e es =>
      obtain ⟨h1, h2⟩ := ba (show (notStar e && (chkT T N sc t e && chkTs T N sc ts es)) = true from h)
      obtain ⟨h3, h4⟩ := ba h2
      refine (pgs_cons (sndT t C h3) (sndTs ts C h4) (by rw [assignEach_cons h1]; rfl)).weak fun vs σ H Q q => ?_
      obtain ⟨ρ, en, S, ds, he, hs, r, q⟩ := q
      cases ds with
      | nil => exact aft_stuck q
      | cons d ds =>
        cases r with
        | cons r1 r2 =>
          refine ⟨_, _, rfl, ρ, en, S, d, he, hs, r1, Aft.imp (Aft.bind q) (fun ρ1 H1 S1 en1 x1 s1 q1 => ?_) fun _ _ _ _ _ z => z⟩
          intro σ1 he1 hs1
          exact ⟨ρ1, en1, S1, ds, he1, s1, r2.ext x1, q1⟩
end
end
end Ev
end
section
set_option Elab.async false
set_option linter.all false
set_option maxRecDepth 100000
set_option maxHeartbeats 4000000
set_option autoImplicit false
/-! Ev12b: errors: how one is made and raised. -/
namespace Ev
open PySem PySem.Spec PyProof.Rows L2

/-! ### an error's making -/
/-- its fields, the last one first -/
def xdOf (fs : List Str) (ws : List V) : List (Str × V) := (fs.zip ws).reverse
def spIn (C : Addr) (fs : List Str) : Sp := fun vs H Q _ => ∃ a ws, vs = .ref a :: ws ∧ ws.length = fs.length ∧ H a = some (exo a C none) ∧
  ∀ (d : Addr) (H2 : Hp), H d = none → d ≠ a → H2 a = some (exo a C (some d)) → H2 d = some (exd d (xdOf fs ws)) → (∀ b, b ≠ a → b ≠ d → H2 b = H b) → Q .non H2
section
variable {P : Program} {w : World} {K : PySem.W.Frag} {mg : Str → Option Value} {base : Heap}
abbrev sSelf : Str := "self"
/-- self.f = f -/
theorem fld_set {X : Cx} {fs : List Str} {sc : Scope} {f y o : Str} {i : Nat} {p1 p2 p3 p4 : Pos} (hN : X.N = sSelf :: fs) (hs : X.env.scope = sc) (hloc : ∀ y ∈ sSelf :: fs, sc.names.lookup y = some .local) (ho : o = sSelf) (hi : (sSelf :: fs)[i]? = some y) (hp : plN y = true) (hy : y ∈ sSelf :: fs) :
    PS X (.Assign [.Attribute (.Name o p1) f p2] (.Name y p3) p4) (tOst X.K f (tVar 0) (tVar i)) := by
  subst ho
  obtain ⟨g1, g2, g3⟩ := pl_of hp
  exact ps_ost (pe_var (by rw [hN]; rfl) (.inl (by rw [hs]; exact hloc _ (List.mem_cons_self ..))) (by decide) (by decide)) (pe_var (by rw [hN]; exact hi) (.inl (by rw [hs]; exact hloc _ hy)) g1 g2) rfl
theorem ini_one {o g y f : Str} {p1 p2 p3 p4 : Pos} {fs : List Str} {r : List PySem.Stmt} (h : iniB (f :: fs) (.Assign [.Attribute (.Name o p1) g p2] (.Name y p3) p4 :: r) = true) : o = sSelf ∧ g = f ∧ y = f ∧ plN f = true ∧ iniB fs r = true := by
  obtain ⟨b1, b2⟩ := ba (show ((decide (o = ("self" : Str)) && (decide (g = f) && (decide (y = f) && (plN f && decide (f ≠ ("self" : Str)))))) && iniB fs r) = true from h)
  obtain ⟨b3, b4⟩ := ba b1
  obtain ⟨b5, b6⟩ := ba b4
  obtain ⟨b7, b8⟩ := ba b6
  obtain ⟨b9, b10⟩ := ba b8
  exact ⟨of_decide_eq_true b3, of_decide_eq_true b5, of_decide_eq_true b7, b9, b2⟩
theorem ini_cons {f : Str} {fs : List Str} {body : List PySem.Stmt} (h : iniB (f :: fs) body = true) : ∃ o g y p1 p2 p3 p4 r, body = .Assign [.Attribute (.Name o p1) g p2] (.Name y p3) p4 :: r := by
  unfold iniB at h
  split at h <;> first | (cases h; done) | skip
  · rename_i e; cases e
  · exact ⟨_, _, _, _, _, _, _, _, rfl⟩
theorem init_ok {cl : Cl} {T : Tbl} {c : Nat} {x : Str} {k : Cls} (O : ClsOk K mg cl T c x k) (hl : k.fs.length = 1 ∨ k.fs.length = 2) : ∃ (fI : Addr) (fd : FuncData), PySem.W.findIn K (.ref (cl c)) "__init__" = some (some (.ref fI)) ∧ PySem.W.typeIn K (.ref fI) = some (.type "function") ∧
    FnOk P w K mg base CX0 1 fI fd (sSelf :: k.fs) (spIn (cl c) k.fs) ∧ Binds K fd (sSelf :: k.fs) [] := by
  obtain ⟨fI, fd, q, prs, body, sc, h1, h2, FD, S, hloc, hb, B⟩ := O.init (fun z => by rw [z] at hl; rcases hl with hl | hl <;> cases hl)
  have hno := O.no
  refine ⟨fI, fd, h1, h2, FD.ok S (fun vs H Q E h => ?_) (fun cdv A outer s H vs Q E hr h => ?_), B⟩
  · obtain ⟨a, ws, rfl, hw, _⟩ := h
    simp [hw]
  · obtain ⟨a, ws, rfl, hw, ha, hq⟩ := h
    generalize k.fs = fs at *
    match fs, hl with
    | [f], _ =>
      obtain ⟨o, g, y, p1, p2, p3, p4, r, rfl⟩ := ini_cons hb
      obtain ⟨e1, e2, e3, e4, e5⟩ := ini_one hb
      subst e2
      subst e3
      cases r with
      | cons _ _ => cases e5
      | nil =>
        match ws, hw with
        | [v], _ =>
          have st1 : PS (cxOf CX0 P w K mg base [sSelf, y] q sc fI cdv A outer s H E) (.Assign [.Attribute (.Name o p1) y p2] (.Name y p3) p4) _ := fld_set (i := 1) rfl rfl hloc e1 rfl e4 (by simp)
          refine ⟨_, pss_one st1, v, rfl, .ref a, rfl, a, cl c, rfl, O.oex, hno _ (by simp), .inl ⟨ha, fun d hd hda => hq d _ hd hda upd_same (by rw [upd_ne hda]; exact upd_same) fun b h1 h2 => by rw [upd_ne h1, upd_ne h2]⟩⟩
    | [f, f2], _ =>
      obtain ⟨o, g, y, p1, p2, p3, p4, r, rfl⟩ := ini_cons hb
      obtain ⟨e1, e2, e3, e4, e5⟩ := ini_one hb
      subst e2
      subst e3
      obtain ⟨o', g', y', p1', p2', p3', p4', r', rfl⟩ := ini_cons e5
      obtain ⟨d1, d2, d3, d4, d5⟩ := ini_one e5
      subst d2
      subst d3
      cases r' with
      | cons _ _ => cases d5
      | nil =>
        match ws, hw with
        | [v, u], _ =>
          have st1 : PS (cxOf CX0 P w K mg base [sSelf, y, y'] q sc fI cdv A outer s H E) (.Assign [.Attribute (.Name o p1) y p2] (.Name y p3) p4) _ := fld_set (i := 1) rfl rfl hloc e1 rfl e4 (by simp)
          have st2 : PS (cxOf CX0 P w K mg base [sSelf, y, y'] q sc fI cdv A outer s H E) (.Assign [.Attribute (.Name o' p1') y' p2'] (.Name y' p3') p4') _ := fld_set (i := 2) rfl rfl hloc d1 rfl d4 (by simp)
          refine ⟨_, pss_cons st1 (pss_one st2), v, rfl, .ref a, rfl, a, cl c, rfl, O.oex, hno _ (by simp), .inl ⟨ha, fun d hd hda => ?_⟩⟩
          refine ⟨u, rfl, .ref a, rfl, a, cl c, rfl, O.oex, hno _ (by simp), .inr ⟨d, [(y, v)], upd_same, by rw [upd_ne hda]; exact upd_same, by simp, ?_⟩⟩
          exact hq d _ hd hda (by rw [upd_ne (Ne.symm hda)]; exact upd_same) upd_same fun b h1 h2 => by rw [upd_ne h2, upd_ne h1, upd_ne h2]
end
/-! ### raise -/
theorem lookup_xd {K : PySem.W.Frag} {ρ : List Addr} {H : Hp} {fs : List Str} {ds : List D} {vs : List V} (hl : fs.length = 1 ∨ fs.length = 2) (nd : fs.Nodup) (r : RepL K ρ H ds vs) : ∀ (f : Str) (dd : D), (fs.zip ds).lookup f = some dd → ∃ v, (xdOf fs vs).lookup f = some v ∧ Rep K ρ H dd v := by
  intro f dd h
  match fs, hl with
  | [a], _ =>
    cases r with
    | nil => cases h
    | cons r1 r2 =>
      rename_i d ds v vs
      by_cases e : f = a
      · subst e
        simp [List.lookup] at h
        subst h
        exact ⟨v, by simp [xdOf, List.lookup], r1⟩
      · have e2 : (f == a) = false := by simpa using e
        simp [List.lookup, e2] at h
  | [a, b], _ =>
    have hab : a ≠ b := by
      simp at nd
      exact nd
    cases r with
    | nil => cases h
    | cons r1 r2 =>
      rename_i d ds v vs
      cases r2 with
      | nil =>
        by_cases e : f = a
        · subst e
          simp [List.lookup] at h
          subst h
          exact ⟨v, by simp [xdOf, List.lookup], r1⟩
        · have e2 : (f == a) = false := by simpa using e
          simp [List.lookup, e2] at h
      | cons r3 r4 =>
        rename_i d2 ds v2 vs
        by_cases e : f = a
        · subst e
          have e3 : (f == b) = false := by simpa using hab
          simp [List.lookup] at h
          subst h
          exact ⟨v, by simp [xdOf, List.lookup, e3], r1⟩
        · have e2 : (f == a) = false := by simpa using e
          by_cases e' : f = b
          · subst e'
            simp [List.lookup, e2] at h
            subst h
            exact ⟨v2, by simp [xdOf, List.lookup], r3⟩
          · have e3 : (f == b) = false := by simpa using e'
            simp [List.lookup, e2, e3] at h
/-- a class without fields -/
theorem pmk_own0 {X : Cx} {C : Addr} {x : Str} {p pos : Pos} (q : PySem.W.excIn X.K C veB "ValueError.__new__" = true) (gC : X.mg x = some (.ref C)) (kC : PySem.W.keepIn X.K (.ref C) = true) (r : Raises X (.ref C)) (hg : Gl X x) (hd : (x == ("__debug__" : Str)) = false) :
    PMk X (.Call (.Name x p) [] [] pos) (fun _ H Q => Q (.ref C) none H) := by
  intro pins s σ H Q I h
  refine wpAny_Call_Name_kw (ld_glob I hg gC ?_ hd)
  refine PySem.W.callWith_K0 I.kIn kC ?_
  show wpAny _ _ (call (.ref C) []) _ _ _
  obtain ⟨bm, nsA, nm, qn, bs, hdct, sn, sub, ab, col, dd, k0, k1, k2, k3, k5, mN, hC, hN, hni, tail⟩ := exc_obj I.kIn q
  exact wpAny_call_exc_subT PySem.F.excBase_ValueError tail hC hN hni (fun h' e hm => mk_of I hm r h (I.hok.gone hm.new)) (Nat.zero_le _)
section
variable {T : Tbl} {G : Gm} {cl : Cl} {N : List Str} {n : Nat}
theorem snd_rai {sc : Scope} {W : WX} {X : Cx} (C : CxtS T G cl N n sc W X) {c : Nat} {x : Str} {k : Cls} {es : Es} {ps : List PySem.Expr} {p pos pos2 : Pos} {C' : List Cls} (hC : C' = T.ecs.map (·.2)) (hc : T.ecs[c]? = some (x, k)) (hg : glB sc x = true) (hp : plN x = true) (hl : es.len = k.fs.length) (h2 : k.fs.length ≤ 2) (hpl : es.plain = true) (h : chkEs T N sc es ps = true) :
    PS X (.Raise (some (.Call (.Name x p) ps [] pos)) none pos2) (tS X.K cl W (exec G C' (.rai c es))) := by
  have O := C.tab.ecs c x k hc
  obtain ⟨g1, g2, g3⟩ := pl_of hp
  have IA := sndEs es C.toCxt h
  have hlen : ps.length = es.len := plain_len h
  match ps, IA, h, hlen with
  | [], IA, h, hlen =>
    have f0 : k.fs = [] := List.length_eq_zero_iff.mp (hl.symm.trans hlen.symm)
    refine (ps_raise C.calm C.tk (pmk_own0 (O.ex0 f0) O.gl O.oex.kC (raises_own O.oex.exC O.oex.tyC) (C.gl hg) g1)).weak fun D σ H q => ?_
    obtain ⟨ρ, en, S, Z, he, hs, q, z⟩ := q
    have hes : es = .nil := by
      cases es with
      | nil => rfl
      | cons _ _ => cases h
      | star _ _ => cases h
    subst hes
    have hk : C'[c]? = some k := by rw [hC, List.getElem?_map, hc]; rfl
    have q2 : AftO X.K cl ρ H (match C'[c]? with
      | some k => if ([] : List Ev.D).length = k.fs.length then .ex ⟨c, k.fs.zip []⟩ en S else .stuck
      | none => .stuck) Z := q
    rw [hk] at q2
    replace q2 : AftO X.K cl ρ H (if ([] : List Ev.D).length = k.fs.length then .ex ⟨c, k.fs.zip []⟩ en S else .stuck) Z := q2
    rw [if_pos (by rw [f0]; rfl)] at q2
    exact z.ex _ ρ _ S en (q2 ρ _ (Ext.refl _ _) hs) σ _ _ he hs ⟨rfl, .inl ⟨by rw [f0]; rfl, rfl⟩⟩
  | p0 :: pr, IA, h, hlen =>
    have h12 : k.fs.length = 1 ∨ k.fs.length = 2 := by
      have : (p0 :: pr).length = k.fs.length := hlen.trans hl
      simp only [List.length_cons] at this
      omega
    obtain ⟨fI, fd, i1, i2, F1, B⟩ := init_ok (P := X.prog) (w := X.w) (base := X.base) O h12
    obtain ⟨k1, a0, es', e2, k2, k3, k4⟩ := plain_head hpl h rfl
    refine (ps_raise C.calm C.tk (pmk_oex O.oex i1 i2 F1 (C.room.mono (by omega)) B .nil pass0 (C.gl hg) O.gl IA g1 (starEach_cons k1) (plain_any k3 k4))).weak fun D σ H q => ?_
    obtain ⟨ρ, en, S, Z, he, hs, q, z⟩ := q
    have hk : C'[c]? = some k := by rw [hC, List.getElem?_map, hc]; rfl
    refine tA_len hpl ⟨ρ, en, S, he, hs, Aft.imp2 (AftO.then q) (fun ρ1 H1 S1 ds x1 s1 q1 vs rv hvl => ?_) fun x ρ1 H1 S1 x1 s1 q cls d xr => z.ex x ρ1 H1 S1 en q σ cls d (he.ext x1) s1 xr⟩
    rw [hk] at q1
    have q2 : AftO X.K cl ρ1 H1 (if ds.length = k.fs.length then .ex ⟨c, k.fs.zip ds⟩ en S1 else .stuck) Z := q1
    split at q2
    · refine ⟨by rw [hvl, hl]; rcases h12 with z | z <;> rw [z] <;> simp, fun a ha => ?_⟩
      refine ⟨a, vs, by rw [List.append_nil], hvl.trans hl, upd_same, fun d H2 hd hda ea ed hoth => ⟨rfl, d, xdOf k.fs vs, ea, ed, by rw [upd_ne hda] at hd; exact hd, ?_⟩⟩
      have hd1 : H1 d = none := by rw [upd_ne hda] at hd; exact hd
      have eH : upd (del H2 a) d (.xd (xdOf k.fs vs)) = upd H1 d (.xd (xdOf k.fs vs)) := by
        funext b
        by_cases hb : b = d
        · rw [hb, upd_same, upd_same]
        · rw [upd_ne hb, upd_ne hb]
          by_cases hb2 : b = a
          · rw [hb2, del_same, ha]
          · rw [del_ne hb2, hoth b hb2 hb, upd_ne hb2]
      rw [eH]
      obtain ⟨x2, s2⟩ := s1.laid (u := .xd (xdOf k.fs vs)) hd1
      refine z.ex _ ρ1 _ S1 en (q2 ρ1 _ x2 s2) σ _ _ ((he.ext x1).ext x2) s2 ⟨rfl, .inr ⟨d, _, rfl, upd_same, fun f dd hf => ?_⟩⟩
      exact lookup_xd h12 O.nd (rv.ext x2) f dd hf
    · exact False.elim q2
end
end Ev
end
section
set_option Elab.async false
set_option linter.all false
set_option maxRecDepth 100000
set_option maxHeartbeats 4000000
set_option autoImplicit false
/-! Ev12c: a caught error: its fields, its class. -/
namespace Ev
open PySem PySem.W PySem.Spec PySem.Calls PyProof.Rows L2
section
variable {prog : Program} {w : World} {A : Around} {E : Value → Shared → Prop} {s : Shared} {K : PySem.W.Frag} {x D : Addr} {ox : Obj} {od : Option Obj}
theorem clsF (E0 : ExcC K D) : findObj K D od "__class__" = some (.bind (.builtin "getset_descriptor.__get__") (.builtin "object.__class__")) := by
  obtain ⟨cd, hc, _⟩ := any_some E0.hd
  unfold findObj
  rw [hc, Option.bind_some, E0.ha, Option.bind_some]
  simp [E0.hn, E0.ht]
/-- __class__ of an error, with its dict or without -/
theorem class_exc (E0 : ExcC K D) {Q : Option Value → Shared → Prop} (kin : K.In s.heap) (I : InstAt s.heap x ox D od) (h : Q (some (.ref D)) { s with toks := s.toks + 1 }) : wpAny (model prog w) A (getAttr? (.ref x) "__class__") Q E s := by
  obtain ⟨hp, g, d, t, os⟩ := s
  have ty := I.type (M := model prog w)
  have La := looks_findIn (M := model prog w) kin E0.hg
  have Lb := looks_findIn (M := model prog w) kin E0.hk
  have Lc := looks_find (M := model prog w) kin I (clsF (od := od) E0)
  have isB : Looks (model prog w) hp (isInstance (.ref x) (.type "BaseException")) true := ty.andThen (looks_subIn kin E0.hs)
  have ne : (onTheHeap (Value.ref D) && Value.builtin "BaseException.__getattribute__" == Value.builtin "object.__getattribute__") = false := by
    rw [show (Value.builtin "BaseException.__getattribute__" == Value.builtin "object.__getattribute__") = false by decide +kernel]
    rfl
  unfold getAttr? getAttrBy? getAttrBy
  refine wpAny_bind (wpAny_mkText (wpAny_bind (wpAny_attempt (wpAny_holding (wpAny_bind (ty.at (wpAny_bind (La.at ?_))))))))
  show wpAny (model prog w) _ (if (onTheHeap (Value.ref D) && Value.builtin "BaseException.__getattribute__" == Value.builtin "object.__getattribute__") = true then _ else _) _ _ _
  rw [ne, if_neg (by decide)]
  unfold getAttrByItsOwn hookBefore
  refine wpAny_bind ?_
  rw [if_pos (show onTheHeap (Value.ref D) = true by rfl)]
  refine Lb.at (wpAny_bind (wpAny_attempt (wpAny_holding ?_)))
  unfold callGetattribute
  rw [if_neg (show ¬ (false && onTheHeap (Value.builtin "BaseException.__getattribute__")) = true by decide)]
  unfold boundAndCalled
  rw [PySem.F.excAttr_ValueError.ga.bind (.ref x)]
  refine wpAny_bind (wpAny_pure ?_)
  show wpAny (model prog w) _ (call (.builtin "BaseException.__getattribute__") [.ref x, .str "__class__" t]) _ _ _
  refine wpAny_call (codeAny_call_builtin PySem.F.excAttr_ValueError.ga.plain PySem.F.entry_bexc_ga ?_)
  refine @check_slot (model prog w) _ _ ⟨hp, g, d, t + 1, os⟩ "BaseException.__getattribute__" "BaseException" "__getattribute__" (.ref x) [.str "__class__" t] [] _ (by decide +kernel) (by decide +kernel) isB (PySem.F.args_bexc_ga (.ref x) (.str "__class__" t)) ?_
  unfold Builtin.«object.__getattribute__»
  refine wpAny_bind (wpAny_of_eq (a := ((Value.ref x : Value), [Value.str "__class__" t])) (by first | rfl | (simp only [slotArgs]; rfl)) ?_)
  refine wpAny_bind (wpAny_pure (wpAny_bind (ty.at (wpAny_bind (Lc.at ?_)))))
  show wpAny (model prog w) _ (holding [Value.builtin "object.__class__"] (call (.builtin "getset_descriptor.__get__") [.builtin "object.__class__", .ref x, .ref D]) >>= ret) _ _ _
  refine wpAny_bind (wpAny_holding (wpAny_call (class_get (s := ⟨hp, g, d, t + 1, os⟩) (ox := ox) (od := od) kin I E0.hm (wpAny_pure ?_))))
  show wpAny (model prog w) _ (handedOut (.ref D)) _ _ _
  rw [handedOut_of (v := .ref D) rfl]
  first
    | exact wpAny_pure (wpAny_pure h)
    | exact wpAny_pure h
    | exact wpAny_pure (wpAny_bind (wpAny_pure (wpAny_pure h)))
theorem notTup (E0 : ExcC K D) {h : Heap} (kin : K.In h) : ∃ o cd, h.get? D = some o ∧ o.data = .cls cd := by
  obtain ⟨cd, hc, _⟩ := any_some E0.hd
  unfold clsIn at hc
  split at hc
  · rename_i c' d' cd' sl' ho
    exact ⟨_, _, kin _ _ ho, rfl⟩
  · cases hc
theorem kitx_exc (E0 : ExcC K D) : KitX K (.ref x) (.ref D) (fun h => InstAt h x ox D od) where
  ty := fun _ _ _ I => I.type
  it := fun _ _ kin _ => by
    obtain ⟨o, cd, e, ed⟩ := notTup E0 kin
    intro A' Q' E' s' k q
    unfold isType loadHead
    obtain ⟨c1, c2, c3, c4⟩ := o
    dsimp only at ed
    subst ed
    exact wpAny_bind (wpAny_loadPart (k _ _ e) (wpAny_pure q))
  ne := fun h tp dd its n sl kin htp => by
    obtain ⟨o, cd, e, ed⟩ := notTup E0 kin
    refine Bool.eq_false_iff.mpr fun q => ?_
    cases Value.ref.inj (beq_iff_eq.mp q)
    rw [e] at htp
    cases htp
    cases ed
  ca := fun kin I k => class_exc E0 kin I k
end
end Ev
end
section
set_option Elab.async false
set_option linter.all false
set_option maxRecDepth 100000
set_option maxHeartbeats 4000000
set_option autoImplicit false
/-! Ev12d: try .. except .. as ..: a list of what is read off the error. -/
namespace Ev
open PySem PySem.Spec PyProof.Rows L2

/-! ### isinstance of a caught error -/
/-- an error's own dict, if it has one -/
def XD (H : Hp) (d : Option Addr) (ws : List (Str × V)) : Prop := (d = none ∧ ws = []) ∨ ∃ dd, d = some dd ∧ H dd = some (.xd ws)
def rIsQ (K : PySem.W.Frag) (a : Addr) (cls : Value) (d : Option Addr) : List V → Hp → VK → Prop := fun xs H Q => ∃ (D : Addr) (ws : List (Str × V)) (c : V) (cv : Value) (b : Bool), xs = [.ref a, c] ∧ cls = .ref D ∧ XD H d ws ∧ ExcC K D ∧ (∀ u, RelV c u → u = cv) ∧ PySem.W.kitOne K (.ref D) cv = some b ∧ Q (.bl b) H
theorem call_isX {X : Cx} {a : Addr} {oe : Obj} {cls : Value} {d : Option Addr} {pn : List (Addr × Obj)} (hz : Zc cls d oe) (hf : ∃ vs, oe.data = .fields vs) : CallR (X.suite a ((a, oe) :: pn)) (.builtin "isinstance") (rIsQ X.K a cls d) := by
  intro pins s σ H xs us Q I r h
  obtain ⟨D, ws, c, cv, b, rfl, rfl, xd, C, hcv, e, q⟩ := h
  obtain ⟨u1, u2, rfl, rx, rt⟩ := vals2 r
  cases (show u1 = Value.ref a from rx)
  cases hcv _ rt
  have pin := (I.pin (a, oe) (List.mem_append_left _ List.mem_cons_self)).1
  obtain ⟨vs, hv⟩ := hf
  rcases xd with ⟨rfl, _⟩ | ⟨dd, rfl, ea⟩
  · have J : PySem.W.InstAt s.heap a oe D none := ⟨pin, hz.1, by unfold PySem.W.notCls; rw [hv] <;> rfl, by rw [hz.2]; exact True.intro⟩
    exact PySem.W.kia_one (kitx_exc C) I.kIn J e (fun z => nomatch z) fun tk => ⟨.bl b, H, I.kept (t' := tk) fun _ _ z => z, rfl, q⟩
  · obtain ⟨mA, hns, hr⟩ := (show ObjOk X.prog X.w H s.heap dd (.xd ws) from I.hok dd _ ea)
    obtain ⟨od, ho, _⟩ := lookIn_ns hns
    have J : PySem.W.InstAt s.heap a oe D (some od) := ⟨pin, hz.1, by unfold PySem.W.notCls; rw [hv] <;> rfl, by rw [hz.2]; exact ho⟩
    exact PySem.W.kia_one (kitx_exc C) I.kIn J e (fun z => nomatch z) fun tk => ⟨.bl b, H, I.kept (t' := tk) fun _ _ z => z, rfl, q⟩

/-! ### readings -/
def xaV (T : Tbl) (ws : List (Str × V)) (c : Nat) (k : Cls) : Xa → V → Prop
  | .fld f, v => f ∈ k.fs ∧ ws.lookup f = some v
  | .isc c', v => c' < T.ecs.length ∧ v = .bl (decide (c' = c) || k.up.contains c')
  | .isb n, v => n = "ValueError" ∧ v = .bl (k.bup.contains n)
/-- the error that is held: at a, in the slot i -/
def Hold (T : Tbl) (cl : Cl) (a : Addr) (cls : Value) (d : Option Addr) (i : Nat) (σ : L2.St) (H : Hp) (c : Nat) (x : Str) (k : Cls) (ws : List (Str × V)) : Prop :=
  σ[i]? = some (some (.ref a)) ∧ T.ecs[c]? = some (x, k) ∧ cls = .ref (cl c) ∧ XD H d ws
def tXa (T : Tbl) (cl : Cl) (a : Addr) (cls : Value) (d : Option Addr) (i : Nat) (xa : Xa) : TE := fun σ H Q => ∃ c x k ws, Hold T cl a cls d i σ H c x k ws ∧ ∃ v, xaV T ws c k xa v ∧ Q v H
def tXas (T : Tbl) (cl : Cl) (a : Addr) (cls : Value) (d : Option Addr) (i : Nat) : List Xa → TA
  | [] => tNil
  | x :: r => tCons (tXa T cl a cls d i x) (tXas T cl a cls d i r)
section
variable {T : Tbl} {G : Gm} {cl : Cl} {N : List Str} {n : Nat}
theorem chkX_isc {sc : Scope} {e : Str} {c : Nat} {p : PySem.Expr} (h : chkX T sc e (.isc c) p = true) : ∃ i p0 y p4 z p5 p6, p = .Call (.Name i p0) [.Name y p4, .Name z p5] [] p6 ∧ ((decide (i = ("isinstance" : Str)) && glB sc i) && (decide (y = e) && (decide ((T.ecs[c]?).map (·.1) = some z) && (glB sc z && plN z)))) = true := by
  unfold chkX at h
  split at h <;> first | (cases h; done) | (rename_i e; cases e; done) | (rename_i e _; cases e; done) | skip
  rename_i e1 e2
  cases e1
  cases e2
  exact ⟨_, _, _, _, _, _, _, rfl, h⟩
theorem chkX_isb {sc : Scope} {e : Str} {m : String} {p : PySem.Expr} (h : chkX T sc e (.isb m) p = true) : ∃ i p0 y p4 z p5 p6, p = .Call (.Name i p0) [.Name y p4, .Name z p5] [] p6 ∧ ((decide (i = ("isinstance" : Str)) && glB sc i) && (decide (y = e) && (decide (m = "ValueError") && (decide (z = ("ValueError" : Str)) && glB sc z)))) = true := by
  unfold chkX at h
  split at h <;> first | (cases h; done) | (rename_i e; cases e; done) | (rename_i e _; cases e; done) | skip
  rename_i e1 e2
  cases e1
  cases e2
  exact ⟨_, _, _, _, _, _, _, rfl, h⟩
theorem snd_xa {sc : Scope} {W : WX} {X : Cx} (C : CxtS T G cl N n sc W X) {a : Addr} {oe : Obj} {cls : Value} {d : Option Addr} {pn : List (Addr × Obj)} (hz : Zc cls d oe) (hf : ∃ vs, oe.data = .fields vs) {i : Nat} {e : Str} (hi : N[i]? = some e) (hl : loclB sc e = true) (hp : plN e = true) :
    ∀ {xa : Xa} {p : PySem.Expr}, chkX T sc e xa p = true → PE (X.suite a ((a, oe) :: pn)) p (tXa T cl a cls d i xa) := by
  have hg : ∀ {x : Str}, glB sc x = true → Gl (X.suite a ((a, oe) :: pn)) x := fun h => C.gl h
  obtain ⟨p1, p2, p3⟩ := pl_of hp
  have nm : ∀ {pos : Pos}, PE (X.suite a ((a, oe) :: pn)) (.Name e pos) (tVar i) := fun {pos} => pe_var (by show X.N[i]? = _; rw [C.nN]; exact hi) (.inl (by show X.env.scope.names.lookup e = _; rw [C.sc]; exact locl_of hl)) p1 p2
  have isi : ∀ {y z : Str} {p0 p4 p5 p6 : Pos} {v : V}, (h1 : glB sc "isinstance" = true) → y = e → PE (X.suite a ((a, oe) :: pn)) (.Name z p5) (tC v) → PE (X.suite a ((a, oe) :: pn)) (.Call (.Name "isinstance" p0) [.Name y p4, .Name z p5] [] p6) (tCB (rIsQ X.K a cls d) (tCons (tVar i) (tCons (tC v) tNil))) := fun h1 hy hb => by
    subst hy
    exact pe_callB (call_isX hz hf) (hg h1) C.tab.isin PyProof.Rows.boot_isinstance (pa_cons nm (pa_cons hb pa_nil))
  intro xa p h
  cases xa with
  | fld f =>
    cases p with
    | Attribute o g pos =>
      cases o with
      | Name y py =>
        obtain ⟨h1, h2⟩ := ba (show (decide (y = e) && decide (g = f)) = true from h)
        have ey := of_decide_eq_true h1
        have eg := of_decide_eq_true h2
        subst ey
        subst eg
        refine ⟨fun pins s σ H Q I q => ?_⟩
        obtain ⟨c, x, k, ws, ⟨q1, q2, q3, q4⟩, v, ⟨q6, q7⟩, q8⟩ := q
        have O := C.tab.ecs c x k q2
        obtain ⟨dd, q4, q5⟩ : ∃ dd, d = some dd ∧ H dd = some (.xd ws) := by
          rcases q4 with ⟨_, z⟩ | z
          · rw [z] at q7; cases q7
          · exact z
        exact (pe_xf (n := g) O.xf (O.no g q6) hz hf nm).run pins s σ H Q I ⟨.ref a, q1, rfl, q3, dd, ws, v, q4, q5, q7, q8⟩
      | _ => cases h
    | _ => cases h
  | isc c' =>
    obtain ⟨i0, p0, y, p4, z, p5, p6, ep, h⟩ := chkX_isc h
    subst ep
    obtain ⟨h1, h2⟩ := ba h
    obtain ⟨h3, h4⟩ := ba h1
    obtain ⟨h5, h6⟩ := ba h2
    obtain ⟨h7, h8⟩ := ba h6
    obtain ⟨h9, h10⟩ := ba h8
    have e1 := of_decide_eq_true h3
    subst e1
    have e2 : (T.ecs[c']?).map (·.1) = some z := of_decide_eq_true h7
    cases e3 : T.ecs[c']? with
    | none => rw [e3] at e2; cases e2
    | some xk =>
      rw [e3] at e2
      obtain ⟨x', k'⟩ := xk
      cases e2
      have O' := C.tab.ecs c' x' k' e3
      have lt : c' < T.ecs.length := (List.getElem?_eq_some_iff.mp e3).1
      obtain ⟨z1, z2, z3⟩ := pl_of h10
      refine (isi h4 (of_decide_eq_true h5) (pe_glob (v := .ref (cl c')) (hg h9) O'.gl rfl z1)).weak fun σ H Q q => ?_
      obtain ⟨c, x, k, ws, ⟨q1, q2, q3, q4⟩, v, ⟨q6, q7⟩, q8⟩ := q
      have O := C.tab.ecs c x k q2
      subst q7
      exact ⟨.ref a, q1, cl c, ws, .ref (cl c'), .ref (cl c'), _, rfl, q3, q4, O.exc, fun u r => r, O.kit c' lt, q8⟩
  | isb m =>
    obtain ⟨i0, p0, y, p4, z, p5, p6, ep, h⟩ := chkX_isb h
    subst ep
    obtain ⟨h1, h2⟩ := ba h
    obtain ⟨h3, h4⟩ := ba h1
    obtain ⟨h5, h6⟩ := ba h2
    obtain ⟨h7, h8⟩ := ba h6
    obtain ⟨h9, h10⟩ := ba h8
    have e1 := of_decide_eq_true h3
    subst e1
    have e2 := of_decide_eq_true h7
    subst e2
    have e3 := of_decide_eq_true h9
    subst e3
    refine (isi h4 (of_decide_eq_true h5) (pe_bltn (v := .ty "ValueError") (hg h10) C.tab.ve PyProof.Rows.Boot.«ValueError» rfl (by decide) (by decide))).weak fun σ H Q q => ?_
    obtain ⟨c, x, k, ws, ⟨q1, q2, q3, q4⟩, v, ⟨q6, q7⟩, q8⟩ := q
    have O := C.tab.ecs c x k q2
    subst q7
    exact ⟨.ref a, q1, cl c, ws, .ty "ValueError", .type "ValueError", _, rfl, q3, q4, O.exc, fun u r => r, O.kitb, q8⟩
theorem chkXs_len : ∀ {as : List Xa} {ps : List PySem.Expr} {sc : Scope} {e : Str}, chkXs T sc e as ps = true → ps.length = as.length
  | [], [], _, _, _ => rfl
  | [], _ :: _, _, _, h => by cases h
  | _ :: _, [], _, _, h => by cases h
  | a :: as, p :: ps, sc, e, h => congrArg Nat.succ (chkXs_len (ba (ba (show (notStar p && (chkX T sc e a p && chkXs T sc e as ps)) = true from h)).2).2)
theorem snd_xas {sc : Scope} {W : WX} {X : Cx} (C : CxtS T G cl N n sc W X) {a : Addr} {oe : Obj} {cls : Value} {d : Option Addr} {pn : List (Addr × Obj)} (hz : Zc cls d oe) (hf : ∃ vs, oe.data = .fields vs) {i : Nat} {e : Str} (hi : N[i]? = some e) (hl : loclB sc e = true) (hp : plN e = true) :
    ∀ {as : List Xa} {ps : List PySem.Expr}, chkXs T sc e as ps = true → PA (X.suite a ((a, oe) :: pn)) ps (tXas T cl a cls d i as)
  | [], [], _ => pa_nil
  | [], _ :: _, h => by cases h
  | _ :: _, [], h => by cases h
  | x :: as, p :: ps, h => by
    obtain ⟨h1, h2⟩ := ba (show (notStar p && (chkX T sc e x p && chkXs T sc e as ps)) = true from h)
    obtain ⟨h3, h4⟩ := ba h2
    exact pa_cons (snd_xa C hz hf hi hl hp h3) (snd_xas C hz hf hi hl hp h4) (starEach_cons h1)
/-- what the suite reads is what the meaning says -/
theorem xas_run {K : PySem.W.Frag} {ρ : List Addr} {H : Hp} {a : Addr} {cls : Value} {d : Option Addr} {i : Nat} {σ : L2.St} {x : Xc} {nm : Str} {k : Cls} (ho : σ[i]? = some (some (.ref a))) (hc : T.ecs[x.c]? = some (nm, k)) (xr : XR K cl ρ H x cls d) :
    ∀ {as : List Xa} {ds : List D}, (∀ c', Xa.isc c' ∈ as → c' < T.ecs.length) → (∀ m, Xa.isb m ∈ as → m = "ValueError") → mapO (xaD k x) as = some ds → ∃ vs, RepL K ρ H ds vs ∧ ∀ Q : List V → Hp → Prop, Q vs H → tXas T cl a cls d i as σ H Q
  | [], ds, _, _, h => by cases h; exact ⟨[], .nil, fun Q q => q⟩
  | y :: as, ds, g1, g2, h => by
    unfold mapO at h
    cases e : xaD k x y with
    | none => rw [e] at h; cases h
    | some dd =>
      rw [e] at h
      cases e2 : mapO (xaD k x) as with
      | none => rw [e2] at h; cases h
      | some dds =>
        rw [e2] at h
        cases h
        obtain ⟨vs, r, f⟩ := xas_run ho hc xr (fun c hc => g1 c (List.mem_cons_of_mem _ hc)) (fun c hc => g2 c (List.mem_cons_of_mem _ hc)) e2
        obtain ⟨x1, xr⟩ := xr
        obtain ⟨ws, x3, x4⟩ : ∃ ws, XD H d ws ∧ ∀ (f : Str) (dd : D), x.fs.lookup f = some dd → ∃ v, ws.lookup f = some v ∧ Rep K ρ H dd v := by
          rcases xr with ⟨z1, z2⟩ | ⟨da, ws, x2, x3, x4⟩
          · exact ⟨[], .inl ⟨z2, rfl⟩, fun f dd h => by rw [z1] at h; cases h⟩
          · exact ⟨ws, .inr ⟨da, x2, x3⟩, x4⟩
        have hold : Hold T cl a cls d i σ H x.c nm k ws := ⟨ho, hc, x1, x3⟩
        have key : ∃ v, xaV T ws x.c k y v ∧ Rep K ρ H dd v := by
          cases y with
          | fld f =>
            unfold xaD at e
            simp only at e
            split at e
            · rename_i hf
              obtain ⟨v, v1, v2⟩ := x4 f dd e
              exact ⟨v, ⟨by simpa using hf, v1⟩, v2⟩
            · cases e
          | isc c' => cases e; exact ⟨_, ⟨g1 c' (List.mem_cons_self ..), rfl⟩, .bl _⟩
          | isb m => cases e; exact ⟨_, ⟨g2 m (List.mem_cons_self ..), rfl⟩, .bl _⟩
        obtain ⟨v, v1, v2⟩ := key
        exact ⟨v :: vs, .cons v2 r, fun Q q => ⟨x.c, nm, k, ws, hold, v, v1, f _ q⟩⟩
theorem chkXs_isc {sc : Scope} {e : Str} : ∀ {as : List Xa} {ps : List PySem.Expr}, chkXs T sc e as ps = true → (∀ c', Xa.isc c' ∈ as → c' < T.ecs.length) ∧ (∀ m, Xa.isb m ∈ as → m = "ValueError")
  | [], _, _ => And.intro (fun c h => by cases h) (fun c h => by cases h)
  | _ :: _, [], h => by cases h
  | a :: as, p :: ps, h => by
    obtain ⟨h1, h2⟩ := ba (show (notStar p && (chkX T sc e a p && chkXs T sc e as ps)) = true from h)
    obtain ⟨h3, h4⟩ := ba h2
    obtain ⟨i1, i2⟩ := chkXs_isc h4
    refine ⟨fun c' hm => ?_, fun m hm => ?_⟩
    · rcases List.mem_cons.mp hm with z | z
      · subst z
        obtain ⟨i0, p0, y, p4, z, p5, p6, ep, g⟩ := chkX_isc h3
        have e2 : (T.ecs[c']?).map (·.1) = some z := of_decide_eq_true (ba (ba (ba g).2).2).1
        cases e3 : T.ecs[c']? with
        | none => rw [e3] at e2; cases e2
        | some _ => exact (List.getElem?_eq_some_iff.mp e3).1
      · exact i1 c' z
    · rcases List.mem_cons.mp hm with z | z
      · subst z
        obtain ⟨i0, p0, y, p4, z, p5, p6, ep, g⟩ := chkX_isb h3
        exact of_decide_eq_true (ba (ba (ba g).2).2).1
      · exact i2 m z
end
end Ev
end
section
set_option Elab.async false
set_option linter.all false
set_option maxRecDepth 100000
set_option maxHeartbeats 4000000
set_option autoImplicit false
/-! Ev13: statements are sound. -/
namespace Ev
open PySem PySem.Spec PyProof.Rows L2

section
variable {T : Tbl} {G : Gm} {cl : Cl} {N : List Str} {n : Nat}
/-- name = [..] on one line -/
theorem snd_lcS {sc : Scope} {W : WX} {X : Cx} (C : CxtS T G cl N n sc W X) {i : Nat} {y : Str} {py pos spos : Pos} {own : List (Str × Nat)} {elt : E} {pt : Pt} {it : It} {c : Oe} {pelt ptg pit : PySem.Expr} {pifs : List PySem.Expr} {scope : Scope} (hi : N[i]? = some y) (hyl : sc.names.lookup y = some .local)
    (hsw : swapsWith (.ListComp pelt [⟨ptg, pit, pifs, 0⟩] scope pos) (some (.Name y py)) spos.line X.env = pure true)
    (hh : (blkC N sc scope own && (chkP N scope (relB scope sc) own pt ptg && (chkI T N sc it pit ptg && (chkC T.nolam N (relB scope sc) c pifs && chkE T.nolam N (relB scope sc) elt pelt)))) = true) :
    PS X (.Assign [.Name y py] (.ListComp pelt [⟨ptg, pit, pifs, 0⟩] scope pos) spos) (tAsg (tE X.K cl W (ev G (.lc own elt pt it c))) (gName i)) := by
  obtain ⟨h1, h2⟩ := ba hh
  obtain ⟨h3, h4⟩ := ba h2
  obtain ⟨h5, h6⟩ := ba h4
  obtain ⟨h7, h8⟩ := ba h6
  refine (ps_setLc (own := own) (i := i) (g := gPt X.K pt) (wi := tI X.K cl W (evi G it)) (tt := tB X.K cl W0 (evc G c)) (te := tE X.K cl W0 (ev G elt)) C.calm (by rw [C.nN]; exact C.nd) (by rw [C.nN]; exact hi) (by rw [C.sc]; exact hyl) hsw (sndI it C.toCxt h5) (by rw [C.nN, C.sc]; exact blkOk_by h1)
    (fun s H Cc l fp => pg_pt (X := X.blk s H scope (compEnvC scope l Cc X.env) fp) (sc := scope) (rs := relB scope sc) C.nN C.nd (C.toCxt.blk.sc) (fun x hx => hx) C.calm h3)
    (fun s H Cc l fp => sndC c (C.toCxt.blk (s := s) (H := H) (Cc := Cc) (l := l) (fp := fp) (scope := scope)) h7)
    (fun s H Cc l fp => (sndE elt (C.toCxt.blk (s := s) (H := H) (Cc := Cc) (l := l) (fp := fp) (scope := scope)) h8).1) (chkI_fold h5)).weak fun D σ H q => ?_
  obtain ⟨ρ, en, S, he, hs, q⟩ := q
  refine ⟨ρ, en, S, he, hs, (Aft.bind q).imp (fun ρ1 H1 S1 src x1 s1 q1 => ?_) fun _ _ _ _ _ z => z⟩
  intro J hJ Dn hD
  exact lc_run h3 (he.ext x1) s1 hJ q1 (fun ρ H S d v z r => z v r) Dn hD
theorem snd_lc2S {sc : Scope} {W : WX} {X : Cx} (C : CxtS T G cl N n sc W X) {i : Nat} {y : Str} {py pos spos : Pos} {own : List (Str × Nat)} {own1 : List Nat} {elt : E} {pt p1 : Pt} {it it1 : It} {pelt ptg pit ptg1 pit1 : PySem.Expr} {scope : Scope} (hi : N[i]? = some y) (hyl : sc.names.lookup y = some .local)
    (hsw : swapsWith (.ListComp pelt [⟨ptg, pit, [], 0⟩, ⟨ptg1, pit1, [], 0⟩] scope pos) (some (.Name y py)) spos.line X.env = pure true)
    (hh : ((blkC N sc scope own && own1.all fun i => (own.map (·.2)).contains i) &&
      ((chkP N scope (relB scope sc) own pt ptg && chkP N scope (relB scope sc) (own.filter fun q => own1.contains q.2) p1 ptg1) && ((chkI T N sc it pit ptg && chkI T.nolam N (relB scope sc) it1 pit1 ptg1) && chkE T.nolam N (relB scope sc) elt pelt))) = true) :
    PS X (.Assign [.Name y py] (.ListComp pelt [⟨ptg, pit, [], 0⟩, ⟨ptg1, pit1, [], 0⟩] scope pos) spos) (tAsg (tE X.K cl W (ev G (.lc2 own own1 elt pt it p1 it1))) (gName i)) := by
  obtain ⟨h1, h2⟩ := ba hh
  obtain ⟨h3, h4⟩ := ba h1
  obtain ⟨h5, h6⟩ := ba h2
  obtain ⟨h7, h8⟩ := ba h5
  obtain ⟨h9, h10⟩ := ba h6
  obtain ⟨h11, h12⟩ := ba h9
  refine (ps_setLc2 (own := own) (vs1 := own1) (i := i) (g := gPt X.K pt) (g1 := gPt X.K p1) (wi := tI X.K cl W (evi G it)) (wi1 := tI X.K cl W0 (evi G it1)) (te := tE X.K cl W0 (ev G elt)) C.calm (by rw [C.nN]; exact C.nd) (by rw [C.nN]; exact hi) (by rw [C.sc]; exact hyl) hsw (sndI it C.toCxt h11) (by rw [C.nN, C.sc]; exact blkOk_by h3) (fun i hi => by
      have := List.all_eq_true.mp h4 i hi
      simpa using this)
    (fun s H Cc l fp => pg_pt (X := X.blk s H scope (compEnvC scope l Cc X.env) fp) (sc := scope) (rs := relB scope sc) C.nN C.nd (C.toCxt.blk.sc) (fun x hx => hx) C.calm h7)
    (fun s H Cc l fp => pts_nil)
    (fun s H Cc l fp => sndI it1 (C.toCxt.blk (s := s) (H := H) (Cc := Cc) (l := l) (fp := fp) (scope := scope)) h12)
    (fun s H Cc l fp => pg_pt (X := X.blk s H scope (compEnvC scope l Cc X.env) fp) (sc := scope) (rs := relB scope sc) C.nN C.nd (C.toCxt.blk.sc) (fun x hx => hx) C.calm h8)
    (fun s H Cc l fp => pts_nil)
    (fun s H Cc l fp => (sndE elt (C.toCxt.blk (s := s) (H := H) (Cc := Cc) (l := l) (fp := fp) (scope := scope)) h10).1) (chkI_fold h11) (fun env => chkI_fold h12)).weak fun D σ H q => ?_
  obtain ⟨ρ, en, S, he, hs, q⟩ := q
  refine ⟨ρ, en, S, he, hs, (Aft.bind q).imp (fun ρ1 H1 S1 src x1 s1 q1 => ?_) fun _ _ _ _ _ z => z⟩
  intro J hJ Dn hD
  exact lc2_run (own1 := own.filter fun q => own1.contains q.2) (vs1 := own1) h7 h8 (fun q hq => by simpa using (List.mem_filter.mp hq).2) (he.ext x1) s1 hJ q1 (fun ρ H S d v z r => z v r) Dn hD
/-- target = value, by its readings -/
theorem asg_of {K : PySem.W.Frag} {W : WX} {C' : List Cls} {t : Tg} {e : E} {D : Ends} {σ : L2.St} {H : Hp} (q : tS K cl W (exec G C' (.asg t e)) D σ H) : tAsg (tE K cl W (ev G e)) (gT K cl (asgT G t)) D σ H := by
  refine liftS (k := fun en d S => (asgT G t d en S).noex.then en fun en S => .nx en S) q fun ρ H1 S en x v Z he hs r q z => ?_
  exact ⟨ρ, en, S, x, he, hs, r, Aft.imp (Aft.noex (AftO.then q)) (fun ρ2 H2 S2 en2 x2 s2 q2 σ2 he2 hs2 => z.nx _ _ _ _ (AftO.here q2 s2) σ2 he2 hs2) fun _ _ _ _ _ z => z.elim⟩
theorem asgN_of {K : PySem.W.Frag} {W : WX} {C' : List Cls} {i : Nat} {e : E} {D : Ends} {σ : L2.St} {H : Hp} (q : tS K cl W (exec G C' (.asg (.nm i) e)) D σ H) : tAsg (tE K cl W (ev G e)) (gName i) D σ H := by
  refine liftS (k := fun en d S => (asgT G (.nm i) d en S).noex.then en fun en S => .nx en S) q fun ρ H1 S en x v Z he hs r q z => ?_
  have q2 : AftO K cl ρ H1 (.nx (en.set i (some x)) S) Z := by
    unfold asgT at q
    exact q
  exact z.nx _ _ _ _ (AftO.here q2 hs) _ (he.set r i) hs
theorem parSet_rep {K : PySem.W.Frag} {ρ : List Addr} {H : Hp} {en en' : En} {σ : L2.St} {i j : Nat} {ds : List D} {vs : List V} (he : RelE K ρ H en σ) (r : RepL K ρ H ds vs) (e : parSet [i, j] ds en = some en') : ∃ v w, vs = [v, w] ∧ RelE K ρ H en' ((σ.set i (some v)).set j (some w)) := by
  cases r with
  | nil => cases e
  | cons r1 r =>
    cases r with
    | nil => cases e
    | cons r2 r =>
      cases r with
      | nil => cases e; exact ⟨_, _, rfl, (he.set r1 i).set r2 j⟩
      | cons _ _ => cases e
theorem parSet_rep3 {K : PySem.W.Frag} {ρ : List Addr} {H : Hp} {en en' : En} {σ : L2.St} {i j l : Nat} {ds : List D} {vs : List V} (he : RelE K ρ H en σ) (r : RepL K ρ H ds vs) (e : parSet [i, j, l] ds en = some en') : ∃ u v w, vs = [u, v, w] ∧ RelE K ρ H en' (((σ.set i (some u)).set j (some v)).set l (some w)) := by
  cases r with
  | nil => cases e
  | cons r1 r =>
    cases r with
    | nil => cases e
    | cons r2 r =>
      cases r with
      | nil => cases e
      | cons r3 r =>
        cases r with
        | nil => cases e; exact ⟨_, _, _, rfl, ((he.set r1 i).set r2 j).set r3 l⟩
        | cons _ _ => cases e
theorem par_of {K : PySem.W.Frag} {W : WX} {C' : List Cls} {is : List Nat} {es : Es} {D : Ends} {σ : L2.St} {H : Hp} {r : List V → Hp → Prop} (q : tS K cl W (exec G C' (.par is es)) D σ H)
    (f : ∀ ρ H1 S en ds vs en' Z, RelE K ρ H1 en σ → RelS K cl ρ H1 S → RepL K ρ H1 ds vs → parSet is ds en = some en' → Z.nx ρ H1 S en' → EOk K cl W Z D → r vs H1) : tA K cl W (evs G es) σ H r := by
  obtain ⟨ρ, en, S, Z, he, hs, h, z⟩ := q
  unfold exec at h
  refine ⟨ρ, en, S, he, hs, Aft.imp2 (AftO.then h) (fun ρ1 H1 S1 ds x1 s1 q vs rv => ?_) fun x ρ1 H1 S1 x1 s1 q cls d xr => ?_⟩
  · cases e : parSet is ds en with
    | none => rw [e] at q; exact False.elim q
    | some en' =>
      rw [e] at q
      exact f ρ1 H1 S1 en ds vs en' Z (he.ext x1) s1 rv e (AftO.here q s1) z
  · exact z.ex x ρ1 H1 S1 en q σ cls d (he.ext x1) s1 xr
theorem aug_pip {X : Cx} {K : PySem.W.Frag} {o : Op2} {op : Operator} (h : augB o op = true) : ∃ f : Int → Int → Int, PIp X op (ipI f) ∧ ∀ (ρ : List Addr) (H : Hp) (x y z : D) (v w : V) (Q : VK), Rep K ρ H x v → Rep K ρ H y w → augI o x y = some z → (∀ u, Rep K ρ H z u → Q u H) → ipI f v w H Q := by
  cases o <;> cases op <;> first | (cases h; done) | skip
  · refine ⟨_, ip_add, fun ρ H x y z v w Q rx ry e f => ?_⟩
    cases x with
    | int i =>
      cases y with
      | int j => cases e; cases rx; cases ry; exact ⟨_, _, rfl, rfl, f _ (.int _)⟩
      | _ => cases e
    | _ => cases e
  · refine ⟨_, ip_sub, fun ρ H x y z v w Q rx ry e f => ?_⟩
    cases x with
    | int i =>
      cases y with
      | int j => cases e; cases rx; cases ry; exact ⟨_, _, rfl, rfl, f _ (.int _)⟩
      | _ => cases e
    | _ => cases e
end
end Ev
end
section
set_option Elab.async false
set_option linter.all false
set_option maxRecDepth 100000
set_option maxHeartbeats 4000000
set_option autoImplicit false
/-! Ev14: statements are sound: loops, blocks, the theorem. -/
namespace Ev
open PySem PySem.Spec PyProof.Rows L2

section
variable {K : PySem.W.Frag} {cl : Cl} {ρ : List Addr} {H : Hp} {o : O} {Z Z' : EndsO}
theorem AftO.turn2 {k : En → Sto → O} (h : AftO K cl ρ H (o.turn k) Z) : AftO K cl ρ H o { Z with nx := fun ρ' H' S en => Ext ρ H ρ' H' ∧ AftO K cl ρ' H' (k en S) Z, ct := fun ρ' H' S en => Ext ρ H ρ' H' ∧ AftO K cl ρ' H' (k en S) Z, bk := Z.nx } := by
  cases o <;> first | exact h | exact fun ρ' H' x s => ⟨x, AftO.ext h x⟩
end
section
variable {T : Tbl} {G : Gm} {cl : Cl} {N : List Str} {n : Nat} {C' : List Cls}
theorem for_of {K : PySem.W.Frag} {W : WX} {t : Tg} {it : It} {b : Ss} {D : Ends} {σ : L2.St} {H : Hp} (q : tS K cl W (exec G C' (.for t it b)) D σ H) : tFor (tI K cl W (evi G it)) (gT K cl (asgT G t)) (tS K cl W (execs G C' b)) D σ H := by
  obtain ⟨ρ, en, S, Z, he, hs, h, z⟩ := q
  refine ⟨ρ, en, S, he, hs, Aft.imp2 (AftO.then h) (fun ρ1 H1 S1 src x1 s1 q1 => ?_) fun x ρ1 H1 S1 x1 s1 q cls d xr => z.ex x ρ1 H1 S1 en q σ cls d (he.ext x1) s1 xr⟩
  intro J hJ
  generalize hF : (fun (d : Ev.D) (en : En) (S : Sto) => (asgT G t d en S).noex.then en fun en S => execs G C' b en S) = F at q1
  let Wf : Nat → Nat → L2.St → Hp → Prop := fun i m σ H => m = src.its.length - i ∧ i ≤ src.its.length ∧ ∃ ρ en S, Ext ρ1 H1 ρ H ∧ RelE K ρ H en σ ∧ RelS K cl ρ H S ∧ AftO K cl ρ H (forL src F (src.its.drop i) en S) Z
  refine ⟨Wf, ⟨_, rfl, Nat.zero_le _, ρ1, en, S1, Ext.refl _ _, he.ext x1, s1, by rw [List.drop_zero]; exact q1⟩, ?_⟩
  rintro i m σ H ⟨rfl, hi, ρ, en, S, xt, he, hs, ha⟩
  by_cases hl : i < src.its.length
  · refine .inr ?_
    obtain ⟨d, hd⟩ : ∃ d, src.its[i]? = some d := ⟨_, List.getElem?_eq_getElem hl⟩
    rw [drop_cons hd, forL] at ha
    split at ha
    · rename_i ok
      obtain ⟨go, yl⟩ := (hJ ρ H S xt.kp hs ok i).1 d hd
      refine ⟨go, fun σ' H' => ∃ m, Wf (i + 1) m σ' H', fun σ' H' ⟨m', w⟩ => ⟨m', by rw [w.1]; omega, w⟩, fun x H2 y => ?_⟩
      obtain ⟨x2, s2, r2⟩ := yl x H2 y
      have ha2 := AftO.turn2 (AftO.ext ha x2)
      rw [← hF] at ha2
      refine ⟨ρ, en, S, d, he.ext x2, s2, r2, Aft.imp (Aft.noex (AftO.then ha2)) (fun ρ3 H3 S3 en3 x3 s3 q3 => ?_) fun _ _ _ _ _ z => z.elim⟩
      intro σ3 he3 hs3
      rw [hF] at q3
      refine ⟨ρ3, en3, S3, _, he3, s3, q3, ⟨fun ρ' H' S' en' q σ' he' hs' => ?_, z.rt, z.nx, fun ρ' H' S' en' q σ' he' hs' => ?_, z.ex⟩⟩
      · exact ⟨_, rfl, hl, ρ', en', S', (xt.trans x2).trans q.1, he', hs', q.2⟩
      · exact ⟨_, rfl, hl, ρ', en', S', (xt.trans x2).trans q.1, he', hs', q.2⟩
    · exact False.elim ha
  · have e : i = src.its.length := by omega
    subst e
    rw [List.drop_length, forL] at ha
    split at ha
    · rename_i ok
      exact .inl ⟨(hJ ρ H S xt.kp hs ok _).2 (Nat.le_refl _), z.nx _ _ _ _ (AftO.here ha hs) σ he hs⟩
    · exact False.elim ha
theorem whl_of {K : PySem.W.Frag} {W : WX} {c : E} {b : Ss} {D : Ends} {σ : L2.St} {H : Hp} (q : tS K cl W (exec G C' (.whl c b)) D σ H) : tWhile (tB K cl W (toB (ev G c))) (tS K cl W (execs G C' b)) D σ H := by
  obtain ⟨ρ, en, S, Z, he, hs, h, z⟩ := q
  have h' : AftO K cl ρ H (whlL (toB (ev G c)) (fun en S => execs G C' b en S) en S) Z := h
  let Wf : Nat → L2.St → Hp → Prop := fun m σ H => ∃ ρ en S, RelE K ρ H en σ ∧ RelS K cl ρ H S ∧ AftO K cl ρ H (wIt (toB (ev G c)) (fun en S => execs G C' b en S) m en S) Z
  have hn : ∃ m, Wf m σ H := by
    unfold whlL at h'
    split at h'
    · rename_i hx
      exact ⟨_, ρ, en, S, he, hs, h'⟩
    · exact False.elim h'
  refine ⟨Wf, hn, ?_⟩
  rintro m σ H ⟨ρ, en, S, he, hs, ha⟩
  cases m with
  | zero => exact False.elim ha
  | succ m =>
    rw [wIt] at ha
    refine ⟨ρ, en, S, he, hs, Aft.imp2 (AftO.then ha) (fun ρ1 H1 S1 k x1 s1 q1 => ?_) fun x ρ1 H1 S1 x1 s1 q cls d xr => z.ex x ρ1 H1 S1 en q σ cls d (he.ext x1) s1 xr⟩
    cases k with
    | false =>
      rw [if_neg (by decide)] at q1 ⊢
      exact z.nx _ _ _ _ (AftO.here q1 s1) σ (he.ext x1) s1
    | true =>
      rw [if_pos rfl] at q1 ⊢
      refine ⟨fun σ' H' => Wf m σ' H', fun σ' H' w => ⟨m, Nat.lt_succ_self _, w⟩, ρ1, en, S1, _, he.ext x1, s1, AftO.turn q1, ⟨fun ρ' H' S' en' q σ' he' hs' => ⟨ρ', en', S', he', hs', q⟩, z.rt, z.nx, fun ρ' H' S' en' q σ' he' hs' => ⟨ρ', en', S', he', hs', q⟩, z.ex⟩⟩
theorem ite_of {K : PySem.W.Frag} {W : WX} {c : E} {a b : Ss} {D : Ends} {σ : L2.St} {H : Hp} (q : tS K cl W (exec G C' (.ite c a b)) D σ H) : tIfS (tB K cl W (toB (ev G c))) (tS K cl W (execs G C' a)) (tS K cl W (execs G C' b)) D σ H := by
  refine liftSB (k := fun en x S => match x with
    | .bl true => execs G C' a en S
    | .bl false => execs G C' b en S
    | _ => .stuck) q (fun en x S hx => ?_) fun ρ H1 S en k Z he hs q z => ?_
  · cases x with
    | bl b => exact absurd rfl (hx b)
    | _ => rfl
  · cases k with
    | true => rw [if_pos rfl]; exact ⟨ρ, en, S, Z, he, hs, q, z⟩
    | false => rw [if_neg (by decide)]; exact ⟨ρ, en, S, Z, he, hs, q, z⟩

theorem chk_asg {sc : Scope} {t : Tg} {e : E} {st : PySem.Stmt} (h : chkS T N sc (.asg t e) st = true) : ∃ tg pe pos, st = .Assign [tg] pe pos ∧ (chkT T N sc t tg && (chkE T N sc e pe && (swNo sc tg pe && (!swapB sc tg pe || isLc e)))) = true := by
  unfold chkS at h
  split at h <;> first | (cases h; done) | (rename_i e; cases e; done) | (rename_i e _; cases e; done) | skip
  rename_i e1 e2
  cases e1
  cases e2
  exact ⟨_, _, _, rfl, h⟩
theorem chk_par {sc : Scope} {is : List Nat} {es : Es} {st : PySem.Stmt} (h : chkS T N sc (.par is es) st = true) : ∃ ts k p ps k2 p2 pos, st = .Assign [.Tuple ts k p] (.Tuple ps k2 p2) pos ∧ (chkPar N sc is ts ps && chkEs T N sc es ps) = true := by
  unfold chkS at h
  split at h <;> first | (cases h; done) | (rename_i e; cases e; done) | (rename_i e _; cases e; done) | skip
  rename_i e1 e2
  cases e1
  cases e2
  exact ⟨_, _, _, _, _, _, _, rfl, h⟩
theorem chk_for {sc : Scope} {t : Tg} {it : It} {b : Ss} {st : PySem.Stmt} (h : chkS T N sc (.for t it b) st = true) : ∃ tg pit body pos, st = .For tg pit body [] pos ∧ (chkT T N sc t tg && (chkI T N sc it pit tg && chkSs T N sc b body)) = true := by
  unfold chkS at h
  split at h <;> first | (cases h; done) | (rename_i e; cases e; done) | (rename_i e _; cases e; done) | skip
  rename_i e1 e2
  cases e1
  cases e2
  exact ⟨_, _, _, _, rfl, h⟩
theorem chk_whl {sc : Scope} {c : E} {b : Ss} {st : PySem.Stmt} (h : chkS T N sc (.whl c b) st = true) : ∃ pc body pos, st = .While pc body [] pos ∧ (chkE T N sc c pc && chkSs T N sc b body) = true := by
  unfold chkS at h
  split at h <;> first | (cases h; done) | (rename_i e; cases e; done) | (rename_i e _; cases e; done) | skip
  rename_i e1 e2
  cases e1
  cases e2
  exact ⟨_, _, _, rfl, h⟩
theorem chk_lcN {sc : Scope} {e : E} {tg pe : PySem.Expr} (h : swapB sc tg pe = true) : ∃ y py, tg = .Name y py ∧ sc.names.lookup y = some .local := by
  unfold swapB at h
  split at h
  · rename_i s t pos e1
    obtain ⟨h1, h2⟩ := ba h
    obtain ⟨h3, h4⟩ := ba h1
    exact ⟨t, pos, rfl, by simpa using h3⟩
  · cases h
theorem CxtS.tr {sc : Scope} {W W' : WX} {X : Cx} (C : CxtS T G cl N n sc W X) {pn : List (Addr × Obj)} {xe : Value → Shared → Prop} (tk : Takes (X.tr pn xe) W') (po : PassesOwn (model X.prog X.w) X.A X.env xe) : CxtS T G cl N n sc W' (X.tr pn xe) :=
  ⟨⟨C.nN, C.nd, C.sc, C.calm, C.gd, C.room, C.seer, C.tree, C.top, C.tab, tk, C.lam⟩, po, C.fnT, C.stk, C.frm, C.act⟩
theorem RelS.newL {K : PySem.W.Frag} {ρ : List Addr} {H : Hp} {S : Sto} {xs : List D} {vs : List V} {p : Addr} (s : RelS K cl ρ H S) (r : RepL K ρ H xs vs) (hp : H p = none) :
    Ext ρ H (ρ ++ [p]) (upd H p (.lst vs)) ∧ RelS K cl (ρ ++ [p]) (upd H p (.lst vs)) (S ++ [.lst xs]) ∧ Rep K (ρ ++ [p]) (upd H p (.lst vs)) (.ref S.length) (.ref p) := by
  have xx : Ext ρ H (ρ ++ [p]) (upd H p (.lst vs)) := ⟨⟨[p], rfl⟩, fun b hb => (List.mem_append.mp hb).imp id fun z => by rw [List.mem_singleton.mp z]; exact hp, fun b v e _ => by rw [upd_ne (ne_of_none e hp)]; exact e⟩
  obtain ⟨x, s'⟩ := s.alloc (o := .lst xs) (u := .lst vs) hp ⟨vs, upd_same, r.ext xx⟩
  exact ⟨x, s', .ref (by rw [← s.len]; simp)⟩
theorem mapO_len {α β : Type} {f : α → Option β} : ∀ {l : List α} {r : List β}, mapO f l = some r → r.length = l.length
  | [], r, h => by cases h; rfl
  | a :: l, r, h => by
    unfold mapO at h
    cases e : f a with
    | none => rw [e] at h; cases h
    | some b =>
      cases e2 : mapO f l with
      | none => rw [e, e2] at h; cases h
      | some bs => rw [e, e2] at h; cases h; exact congrArg Nat.succ (mapO_len e2)
theorem tri_of {sc : Scope} {W : WX} {X : Cx} (C : CxtS T G cl N n sc W X) (hC : C' = T.ecs.map (·.2)) {b : Ss} {c slot to : Nat} {as : List Xa} (g1 : ∀ c', Xa.isc c' ∈ as → c' < T.ecs.length) (g2 : ∀ m, Xa.isb m ∈ as → m = "ValueError") (gl : as.length ≤ 1000) (hct : c < T.ecs.length) {D : Ends} {σ : L2.St} {H : Hp}
    (q : tS X.K cl W (exec G C' (.tri b c slot to as)) D σ H) :
    tS X.K cl (wAs X.K (.ref (cl c)) slot (fun a cls d => tAsg (tLst (tXas T cl a cls d slot as)) (gName to)) W D) (execs G C' b) D σ H := by
  obtain ⟨ρ, en, S, Z, he, hs, h, z⟩ := q
  refine ⟨ρ, en, S, { Z with ex := fun x ρ' H' S' en' => AftO X.K cl ρ' H' (triH C' c slot to as x en' S') Z }, he, hs, ?_, ⟨z.nx, z.rt, z.bk, z.ct, ?_⟩⟩
  · have h' : AftO X.K cl ρ H (match execs G C' b en S with
      | .ex x en S => triH C' c slot to as x en S
      | o => o) Z := h
    cases y : execs G C' b en S with
    | ex x en1 S1 => rw [y] at h'; exact fun ρ' H' x' s' => AftO.ext h' x'
    | _ => rw [y] at h'; exact h'
  · intro x ρ' H' S' en' q σ' cls d he' hs' xr
    replace q : AftO X.K cl ρ' H' (triH C' c slot to as x en' S') Z := q
    unfold triH at q
    split at q
    · rename_i hlt
      cases hk : C'[x.c]? with
      | none => rw [hk] at q; exact False.elim q
      | some k =>
        obtain ⟨nm, hk2⟩ : ∃ nm, T.ecs[x.c]? = some (nm, k) := by
          rw [hC, List.getElem?_map] at hk
          cases e : T.ecs[x.c]? with
          | none => rw [e] at hk; cases hk
          | some p => rw [e] at hk; cases hk; exact ⟨p.1, rfl⟩
        have O := C.tab.ecs x.c nm k hk2
        obtain ⟨x1, _⟩ := id xr
        rw [hk] at q
        replace q : AftO X.K cl ρ' H' (if (decide (c = x.c) || k.up.contains c) = true then (match mapO (xaD k x) as with
          | some ds => .nx (((en'.set slot none).set to (some (.ref S'.length))).set slot none) (S' ++ [.lst ds])
          | none => .stuck) else .ex x en' S') Z := q
        refine ⟨decide (c = x.c) || k.up.contains c, by rw [x1]; exact O.exm c hct, fun hb a ha => ?_, fun hb => ?_⟩
        · rw [if_pos hb] at q
          cases e : mapO (xaD k x) as with
          | none => rw [e] at q; exact False.elim q
          | some ds =>
            rw [e] at q
            have hs2 : slot < σ'.length := by rw [← he'.len]; exact hlt
            obtain ⟨vs, r, f⟩ := xas_run (σ := σ'.set slot (some (.ref a))) (a := a) (i := slot) (List.getElem?_set_self hs2) hk2 xr g1 g2 e
            refine f _ ⟨?_, fun p hp => ?_⟩
            · rw [← r.length, mapO_len e, ← sl_eq]
              omega
            · obtain ⟨xx, s2, r2⟩ := hs'.newL r hp
              exact z.nx _ _ _ _ (q _ _ xx s2) _ ((((he'.unset slot (some (.ref a))).ext xx).set r2 to).unset slot none) s2
        · rw [if_neg (by rw [hb]; decide)] at q
          exact z.ex _ _ _ _ _ (q ρ' H' (Ext.refl _ _) hs') σ' cls d he' hs' xr
    · exact False.elim q
theorem chk_rai {sc : Scope} {c : Nat} {es : Es} {st : PySem.Stmt} (h : chkS T N sc (.rai c es) st = true) : ∃ x p ps pos pos2, st = .Raise (some (.Call (.Name x p) ps [] pos)) none pos2 ∧ ((match T.ecs[c]? with
      | some (y, k) => decide (x = y) && (decide (es.len = k.fs.length) && decide (k.fs.length ≤ 2))
      | none => false) && ((glB sc x && plN x) && (es.plain && chkEs T N sc es ps))) = true := by
  unfold chkS at h
  split at h <;> first | (cases h; done) | (rename_i e; cases e; done) | (rename_i e _; cases e; done) | skip
  rename_i e1 e2
  cases e1
  cases e2
  exact ⟨_, _, _, _, _, rfl, h⟩
theorem chk_sfl {sc : Scope} {a e : E} {c : Nat} {f : Str} {st : PySem.Stmt} (h : chkS T N sc (.sfl a c f e) st = true) : ∃ pa y p1 pe pos, st = .Assign [.Attribute pa y p1] pe pos ∧ ((decide (y = f) && (T.flds.contains f && decide (c < T.ics.length))) && (chkE T N sc a pa && chkE T N sc e pe)) = true := by
  unfold chkS at h
  split at h <;> first | (cases h; done) | (rename_i e; cases e; done) | (rename_i e _; cases e; done) | skip
  rename_i e1 e2
  cases e1
  cases e2
  exact ⟨_, _, _, _, _, rfl, h⟩
theorem chk_acs {sc : Scope} {j i : Nat} {st : PySem.Stmt} (h : chkS T N sc (.acs j i) st = true) : ∃ x p a p1 p2 pos, st = .Assign [.Name x p] (.Call (.Name a p1) [] [] p2) pos ∧ ((decide (N[j]? = some x) && locB sc x) && (decide (N[i]? = some a) && (visB sc a && plN a))) = true := by
  unfold chkS at h
  split at h <;> first | (cases h; done) | (rename_i e; cases e; done) | (rename_i e _; cases e; done) | skip
  rename_i e1 e2
  cases e1
  cases e2
  exact ⟨_, _, _, _, _, _, rfl, h⟩
theorem chk_ace {sc : Scope} {i : Nat} {st : PySem.Stmt} (h : chkS T N sc (.ace i) st = true) : ∃ a p1 p2 pos, st = .Expr (.Call (.Name a p1) [] [] p2) pos ∧ (decide (N[i]? = some a) && (visB sc a && plN a)) = true := by
  unfold chkS at h
  split at h <;> first | (cases h; done) | (rename_i e; cases e; done) | (rename_i e _; cases e; done) | skip
  rename_i e1 e2
  cases e1
  cases e2
  exact ⟨_, _, _, _, rfl, h⟩
/-- a field of the store written -/
theorem fld_set_rep {K : PySem.W.Frag} {ρ : List Addr} {H : Hp} {S S' : Sto} {c : Nat} {f : Str} {x d : D} {v w : V} (hs : RelS K cl ρ H S) (rx : Rep K ρ H x v) (rd : Rep K ρ H d w) (h : setFld x c f d S = some S') :
    ∃ (p dx : Addr) (ws : List (Str × V)), v = .ref p ∧ H p = some (.ins (cl.ic c) dx ws) ∧ ws.length < 1000 ∧ Ext ρ H ρ (upd H p (.ins (cl.ic c) dx (putF f w ws))) ∧ RelS K cl ρ (upd H p (.ins (cl.ic c) dx (putF f w ws))) S' := by
  unfold setFld at h
  split at h
  · rename_i n
    split at h
    · rename_i c' fs e
      split at h
      · rename_i hc
        obtain ⟨e1, hl⟩ := hc
        subst e1
        cases h
        obtain ⟨a, g1, dx, ws, g2, g3, g4⟩ := hs.obs n _ e
        cases rx with
        | ref y =>
          rw [g1] at y
          cases y
          have hlen : ws.length = fs.length := by simpa using congrArg List.length g3
          obtain ⟨x1, s1⟩ := hs.write (u := .ins (cl.ic c') dx (putF f w ws)) (o' := .ins c' (putD f d fs)) g1 e (by rw [g2]; exact True.intro) fun x => by
            obtain ⟨k1, k2⟩ := put_rep (rd.ext x) g3 (g4.ext x)
            exact ⟨dx, putF f w ws, upd_same, k1, k2⟩
          exact ⟨a, dx, ws, rfl, g2, by omega, x1, s1⟩
      · cases h
    · cases h
  · cases h
theorem chk_tri {sc : Scope} {b : Ss} {c slot to : Nat} {as : List Xa} {st : PySem.Stmt} (h : chkS T N sc (.tri b c slot to as) st = true) : ∃ body x p1 e y p2 ps p3 p4 p5 pos, st = .Try body [.ExceptHandler (some (.Name x p1)) (some e) [.Assign [.Name y p2] (.List ps p3) p4] p5] [] [] pos ∧
    (chkSs T N sc b body && ((decide ((T.ecs[c]?).map (·.1) = some x) && (glB sc x && plN x)) && ((decide (N[slot]? = some e) && (loclB sc e && plN e)) && ((decide (N[to]? = some y) && locB sc y) && (decide (as.length ≤ 1000) && chkXs T sc e as ps))))) = true := by
  unfold chkS at h
  split at h <;> first | (cases h; done) | (rename_i e; cases e; done) | (rename_i e _; cases e; done) | skip
  rename_i e1 e2
  cases e1
  cases e2
  exact ⟨_, _, _, _, _, _, _, _, _, _, _, rfl, h⟩
mutual
theorem sndS (hC : C' = T.ecs.map (·.2)) : ∀ (s : Sm) {sc : Scope} {W : WX} {X : Cx} {st : PySem.Stmt}, CxtS T G cl N n sc W X → isFn sc = true → chkS T N sc s st = true → PS X st (tS X.K cl W (exec G C' s))
  | .asg t e, sc, W, X, st, C, hf, h => by
    obtain ⟨tg, pe, pos, rfl, h⟩ := chk_asg h
    obtain ⟨h1, h2⟩ := ba h
    obtain ⟨h3, h4⟩ := ba h2
    obtain ⟨h5, h6⟩ := ba h4
    have hk : X.env.scope.kind = .function := by rw [C.sc]; exact isFn_of hf
    cases hsw : swapB sc tg pe with
    | false =>
      exact (ps_asg (sndE e C.toCxt h3).1 (sndT t C h1) ((swaps_eq hk).trans (by rw [C.sc, hsw])) (sw_no hk (by rw [C.sc]; exact h5)) (by cases tg <;> first | rfl | (cases t <;> cases h1))).weak fun D σ H q => asg_of q
    | true =>
      obtain ⟨y, py, rfl, hy⟩ := chk_lcN (e := e) hsw
      have hsw2 : swapsWith pe (some (.Name y py)) pos.line X.env = pure true := (swaps_eq hk).trans (by rw [C.sc, hsw])
      cases t with
      | nm i =>
        obtain ⟨g1, g2⟩ := ba (show (decide (N[i]? = some y) && locB sc y) = true from h1)
        have hi := of_decide_eq_true g1
        cases e with
        | lc own elt p it c =>
          obtain ⟨pelt, ptg, pit, pifs, scope, pos2, rfl, hh⟩ := chk_lc h3
          exact (snd_lcS C hi hy hsw2 hh).weak fun D σ H q => asgN_of q
        | lc2 own own1 elt p it p1 it1 =>
          obtain ⟨pelt, ptg, pit, ptg1, pit1, scope, pos2, rfl, hh⟩ := chk_lc2 h3
          exact (snd_lc2S C hi hy hsw2 hh).weak fun D σ H q => asgN_of q
        | _ =>
          rw [hsw] at h6
          cases h6
      | tup ts => cases h1
      | sub a i => cases h1
  | .par is es, sc, W, X, st, C, hf, h => by
    obtain ⟨ts, k, p, ps, k2, p2, pos, rfl, h⟩ := chk_par h
    obtain ⟨h1, h2⟩ := ba h
    have hk : X.env.scope.kind = .function := by rw [C.sc]; exact isFn_of hf
    unfold chkPar at h1
    split at h1
    · rename_i i j x px y py a b _
      obtain ⟨g1, g2⟩ := ba h1
      obtain ⟨g3, g4⟩ := ba g1
      obtain ⟨g5, g6⟩ := ba g2
      obtain ⟨g7, g8⟩ := ba g6
      obtain ⟨g9, g10⟩ := ba g7
      obtain ⟨g11, g12⟩ := ba g8
      obtain ⟨g13, g14⟩ := ba g11
      have e1 : swQuick X.env.scope [.Name x px, .Name y py] [a, b] = false := by rw [C.sc]; simpa using g13
      have e2 : [a, b].all (constantsAlone 8) = false := by
        cases z : [a, b].all (constantsAlone 8) with
        | false => rfl
        | true => rw [z] at g14; cases g14
      have e3 : nmS X.env.scope [.Name x px, .Name y py] = [x, y] := by rw [C.sc]; exact of_decide_eq_true g12
      refine (ps_par C.calm (by rw [C.nN]; exact C.nd) (by rw [C.nN]; exact of_decide_eq_true g3) (by rw [C.nN]; exact of_decide_eq_true g4) (of_decide_eq_true g5) (by rw [C.sc]; exact locl_of g9) (by rw [C.sc]; exact locl_of g10) (sndEs es C.toCxt h2) (by rw [sw_some hk e1 e2, e3])).weak fun D σ H q => ?_
      refine par_of q fun ρ H1 S en ds vs en' Z he hs r e qz z => ?_
      obtain ⟨v, w, ev, he'⟩ := parSet_rep he r e
      exact ⟨v, w, ev, z.nx _ _ _ _ qz _ he' hs⟩
    · rename_i i j l x px y py zz pz a b c _
      obtain ⟨g1, g2⟩ := ba h1
      obtain ⟨g3, g4⟩ := ba g1
      obtain ⟨g4, g4'⟩ := ba g4
      obtain ⟨g5, g6⟩ := ba g2
      obtain ⟨g5, g5'⟩ := ba g5
      obtain ⟨g5', g5''⟩ := ba g5'
      obtain ⟨g7, g8⟩ := ba g6
      obtain ⟨g9, g10⟩ := ba g7
      obtain ⟨g10, g10'⟩ := ba g10
      obtain ⟨g11, g12⟩ := ba g8
      obtain ⟨g13, g14⟩ := ba g11
      have e1 : swQuick X.env.scope [.Name x px, .Name y py, .Name zz pz] [a, b, c] = false := by rw [C.sc]; simpa using g13
      have e2 : [a, b, c].all (constantsAlone 8) = false := by
        cases z : [a, b, c].all (constantsAlone 8) with
        | false => rfl
        | true => rw [z] at g14; cases g14
      have e3 : nmS X.env.scope [.Name x px, .Name y py, .Name zz pz] = [x, y, zz] := by rw [C.sc]; exact of_decide_eq_true g12
      refine (ps_par3 C.calm (by rw [C.nN]; exact C.nd) (by rw [C.nN]; exact of_decide_eq_true g3) (by rw [C.nN]; exact of_decide_eq_true g4) (by rw [C.nN]; exact of_decide_eq_true g4') (of_decide_eq_true g5) (of_decide_eq_true g5') (of_decide_eq_true g5'') (by rw [C.sc]; exact locl_of g9) (by rw [C.sc]; exact locl_of g10) (by rw [C.sc]; exact locl_of g10') (sndEs es C.toCxt h2) (by rw [sw_some hk e1 e2, e3])).weak fun D σ H q => ?_
      refine par_of q fun ρ H1 S en ds vs en' Z he hs r e qz z => ?_
      obtain ⟨u, v, w, ev, he'⟩ := parSet_rep3 he r e
      exact ⟨u, v, w, ev, z.nx _ _ _ _ qz _ he' hs⟩
    · cases h1
  | .aug i o e, sc, W, X, st, C, hf, h => by
    cases st with
    | AugAssign tg op pe pos =>
      cases tg with
      | Name x py =>
        obtain ⟨h1, h2⟩ := ba (show (decide (N[i]? = some x) && (locB sc x && (augB o op && chkE T N sc e pe))) = true from h)
        obtain ⟨h3, h4⟩ := ba h2
        obtain ⟨h5, h6⟩ := ba h4
        obtain ⟨f, p1, p2⟩ := aug_pip (K := X.K) (X := X) h5
        refine (ps_aug (by rw [C.nN]; exact C.nd) (by rw [C.nN]; exact of_decide_eq_true h1) (by rw [C.sc]; exact loc_of h3) (sndE e C.toCxt h6).1 p1 (.inl (C.fnT x))).weak fun D σ H q => ?_
        obtain ⟨ρ, en, S, Z, he, hs, q, z⟩ := q
        unfold exec at q
        cases g : en.getD i none with
        | none => rw [g] at q; exact False.elim q
        | some d =>
          rw [g] at q
          have g2 : en[i]? = some (some d) := by
            rw [List.getD_eq_getElem?_getD] at g
            cases y : en[i]? with
            | none => rw [y] at g; cases g
            | some o => rw [y] at g; simp at g; rw [g]
          obtain ⟨v, g3, g4⟩ := he.get i d g2
          refine ⟨v, g3, ρ, en, S, he, hs, Aft.imp2 (AftO.then q) (fun ρ1 H1 S1 y x1 s1 q1 w rw' => ?_) fun x ρ1 H1 S1 x1 s1 q cls d xr => z.ex x ρ1 H1 S1 en q σ cls d (he.ext x1) s1 xr⟩
          cases a : augI o d y with
          | none => rw [a] at q1; exact False.elim q1
          | some nd =>
            rw [a] at q1
            exact p2 ρ1 H1 d y nd v w _ (g4.ext x1) rw' a fun u ru => z.nx _ _ _ _ (AftO.here q1 s1) _ ((he.ext x1).set ru i) s1
      | _ => cases h
    | _ => cases h
  | .augs a i o e, sc, W, X, st, C, hf, h => by
    cases st with
    | AugAssign tg op pe pos =>
      cases tg with
      | Subscript pa pi py =>
        obtain ⟨h1, h2⟩ := ba (show (notSlice pi && (augB o op && (chkE T N sc a pa && (chkE T N sc i pi && chkE T N sc e pe)))) = true from h)
        obtain ⟨h3, h4⟩ := ba h2
        obtain ⟨h5, h6⟩ := ba h4
        obtain ⟨h7, h8⟩ := ba h6
        obtain ⟨f, p1, p2⟩ := aug_pip (K := X.K) (X := X) h3
        refine (ps_augS (sndE a C.toCxt h5).1 (sndE i C.toCxt h7).1 get_list (sndE e C.toCxt h8).1 p1 set_list (aug_ix h1)).weak fun D σ H q => ?_
        obtain ⟨ρ, en, S, Z, he, hs, q, z⟩ := q
        unfold exec at q
        refine ⟨ρ, en, S, he, hs, Aft.imp2 (AftO.then q) (fun ρ1 H1 S1 x x1 s1 q1 v rv => ?_) fun x ρ1 H1 S1 x1 s1 q cls d xr => z.ex x ρ1 H1 S1 en q σ cls d (he.ext x1) s1 xr⟩
        have he1 := he.ext x1
        refine ⟨ρ1, en, S1, he1, s1, Aft.imp2 (AftO.then q1) (fun ρ2 H2 S2 y x2 s2 q2 w rw' => ?_) fun x ρ1 H1 S1 x1 s1 q cls d xr => z.ex x ρ1 H1 S1 en q σ cls d (he1.ext x1) s1 xr⟩
        have he2 := he1.ext x2
        cases g : ixL S2 x y with
        | none => rw [g] at q2; exact False.elim q2
        | some old =>
          rw [g] at q2
          cases y with
          | int k =>
            unfold ixL at g
            simp only at g
            cases l : lstOf S2 x with
            | none => rw [l] at g; cases g
            | some xs =>
              rw [l] at g
              have rv2 := rv.ext x2
              obtain ⟨p, vs, e1, e2, e3⟩ := lstOf_rep s2 l rv2
              obtain ⟨vo, o1, o2⟩ := atI_rep e3 g
              cases rw'
              subst e1
              refine ⟨p, vs, k, vo, rfl, rfl, e2, o1, ρ2, en, S2, he2, s2, Aft.imp2 (AftO.then q2) (fun ρ3 H3 S3 zz x3 s3 q3 u ru => ?_) fun x ρ1 H1 S1 x1 s1 q cls d xr => z.ex x ρ1 H1 S1 en q σ cls d (he2.ext x1) s1 xr⟩
              have he3 := he2.ext x3
              cases a : augI o old zz with
              | none => rw [a] at q3; exact False.elim q3
              | some nd =>
                rw [a] at q3
                refine p2 ρ3 H3 old zz nd vo u _ (o2.ext x3) ru a fun t rt => ?_
                cases b : setSub x (.int k) nd S3 with
                | none => simp only [b] at q3; exact False.elim q3
                | some S4 =>
                  simp only [b] at q3
                  exact v_setSub s3 (rv2.ext x3) (.int k) rt b fun H' x4 s4 => z.nx _ _ _ _ (q3 ρ3 H' x4 s4) _ (he3.ext x4) s4
          | _ => cases g
      | _ => cases h
    | _ => cases h
  | .exp e, sc, W, X, st, C, hf, h => by
    cases st with
    | Expr pe pos =>
      obtain ⟨h1, h2⟩ := ba (show (notComp pe && chkE T N sc e pe) = true from h)
      refine (ps_expr (sndE e C.toCxt h2).1 (by cases pe <;> first | rfl | cases h1)).weak fun D σ H q => ?_
      exact liftS (k := fun en _ S => .nx en S) q fun ρ H1 S en x v Z he hs r q z => z.nx _ _ _ _ (AftO.here q hs) _ he hs
    | _ => cases h
  | .sfl a c f e, sc, W, X, st, C, hf, h => by
    obtain ⟨pa, y, p1, pe, pos, rfl, h⟩ := chk_sfl h
    obtain ⟨h1, h2⟩ := ba h
    obtain ⟨h3, h4⟩ := ba h1
    obtain ⟨h5, h6⟩ := ba h2
    obtain ⟨h7, h8⟩ := ba h4
    have e1 := of_decide_eq_true h3
    subst e1
    have hk : X.env.scope.kind = .function := by rw [C.sc]; exact isFn_of hf
    obtain ⟨_, _, m3, _, m5⟩ := C.tab.ics c _ (List.getElem?_eq_getElem (of_decide_eq_true h8))
    have sw : swapsWith pe (some (.Attribute pa y p1)) pos.line X.env = pure false := (swaps_eq hk).trans (by unfold swapB; cases compSc pe <;> rfl)
    refine (ps_fld (sndE a C.toCxt h5).1 (sndE e C.toCxt h6).1 sw).weak fun D σ H q => ?_
    refine liftS (k := fun en d S => (ev G a en S).then en fun x S => match setFld x c y d S with
      | some S => .nx en S
      | none => .stuck) q fun ρ H1 S en d w Z he hs rd q z => ?_
    refine ⟨ρ, en, S, he, hs, Aft.imp2 (AftO.then q) (fun ρ2 H2 S2 x x2 s2 q2 => ?_) fun x ρ2 H2 S2 x2 s2 q cls d xr => z.ex x ρ2 H2 S2 en q σ cls d (he.ext x2) s2 xr⟩
    intro v rv
    cases e2 : setFld x c y d S2 with
    | none => rw [e2] at q2; exact False.elim q2
    | some S3 =>
      rw [e2] at q2
      obtain ⟨p, dx, ws, rfl, g1, g2, x3, s3⟩ := fld_set_rep s2 rv (rd.ext x2) e2
      exact ⟨p, cl.ic c, dx, ws, rfl, g1, m3, m5 _ (List.contains_iff_mem.mp h7), g2, z.nx _ _ _ _ (q2 _ _ x3 s3) _ ((he.ext x2).ext x3) s3⟩
  | .acs j i, sc, W, X, st, C, hf, h => by
    obtain ⟨x, p, a, p1, p2, pos, rfl, h⟩ := chk_acs h
    obtain ⟨h1, h2⟩ := ba h
    obtain ⟨h3, h4⟩ := ba h1
    obtain ⟨h5, h6⟩ := ba h2
    obtain ⟨h7, h8⟩ := ba h6
    have A : PE X (.Call (.Name a p1) [] [] p2) (tE X.K cl W fun en S => actM G.ap G.act i en S) := C.act a i p1 p2 W X.pn X.xe (of_decide_eq_true h5) (by rw [C.sc]; exact h7) h8 C.tk
    refine (ps_set (i := j) (by rw [C.nN]; exact C.nd) (by rw [C.nN]; exact of_decide_eq_true h3) (by rw [C.sc]; exact loc_of h4) A (hf := .inl (C.fnT x))).weak fun D σ H q => ?_
    refine liftS (k := fun en d S => .nx (en.set j (some d)) S) q fun ρ H1 S en x v Z he hs r q z => ?_
    exact z.nx _ _ _ _ (AftO.here q hs) _ (he.set r j) hs
  | .ace i, sc, W, X, st, C, hf, h => by
    obtain ⟨a, p1, p2, pos, rfl, h⟩ := chk_ace h
    obtain ⟨h5, h6⟩ := ba h
    obtain ⟨h7, h8⟩ := ba h6
    have A : PE X (.Call (.Name a p1) [] [] p2) (tE X.K cl W fun en S => actM G.ap G.act i en S) := C.act a i p1 p2 W X.pn X.xe (of_decide_eq_true h5) (by rw [C.sc]; exact h7) h8 C.tk
    refine (ps_expr A rfl).weak fun D σ H q => ?_
    exact liftS (k := fun en _ S => .nx en S) q fun ρ H1 S en x v Z he hs r q z => z.nx _ _ _ _ (AftO.here q hs) _ he hs
  | .ret e, sc, W, X, st, C, hf, h => by
    cases st with
    | Return pe pos =>
      cases pe with
      | none => cases h
      | some pe =>
        refine (ps_ret (sndE e C.toCxt (show chkE T N sc e pe = true from h)).1).weak fun D σ H q => ?_
        exact liftS (k := fun _ d S => .rt d S) q fun ρ H1 S en x v Z he hs r q z => z.rt _ _ _ _ (q ρ H1 (Ext.refl _ _) hs) v r hs
    | _ => cases h
  | .retn, sc, W, X, st, C, hf, h => by
    cases st with
    | Return pe pos =>
      cases pe with
      | none =>
        refine ps_retN.weak fun D σ H q => ?_
        obtain ⟨ρ, en, S, Z, he, hs, q, z⟩ := q
        exact z.rt _ _ _ _ (q ρ H (Ext.refl _ _) hs) _ .non hs
      | some pe => cases h
    | _ => cases h
  | .ite c a b, sc, W, X, st, C, hf, h => by
    cases st with
    | If pc pa pb pos =>
      obtain ⟨h1, h2⟩ := ba (show (chkE T N sc c pc && (chkSs T N sc a pa && chkSs T N sc b pb)) = true from h)
      obtain ⟨h3, h4⟩ := ba h2
      exact (ps_if (sndE c C.toCxt h1).2 (sndSs hC a C hf h3) (sndSs hC b C hf h4)).weak fun D σ H q => ite_of q
    | _ => cases h
  | .for t it b, sc, W, X, st, C, hf, h => by
    obtain ⟨tg, pit, body, pos, rfl, h⟩ := chk_for h
    obtain ⟨h1, h2⟩ := ba h
    obtain ⟨h3, h4⟩ := ba h2
    exact (ps_for C.po C.calm (sndI it C.toCxt h3) (sndT t C h1) (sndSs hC b C hf h4) (chkI_fold h3)).weak fun D σ H q => for_of q
  | .whl c b, sc, W, X, st, C, hf, h => by
    obtain ⟨pc, body, pos, rfl, h⟩ := chk_whl h
    obtain ⟨h1, h2⟩ := ba h
    exact (ps_while C.po (sndE c C.toCxt h1).2 (sndSs hC b C hf h2)).weak fun D σ H q => whl_of q
  | .brk, sc, W, X, st, C, hf, h => by
    cases st with
    | Break pos =>
      refine ps_break.weak fun D σ H q => ?_
      obtain ⟨ρ, en, S, Z, he, hs, q, z⟩ := q
      exact z.bk _ _ _ _ (q ρ H (Ext.refl _ _) hs) _ he hs
    | _ => cases h
  | .cnt, sc, W, X, st, C, hf, h => by
    cases st with
    | Continue pos =>
      refine ps_continue.weak fun D σ H q => ?_
      obtain ⟨ρ, en, S, Z, he, hs, q, z⟩ := q
      exact z.ct _ _ _ _ (q ρ H (Ext.refl _ _) hs) _ he hs
    | _ => cases h
  | .pas, sc, W, X, st, C, hf, h => by
    cases st with
    | Pass pos =>
      refine ps_pass.weak fun D σ H q => ?_
      obtain ⟨ρ, en, S, Z, he, hs, q, z⟩ := q
      exact z.nx _ _ _ _ (AftO.here q hs) _ he hs
    | _ => cases h
  | .bad, sc, W, X, st, C, hf, h => ps_never.weak fun D σ H q => by
      obtain ⟨ρ, en, S, Z, he, hs, q, z⟩ := q
      exact q
  | .rai c es, sc, W, X, st, C, hf, h => by
    obtain ⟨x, p, ps, pos, pos2, rfl, h⟩ := chk_rai h
    obtain ⟨h1, h2⟩ := ba h
    obtain ⟨h3, h4⟩ := ba h2
    obtain ⟨h5, h6⟩ := ba h3
    obtain ⟨h7, h8⟩ := ba h4
    cases e : T.ecs[c]? with
    | none => rw [e] at h1; cases h1
    | some yk =>
      obtain ⟨y, k⟩ := yk
      rw [e] at h1
      obtain ⟨g1, g2⟩ := ba h1
      obtain ⟨g3, g4⟩ := ba g2
      have ex := of_decide_eq_true g1
      subst ex
      exact snd_rai C hC e h5 h6 (of_decide_eq_true g3) (of_decide_eq_true g4) h7 h8
  | .tri b c slot to as, sc, W, X, st, C, hf, h => by
    obtain ⟨body, x, p1, e, y, p2, ps, p3, p4, p5, pos, rfl, h⟩ := chk_tri h
    obtain ⟨h1, h2⟩ := ba h
    obtain ⟨h3, h4⟩ := ba h2
    obtain ⟨h5, h6⟩ := ba h3
    obtain ⟨h7, h8⟩ := ba h6
    obtain ⟨h9, h10⟩ := ba h4
    obtain ⟨h11, h12⟩ := ba h9
    obtain ⟨h13, h14⟩ := ba h12
    obtain ⟨h15, h16⟩ := ba h10
    obtain ⟨h17, h18⟩ := ba h15
    obtain ⟨h19, h16⟩ := ba h16
    have gl : as.length ≤ 1000 := of_decide_eq_true h19
    have hsl := of_decide_eq_true h11
    have hto := of_decide_eq_true h17
    obtain ⟨g1, g2⟩ := chkXs_isc h16
    have e2 : (T.ecs[c]?).map (·.1) = some x := of_decide_eq_true h5
    cases e3 : T.ecs[c]? with
    | none => rw [e3] at e2; cases e2
    | some xk =>
      obtain ⟨x', k⟩ := xk
      rw [e3] at e2
      cases e2
      have O := C.tab.ecs c _ k e3
      obtain ⟨z1, z2, z3⟩ := pl_of h8
      · refine (ps_try_as (tb := fun W => tS X.K cl W (execs G C' b)) (ts := fun a cls d => tAsg (tLst (tXas T cl a cls d slot as)) (gName to)) (Wout := W) C.stk C.frm (by rw [C.nN]; exact C.nd) (by rw [C.nN]; exact hsl) (by show X.env.scope.names.lookup e = _; rw [C.sc]; exact locl_of h13) ⟨C.gl h7, z1, .inl O.gl⟩ C.tk
          (fun W' pn xe tk po => sndSs hC b (C.tr tk po) hf h1) (fun a oe cls d pn hz hv => pss_one ?_)).weak fun D σ H q => tri_of C hC g1 g2 gl (List.getElem?_eq_some_iff.mp e3).1 q
        exact ps_set (X := X.suite a ((a, oe) :: pn)) (by show X.N.Nodup; rw [C.nN]; exact C.nd) (by show X.N[to]? = _; rw [C.nN]; exact hto) (by show Loc X.env.scope y; rw [C.sc]; exact loc_of h18) (pe_lst (snd_xas C hz hv hsl h13 h14 h16)) rfl (.inl (C.fnT y))
theorem sndSs (hC : C' = T.ecs.map (·.2)) : ∀ (s : Ss) {sc : Scope} {W : WX} {X : Cx} {st : List PySem.Stmt}, CxtS T G cl N n sc W X → isFn sc = true → chkSs T N sc s st = true → PSs X st (tS X.K cl W (execs G C' s))
  | .nil, sc, W, X, st, C, hf, h => by
    cases st with
    | nil =>
      refine pss_nil.weak fun D σ H q => ?_
      obtain ⟨ρ, en, S, Z, he, hs, q, z⟩ := q
      exact z.nx _ _ _ _ (AftO.here q hs) _ he hs
    | cons _ _ => cases h
  | .cons s r, sc, W, X, st, C, hf, h => by
    cases st with
    | nil => cases h
    | cons p ps =>
      obtain ⟨h1, h2⟩ := ba (show (chkS T N sc s p && chkSs T N sc r ps) = true from h)
      refine (pss_cons (sndS hC s C hf h1) (sndSs hC r C hf h2)).weak fun D σ H q => ?_
      obtain ⟨ρ, en, S, Z, he, hs, q, z⟩ := q
      exact ⟨ρ, en, S, _, he, hs, AftO.seq q, ⟨fun ρ' H' S' en' q σ' he' hs' => ⟨ρ', en', S', Z, he', hs', q, z⟩, z.rt, z.bk, z.ct, z.ex⟩⟩
end
end
end Ev
end
section
set_option Elab.async false
set_option linter.all false
set_option maxRecDepth 100000
set_option maxHeartbeats 4000000
set_option autoImplicit false
/-! Ev15: defs, the law's call, with no repr going on. -/
namespace Ev
open PySem PySem.Spec PyProof.Rows L2

section
variable {P : Program} {w : World} {K : PySem.W.Frag} {mg : Str → Option Value} {base : Heap}
/-- a def run by its body at a moment -/
theorem runG {k : Nat} {f : Addr} {nm qual : Str} {prs : Arguments} {body : List Stmt} {sc : Scope} {dvs : List V} {kws : List (Str × V)} {fd : FuncData} {N ps : List Str} (F : FunD K nm qual prs body sc dvs kws f fd) (S : FnScope N ps sc)
    {A : Around} {outer : List Env} {s : Shared} {H : Hp} {args : Args} {us : List Value} {vs : List V} {Q : VK} {E : XK} (room : Room (k + 1) A) (env : Env0 P w K mg base A outer s H) (hbind : BindsTo s fd args (ps.zip us)) (rv : Vals vs us) (hlen : vs.length = ps.length)
    (hbody : ∀ cdv : Value, cdv = fd.code → Room k (A.deeper (envOfC qual sc s.heap.objs.size f cdv)) → ∃ t, PSs (cxOf (L2.CX P w) P w K mg base N qual sc f cdv A outer s H E) body t ∧ t { nx := fun _ H' => Q .non H', rt := Q } (start N vs) H) :
    codeAny (model P w) A (.call (.ref f) args) (CR (L2.CX P w) outer P w H s Q E) s := by
  obtain ⟨oc, od, dV, kV, doc, pm, an, cdv, ct, osl, rfl, lk, hcd, _, _⟩ := F.ex
  have kin : K.In s.heap := env.mod.kin.keeps fun b o e => (env.bs b o e).1
  have nolim : s.heap.NoLimit := env.mod.nolimit.keeps fun b o e => (env.bs b o e).1
  have par : ∀ y ∈ ps.zip us, sc.names.lookup y.1 = some .local ∨ (sc.names.lookup y.1 = some .cell ∧ ((cellsFrom (s.heap.objs.size + 1) sc.names []).lookup y.1).isSome = true) := fun y hy => (S.par y.1 (List.of_mem_zip (a := y.1) (b := y.2) hy).1).imp id fun q => ⟨q, PySem.W.cellsFrom_some _ _ _ (.inl q)⟩
  refine codeAny_call_function room.depth (kin _ _ lk) rfl S.co S.gen rfl (PySem.W.codeRec_of kin hcd) (hbind _ _ _ _ (wpAny_newFunctionEnv_cells S.kind par fun e2 he s1 x => ?_))
  subst he
  refine ⟨nolim.keeps x.toInCall.keep, codeAny_func ?_⟩
  obtain ⟨t, ht, q⟩ := hbody cdv rfl (room.deeper _)
  have I := inv_start (CX := L2.CX P w) (cd := cdv) (f := f) (qual := qual) (E := E) S room.hd env hlen rv x
  refine wpAny_mono (ht.run [] s1 (start N vs) H _ I q) (fun fl s' hs => ?_) fun _ _ z => z
  cases fl with
  | ret u => exact let ⟨v, _, H', J, r, q⟩ := hs; ⟨v, H', J.os, J.bare, J.base, J.hok, r, q⟩
  | next => exact let ⟨_, H', J, q⟩ := hs; ⟨.non, H', J.os, J.bare, J.base, J.hok, rfl, q⟩
  | brk => exact let ⟨_, _, _, q⟩ := hs; False.elim q
  | cont => exact let ⟨_, _, _, q⟩ := hs; False.elim q
/-- a def by its body, where nothing is being shown -/
theorem fnG_of {k : Nat} {f : Addr} {nm qual : Str} {prs : Arguments} {body : List Stmt} {sc : Scope} {dvs : List V} {kws : List (Str × V)} {fd : FuncData} {N ps : List Str} {sp : Sp} (F : FunD K nm qual prs body sc dvs kws f fd) (S : FnScope N ps sc) (hlen : ∀ vs H Q E, sp vs H Q E → vs.length = ps.length)
    (hbody : ∀ (cdv : Value) (A : Around) (outer : List Env) (s : Shared) (H : Hp) (vs : List V) (Q : VK) (E : XK), cdv = fd.code → Room k (A.deeper (envOfC qual sc s.heap.objs.size f cdv)) → A.guards = some [] → sp vs H Q E →
      ∃ t, PSs (cxOf (L2.CX P w) P w K mg base N qual sc f cdv A outer s H E) body t ∧ t { nx := fun _ H' => Q .non H', rt := Q } (start N vs) H) : FnG P w K mg base (k + 1) f fd ps sp :=
  ⟨hlen, fun A outer s H args us vs Q E room gds env hbind rv hsp => runG F S room env hbind rv (hlen _ _ _ _ hsp) fun cdv hc r => hbody cdv A outer s H vs Q E hc r gds hsp⟩
end

/-- what a great division asks of the heap, beside the builtins and the module -/
def SeerP (h : Heap) : Prop := (∃ mc, h.Ns cStatics mc ∧ mc "sys.audit-hooks" = none ∧ mc "sys.dict" = none) ∧ ∃ mm, h.Ns sysModules mm ∧ mm "_pylong" = none
theorem SeerP.keeps {h h' : Heap} (s : SeerP h) (k : ∀ b o, h.get? b = some o → h'.get? b = some o) : SeerP h' :=
  ⟨let ⟨mc, q, r⟩ := s.1; ⟨mc, Heap.Ns.keepsP q k, r⟩, let ⟨mm, q, r⟩ := s.2; ⟨mm, Heap.Ns.keepsP q k, r⟩⟩
def nsAllG (g : Addr → Option Obj) (a : Addr) : Bool :=
  match g a with
  | some o => (match o.data with | .dict es _ => es.all (fun e => match e.key with | .str _ _ => true | _ => false) | _ => false)
  | none => false
def nsAtG (g : Addr → Option Obj) (a : Addr) (x : Str) : Option Value :=
  match g a with
  | some o => (match o.data with | .dict es _ => nsFind es x | _ => none)
  | none => none
def seerG (g : Addr → Option Obj) : Bool := (nsAllG g cStatics && ((nsAtG g cStatics "sys.audit-hooks").isNone && (nsAtG g cStatics "sys.dict").isNone)) && (nsAllG g sysModules && (nsAtG g sysModules "_pylong").isNone)
theorem seerG_ok {h : Heap} (s : seerG h.get? = true) : SeerP h := by
  unfold seerG at s
  simp only [Bool.and_eq_true, Option.isNone_iff_eq_none] at s
  obtain ⟨⟨a, b, c⟩, d, e⟩ := s
  exact ⟨⟨h.nsMap cStatics, Heap.Ns.of_isNs a, b, c⟩, h.nsMap sysModules, Heap.Ns.of_isNs d, e⟩
/-- the law's def called with the script, a list that nobody can write; cs: code objects that make lambdas, their tables -/
theorem callG {P : Program} {w : World} {K : PySem.W.Frag} {mg mb : Str → Option Value} {k : Nat} {fa a : Addr} {fd : FuncData} {x : Str} {sp : Sp} {s₁ : Shared} {vs : List Value} {ns : List Int} {cs : List (Addr × Addr)}
    (kin : K.In s₁.heap) (hns : s₁.heap.Ns mainGlobals mg) (hbn : s₁.heap.Ns builtinsNs mb) (hbb : ∀ x : Str, x ≠ "__name__" → mb x = bootBuiltins x) (nolim : s₁.heap.NoLimit) (hgen : s₁.gens = #[])
    (obj : s₁.heap.get? a = some { cls := .type "list", data := .seq vs.toArray }) (isI : IntsAre vs ns) (hl : ns.length ≤ sizeLine) (room : Room k callerA)
    (seer : s₁.heap.NoSeer) (hT : ∀ p ∈ cs, s₁.heap.get? p.2 = some { cls := .none, data := .fields #[] }) (nT : ∀ p ∈ cs, K.lookup p.2 = none) (hC : ∀ p ∈ cs, PySem.W.CodeHd s₁.heap p.1 p.2)
    (hbm : ∃ (bm : Addr) (ob : Obj), mg "__builtins__" = some (.ref bm) ∧ bm ≠ builtinsNs ∧ s₁.heap.get? bm = some ob ∧ ob.cls = .type "module" ∧ ob.dict = some builtinsNs ∧ ob.data = .plain)
    (F : ∀ base : Heap, K.In base → base.Ns mainGlobals mg → base.NoSeer → (∀ p ∈ cs, LamX.TabB base mg p.1 p.2) → FnG P w K mg base k fa fd [x] sp) (bind : ∀ (s : Shared) (u : Value), BindsTo s fd ⟨[u], []⟩ [(x, u)])
    (hsp : ∀ H : Hp, (∀ p ∈ cs, H p.2 = some (.tbl #[])) → SqF K H a (ns.map V.int) → sp [.ref a] H (fun v _ => v = .bl true) fun _ _ _ => False) :
    codeAny (model P w) callerA (.call (.ref fa) ⟨[.ref a], []⟩) (fun r s' => r = .ok (.ret (.bool true)) ∧ OldK s₁.heap s'.heap ∧ s'.os = s₁.os ∧ AllBare s'.gens) s₁ := by
  have vals := vals_ints isI
  have len := isI.length
  have aT : ∀ p ∈ cs, p.2 ≠ a := fun p hp z => by
    have q := hT p hp
    rw [z, obj] at q
    cases q
  have main : ∀ H : Hp, (∀ b, H b = none ∨ (b = a ∧ ∃ o xs, H b = some (.frz o (.lst xs))) ∨ ((∃ p ∈ cs, p.2 = b) ∧ H b = some (.tbl #[]))) → (∀ p ∈ cs, H p.2 = some (.tbl #[])) → SqF K H a (ns.map V.int) → HOk P w H s₁.heap → (H a ≠ none → K.lookup a = none) →
      codeAny (model P w) callerA (.call (.ref fa) ⟨[.ref a], []⟩) (fun r s' => r = .ok (.ret (.bool true)) ∧ OldK s₁.heap s'.heap ∧ s'.os = s₁.os ∧ AllBare s'.gens) s₁ := by
    intro H only tabs hS hok hK
    have free : ∀ {b : Addr} {o : Obj}, s₁.heap.get? b = some o → (∀ vs n, o.data ≠ .seq vs n) → o.data ≠ .fields #[] → H b = none := fun {b o} e n1 n2 => by
      rcases only b with z | ⟨z, _⟩ | ⟨⟨p, hp, z⟩, _⟩
      · exact z
      · rw [z, obj] at e
        cases e
        exact absurd rfl (n1 _ _)
      · rw [← z, hT p hp] at e
        cases e
        exact absurd rfl n2
    have noD : ∀ {b : Addr} {o : Obj} {es : Array DictEntry} {ep : Nat}, s₁.heap.get? b = some o → o.data = .dict es ep → H b = none := fun {b o es ep} e d => free e (fun vs n z => by rw [d] at z; cases z) fun z => by rw [d] at z; cases z
    have noP : ∀ {b : Addr} {o : Obj}, s₁.heap.get? b = some o → o.data = .plain → H b = none := fun {b o} e d => free e (fun vs n z => by rw [d] at z; cases z) fun z => by rw [d] at z; cases z
    have ns2 : ∀ {b : Addr} {m : Str → Option Value}, s₁.heap.Ns b m → (hidT s₁.heap H).Ns b m := fun {b m} q => let ⟨o, es, ep, e, d, r⟩ := q; ⟨o, es, ep, hidT_get e (noD e d), d, r⟩
    have kin2 : K.In (hidT s₁.heap H) := fun b o e => hidT_get (kin b o e) (by
      rcases only b with z | ⟨z, _, _, q⟩ | ⟨⟨p, hp, z⟩, _⟩
      · exact z
      · rw [z] at q e
        rw [hK (by rw [q]; simp)] at e
        cases e
      · rw [← z, nT p hp] at e
        cases e)
    have sr2 : (hidT s₁.heap H).NoSeer := ⟨let ⟨mc, q, r⟩ := seer.statics; ⟨mc, ns2 q, r⟩, let ⟨mm, q, r⟩ := seer.mods; ⟨mm, ns2 q, r⟩, let ⟨mb, q, r⟩ := seer.imp; ⟨mb, ns2 q, r⟩, let ⟨mg', bm, ob, q1, q2, q3, q4, q5⟩ := seer.main; ⟨mg', bm, ob, ns2 q1, q2, hidT_get q3 (by
      rcases only bm with z | ⟨z, _⟩ | ⟨⟨p, hp, z⟩, _⟩
      · exact z
      · rw [z, obj] at q3
        cases q3
        exact absurd q4 (by simp)
      · rw [← z, hT p hp] at q3
        cases q3
        exact absurd q4 (by simp)), q4, q5⟩⟩
    have md : Mod K mg (hidT s₁.heap H) := ⟨kin2, ns2 hns, ⟨mb, ns2 hbn, hbb⟩, let ⟨mc, h1, h2⟩ := nolim; ⟨mc, ns2 h1, h2⟩⟩
    have TB : ∀ p ∈ cs, LamX.TabB (hidT s₁.heap H) mg p.1 p.2 := fun p hp => by
      refine ⟨?_, ?_, fun z => ?_⟩
      · obtain ⟨o, us, file, tf, flags, tg, inF, text, tt, e1, r1, r2, r3, rest⟩ := hC p hp
        refine ⟨o, us, file, tf, flags, tg, inF, text, tt, hidT_get e1 (free e1 (fun vs n z => by rw [r2] at z; cases z) fun z => ?_), r1, r2, r3, rest⟩
        rw [r2] at z
        cases z
        simp at r3
      · obtain ⟨bm, ob, b1, b2, b3, b4, b5, b6⟩ := hbm
        refine ⟨bm, ob, b1, b2, fun z => ?_, fun z => ?_, hidT_get b3 (noP b3 b6), b4, b5, b6⟩
        · obtain ⟨o, es, ep, e, hd, _⟩ := hns
          rw [z, e] at b3
          cases b3
          rw [hd] at b6
          cases b6
        · rw [z, hT p hp] at b3
          cases b3
          cases b6
      · obtain ⟨o, es, ep, e, hd, _⟩ := hns
        rw [z, hT p hp] at e
        cases e
        cases hd
    have env : Env0 P w K mg (hidT s₁.heap H) callerA [] s₁ H := ⟨rfl, md, fun b o e => of_hidT e, Nat.le_of_eq (hidT_size _ _), trivial, fun b hb => (nomatch hb), hok, .of_eq hgen⟩
    have run := (F _ kin2 (ns2 hns) sr2 TB).run callerA [] s₁ H ⟨[.ref a], []⟩ [.ref a] [.ref a] _ _ room rfl env (bind s₁ (.ref a)) (.cons rfl .nil) (hsp H tabs hS)
    refine codeAny_mono run fun r s' h => ?_
    cases r with
    | error e => exact let ⟨_, _, _, _, _, _, _, _, _, _, _, _, z⟩ := h; z.elim
    | ok fl =>
      cases fl with
      | ret u =>
        obtain ⟨v, H', os, bare, un, hok', r', q⟩ := h
        cases (show v = .bl true from q)
        cases (show u = Value.bool true from r')
        have old : ∀ b o, (∀ p ∈ cs, p.2 ≠ b) → s₁.heap.get? b = some o → s'.heap.get? b = some o := fun b o hb e => by
          rcases only b with z | ⟨_, ob, xs, z⟩ | ⟨⟨p, hp, z⟩, _⟩
          · exact un.keep b o e z (fun y => nomatch y) (fun y => nomatch y)
          · have e1 := (hok b _ z).1
            have e2 := (hok' b _ (un.frzs b ob _ z)).1
            rw [e] at e1
            cases e1
            exact e2
          · exact absurd z (hb p hp)
        have wide : ∀ p ∈ cs, ∃ more : Array Value, s'.heap.get? p.2 = some { cls := .none, data := .fields more } := fun p hp => let ⟨more, z⟩ := un.tbls p.2 #[] (tabs p hp); ⟨_, hok' p.2 _ z⟩
        refine ⟨rfl, ⟨fun b o e => ?_, fun b o e => ?_⟩, os, bare⟩
        · by_cases hb : ∃ p ∈ cs, p.2 = b
          · obtain ⟨p, hp, z⟩ := hb
            subst z
            obtain ⟨more, hm⟩ := wide p hp
            rw [hT p hp] at e
            cases e
            exact .inr (.inl ⟨((hC p hp).tab (hT p hp)).isCodeTable, rfl, #[], more, rfl, hm.trans (by rw [Array.empty_append])⟩)
          · exact .inl (old b o (fun p hp z => hb ⟨p, hp, z⟩) e)
        · by_cases hb : ∃ p ∈ cs, p.2 = b
          · obtain ⟨p, hp, z⟩ := hb
            subst z
            exact let ⟨more, hm⟩ := wide p hp; ⟨_, hm⟩
          · exact ⟨o, old b o (fun p hp z => hb ⟨p, hp, z⟩) e⟩
      | next => exact False.elim h
      | brk => exact False.elim h
      | cont => exact False.elim h
  have mem : ∀ {b : Addr}, b ∈ cs.map Prod.snd → ∃ p ∈ cs, p.2 = b := fun h => List.mem_map.mp h
  cases hk : K.lookup a with
  | some o =>
    have e := kin a o hk
    rw [obj] at e
    cases e
    refine main (fun b => if b ∈ cs.map Prod.snd then some (.tbl #[]) else none) (fun b => ?_) (fun p hp => if_pos (List.mem_map_of_mem hp)) (.inr ⟨_, vs.toArray, _, hk, rfl, rfl, rfl, by rw [List.size_toArray, len]; exact hl, by simpa using vals⟩) (fun b u z => ?_) fun z => absurd (if_neg fun y => let ⟨p, hp, e⟩ := mem y; aT p hp e) z
    · by_cases hb : b ∈ cs.map Prod.snd
      · exact .inr (.inr ⟨mem hb, if_pos hb⟩)
      · exact .inl (if_neg hb)
    · by_cases hb : b ∈ cs.map Prod.snd
      · cases (if_pos hb).symm.trans z
        obtain ⟨p, hp, e⟩ := mem hb
        exact e ▸ hT p hp
      · cases (if_neg hb).symm.trans z
  | none =>
    let ob : Obj := { cls := .type "list", data := .seq vs.toArray }
    refine main (fun b => if b = a then some (.frz ob (.lst (ns.map V.int))) else if b ∈ cs.map Prod.snd then some (.tbl #[]) else none) (fun b => ?_) (fun p hp => (if_neg (aT p hp)).trans (if_pos (List.mem_map_of_mem hp))) (.inl ⟨ob, if_pos rfl⟩) (fun b u z => ?_) fun _ => hk
    · by_cases hb : b = a
      · exact .inr (.inl ⟨hb, _, _, if_pos hb⟩)
      · by_cases hb2 : b ∈ cs.map Prod.snd
        · exact .inr (.inr ⟨mem hb2, (if_neg hb).trans (if_pos hb2)⟩)
        · exact .inl ((if_neg hb).trans (if_neg hb2))
    · by_cases hb : b = a
      · cases (if_pos hb).symm.trans z
        subst hb
        exact ⟨obj, by rw [List.length_map]; exact hl, vs, _, vals, obj⟩
      · have z1 := (if_neg hb).symm.trans z
        by_cases hb2 : b ∈ cs.map Prod.snd
        · cases (if_pos hb2).symm.trans z1
          obtain ⟨p, hp, e⟩ := mem hb2
          exact e ▸ hT p hp
        · cases (if_neg hb2).symm.trans z1
/-- the law's end -/
theorem walkG {l : PySem.W.OpenLaw} {n k : Nat} {q : Program} {loose : List Str} {XP : (Str → Option Value) → Heap → Prop} {YP : World → Heap → Prop} {d : DefRec} {x : Str}
    (hn : l.most = some n) (hn2 : n ≤ sizeLine) (hdf : d.params.defaults = []) (hsr : ∀ w h, YP w h → SeerP h) (room : Room k callerA)
    (F : ∀ (w : World) (mg : Str → Option Value) (fa : Addr) (h : Heap), YP w h → h.Ns mainGlobals mg → mg d.name = some (.ref fa) →
      ∃ (K : PySem.W.Frag) (fd : FuncData) (sp : Sp) (cs : List (Addr × Addr)), K.In h ∧ (∀ (s : Shared) (u : Value), BindsTo s fd ⟨[u], []⟩ [(x, u)]) ∧
        ((∀ p ∈ cs, h.get? p.2 = some { cls := .none, data := .fields #[] }) ∧ (∀ p ∈ cs, K.lookup p.2 = none) ∧ ∀ p ∈ cs, PySem.W.CodeHd h p.1 p.2) ∧
        (∀ (H : Hp) (a : Addr) (ns : List Int), ns.length ≤ n → (∀ p ∈ cs, H p.2 = some (.tbl #[])) → SqF K H a (ns.map V.int) → sp [.ref a] H (fun v _ => v = .bl true) fun _ _ _ => False) ∧
        ∀ base : Heap, K.In base → base.Ns mainGlobals mg → base.NoSeer → (∀ p ∈ cs, LamX.TabB base mg p.1 p.2) → FnG l.prog w K mg base k fa fd [x] sp) :
    PySem.W.WalkO q loose XP YP l.row.toRowW d [] (fun f vs => PySem.call f vs) := by
  refine Att.attach_call hn hdf fun w s₀ s₁ mg mb fa o pm cd doc a vs ns G Y ho hd hcd hmg hobj hints hlen hg => ?_
  obtain ⟨K, fd, sp, cs, kin, hb, ⟨t1, t2, t3⟩, hsp, hF⟩ := F w mg fa _ Y G.T.g hmg
  exact callG kin G.T.g G.T.b G.T.builtins G.T.nolimit hg hobj hints (Nat.le_trans hlen hn2) room ⟨(hsr _ _ Y).1, (hsr _ _ Y).2, ⟨mb, G.T.b, G.T.builtins⟩, let ⟨bm, ob, b1, _, b3, b4, b5, _⟩ := G.T.bmain; ⟨mg, bm, ob, G.T.g, b1, b3, b4, b5⟩⟩ t1 t2 t3 G.T.bmain hF hb fun H hT hS => hsp H a ns hlen hT hS
end Ev
end
section
set_option Elab.async false
set_option linter.all false
set_option maxRecDepth 100000
set_option maxHeartbeats 4000000
set_option autoImplicit false
/-! Ev16: constants, the table of defs by levels, the head's hook. -/
namespace Ev
open PySem PySem.Spec PyProof.Rows L2

/-! ### constants -/
def all2 {α β : Type} (f : α → β → Bool) : List α → List β → Bool
  | [], [] => true
  | a :: r, b :: s => f a b && all2 f r s
  | _, _ => false
def cnB (K : PySem.W.Frag) : Nat → D → Value → Bool
  | 0, _, _ => false
  | _ + 1, .non, .none => true
  | _ + 1, .bl b, .bool c => b == c
  | _ + 1, .int i, .int j _ => decide (i = j)
  | _ + 1, .str l, .str x _ => decide (l = x.cps.toList)
  | n + 1, .tup xs, .ref a => (match K.lookup a with
    | some ⟨.type c, _, .seq its _, _⟩ => decide (c = "tuple") && (decide (its.size ≤ sizeLine) && all2 (cnB K n) xs its.toList)
    | _ => false)
  | n + 1, .fl xs, .ref a => (match K.lookup a with
    | some ⟨.type c, none, .seq its _, _⟩ => decide (c = "list") && (decide (its.size ≤ sizeLine) && all2 (cnB K n) xs its.toList)
    | _ => false)
  | _, _, _ => false
theorem cnB_all {K : PySem.W.Frag} {n : Nat} (ih : ∀ (d : D) (u : Value), cnB K n d u = true → ∃ v, RelV v u ∧ ∀ ρ H, Rep K ρ H d v) : ∀ (xs : List D) (us : List Value), all2 (cnB K n) xs us = true → ∃ vs, Vals vs us ∧ ∀ ρ H, RepL K ρ H xs vs
  | [], [], _ => ⟨[], .nil, fun _ _ => .nil⟩
  | [], _ :: _, h => by cases h
  | _ :: _, [], h => by cases h
  | x :: xs, u :: us, h => by
    obtain ⟨h1, h2⟩ := ba (show (cnB K n x u && all2 (cnB K n) xs us) = true from h)
    obtain ⟨v, r, q⟩ := ih x u h1
    obtain ⟨vs, rs, qs⟩ := cnB_all ih xs us h2
    exact ⟨v :: vs, .cons r rs, fun ρ H => .cons (q ρ H) (qs ρ H)⟩
theorem cnB_ok {K : PySem.W.Frag} : ∀ (n : Nat) (d : D) (u : Value), cnB K n d u = true → ∃ v, RelV v u ∧ ∀ ρ H, Rep K ρ H d v
  | 0, d, u, h => by cases h
  | n + 1, d, u, h => by
    have ih := cnB_all (cnB_ok (K := K) n)
    cases d with
    | non => cases u <;> first | (cases h; done) | exact ⟨.non, rfl, fun _ _ => .non⟩
    | bl b =>
      cases u with
      | bool c =>
        have e : b = c := eq_of_beq (show (b == c) = true from h)
        exact ⟨.bl b, by rw [e]; rfl, fun _ _ => .bl b⟩
      | _ => cases h
    | int i =>
      cases u with
      | int j t =>
        have e : i = j := of_decide_eq_true h
        exact ⟨.int i, ⟨t, by rw [e]⟩, fun _ _ => .int i⟩
      | _ => cases h
    | str l =>
      cases u with
      | str x t =>
        have e : l = x.cps.toList := of_decide_eq_true h
        exact ⟨.str x, ⟨t, rfl⟩, fun ρ H => by
          have q := Rep.str (K := K) (ρ := ρ) (H := H) l
          rw [e] at q ⊢
          simpa using q⟩
      | _ => cases h
    | tup xs =>
      cases u with
      | ref a =>
        have h1 : (match K.lookup a with
          | some ⟨.type c, _, .seq its _, _⟩ => decide (c = "tuple") && (decide (its.size ≤ sizeLine) && all2 (cnB K n) xs its.toList)
          | _ => false) = true := h
        split at h1
        · rename_i c od its k sl e
          obtain ⟨h2, h3⟩ := ba h1
          obtain ⟨h4, h5⟩ := ba h3
          obtain ⟨vs, rs, qs⟩ := ih xs _ h5
          exact ⟨.ref a, rfl, fun ρ H => .tup (.inr ⟨_, its, k, e, congrArg Value.type (of_decide_eq_true h2), rfl, of_decide_eq_true h4, rs⟩) (qs ρ H)⟩
        · cases h1
      | _ => cases h
    | fl xs =>
      cases u with
      | ref a =>
        have h1 : (match K.lookup a with
          | some ⟨.type c, none, .seq its _, _⟩ => decide (c = "list") && (decide (its.size ≤ sizeLine) && all2 (cnB K n) xs its.toList)
          | _ => false) = true := h
        split at h1
        · rename_i c its k sl e
          obtain ⟨h2, h3⟩ := ba h1
          obtain ⟨h4, h5⟩ := ba h3
          obtain ⟨vs, rs, qs⟩ := ih xs _ h5
          exact ⟨.ref a, rfl, fun ρ H => .fl (.inr ⟨_, its, k, e, congrArg Value.type (of_decide_eq_true h2), rfl, rfl, of_decide_eq_true h4, rs⟩) (qs ρ H)⟩
        · cases h1
      | _ => cases h
    | ref n => cases h
/-- the module's name x is d -/
def cstG (K : PySem.W.Frag) (x : Str) (d : D) : Bool := match PySem.W.nsIn K mainGlobals x with
  | some (some u) => cnB K 8 d u
  | _ => false
def gcdG (K : PySem.W.Frag) : Bool := match PySem.W.nsIn K mainGlobals "gcd" with
  | some (some (.builtin id)) => decide (id = "math.gcd")
  | _ => false

/-! ### classes of errors -/
def clE (T : Tbl) (K : PySem.W.Frag) (c : Nat) : Addr := match T.ecs[c]? with
  | some (x, _) => He.ga K x
  | none => 0
def icE (T : Tbl) (K : PySem.W.Frag) (c : Nat) : Addr := match T.ics[c]? with
  | some x => He.ga K x
  | none => 0
/-- the code objects that make lambdas, their tables -/
def tbs (T : Tbl) (K : PySem.W.Frag) : List (Addr × Addr) := T.lnm.filterMap (PySem.W.tabIn K)
def clA (T : Tbl) (K : PySem.W.Frag) : Cl := ⟨clE T K, icE T K, (tbs T K).map (·.2), [], fun _ => none⟩
def oexB (K : PySem.W.Frag) (C : Addr) : Bool := match K.lookup C with
  | some ⟨.type "type", _, .cls cd, sl⟩ => (match cd.mro, sl.toList with
    | .ref C' :: bm, [_, _, _, _, some (.builtin m), _] => (C' == C && m == "ValueError.__new__") && ((!cd.hasDel && cd.hasDict) && PySem.HandSPX.refsVE bm)
    | _, _ => false)
  | _ => false
theorem oexB_ok {K : PySem.W.Frag} {C : Addr} (h : oexB K C = true) : ∃ nm q N bs bm sn sub ab col dd k0 k1 k2 k3 k5, K.lookup C = some (excClassObj nm q C N bs bm true sn sub ab col dd k0 k1 k2 k3 k5 "ValueError.__new__") ∧ PySem.HandSPX.refsVE bm = true := by
  unfold oexB at h
  split at h
  · rename_i dd cd sl ho
    split at h
    · rename_i C' bm k0 k1 k2 k3 m k5 hm hs
      obtain ⟨g1, g2⟩ := ba h
      obtain ⟨g3, g4⟩ := ba g1
      obtain ⟨g5, g6⟩ := ba g2
      obtain ⟨g7, g8⟩ := ba g5
      cases beq_iff_eq.mp g3
      cases beq_iff_eq.mp g4
      obtain ⟨nm, bs, mro, ns, qn, hd, sn, sub, ab, col, del⟩ := cd
      dsimp only at hm g7 g8
      have e1 : del = false := by simpa using g7
      subst hm e1 g8
      obtain ⟨l⟩ := sl
      dsimp only at hs
      subst hs
      exact ⟨nm, qn, ns, bs, bm, sn, sub, ab, col, dd, k0, k1, k2, k3, k5, ho, g6⟩
    · cases h
  · cases h
def clsG (T : Tbl) (K : PySem.W.Frag) (c : Nat) (x : Str) (k : Cls) : Bool :=
  (He.eqO (PySem.W.nsIn K mainGlobals x) (some (some (.ref (He.ga K x)))) && (oexB K (He.ga K x) && (He.eqO (PySem.W.findIn K (.ref (He.ga K x)) "__setattr__") (some (some (.builtin "object.__setattr__"))) && (decide (PySem.W.subIn K (.ref (He.ga K x)) (.type "BaseException") = some true) && (decide (PySem.W.typeIn K (.ref (He.ga K x)) = some (.type "type")) && PySem.W.keepIn K (.ref (He.ga K x))))))) &&
  ((xfB K (He.ga K x) && (He.eqO (PySem.W.findIn K (.ref (He.ga K x)) "__class__") (some (some (.builtin "object.__class__"))) && (He.eqO (PySem.W.specialIn K (.builtin "object.__class__") "__get__") (some (some (.builtin "getset_descriptor.__get__"))) && (decide (PySem.W.takesIn K (.builtin "object.__class__") = some true) && decide (PySem.W.mroIn K (He.ga K x) (.type "object") = some true))))) &&
  ((!k.fs.isEmpty || PySem.W.excIn K (He.ga K x) veB "ValueError.__new__") && (((k.fs.all fun f => He.eqO (PySem.W.findIn K (.ref (He.ga K x)) f) (some none)) && decide k.fs.Nodup) &&
  ((k.fs.isEmpty || (He.eqO (PySem.W.findIn K (.ref (He.ga K x)) "__init__") (some (some (.ref (He.ma K (He.ga K x) "__init__")))) && decide (PySem.W.typeIn K (.ref (He.ma K (He.ga K x) "__init__")) = some (.type "function")))) &&
  (((List.range T.ecs.length).all fun c' => decide (PySem.W.exmOne K (.ref (He.ga K x)) (.ref (clE T K c')) = some (decide (c' = c) || k.up.contains c')) && decide (PySem.W.kitOne K (.ref (He.ga K x)) (.ref (clE T K c')) = some (decide (c' = c) || k.up.contains c'))) &&
  decide (PySem.W.kitOne K (.ref (He.ga K x)) (.type "ValueError") = some (k.bup.contains "ValueError")))))))
/-- an __init__ as the text has it -/
structure IniOk (x : Str) (k : Cls) (d : He.DefD) : Prop where
  at_ : d.at_ = (x, some ("__init__" : Str))
  nm : d.name = "__init__"
  sc : FnScope (sSelf :: k.fs) (sSelf :: k.fs) d.scope
  lo : ∀ y ∈ (sSelf :: k.fs : List Str), d.scope.names.lookup y = some .local
  body : iniB k.fs d.body = true
  bind : ∀ (kV doc pm : Value) (an : Option Addr) (cdv ct : Value) (us : List Value), us.length = (sSelf :: k.fs).length → bindArgs (PySem.W.fnOf d.name d.qual d.params d.body d.scope .none kV doc pm an cdv ct) ⟨us, []⟩ = pure ((sSelf :: k.fs).zip us)
theorem cls_ok {T : Tbl} {K : PySem.W.Frag} {mg : Str → Option Value} {h : Heap} {c : Nat} {x : Str} {k : Cls} (kin : K.In h) (G : h.Ns mainGlobals mg) (hc : T.ecs[c]? = some (x, k)) (g : clsG T K c x k = true)
    (hI : k.fs ≠ [] → ∃ (d : He.DefD) (fd : FuncData), IniOk x k d ∧ FunD K d.name d.qual d.params d.body d.scope [] [] (He.fAd K d.at_) fd) : ClsOk K mg (clA T K) T c x k := by
  obtain ⟨a1, a2⟩ := ba g
  obtain ⟨a3, a4⟩ := ba a1
  obtain ⟨a5, a6⟩ := ba a4
  obtain ⟨a7, a8⟩ := ba a6
  obtain ⟨a9, a10⟩ := ba a8
  obtain ⟨a11, a12⟩ := ba a10
  obtain ⟨b1, b2⟩ := ba a2
  obtain ⟨b3, b4⟩ := ba b1
  obtain ⟨b5, b6⟩ := ba b4
  obtain ⟨b7, b8⟩ := ba b6
  obtain ⟨b9, b10⟩ := ba b8
  obtain ⟨b11, b12⟩ := ba b2
  obtain ⟨c1, c2⟩ := ba b12
  obtain ⟨c3, c4⟩ := ba c1
  obtain ⟨d1, d2⟩ := ba c2
  obtain ⟨e1, e2⟩ := ba d2
  have hcl : (clA T K).ex c = He.ga K x := by show clE T K c = _; unfold clE; rw [hc]
  have xf := xfB_ok b3
  have pair : ∀ c' : Nat, c' < T.ecs.length → PySem.W.exmOne K (.ref (He.ga K x)) (.ref (clE T K c')) = some (decide (c' = c) || k.up.contains c') ∧ PySem.W.kitOne K (.ref (He.ga K x)) (.ref (clE T K c')) = some (decide (c' = c) || k.up.contains c') := fun c' hlt => by
    have z := List.all_eq_true.mp e1 c' (List.mem_range.mpr hlt)
    obtain ⟨z1, z2⟩ := ba z
    exact ⟨of_decide_eq_true z1, of_decide_eq_true z2⟩
  refine ⟨by rw [hcl]; exact PySem.W.mg_of kin G (He.eqO_ok a3), ?_, by rw [hcl]; exact xf, ?_, fun f hf => by rw [hcl]; exact He.eqO_ok (List.all_eq_true.mp c3 f hf), of_decide_eq_true c4, fun hne => ?_, fun h0 => ?_, fun c' hlt => by rw [hcl]; exact (pair c' hlt).1, fun c' hlt => by rw [hcl]; exact (pair c' hlt).2, by rw [hcl]; exact of_decide_eq_true e2⟩
  · rw [hcl]
    exact ⟨oexB_ok a5, He.eqO_ok a7, of_decide_eq_true a9, of_decide_eq_true a11, a12⟩
  · rw [hcl]
    exact ⟨xf.ga, xf.gg, xf.exC, xf.hdC, He.eqO_ok b5, He.eqO_ok b7, of_decide_eq_true b9, of_decide_eq_true b10⟩
  · obtain ⟨d, fd, I, FD⟩ := hI hne
    have hfa : He.fAd K d.at_ = He.ma K (He.ga K x) "__init__" := by rw [I.at_]; rfl
    have nm := I.nm
    obtain ⟨d3, d4⟩ : He.eqO (PySem.W.findIn K (.ref (He.ga K x)) "__init__") (some (some (.ref (He.ma K (He.ga K x) "__init__")))) = true ∧ decide (PySem.W.typeIn K (.ref (He.ma K (He.ga K x) "__init__")) = some (.type "function")) = true := by
      rcases Bool.or_eq_true_iff.mp d1 with z | z
      · exact absurd (List.isEmpty_iff.mp z) hne
      · exact ba z
    rw [hcl]
    refine ⟨He.ma K (He.ga K x) "__init__", fd, d.qual, d.params, d.body, d.scope, He.eqO_ok d3, of_decide_eq_true d4, ?_, I.sc, I.lo, I.body, FD.bindsN I.bind⟩
    rw [hfa, nm] at FD
    exact FD
  · rw [hcl]
    rcases Bool.or_eq_true_iff.mp b11 with z | z
    · rw [h0] at z
      cases z
    · exact z
/-! ### the head's hook -/
def lamG (T : Tbl) (K : PySem.W.Frag) : Bool := T.lnm.all fun x => match PySem.W.tabIn K x with
  | some (c, P) => PySem.W.codeHdIn K c P && (K.lookup P).isNone
  | none => false
def tab0 : Option Obj → Bool
  | some ⟨.none, none, .fields vs, sl⟩ => vs.isEmpty && sl.isEmpty
  | _ => false
def lamH (T : Tbl) (K : PySem.W.Frag) (g : Addr → Option Obj) : Bool := (tbs T K).all fun p => tab0 (g p.2)
def TabP (T : Tbl) (K : PySem.W.Frag) (h : Heap) : Prop := ∀ p ∈ tbs T K, h.get? p.2 = some { cls := .none, data := .fields #[] }
theorem tab0_ok {o : Option Obj} (h : tab0 o = true) : o = some { cls := .none, data := .fields #[] } := by
  unfold tab0 at h
  split at h
  · rename_i vs sl
    obtain ⟨h1, h2⟩ := ba h
    have e1 : vs = #[] := by simpa using h1
    have e2 : sl = #[] := by simpa using h2
    subst e1 e2
    rfl
  · cases h
theorem lamH_ok {T : Tbl} {K : PySem.W.Frag} {h : Heap} (z : lamH T K h.get? = true) : TabP T K h := fun p hp => tab0_ok (List.all_eq_true.mp z p hp)
theorem lam_at {T : Tbl} {K : PySem.W.Frag} (h : lamG T K = true) {k : Nat} {x : Str} (e : T.lnm[k]? = some x) : ∃ c P, PySem.W.tabIn K x = some (c, P) ∧ (tbs T K)[k]? = some (c, P) := by
  unfold lamG at h
  unfold tbs
  generalize T.lnm = l at h e ⊢
  induction l generalizing k with
  | nil => simp at e
  | cons y r ih =>
    rw [List.all_cons] at h
    obtain ⟨h1, h2⟩ := ba h
    cases q : PySem.W.tabIn K y with
    | none => rw [q] at h1; cases h1
    | some cP =>
      obtain ⟨c, P⟩ := cP
      rw [List.filterMap_cons_some q]
      cases k with
      | zero => simp at e; subst e; exact ⟨c, P, q, rfl⟩
      | succ k => simpa using ih h2 (by simpa using e)
theorem lam_tb {T : Tbl} {K : PySem.W.Frag} (h : lamG T K = true) {p : Addr × Addr} (hp : p ∈ tbs T K) : PySem.W.codeHdIn K p.1 p.2 = true ∧ K.lookup p.2 = none := by
  unfold tbs at hp
  obtain ⟨x, hx, e⟩ := List.mem_filterMap.mp hp
  have z := List.all_eq_true.mp h x hx
  rw [e] at z
  obtain ⟨z1, z2⟩ := ba z
  exact ⟨z1, by simpa using z2⟩
theorem tab_code {K : PySem.W.Frag} {x : Str} {c P : Addr} {oc : Value} {od : Option Addr} {fd : FuncData} {osl : Array (Option Value)} (h : PySem.W.tabIn K x = some (c, P)) (lk : K.lookup (He.ga K x) = some ⟨oc, od, .func fd, osl⟩) : fd.code = .ref c := by
  unfold PySem.W.tabIn at h
  split at h
  · rename_i f e
    have hg : He.ga K x = f := by unfold He.ga; rw [e]
    rw [hg] at lk
    rw [lk] at h
    simp only at h
    split at h
    · rename_i c' e2
      split at h
      · split at h
        · cases h
          exact e2
        · cases h
      · cases h
    · cases h
  · cases h
def moreB (T : Tbl) (cns : List (Str × D)) (K : PySem.W.Frag) : Bool := gcdG K && (((cns.all fun q => cstG K q.1 q.2) && (T.ecs.zipIdx.all fun q => clsG T K q.2 q.1.1 q.1.2)) && (lamG T K && decide ((tbs T K).map (·.2)).Nodup))
/-- the addresses that are looked at: three steps from the module's names, the codes of the functions among the last ones; doubles are left in far out (rubbing them out is what costs memory) -/
def lvE (g : Addr → Option Obj) (as : List Addr) : List Addr := as.flatMap fun a => match g a with
  | some o => He.refsD o
  | none => []
def cdE (g : Addr → Option Obj) (as : List Addr) : List Addr := as.flatMap fun a => match g a with
  | some o => (match o.data with
    | .func fd => He.refV fd.code ++ He.refV fd.defaults
    | _ => [])
  | none => []
def notTab (g : Addr → Option Obj) (a : Addr) : Bool := match g a with
  | some o => (match o.cls with
    | .none => false
    | _ => true)
  | none => false
def asF (g : Addr → Option Obj) (l0 l1 l2 l3 : List Addr) : List Addr := l0 ++ (l1 ++ (l2 ++ (l3 ++ cdE g l3)))
def asE3 (g : Addr → Option Obj) (l0 l1 l2 : List Addr) : List Addr := asF g l0 l1 l2 ((lvE g l2).filter (notTab g))
def asE2 (g : Addr → Option Obj) (l0 l1 : List Addr) : List Addr := asE3 g l0 l1 (lvE g l1).eraseDups
def asE (g : Addr → Option Obj) (_n : Nat) : List Addr := asE2 g [mainGlobals] (lvE g [mainGlobals]).eraseDups
def obK (T : Tbl) (fa : List He.Fa) (fn : List He.DefD) (cns : List (Str × D)) (g : Addr → Option Obj) (K : PySem.W.Frag) : He.AlD × Bool := (He.obsD fa fn K, moreB T cns K && (seerG g && lamH T K g))
def obE (T : Tbl) (n : Nat) (fa : List He.Fa) (fn : List He.DefD) (cns : List (Str × D)) (g : Addr → Option Obj) : He.AlD × Bool := obK T fa fn cns g (He.frG g (asE g n))
def SaysE (T : Tbl) (fa : List He.Fa) (fn : List He.DefD) (cns : List (Str × D)) (K : PySem.W.Frag) : Prop := He.SaysD fa fn K ∧ moreB T cns K = true
def hookE (T : Tbl) (n : Nat) (fa : List He.Fa) (fn : List He.DefD) (cns : List (Str × D)) : PySem.W.Hook where
  α := He.AlD × Bool
  obs := fun s => obE T n fa fn cns s.heap.get?
  val := fun _ => (He.valD fn, true)
  says := fun _ h => ∃ K : PySem.W.Frag, K.In h ∧ (SaysE T fa fn cns K ∧ (SeerP h ∧ TabP T K h))
  of := fun _ _ e => ⟨_, He.frG_in, ⟨congrArg Prod.fst e, (Bool.and_eq_true_iff.mp (congrArg Prod.snd e)).1⟩, seerG_ok (ba (ba (congrArg Prod.snd e)).2).1, lamH_ok (ba (ba (congrArg Prod.snd e)).2).2⟩
  keeps := fun _ _ _ ⟨K, hK, c, d, t⟩ k => ⟨K, PySem.W.Frag.In.keeps hK k, c, d.keeps k, fun p hp => k _ _ (t p hp)⟩
theorem obE_eq {T : Tbl} {n : Nat} {fa : List He.Fa} {fn : List He.DefD} {cns : List (Str × D)} {g : Addr → Option Obj} {s : Shared} (h : ∀ a, g a = s.heap.get? a) : obE T n fa fn cns g = (hookE T n fa fn cns).obs s := by
  have e : g = s.heap.get? := funext h
  rw [e] <;> rfl

/-! ### the defs by levels -/
/-- one def: its name, its parameters, its names, what it does -/
structure TD where
  name : Str
  ps : List Str
  N : List Str
  fd : Fd
def scB (N ps : List Str) (sc : Scope) : Bool := isFn sc && ((!sc.isCoroutine && !sc.isGenerator) && ((decide N.Nodup && decide (N.take ps.length = ps)) && ((ps.all fun x => locB sc x) && sc.names.all fun y => !(y.2 == NameKind.free))))
theorem scB_ok {N ps : List Str} {sc : Scope} (h : scB N ps sc = true) : FnScope N ps sc := by
  obtain ⟨h1, h2⟩ := ba h
  obtain ⟨h3, h4⟩ := ba h2
  obtain ⟨h5, h6⟩ := ba h3
  obtain ⟨h7, h8⟩ := ba h4
  obtain ⟨h9, h10⟩ := ba h7
  obtain ⟨h11, h12⟩ := ba h8
  exact ⟨isFn_of h1, by simpa using h5, by simpa using h6, of_decide_eq_true h9, of_decide_eq_true h10, fun x hx => loc_of (List.all_eq_true.mp h11 x hx), fun y hy z => by
    have := List.all_eq_true.mp h12 y hy
    rw [z] at this
    cases this⟩
def okB (T : Tbl) (t : TD) (d : He.DefD) : Bool := decide (d.name = t.name) && (scB t.N t.ps d.scope && ((decide (t.fd.np = t.ps.length) && decide (t.fd.nn = t.N.length)) && chkSs T t.N d.scope t.fd.body d.body))
structure TOk (T : Tbl) (t : TD) (d : He.DefD) : Prop where
  chk : okB T t d = true
  bind : ∀ (kV doc pm : Value) (an : Option Addr) (cdv ct : Value) (us : List Value), us.length = t.ps.length → bindArgs (PySem.W.fnOf d.name d.qual d.params d.body d.scope .none kV doc pm an cdv ct) ⟨us, []⟩ = pure (t.ps.zip us)
section
variable {P : Program} {w : World} {K : PySem.W.Frag} {mg : Str → Option Value} {base : Heap} {cl : Cl}
theorem permV {vs : List V} {us : List Value} (r : Vals vs us) : ∀ pm : List Nat, Vals (pm.filterMap fun j => vs[j]?) (pm.filterMap fun j => us[j]?)
  | [] => .nil
  | j :: pm => by
    rw [List.filterMap_cons, List.filterMap_cons]
    cases e : vs[j]? with
    | none =>
      have hv : us[j]? = none := by rw [List.getElem?_eq_none_iff] at e ⊢; rw [← r.length]; exact e
      rw [hv]
      exact permV r pm
    | some d =>
      obtain ⟨v, g1, g2⟩ := r.get e
      rw [g1]
      exact .cons g2 (permV r pm)
/-- a call with keywords, every parameter written -/
theorem kbn_of {nm qual : Str} {prs : Arguments} {body : List Stmt} {sc : Scope} {kws : List (Str × V)} {f : Addr} {fd : FuncData} {ps ks : List Str} {m : Nat} {pm : List Nat} (F : FunD K nm qual prs body sc [] kws f fd)
    (h : ∀ (kV doc pm' : Value) (an : Option Addr) (cdv ct : Value) (us ws : List Value), us.length = m → ws.length = ks.length → bindArgs (PySem.W.fnOf nm qual prs body sc .none kV doc pm' an cdv ct) ⟨us, ks.zip ws⟩ = pure (ps.zip (pm.filterMap fun j => (us ++ ws)[j]?))) :
    KBn K fd ps m ks (fun us ws => pm.filterMap fun j => (us ++ ws)[j]?) fun vs zs => pm.filterMap fun j => (vs ++ zs)[j]? := by
  obtain ⟨oc, od, dV, kV, doc, pm', an, cdv, ct, osl, rfl, lk, hcd, hD, hK⟩ := F.ex
  rcases hD with ⟨_, rfl⟩ | ⟨e, _⟩
  · exact ⟨fun s us ws _ h1 h2 => .of_eq (h kV doc pm' an cdv ct us ws h1 h2), fun r1 r2 => permV (r1.append r2) pm⟩
  · exact absurd rfl e
/-- what a lambda wants of the def that makes it -/
def LamOk (base : Heap) (mg : Str → Option Value) (cl : Cl) (T : Tbl) (N : List Str) (qual : Str) (code : Value) : Prop := ∀ (k : Nat) (q : Str), T.lams[k]? = some (N, q) → ∃ c P, (qual ++ ".<locals>.") ++ "<lambda>" = q ∧ code = .ref c ∧ LamX.TabB base mg c P ∧ cl.b0[k]? = some P
theorem body_end {N : List Str} {f : Fd} {ds : List D} {vs : List V} {ρ : List Addr} {H : Hp} {S : Sto} {Q : VK} {E : XK} {W : WX} {G : Gm} {C : List Cls} {ps : List Str} (np : f.np = ps.length) (nn : f.nn = N.length) (hl : vs.length = ps.length) (r : RepL K ρ H ds vs) (hs : RelS K cl ρ H S) (hW : W = fun cls d _ H => E cls d H)
    (aft : Aft K cl ρ H (runF G C f ds S) (fun ρ' H' _ d => ∀ v, Rep K ρ' H' d v → Q v H') fun x ρ' H' _ => ∀ cls d, XR K cl ρ' H' x cls d → E cls d H') :
    tS K cl W (execs G C f.body) { nx := fun _ H' => Q .non H', rt := Q } (L2.start N vs) H := by
  subst hW
  have hd : ds.length = f.np := by rw [r.length, np, hl]
  have hN : N.length = f.nn := nn.symm
  have e1 : runF G C f ds S = (execs G C f.body (ds.map some ++ List.replicate (f.nn - ds.length) none) S).toR := by
    unfold runF
    rw [if_pos hd]
  rw [e1] at aft
  let Z : EndsO := ⟨fun ρ H S en => ∀ v, Rep K ρ H .non v → Q v H, fun ρ H S d => ∀ v, Rep K ρ H d v → Q v H, fun _ _ _ _ => False, fun _ _ _ _ => False, fun x ρ H S en => ∀ cls d, XR K cl ρ H x cls d → E cls d H⟩
  refine ⟨ρ, ds.map some ++ List.replicate (f.nn - ds.length) none, S, Z, ⟨?_, fun j dd hj => ?_⟩, hs, ?_, ⟨fun _ _ _ _ q _ _ _ => q _ .non, fun _ _ _ _ q v r _ => q v r, fun _ _ _ _ q => q.elim, fun _ _ _ _ q => q.elim, fun x ρ' H' S' en' q σ' cls d _ _ xr => q cls d xr⟩⟩
  · unfold L2.start
    simp only [List.length_append, List.length_map, List.length_replicate]
    rw [r.length, hN]
  · unfold L2.start
    by_cases hlt : j < ds.length
    · rw [List.getElem?_append_left (by simpa using hlt), List.getElem?_map] at hj
      cases q : ds[j]? with
      | none => rw [q] at hj; cases hj
      | some d0 =>
        rw [q] at hj
        cases hj
        obtain ⟨v, g1, g2⟩ := r.get q
        exact ⟨v, by rw [List.getElem?_append_left (by rw [List.length_map, ← r.length]; exact hlt), List.getElem?_map, g1]; rfl, g2⟩
    · rw [List.getElem?_append_right (by simpa using hlt), List.getElem?_replicate] at hj
      split at hj <;> cases hj
  · cases z : execs G C f.body (ds.map some ++ List.replicate (f.nn - ds.length) none) S with
    | nx en S => rw [z] at aft; exact aft
    | rt d S => rw [z] at aft; exact aft
    | ex x en S => rw [z] at aft; exact aft
    | bk en S => rw [z] at aft; exact False.elim aft
    | ct en S => rw [z] at aft; exact False.elim aft
    | stuck => rw [z] at aft; exact aft
/-- a def's promise at the next level -/
theorem fn_step {T : Tbl} {F : List Fd} {cs : List D} {n i : Nat} {t : TD} {d : He.DefD} {dvs : List V} {kws : List (Str × V)} {f : Addr} {fd : FuncData} (tab : FTab P w K mg base cl.base T ⟨fnN F (T.ecs.map Prod.snd) cs n, cs, lfF F (T.ecs.map Prod.snd) cs (fnN F (T.ecs.map Prod.snd) cs n), noAct, 0⟩ n) (sr : base.NoSeer) (tr : P.given.tree = none) (ok : okB T t d = true) (hF : F[i]? = some t.fd)
    (FD : FunD K d.name d.qual d.params d.body d.scope dvs kws f fd) (hlam : LamOk base mg cl.base T t.N d.qual fd.code) : FnG P w K mg base (4 * (n + 1) + 34) f fd t.ps (spOf K cl.base t.ps.length (fnN F (T.ecs.map Prod.snd) cs (n + 1) i)) := by
  obtain ⟨h1, h2⟩ := ba ok
  obtain ⟨h3, h4⟩ := ba h2
  obtain ⟨h5, h6⟩ := ba h4
  obtain ⟨h7, h8⟩ := ba h5
  have S := scB_ok h3
  have np : t.fd.np = t.ps.length := of_decide_eq_true h7
  have nn : t.fd.nn = t.N.length := of_decide_eq_true h8
  refine fnG_of (k := 4 * n + 37) FD S (fun vs H Q E h => h.1) fun cdv A outer s H vs Q E hc room gds sp => ?_
  have C0 : Cxt T ⟨fnN F (T.ecs.map Prod.snd) cs n, cs, lfF F (T.ecs.map Prod.snd) cs (fnN F (T.ecs.map Prod.snd) cs n), noAct, 0⟩ cl.base t.N n d.scope (fun cls dd _ H => E cls dd H) (cxOf (L2.CX P w) P w K mg base t.N d.qual d.scope f cdv A outer s H E) :=
    ⟨rfl, S.nd, rfl, rfl, gds, room.mono (by omega), sr, tr, ⟨_, _, rfl, S.gen, S.co, rfl, rfl⟩, tab, takes_of rfl rfl rfl rfl, fun k q e => by
      obtain ⟨c, P', g1, g2, g3, g4⟩ := hlam k q e
      exact ⟨c, P', g1, hc.trans g2, g3, g4, room, rfl⟩⟩
  have C1 : CxtS T ⟨fnN F (T.ecs.map Prod.snd) cs n, cs, lfF F (T.ecs.map Prod.snd) cs (fnN F (T.ecs.map Prod.snd) cs n), noAct, 0⟩ cl.base t.N n d.scope (fun cls dd _ H => E cls dd H) (cxOf (L2.CX P w) P w K mg base t.N d.qual d.scope f cdv A outer s H E) := ⟨C0, passes_of rfl, fun _ => rfl, rfl, rfl, fun _ _ _ _ _ _ _ _ _ _ _ => act_no⟩
  refine ⟨_, sndSs rfl t.fd.body C1 (by have := (ba h3).1; exact this) h6 (C' := T.ecs.map (·.2)), ?_⟩
  obtain ⟨hl, ρ, ds, S0, r, hs, aft⟩ := sp
  have e1 : fnN F (T.ecs.map Prod.snd) cs (n + 1) i ds S0 = runF ⟨fnN F (T.ecs.map Prod.snd) cs n, cs, lfF F (T.ecs.map Prod.snd) cs (fnN F (T.ecs.map Prod.snd) cs n), noAct, 0⟩ (T.ecs.map Prod.snd) t.fd ds S0 := by
    show (match F[i]? with
      | some fd => runF ⟨fnN F (T.ecs.map Prod.snd) cs n, cs, lfF F (T.ecs.map Prod.snd) cs (fnN F (T.ecs.map Prod.snd) cs n), noAct, 0⟩ (T.ecs.map Prod.snd) fd ds S0
      | none => .stuck) = _
    rw [hF]
  rw [e1] at aft
  exact body_end np nn hl r hs rfl aft
/-- a def that is handed a lambda -/
theorem lf_step {T : Tbl} {F : List Fd} {cs : List D} {n i : Nat} {t : TD} {d : He.DefD} {f : Addr} {fd : FuncData} (tab : FTab P w K mg base cl.base T ⟨fnN F (T.ecs.map Prod.snd) cs n, cs, noLf, noAct, 0⟩ n) (sr : base.NoSeer) (tr : P.given.tree = none) (ok : okB T t d = true) (hF : F[i]? = some t.fd)
    (FD : FunD K d.name d.qual d.params d.body d.scope [] [] f fd) (hb : ∀ (s : Shared) (us : List Value), us.length = t.ps.length → BindsTo s fd ⟨us, []⟩ (t.ps.zip us)) (h1p : t.ps.length = 1) (hlam : ∀ (k : Nat) (q : Str), T.lams[k]? ≠ some (t.N, q)) :
    LfG P w K mg base (4 * n + 35) f cl.base (lf0 F (T.ecs.map Prod.snd) cs (fnN F (T.ecs.map Prod.snd) cs n) i) := by
  obtain ⟨h1, h2⟩ := ba ok
  obtain ⟨h3, h4⟩ := ba h2
  obtain ⟨h5, h6⟩ := ba h4
  obtain ⟨h7, h8⟩ := ba h5
  have S := scB_ok h3
  have np : t.fd.np = t.ps.length := of_decide_eq_true h7
  have nn : t.fd.nn = t.N.length := of_decide_eq_true h8
  refine ⟨fun A outer s H g o u Q E ρ S0 m room gds env hlen hs hg AR aft => ?_⟩
  have hl1 : ([V.ref g]).length = t.ps.length := h1p.symm
  refine runG (k := 4 * n + 36) (N := t.N) (ps := t.ps) (us := [.ref g]) (vs := [.ref g]) FD S room env (hb s [.ref g] h1p.symm) (.cons rfl .nil) hl1 fun cdv hc room' => ?_
  let G' : Gm := ⟨fnN F (T.ecs.map Prod.snd) cs n, cs, noLf, m, S0.length⟩
  have tab' : FTab P w K mg base cl.base T G' n := ⟨tab.fns, tab.cst, tab.gcd, tab.bins, tab.tys, tab.range, tab.enum, tab.zip, tab.isin, tab.ve, tab.ecs, tab.ics, tab.mts, tab.lfs⟩
  have C0 : Cxt T G' (cl.at_ (ρ ++ [g]) H) t.N n d.scope (fun cls dd _ H => E cls dd H) (cxOf (L2.CX P w) P w K mg base t.N d.qual d.scope f cdv A outer s H E) :=
    ⟨rfl, S.nd, rfl, rfl, gds, room'.mono (by omega), sr, tr, ⟨_, _, rfl, S.gen, S.co, rfl, rfl⟩, tab', takes_of rfl rfl rfl rfl, fun k q e => absurd e (hlam k q)⟩
  have C1 : CxtS T G' (cl.at_ (ρ ++ [g]) H) t.N n d.scope (fun cls dd _ H => E cls dd H) (cxOf (L2.CX P w) P w K mg base t.N d.qual d.scope f cdv A outer s H E) := ⟨C0, passes_of rfl, fun _ => rfl, rfl, rfl, fun a i p1 p2 W' pn xe e1 e2 e3 tk => by
    have z := AR t.N d.qual d.scope f cdv E pn xe W' i a p1 p2 room' tk e1 e2 e3
    rw [← hlen] at z
    exact z⟩
  refine ⟨_, sndSs rfl t.fd.body C1 (by have := (ba h3).1; exact this) h6 (C' := T.ecs.map (·.2)), ?_⟩
  have e1 : lf0 F (T.ecs.map Prod.snd) cs (fnN F (T.ecs.map Prod.snd) cs n) i m S0 = runF G' (T.ecs.map Prod.snd) t.fd [.ref S0.length] (S0 ++ [.act]) := by
    unfold lf0
    rw [hF]
  rw [e1] at aft
  have r0 : Rep K (ρ ++ [g]) H (.ref S0.length) (.ref g) := .ref (by rw [hlen]; simp)
  exact body_end np nn hl1 (.cons r0 .nil) (hs.since Kp.refl) rfl aft
/-- one method: its class, its name -/
structure MD where
  c : Nat
  m : Str
  t : TD
  d : He.DefD
/-- what the head says of the text -/
structure Told (K : PySem.W.Frag) (mg : Str → Option Value) (cl : Cl) (T : Tbl) (cs : List D) (ds : List (TD × He.DefD)) (ms : List MD) (tb : List (Addr × Addr)) : Prop where
  fns : T.fns = ds.map fun p => (p.1.name, p.1.ps)
  ok : ∀ (i : Nat) (p : TD × He.DefD), ds[i]? = some p → TOk T p.1 p.2
  fd : ∀ (i : Nat) (p : TD × He.DefD), ds[i]? = some p → ∃ f fd, mg p.1.name = some (.ref f) ∧ FunD K p.2.name p.2.qual p.2.params p.2.body p.2.scope [] [] f fd ∧
    ∀ (k : Nat) (q : Str), T.lams[k]? = some (p.1.N, q) → ∃ c P, (p.2.qual ++ ".<locals>.") ++ "<lambda>" = q ∧ fd.code = .ref c ∧ (c, P) ∈ tb ∧ cl.b0[k]? = some P
  kw : ∀ (i : Nat) (p : TD × He.DefD) (m : Nat) (ks : List Str) (pm : List Nat), ds[i]? = some p → (i, m, ks, pm) ∈ T.kws → ∀ (kV doc pm' : Value) (an : Option Addr) (cdv ct : Value) (us ws : List Value), us.length = m → ws.length = ks.length →
    bindArgs (PySem.W.fnOf p.2.name p.2.qual p.2.params p.2.body p.2.scope .none kV doc pm' an cdv ct) ⟨us, ks.zip ws⟩ = pure (p.1.ps.zip (pm.filterMap fun j => (us ++ ws)[j]?))
  cst : ∀ (i : Nat) (x : Str) (d : D), T.cns[i]? = some x → cs[i]? = some d → ∃ u v, mg x = some u ∧ RelV v u ∧ ∀ ρ H, Rep K ρ H d v
  gcd : mg "gcd" = some (.builtin "math.gcd")
  bins : ∀ b : Bi, b ≠ .gcd → mg (biN b : Str) = none
  tys : ∀ t : Ty, mg (tyN t : Str) = none
  range : mg "range" = none
  enum : mg "enumerate" = none
  zip : mg "zip" = none
  isin : mg "isinstance" = none
  ve : mg "ValueError" = none
  ecs : ∀ (c : Nat) (x : Str) (k : Cls), T.ecs[c]? = some (x, k) → ClsOk K mg cl T c x k
  ics : ∀ (c : Nat) (x : Str), T.ics[c]? = some x → mg x = some (.ref (cl.ic c)) ∧ PySem.W.keepIn K (.ref (cl.ic c)) = true ∧ L2.Cls K (cl.ic c) ∧ PySem.W.makesIn K (cl.ic c) = true ∧ ∀ f ∈ T.flds, NoAttr K (cl.ic c) f
  mts : T.mts = ms.map fun p => (p.c, p.m, p.t.ps)
  md : ∀ (j : Nat) (p : MD), ms[j]? = some p → okB T p.t p.d = true ∧ (∀ (k : Nat) (q : Str), T.lams[k]? ≠ some (p.t.N, q)) ∧ ∃ f fd, Meth K (cl.ic p.c) p.m f ∧ FunD K p.d.name p.d.qual p.d.params p.d.body p.d.scope (p.d.dvs K) (p.d.kws K) f fd ∧ L2.Binds K fd p.t.ps [] ∧
    ∀ (m : Nat) (ks : List Str) (pm : List Nat), (ds.length + j, m, ks, pm) ∈ T.kws → KBn K fd p.t.ps m ks (fun us ws => pm.filterMap fun j => (us ++ ws)[j]?) fun vs zs => pm.filterMap fun j => (vs ++ zs)[j]?
  lfs : ∀ i ∈ T.lfs, ∀ p, ds[i]? = some p → ∀ (k : Nat) (q : Str), T.lams[k]? ≠ some (p.1.N, q)
abbrev fdsOf (ds : List (TD × He.DefD)) (ms : List MD) : List Fd := (ds.map fun p => p.1.fd) ++ ms.map fun p => p.t.fd
theorem lf_none {f : Addr} {k : Nat} : LfG P w K mg base k f cl (fun _ _ => .stuck) := ⟨fun A outer s H g o u Q E ρ S m _ _ _ _ _ _ _ aft => False.elim aft⟩
/-- every level's table -/
theorem tower {T : Tbl} {cs : List D} {ds : List (TD × He.DefD)} {ms : List MD} {tb : List (Addr × Addr)} (h : Told K mg cl.base T cs ds ms tb) (hb : ∀ p ∈ tb, LamX.TabB base mg p.1 p.2) (sr : base.NoSeer) (tr : P.given.tree = none) :
    ∀ n, FTab P w K mg base cl.base T ⟨fnN (fdsOf ds ms) (T.ecs.map Prod.snd) cs n, cs, lfF (fdsOf ds ms) (T.ecs.map Prod.snd) cs (fnN (fdsOf ds ms) (T.ecs.map Prod.snd) cs n), noAct, 0⟩ n := by
  have hlen : T.fns.length = ds.length := by rw [h.fns, List.length_map]
  have atD : ∀ {i : Nat} {p : TD × He.DefD}, ds[i]? = some p → (fdsOf ds ms)[i]? = some p.1.fd := fun {i p} e => by
    have hl := (List.getElem?_eq_some_iff.mp e).1
    unfold fdsOf
    rw [List.getElem?_append_left (by simpa using hl), List.getElem?_map, e]
    rfl
  have atM : ∀ {j : Nat} {p : MD}, ms[j]? = some p → (fdsOf ds ms)[ds.length + j]? = some p.t.fd := fun {j p} e => by
    unfold fdsOf
    rw [List.getElem?_append_right (by simp), List.getElem?_map]
    simp only [List.length_map, Nat.add_sub_cancel_left]
    rw [e]
    rfl
  have one : ∀ n, (∀ (i : Nat) (p : TD × He.DefD) (f : Addr) (fd : FuncData), ds[i]? = some p → FunD K p.2.name p.2.qual p.2.params p.2.body p.2.scope [] [] f fd → LamOk base mg cl.base T p.1.N p.2.qual fd.code → FnG P w K mg base (4 * n + 34) f fd p.1.ps (spOf K cl.base p.1.ps.length (fnN (fdsOf ds ms) (T.ecs.map Prod.snd) cs n i))) →
      (∀ (j : Nat) (p : MD) (f : Addr) (fd : FuncData), ms[j]? = some p → FunD K p.d.name p.d.qual p.d.params p.d.body p.d.scope (p.d.dvs K) (p.d.kws K) f fd → FnG P w K mg base (4 * n + 34) f fd p.t.ps (spOf K cl.base p.t.ps.length (fnN (fdsOf ds ms) (T.ecs.map Prod.snd) cs n (ds.length + j)))) →
      ∀ lf : Nat → (Sto → R D) → Sto → R D, (∀ (i : Nat) (x : Str) (ps : List Str), T.fns[i]? = some (x, ps) → ps.length = 1 → i ∈ T.lfs → ∃ f F, mg x = some (.ref f) ∧ PySem.W.keepIn K (.ref f) = true ∧ (∀ m S, lf i m S = (F m S).dead S.length) ∧ LfG P w K mg base (4 * n + 35) f cl.base F) →
      FTab P w K mg base cl.base T ⟨fnN (fdsOf ds ms) (T.ecs.map Prod.snd) cs n, cs, lf, noAct, 0⟩ n := fun n go gm lf hlf => by
    refine ⟨fun i x ps e => ?_, h.cst, h.gcd, h.bins, h.tys, h.range, h.enum, h.zip, h.isin, h.ve, h.ecs, h.ics, fun j c m ps e => ?_, hlf⟩
    · rw [h.fns, List.getElem?_map] at e
      cases q : ds[i]? with
      | none => rw [q] at e; cases e
      | some p =>
        rw [q] at e
        cases e
        obtain ⟨f, fd, m1, FD, hq⟩ := h.fd i p q
        exact ⟨f, fd, m1, FD.kp, go i p f fd q FD (fun k q e => let ⟨c, P', g1, g2, g3, g4⟩ := hq k q e; ⟨c, P', g1, g2, hb _ g3, g4⟩), FD.bindsN (h.ok i p q).bind, fun m ks pm hm => kbn_of FD (h.kw i p m ks pm q hm)⟩
    · rw [h.mts, List.getElem?_map] at e
      cases q : ms[j]? with
      | none => rw [q] at e; cases e
      | some p =>
        rw [q] at e
        cases e
        obtain ⟨_, _, f, fd, Mt, FD, B, kb⟩ := h.md j p q
        rw [hlen]
        exact ⟨f, fd, Mt, gm j p f fd q FD, B, kb⟩
  have lfz : ∀ n, ∀ (i : Nat) (x : Str) (ps : List Str), T.fns[i]? = some (x, ps) → ps.length = 1 → i ∈ T.lfs → ∃ f F, mg x = some (.ref f) ∧ PySem.W.keepIn K (.ref f) = true ∧ (∀ m S, noLf i m S = (F m S).dead S.length) ∧ LfG P w K mg base (4 * n + 35) f cl.base F := fun n i x ps e _ _ => by
    rw [h.fns, List.getElem?_map] at e
    cases q : ds[i]? with
    | none => rw [q] at e; cases e
    | some p =>
      rw [q] at e
      cases e
      obtain ⟨f, fd, m1, FD, hq⟩ := h.fd i p q
      exact ⟨f, _, m1, FD.kp, fun m S => rfl, lf_none⟩
  have two : ∀ n, (∀ (i : Nat) (p : TD × He.DefD) (f : Addr) (fd : FuncData), ds[i]? = some p → FunD K p.2.name p.2.qual p.2.params p.2.body p.2.scope [] [] f fd → LamOk base mg cl.base T p.1.N p.2.qual fd.code → FnG P w K mg base (4 * n + 34) f fd p.1.ps (spOf K cl.base p.1.ps.length (fnN (fdsOf ds ms) (T.ecs.map Prod.snd) cs n i))) →
      (∀ (j : Nat) (p : MD) (f : Addr) (fd : FuncData), ms[j]? = some p → FunD K p.d.name p.d.qual p.d.params p.d.body p.d.scope (p.d.dvs K) (p.d.kws K) f fd → FnG P w K mg base (4 * n + 34) f fd p.t.ps (spOf K cl.base p.t.ps.length (fnN (fdsOf ds ms) (T.ecs.map Prod.snd) cs n (ds.length + j)))) →
      FTab P w K mg base cl.base T ⟨fnN (fdsOf ds ms) (T.ecs.map Prod.snd) cs n, cs, lfF (fdsOf ds ms) (T.ecs.map Prod.snd) cs (fnN (fdsOf ds ms) (T.ecs.map Prod.snd) cs n), noAct, 0⟩ n := fun n go gm =>
    one n go gm _ fun i x ps e h1 hi => by
      have t0 := one n go gm noLf (lfz n)
      rw [h.fns, List.getElem?_map] at e
      cases q : ds[i]? with
      | none => rw [q] at e; cases e
      | some p =>
        rw [q] at e
        cases e
        obtain ⟨f, fd, m1, FD, hq⟩ := h.fd i p q
        exact ⟨f, _, m1, FD.kp, fun m S => rfl, lf_step t0 sr tr (h.ok i p q).chk (atD q) FD (fun s us hl => FD.bindsA (h.ok i p q).bind s us hl) h1 (h.lfs i hi p q)⟩
  have z0 : ∀ {f : Addr} {fd : FuncData} {ps : List Str} {i : Nat}, FnG P w K mg base (4 * 0 + 34) f fd ps (spOf K cl.base ps.length (fnN (fdsOf ds ms) (T.ecs.map Prod.snd) cs 0 i)) := fun {f fd ps i} =>
    ⟨fun vs H Q E h => h.1, fun A outer s H args us vs Q E room gds env hb r sp => (let ⟨_, _, _, _, _, _, z⟩ := sp; False.elim z)⟩
  intro n
  induction n with
  | zero => exact two 0 (fun i p f fd q FD _ => z0) fun j p f fd q FD => z0
  | succ n ih =>
    refine two (n + 1) (fun i p f fd q FD L => fn_step ih sr tr (h.ok i p q).chk (atD q) FD L) fun j p f fd q FD => ?_
    obtain ⟨ok, nl, _⟩ := h.md j p q
    exact fn_step ih sr tr ok (atM q) FD fun k q e => absurd e (nl k q)
end
end Ev
end
section
set_option Elab.async false
set_option linter.all false
set_option maxRecDepth 100000
set_option maxHeartbeats 4000000
set_option autoImplicit false
/-! Ev17: from the head to the plain law. -/
namespace Ev
open PySem PySem.Spec PyProof.Rows L2

theorem map_pair {α β γ δ : Type} {o : Option α} {f : α → β} {g : α → γ} {h : α → δ} {a : β} {b : γ} {c : δ} (e1 : (o.map fun x => (f x, g x)) = some (a, b)) (e2 : o.map h = some c) : (o.map fun x => (f x, g x, h x)) = some (a, b, c) := by
  cases o with
  | none => cases e1
  | some x =>
    cases e1
    cases e2
    rfl
abbrev sScript : Str := "script"
def frees : List Str := ["len", "abs", "int", "str", "isinstance", "tuple", "list", "max", "min", "divmod", "sum", "all", "any", "repr", "bool", "range", "enumerate", "zip", "ValueError"]
def icF (T : Tbl) : List He.Fa := T.ics.flatMap fun x => [.glo x, .cls x, .mkr x] ++ T.flds.map (He.Fa.noat x)
def mtF (T : Tbl) : List He.Fa := T.mts.map fun q => .meth (T.ics.getD q.1 Str.empty) q.2.1
def faOf (T : Tbl) (ds : List (TD × He.DefD)) : List He.Fa := (ds.map fun p => He.Fa.glo p.1.name) ++ (frees.map He.Fa.free ++ (icF T ++ mtF T))
def fnsOf (ds : List (TD × He.DefD)) (ms : List MD) (ins : List He.DefD) : List He.DefD := (ds.map fun p => p.2) ++ (ins ++ ms.map fun p => p.d)
/-- what the text itself says of lambdas -/
def lamD (T : Tbl) (ds : List (TD × He.DefD)) (ms : List MD) : Bool := (decide (T.lams.length = T.lnm.length) && (ds.all fun p => (T.lams.zip T.lnm).all fun z => !decide (z.1.1 = p.1.N) || (decide (z.2 = p.1.name) && decide ((p.2.qual ++ ".<locals>.") ++ "<lambda>" = z.1.2)))) &&
  ((ms.all fun p => T.lams.all fun z => !decide (z.1 = p.t.N)) && (T.lfs.all fun i => match ds[i]? with
    | some p => T.lams.all fun z => !decide (z.1 = p.1.N)
    | none => true))
theorem fact_mem {fa : List He.Fa} {fn : List He.DefD} {K : PySem.W.Frag} (c : He.SaysD fa fn K) {f : He.Fa} (h : f ∈ fa) : f.ok K = true := by
  obtain ⟨i, hi, e⟩ := List.getElem_of_mem h
  exact c.fact i (by rw [List.getElem?_eq_getElem hi, e])
theorem def_mem {fa : List He.Fa} {fn : List He.DefD} {K : PySem.W.Frag} (c : He.SaysD fa fn K) {d : He.DefD} (h : d ∈ fn) : ∃ fd, FunD K d.name d.qual d.params d.body d.scope (d.dvs K) (d.kws K) (He.fAd K d.at_) fd := by
  obtain ⟨i, hi, e⟩ := List.getElem_of_mem h
  exact c.def_ i (by rw [List.getElem?_eq_getElem hi, e])
theorem told_of {T : Tbl} {cs : List D} {ds : List (TD × He.DefD)} {ms : List MD} {ins : List He.DefD} {K : PySem.W.Frag} {h : Heap} {mg : Str → Option Value} (kin : K.In h) (G : h.Ns mainGlobals mg) (c : SaysE T (faOf T ds) (fnsOf ds ms ins) (T.cns.zip cs) K)
    (hf : T.fns = ds.map fun p => (p.1.name, p.1.ps)) (hok : ∀ (i : Nat) (p : TD × He.DefD), ds[i]? = some p → TOk T p.1 p.2) (hat : ∀ (i : Nat) (p : TD × He.DefD), ds[i]? = some p → p.2.at_ = (p.1.name, none) ∧ p.2.dfl = [] ∧ p.2.kwd = [])
    (hkw : ∀ (i : Nat) (p : TD × He.DefD) (m : Nat) (ks : List Str) (pm : List Nat), ds[i]? = some p → (i, m, ks, pm) ∈ T.kws → ∀ (kV doc pm' : Value) (an : Option Addr) (cdv ct : Value) (us ws : List Value), us.length = m → ws.length = ks.length →
      bindArgs (PySem.W.fnOf p.2.name p.2.qual p.2.params p.2.body p.2.scope .none kV doc pm' an cdv ct) ⟨us, ks.zip ws⟩ = pure (p.1.ps.zip (pm.filterMap fun j => (us ++ ws)[j]?)))
    (hini : ∀ (c : Nat) (x : Str) (k : Cls), T.ecs[c]? = some (x, k) → k.fs ≠ [] → ∃ (j : Nat) (d : He.DefD), ins[j]? = some d ∧ IniOk x k d ∧ d.dfl = [] ∧ d.kwd = [])
    (hm : T.mts = ms.map fun p => (p.c, p.m, p.t.ps))
    (hms : ∀ (j : Nat) (p : MD), ms[j]? = some p → okB T p.t p.d = true ∧ (∃ x, T.ics[p.c]? = some x ∧ p.d.at_ = (x, some p.m)) ∧ ∀ (K : PySem.W.Frag) (f : Addr) (fd : FuncData), FunD K p.d.name p.d.qual p.d.params p.d.body p.d.scope (p.d.dvs K) (p.d.kws K) f fd → L2.Binds K fd p.t.ps [] ∧
      ∀ (m : Nat) (ks : List Str) (pm : List Nat), (ds.length + j, m, ks, pm) ∈ T.kws → KBn K fd p.t.ps m ks (fun us ws => pm.filterMap fun j => (us ++ ws)[j]?) fun vs zs => pm.filterMap fun j => (vs ++ zs)[j]?)
    (hls : lamD T ds ms = true) : Told K mg (clA T K) T cs ds ms (tbs T K) ∧ lamG T K = true ∧ ((tbs T K).map (·.2)).Nodup := by
  obtain ⟨c1, c2⟩ := c
  obtain ⟨c3, c4⟩ := ba c2
  obtain ⟨c4, c8⟩ := ba c4
  obtain ⟨c5, c6⟩ := ba c4
  obtain ⟨c9, c10⟩ := ba c8
  obtain ⟨l1, l2⟩ := ba hls
  obtain ⟨l3, l4⟩ := ba l1
  obtain ⟨l5, l6⟩ := ba l2
  have l0 : T.lams.length = T.lnm.length := of_decide_eq_true l3
  have fd : ∀ {d : He.DefD}, d ∈ fnsOf ds ms ins → d.dfl = [] → d.kwd = [] → ∃ fd, FunD K d.name d.qual d.params d.body d.scope [] [] (He.fAd K d.at_) fd := fun {d} e e1 e2 => by
    obtain ⟨fd, FD⟩ := def_mem c1 e
    have z1 : d.dvs K = [] := by unfold He.DefD.dvs; rw [e1]; rfl
    have z2 : d.kws K = [] := by unfold He.DefD.kws; rw [e2]; rfl
    rw [z1, z2] at FD
    exact ⟨fd, FD⟩
  have free : ∀ x ∈ frees, mg x = none := fun x hx => He.free_ok kin G (fact_mem c1 (List.mem_append_right _ (List.mem_append_left _ (List.mem_map_of_mem hx))))
  refine ⟨⟨hf, hok, fun i p e => ?_, hkw, fun i x d e1 e2 => ?_, ?_, fun b hb => ?_, fun t => ?_, free _ (by decide), free _ (by decide), free _ (by decide), free _ (by decide), free _ (by decide), fun cc x k e => ?_, fun cc x e => ?_, hm, fun j p e => ?_, fun i hi p e k q z => ?_⟩, c9, of_decide_eq_true c10⟩
  · obtain ⟨a1, a2, a3⟩ := hat i p e
    have hp := List.mem_of_getElem? e
    obtain ⟨fd, FD⟩ := fd (List.mem_append_left _ (List.mem_map_of_mem hp)) a2 a3
    have g := He.glo_ok kin G (fact_mem c1 (List.mem_append_left _ (List.mem_map_of_mem (f := fun p : TD × He.DefD => He.Fa.glo p.1.name) hp)))
    have fa : He.fAd K p.2.at_ = He.ga K p.1.name := by rw [a1]; rfl
    rw [fa] at FD
    refine ⟨_, fd, g, FD, fun k q z => ?_⟩
    have hk := (List.getElem?_eq_some_iff.mp z).1
    have hn : T.lnm[k]? = some (T.lnm[k]'(by omega)) := List.getElem?_eq_getElem _
    have hz := List.all_eq_true.mp (List.all_eq_true.mp l4 p hp) ((p.1.N, q), T.lnm[k]'(by omega)) (List.mem_of_getElem? (i := k) (List.getElem?_zip_eq_some.mpr ⟨z, hn⟩))
    rcases Bool.or_eq_true_iff.mp hz with y | y
    · simp at y
    · obtain ⟨y1, y2⟩ := ba y
      have e1 : T.lnm[k]'(by omega) = p.1.name := of_decide_eq_true y1
      rw [e1] at hn
      obtain ⟨cc, P, t1, t2⟩ := lam_at c9 hn
      obtain ⟨oc, od, dV, kV, doc, pm, an, cdv, ct, osl, e2, lk, _⟩ := FD.ex
      exact ⟨cc, P, of_decide_eq_true y2, tab_code t1 lk, List.mem_of_getElem? t2, by show ((tbs T K).map (·.2))[k]? = _; rw [List.getElem?_map, t2]; rfl⟩
  · have hm : (x, d) ∈ T.cns.zip cs := List.mem_of_getElem? (i := i) (List.getElem?_zip_eq_some.mpr ⟨e1, e2⟩)
    have z := List.all_eq_true.mp c5 _ hm
    replace z : cstG K x d = true := z
    unfold cstG at z
    split at z
    · rename_i u e
      obtain ⟨v, r, q⟩ := cnB_ok _ _ _ z
      exact ⟨u, v, PySem.W.mg_of kin G e, r, q⟩
    · cases z
  · unfold gcdG at c3
    split at c3
    · rename_i id e
      have := of_decide_eq_true c3
      subst this
      exact PySem.W.mg_of kin G e
    · cases c3
  · cases b with
    | gcd => exact absurd rfl hb
    | isin t => cases t <;> exact free _ (by decide)
    | _ => exact free _ (by decide)
  · cases t <;> exact free _ (by decide)
  · have hm : ((x, k), cc) ∈ T.ecs.zipIdx := by
      refine List.mem_of_getElem? (i := cc) ?_
      rw [List.getElem?_zipIdx, e]
      simp
    have z := List.all_eq_true.mp c6 _ hm
    exact cls_ok kin G e z fun hne => by
      obtain ⟨j, d, g1, g2, g3, g4⟩ := hini cc x k e hne
      obtain ⟨fd, FD⟩ := fd (d := d) (List.mem_append_right _ (List.mem_append_left _ (List.mem_of_getElem? g1))) g3 g4
      exact ⟨d, fd, g2, FD⟩
  · have hx := List.mem_of_getElem? e
    have ic : (clA T K).ic cc = He.ga K x := by show icE T K cc = _; unfold icE; rw [e]
    have fm : ∀ {f : He.Fa}, f ∈ ([.glo x, .cls x, .mkr x] ++ T.flds.map (He.Fa.noat x) : List He.Fa) → f.ok K = true := fun {f} hf => fact_mem c1 (List.mem_append_right _ (List.mem_append_right _ (List.mem_append_left _ (List.mem_flatMap.mpr ⟨x, hx, hf⟩))))
    have M := He.mkr_ok (fm (f := .mkr x) (by simp))
    rw [ic]
    exact ⟨He.glo_ok kin G (fm (f := .glo x) (by simp)), M.kp, He.cls_ok (fm (f := .cls x) (by simp)), M.makes, fun f hf => He.noat_ok (fm (f := .noat x f) (List.mem_append_right _ (List.mem_map_of_mem hf)))⟩
  · obtain ⟨ok, ⟨x, hx, hat⟩, hb⟩ := hms j p e
    have hp := List.mem_of_getElem? e
    refine ⟨ok, fun k q z => ?_, ?_⟩
    · have y := List.all_eq_true.mp (List.all_eq_true.mp l5 p hp) _ (List.mem_of_getElem? z)
      simp at y
    · obtain ⟨fd, FD⟩ := def_mem c1 (List.mem_append_right _ (List.mem_append_right _ (List.mem_map_of_mem (f := fun p : MD => p.d) hp)))
      have ic : (clA T K).ic p.c = He.ga K x := by show icE T K p.c = _; unfold icE; rw [hx]
      have mt : (p.c, p.m, p.t.ps) ∈ T.mts := by rw [hm]; exact List.mem_map_of_mem (f := fun p : MD => (p.c, p.m, p.t.ps)) hp
      have Mt := He.meth_ok (fact_mem c1 (f := .meth x p.m) (List.mem_append_right _ (List.mem_append_right _ (List.mem_append_right _ (List.mem_map.mpr ⟨_, mt, by rw [List.getD_eq_getElem?_getD, hx]; rfl⟩)))))
      have fa : He.fAd K p.d.at_ = He.ma K (He.ga K x) p.m := by rw [hat]; rfl
      rw [fa] at FD
      rw [ic]
      obtain ⟨b1, b2⟩ := hb K _ fd FD
      exact ⟨_, fd, Mt, FD, b1, b2⟩
  · have y := List.all_eq_true.mp l6 i hi
    rw [e] at y
    have y2 := List.all_eq_true.mp y _ (List.mem_of_getElem? z)
    simp at y2
/-- the law's first store: the tables of its code objects -/
def sto0 (T : Tbl) : Sto := T.lams.map fun q => .tbl q.2
/-- the law's end: the plain law -/
theorem law_end {l : PySem.W.OpenLaw} {n lv i : Nat} {q : Program} {loose : List Str} {XP : (Str → Option Value) → Heap → Prop} {d : DefRec} {T : Tbl} {cs : List D} {ds : List (TD × He.DefD)} {ms : List MD} {ins : List He.DefD} {p : TD × He.DefD}
    (hn : l.most = some n) (hn2 : n ≤ sizeLine) (hdf : d.params.defaults = []) (tr : l.prog.given.tree = none) (room : Room (4 * (lv + 1) + 34) callerA) (hi : ds[i]? = some p) (hps : p.1.ps = [sScript]) (hnm : d.name = p.1.name) (hll : T.lams.length = T.lnm.length)
    (told : ∀ {K : PySem.W.Frag} {h : Heap} {mg : Str → Option Value}, K.In h → h.Ns mainGlobals mg → SaysE T (faOf T ds) (fnsOf ds ms ins) (T.cns.zip cs) K → Told K mg (clA T K) T cs ds ms (tbs T K) ∧ lamG T K = true ∧ ((tbs T K).map (·.2)).Nodup)
    (plain : ∀ ns : List Int, ns.length ≤ n → ∃ S, fnN (fdsOf ds ms) (T.ecs.map Prod.snd) cs (lv + 1) i [.fl (ns.map .int)] (sto0 T) = .ok (.bl true) S) :
    PySem.W.WalkO q loose XP (hookE T 4 (faOf T ds) (fnsOf ds ms ins) (T.cns.zip cs)).says l.row.toRowW d [] (fun f vs => PySem.call f vs) := by
  refine walkG (x := sScript) hn hn2 hdf (fun _ _ y => let ⟨_, _, _, s, _⟩ := y; s) room fun w mg fa h Y G hmg => ?_
  obtain ⟨K, kin, c, _, htab⟩ := Y
  obtain ⟨TT, lg, nd⟩ := told kin G c
  obtain ⟨f, fd, m1, FD, hq⟩ := TT.fd i p hi
  rw [hnm, m1] at hmg
  cases hmg
  have O := TT.ok i p hi
  have tlen : (tbs T K).length = T.lams.length := by
    rw [hll]
    have : ∀ l : List Str, (∀ k x, l[k]? = some x → ∃ c P, PySem.W.tabIn K x = some (c, P)) → (l.filterMap (PySem.W.tabIn K)).length = l.length := fun l => by
      induction l with
      | nil => intro _; rfl
      | cons x r ih =>
        intro g
        obtain ⟨c, P, e⟩ := g 0 x rfl
        rw [List.filterMap_cons_some e, List.length_cons, List.length_cons, ih fun k y hk => g (k + 1) y (by simpa using hk)]
    exact this _ fun k x e => let ⟨c, P, e1, _⟩ := lam_at lg e; ⟨c, P, e1⟩
  refine ⟨K, fd, spOf K (clA T K) 1 (fnN (fdsOf ds ms) (T.ecs.map Prod.snd) cs (lv + 1) i), tbs T K, kin, fun s u => ?_, ⟨htab, fun p hp => (lam_tb lg hp).2, fun p hp => PySem.W.codeHd_of_K kin (lam_tb lg hp).1⟩, fun H a ns hl hT hS => ?_, fun base _ _ sr hB => ?_⟩
  · have z := FD.bindsA (ps := p.1.ps) O.bind s [u] (by rw [hps]; rfl)
    rw [hps] at z
    exact z
  · obtain ⟨S, e⟩ := plain ns hl
    refine ⟨rfl, (clA T K).b0, [.fl (ns.map .int)], sto0 T, .cons (.fl hS ?_) .nil, ⟨by show ((tbs T K).map (·.2)).length = _; rw [List.length_map, tlen]; unfold sto0; rw [List.length_map], nd, fun k o z => ?_, fun _ _ z => z, Kp.none⟩, ?_⟩
    · clear hl e hS
      induction ns with
      | nil => exact .nil
      | cons z r ih => exact .cons (.int z) ih
    · unfold sto0 at z
      rw [List.getElem?_map] at z
      cases y : T.lams[k]? with
      | none => rw [y] at z; cases z
      | some Nq =>
        rw [y] at z
        cases z
        have hk : k < (tbs T K).length := by rw [tlen]; exact (List.getElem?_eq_some_iff.mp y).1
        refine ⟨((tbs T K)[k]).2, by show ((tbs T K).map (·.2))[k]? = _; rw [List.getElem?_map, List.getElem?_eq_getElem hk]; rfl, #[], hT _ (List.getElem_mem hk), True.intro, fun pos cv hc => ?_⟩
        have z : codeAmong pos [] = some cv := hc
        simp [codeAmong] at z
    · rw [e]
      intro ρ' H' x s v r
      cases r
      rfl
  · have z := fn_step (P := l.prog) (w := w) (base := base) (cl := clA T K) (F := fdsOf ds ms) (i := i) (tower (cl := clA T K) TT hB sr tr lv) sr tr O.chk (by
      have hl := (List.getElem?_eq_some_iff.mp hi).1
      unfold fdsOf
      rw [List.getElem?_append_left (by simpa using hl), List.getElem?_map, hi]
      rfl) FD fun k q e => let ⟨c, P', g1, g2, g3, g4⟩ := hq k q e; ⟨c, P', g1, g2, hB _ g3, g4⟩
    rw [hps] at z
    exact z
end Ev
end
section
set_option Elab.async false
set_option linter.all false
set_option maxRecDepth 100000
set_option maxHeartbeats 0
namespace Tx
open PySem PySem.Spec PyProof.Rows L2 Ev
abbrev P0 : Program := PySem.Challenge.pw_rimseries_k84_undo_refused_deeds_and_twi
def top (i : Nat) : Stmt := P0.main.body.getD i (.Pass ⟨0, 0, 0, 0⟩)
def dd (i : Nat) (x : Str) : He.DefD := ⟨(x, none), x, x, defArgs (top i), defBody (top i), defScope (top i), [], []⟩
def fnE (x : Str) (ps : List Str) : Str × List Str := (x, ps)
def clE (x : Str) (fs : List Str) (up : List Nat) (bup : List String) : Str × Cls := (x, ⟨fs, up, bup⟩)
def T : Tbl := ⟨[
  fnE "_wall" ["k"],
  fnE "is_whole" ["value"],
  fnE "is_frac" ["value"],
  fnE "is_num" ["value"],
  fnE "frac_reduced" ["n", "m"],
  fnE "frac_sum" ["x", "y"],
  fnE "frac_less" ["x", "y"],
  fnE "frac_product" ["x", "y"],
  fnE "frac_over" ["x", "y"],
  fnE "frac_compare" ["x", "y"],
  fnE "num_sum" ["x", "y"],
  fnE "num_less" ["x", "y"],
  fnE "num_negative" ["x"],
  fnE "num_product" ["x", "y"],
  fnE "num_scaled" ["x", "fraction"],
  fnE "num_mirrored" ["x"],
  fnE "num_size" ["x"],
  fnE "num_over" ["x", "y"],
  fnE "num_is_within" ["x"],
  fnE "is_place" ["value"],
  fnE "is_bound" ["value"],
  fnE "count_values" ["data"],
  fnE "places_of" ["data"],
  fnE "first_values" ["data"],
  fnE "series_times" ["one", "other"],
  fnE "series_over" ["top", "under"],
  fnE "filled" ["numbers", "many"],
  fnE "is_below" ["number", "bound"],
  fnE "can_step" ["data", "bound"],
  fnE "turned_values" ["values", "value", "bound"],
  fnE "stepped_values" ["place", "values", "first", "bound"],
  fnE "step_by" ["data", "bound"],
  fnE "knots_and_rest" ["data", "bound"],
  fnE "is_one_number" ["data", "bound"],
  fnE "standing_of" ["data", "bound"],
  fnE "standing_by" ["data", "bound"],
  fnE "check_bound" ["value"],
  fnE "check_place" ["value"],
  fnE "is_a_name" ["value"],
  fnE "wrong_in_values" ["value"],
  fnE "data_of" ["entries"],
  fnE "names_of" ["entries"],
  fnE "entry_changed" ["entries", "name", "values"],
  fnE "entries_without" ["entries", "name"],
  fnE "check_name" ["value"],
  fnE "check_values" ["value"],
  fnE "check_room" ["entries"],
  fnE "_law_well" ["script", "turn"],
  fnE "_law_draw" ["well", "many"],
  fnE "_law_one_of" ["well", "some"],
  fnE "_law_near" ["one", "two"],
  fnE "_law_num" ["a", "b", "d"],
  fnE "_law_part" ["n", "m"],
  fnE "_law_out" ["x"],
  fnE "_law_outs" ["some"],
  fnE "_law_place" ["well"],
  fnE "_law_spots" ["well", "many"],
  fnE "_law_name" ["well", "taken"],
  fnE "_law_said" ["act"],
  fnE "_law_refused" ["rows", "deed"],
  fnE "_law_behind" ["rows", "deed"],
  fnE "_law_deed" ["well", "words", "spots"],
  fnE "_law_act" ["mine", "deed"],
  fnE "_law_shows" ["mine", "rows", "t"],
  fnE "_law_right" ["well"],
  fnE "law" ["script"]],
  ["FRAC_ONE", "NOUGHT", "ONE", "MOST_PLACES", "MOST_AT_ONE", "MOST_VALUES", "MANY", "SOLE", "NONE", "SMALL_LETTERS", "MOST_LETTERS"],
  [(71, 1, ["name"], [0, 1]), (70, 2, ["values"], [0, 1, 2])],
  [clE "RimError" [] [] ["ValueError"], clE "InvalidFraction" ["given"] [0] ["ValueError"], clE "InvalidPlace" ["given"] [0] ["ValueError"], clE "InvalidName" ["given"] [0] ["ValueError"], clE "InvalidValues" ["index"] [0] ["ValueError"], clE "NotNow" [] [0] ["ValueError"], clE "Alike" [] [0] ["ValueError"], clE "TooMany" [] [0] ["ValueError"]],
  ["Book"], ["_bound", "_entries", "_past"],
  [(0, "__init__", ["self", "bound"]), (0, "_lead", ["self", "entries"]), (0, "_look_for", ["self", "name"]), (0, "put", ["self", "name", "place", "values"]), (0, "change", ["self", "name", "values"]), (0, "strike", ["self", "name"]), (0, "undo", ["self"]), (0, "twin", ["self"]), (0, "bound", ["self"]), (0, "entries", ["self"]), (0, "data", ["self"]), (0, "standing", ["self"]), (0, "rank", ["self"]), (0, "the_one", ["self"]), (0, "values_at", ["self", "place"]), (0, "goes_along", ["self", "place", "number"]), (0, "clashes", ["self"]), (0, "idle", ["self"])],
  [(["well", "words", "spots", "turn", "t", "books", "rows", "past", "at", "deed", "due", "k"], "_law_right.<locals>.<lambda>")], [58], ["_law_right"]⟩
abbrev i1 : He.DefD := ⟨("InvalidFraction", some "__init__"), "__init__", "InvalidFraction.__init__", defArgs (inClass (top 51) 0), defBody (inClass (top 51) 0), defScope (inClass (top 51) 0), [], []⟩
abbrev i2 : He.DefD := ⟨("InvalidPlace", some "__init__"), "__init__", "InvalidPlace.__init__", defArgs (inClass (top 52) 0), defBody (inClass (top 52) 0), defScope (inClass (top 52) 0), [], []⟩
abbrev i3 : He.DefD := ⟨("InvalidName", some "__init__"), "__init__", "InvalidName.__init__", defArgs (inClass (top 53) 0), defBody (inClass (top 53) 0), defScope (inClass (top 53) 0), [], []⟩
abbrev i4 : He.DefD := ⟨("InvalidValues", some "__init__"), "__init__", "InvalidValues.__init__", defArgs (inClass (top 54) 0), defBody (inClass (top 54) 0), defScope (inClass (top 54) 0), [], []⟩
def c1 : Cls := ⟨["given"], [0], ["ValueError"]⟩
theorem ini1 : IniOk "InvalidFraction" c1 i1 := ⟨rfl, rfl, scB_ok (by decide +kernel), by decide +kernel, by decide +kernel, fun _ _ _ _ _ _ us hl => match us, hl with | [_, _], _ => rfl⟩
def c2 : Cls := ⟨["given"], [0], ["ValueError"]⟩
theorem ini2 : IniOk "InvalidPlace" c2 i2 := ⟨rfl, rfl, scB_ok (by decide +kernel), by decide +kernel, by decide +kernel, fun _ _ _ _ _ _ us hl => match us, hl with | [_, _], _ => rfl⟩
def c3 : Cls := ⟨["given"], [0], ["ValueError"]⟩
theorem ini3 : IniOk "InvalidName" c3 i3 := ⟨rfl, rfl, scB_ok (by decide +kernel), by decide +kernel, by decide +kernel, fun _ _ _ _ _ _ us hl => match us, hl with | [_, _], _ => rfl⟩
def c4 : Cls := ⟨["index"], [0], ["ValueError"]⟩
theorem ini4 : IniOk "InvalidValues" c4 i4 := ⟨rfl, rfl, scB_ok (by decide +kernel), by decide +kernel, by decide +kernel, fun _ _ _ _ _ _ us hl => match us, hl with | [_, _], _ => rfl⟩
def cs : List D := [
  .tup [(.int 1), (.int 1)],
  .tup [(.tup [(.int 0), (.int 1)]), (.tup [(.int 0), (.int 1)])],
  .tup [(.tup [(.int 1), (.int 1)]), (.tup [(.int 0), (.int 1)])],
  .int 6,
  .int 3,
  .int 6,
  .str [109, 97, 110, 121],
  .str [111, 110, 101],
  .str [110, 111, 110, 101],
  .str [97, 98, 99, 100, 101, 102, 103, 104, 105, 106, 107, 108, 109, 110, 111, 112, 113, 114, 115, 116, 117, 118, 119, 120, 121, 122],
  .int 8]
/-- _wall(k) -/
def b0 : Ss := .cons (.whl (.cst (.bl true)) (.cons .pas .nil)) .nil
def t0 : TD := ⟨"_wall", ["k"], ["k"], ⟨1, 1, b0⟩⟩
abbrev d0 : He.DefD := dd 1 "_wall"
/-- is_whole(value) -/
def b1 : Ss := .cons (.ret (.and (.bi (.isin .int) (.cons (.var 0) .nil)) (.not (.bi (.isin .bool) (.cons (.var 0) .nil))))) .nil
def t1 : TD := ⟨"is_whole", ["value"], ["value"], ⟨1, 1, b1⟩⟩
abbrev d1 : He.DefD := dd 6 "is_whole"
/-- is_frac(value) -/
def b2 : Ss := .cons (.ite (.or (.not (.bi (.isin .tuple) (.cons (.var 0) .nil))) (.or (.cmp .ne (.bi .len (.cons (.var 0) .nil)) (.cst (.int 2))) (.or (.not (.call 1 (.cons (.ix (.var 0) (.cst (.int 0))) .nil))) (.not (.call 1 (.cons (.ix (.var 0) (.cst (.int 1))) .nil)))))) (.cons (.ret (.cst (.bl false))) .nil) .nil) (.cons (.ret (.and (.cmp .gt (.ix (.var 0) (.cst (.int 1))) (.cst (.int 0))) (.cmp .eq (.bi .gcd (.cons (.ix (.var 0) (.cst (.int 0))) (.cons (.ix (.var 0) (.cst (.int 1))) .nil))) (.cst (.int 1))))) .nil)
def t2 : TD := ⟨"is_frac", ["value"], ["value"], ⟨1, 1, b2⟩⟩
abbrev d2 : He.DefD := dd 7 "is_frac"
/-- is_num(value) -/
def b3 : Ss := .cons (.ret (.and (.bi (.isin .tuple) (.cons (.var 0) .nil)) (.and (.cmp .eq (.bi .len (.cons (.var 0) .nil)) (.cst (.int 2))) (.and (.call 2 (.cons (.ix (.var 0) (.cst (.int 0))) .nil)) (.call 2 (.cons (.ix (.var 0) (.cst (.int 1))) .nil)))))) .nil
def t3 : TD := ⟨"is_num", ["value"], ["value"], ⟨1, 1, b3⟩⟩
abbrev d3 : He.DefD := dd 8 "is_num"
/-- frac_reduced(n, m) -/
def b4 : Ss := .cons (.asg (.nm 2) (.ite (.cmp .gt (.var 1) (.cst (.int 0))) (.bi .gcd (.cons (.var 0) (.cons (.var 1) .nil))) (.neg (.bi .gcd (.cons (.var 0) (.cons (.var 1) .nil)))))) (.cons (.ret (.tup (.cons (.bin .fdiv (.var 0) (.var 2)) (.cons (.bin .fdiv (.var 1) (.var 2)) .nil)))) .nil)
def t4 : TD := ⟨"frac_reduced", ["n", "m"], ["n", "m", "divisor"], ⟨2, 3, b4⟩⟩
abbrev d4 : He.DefD := dd 9 "frac_reduced"
/-- frac_sum(x, y) -/
def b5 : Ss := .cons (.ret (.call 4 (.cons (.bin .add (.bin .mul (.ix (.var 0) (.cst (.int 0))) (.ix (.var 1) (.cst (.int 1)))) (.bin .mul (.ix (.var 1) (.cst (.int 0))) (.ix (.var 0) (.cst (.int 1))))) (.cons (.bin .mul (.ix (.var 0) (.cst (.int 1))) (.ix (.var 1) (.cst (.int 1)))) .nil)))) .nil
def t5 : TD := ⟨"frac_sum", ["x", "y"], ["x", "y"], ⟨2, 2, b5⟩⟩
abbrev d5 : He.DefD := dd 10 "frac_sum"
/-- frac_less(x, y) -/
def b6 : Ss := .cons (.ret (.call 4 (.cons (.bin .sub (.bin .mul (.ix (.var 0) (.cst (.int 0))) (.ix (.var 1) (.cst (.int 1)))) (.bin .mul (.ix (.var 1) (.cst (.int 0))) (.ix (.var 0) (.cst (.int 1))))) (.cons (.bin .mul (.ix (.var 0) (.cst (.int 1))) (.ix (.var 1) (.cst (.int 1)))) .nil)))) .nil
def t6 : TD := ⟨"frac_less", ["x", "y"], ["x", "y"], ⟨2, 2, b6⟩⟩
abbrev d6 : He.DefD := dd 11 "frac_less"
/-- frac_product(x, y) -/
def b7 : Ss := .cons (.ret (.call 4 (.cons (.bin .mul (.ix (.var 0) (.cst (.int 0))) (.ix (.var 1) (.cst (.int 0)))) (.cons (.bin .mul (.ix (.var 0) (.cst (.int 1))) (.ix (.var 1) (.cst (.int 1)))) .nil)))) .nil
def t7 : TD := ⟨"frac_product", ["x", "y"], ["x", "y"], ⟨2, 2, b7⟩⟩
abbrev d7 : He.DefD := dd 12 "frac_product"
/-- frac_over(x, y) -/
def b8 : Ss := .cons (.ret (.call 4 (.cons (.bin .mul (.ix (.var 0) (.cst (.int 0))) (.ix (.var 1) (.cst (.int 1)))) (.cons (.bin .mul (.ix (.var 0) (.cst (.int 1))) (.ix (.var 1) (.cst (.int 0)))) .nil)))) .nil
def t8 : TD := ⟨"frac_over", ["x", "y"], ["x", "y"], ⟨2, 2, b8⟩⟩
abbrev d8 : He.DefD := dd 13 "frac_over"
/-- frac_compare(x, y) -/
def b9 : Ss := .cons (.asg (.nm 2) (.bin .sub (.bin .mul (.ix (.var 0) (.cst (.int 0))) (.ix (.var 1) (.cst (.int 1)))) (.bin .mul (.ix (.var 1) (.cst (.int 0))) (.ix (.var 0) (.cst (.int 1)))))) (.cons (.ret (.bin .sub (.cmp .gt (.var 2) (.cst (.int 0))) (.cmp .lt (.var 2) (.cst (.int 0))))) .nil)
def t9 : TD := ⟨"frac_compare", ["x", "y"], ["x", "y", "many"], ⟨2, 3, b9⟩⟩
abbrev d9 : He.DefD := dd 14 "frac_compare"
/-- num_sum(x, y) -/
def b10 : Ss := .cons (.ret (.tup (.cons (.call 5 (.cons (.ix (.var 0) (.cst (.int 0))) (.cons (.ix (.var 1) (.cst (.int 0))) .nil))) (.cons (.call 5 (.cons (.ix (.var 0) (.cst (.int 1))) (.cons (.ix (.var 1) (.cst (.int 1))) .nil))) .nil)))) .nil
def t10 : TD := ⟨"num_sum", ["x", "y"], ["x", "y"], ⟨2, 2, b10⟩⟩
abbrev d10 : He.DefD := dd 15 "num_sum"
/-- num_less(x, y) -/
def b11 : Ss := .cons (.ret (.tup (.cons (.call 6 (.cons (.ix (.var 0) (.cst (.int 0))) (.cons (.ix (.var 1) (.cst (.int 0))) .nil))) (.cons (.call 6 (.cons (.ix (.var 0) (.cst (.int 1))) (.cons (.ix (.var 1) (.cst (.int 1))) .nil))) .nil)))) .nil
def t11 : TD := ⟨"num_less", ["x", "y"], ["x", "y"], ⟨2, 2, b11⟩⟩
abbrev d11 : He.DefD := dd 16 "num_less"
/-- num_negative(x) -/
def b12 : Ss := .cons (.ret (.tup (.cons (.tup (.cons (.neg (.ix (.ix (.var 0) (.cst (.int 0))) (.cst (.int 0)))) (.cons (.ix (.ix (.var 0) (.cst (.int 0))) (.cst (.int 1))) .nil))) (.cons (.tup (.cons (.neg (.ix (.ix (.var 0) (.cst (.int 1))) (.cst (.int 0)))) (.cons (.ix (.ix (.var 0) (.cst (.int 1))) (.cst (.int 1))) .nil))) .nil)))) .nil
def t12 : TD := ⟨"num_negative", ["x"], ["x"], ⟨1, 1, b12⟩⟩
abbrev d12 : He.DefD := dd 17 "num_negative"
/-- num_product(x, y) -/
def b13 : Ss := .cons (.asg (.tup [.tup [.nm 2, .nm 3], .tup [.nm 4, .nm 5]]) (.var 0)) (.cons (.asg (.tup [.tup [.nm 6, .nm 7], .tup [.nm 8, .nm 9]]) (.var 1)) (.cons (.asg (.nm 10) (.bin .mul (.bin .mul (.bin .mul (.var 3) (.var 5)) (.var 7)) (.var 9))) (.cons (.ret (.tup (.cons (.call 4 (.cons (.bin .sub (.bin .mul (.bin .mul (.bin .mul (.var 2) (.var 6)) (.var 5)) (.var 9)) (.bin .mul (.bin .mul (.bin .mul (.var 4) (.var 8)) (.var 3)) (.var 7))) (.cons (.var 10) .nil))) (.cons (.call 4 (.cons (.bin .add (.bin .mul (.bin .mul (.bin .mul (.var 2) (.var 8)) (.var 5)) (.var 7)) (.bin .mul (.bin .mul (.bin .mul (.var 4) (.var 6)) (.var 3)) (.var 9))) (.cons (.var 10) .nil))) .nil)))) .nil)))
def t13 : TD := ⟨"num_product", ["x", "y"], ["x", "y", "a", "b", "c", "d", "p", "q", "r", "s", "under"], ⟨2, 11, b13⟩⟩
abbrev d13 : He.DefD := dd 18 "num_product"
/-- num_scaled(x, fraction) -/
def b14 : Ss := .cons (.ret (.tup (.cons (.call 7 (.cons (.ix (.var 0) (.cst (.int 0))) (.cons (.var 1) .nil))) (.cons (.call 7 (.cons (.ix (.var 0) (.cst (.int 1))) (.cons (.var 1) .nil))) .nil)))) .nil
def t14 : TD := ⟨"num_scaled", ["x", "fraction"], ["x", "fraction"], ⟨2, 2, b14⟩⟩
abbrev d14 : He.DefD := dd 19 "num_scaled"
/-- num_mirrored(x) -/
def b15 : Ss := .cons (.ret (.tup (.cons (.ix (.var 0) (.cst (.int 0))) (.cons (.tup (.cons (.neg (.ix (.ix (.var 0) (.cst (.int 1))) (.cst (.int 0)))) (.cons (.ix (.ix (.var 0) (.cst (.int 1))) (.cst (.int 1))) .nil))) .nil)))) .nil
def t15 : TD := ⟨"num_mirrored", ["x"], ["x"], ⟨1, 1, b15⟩⟩
abbrev d15 : He.DefD := dd 20 "num_mirrored"
/-- num_size(x) -/
def b16 : Ss := .cons (.asg (.tup [.tup [.nm 1, .nm 2], .tup [.nm 3, .nm 4]]) (.var 0)) (.cons (.ret (.call 4 (.cons (.bin .add (.bin .mul (.bin .mul (.bin .mul (.var 1) (.var 1)) (.var 4)) (.var 4)) (.bin .mul (.bin .mul (.bin .mul (.var 3) (.var 3)) (.var 2)) (.var 2))) (.cons (.bin .mul (.bin .mul (.bin .mul (.var 2) (.var 2)) (.var 4)) (.var 4)) .nil)))) .nil)
def t16 : TD := ⟨"num_size", ["x"], ["x", "a", "b", "c", "d"], ⟨1, 5, b16⟩⟩
abbrev d16 : He.DefD := dd 21 "num_size"
/-- num_over(x, y) -/
def b17 : Ss := .cons (.ret (.call 14 (.cons (.call 13 (.cons (.var 0) (.cons (.call 15 (.cons (.var 1) .nil)) .nil))) (.cons (.call 8 (.cons (.glb 0) (.cons (.call 16 (.cons (.var 1) .nil)) .nil))) .nil)))) .nil
def t17 : TD := ⟨"num_over", ["x", "y"], ["x", "y"], ⟨2, 2, b17⟩⟩
abbrev d17 : He.DefD := dd 22 "num_over"
/-- num_is_within(x) -/
def b18 : Ss := .cons (.asg (.nm 1) (.call 16 (.cons (.var 0) .nil))) (.cons (.ret (.cmp .lt (.ix (.var 1) (.cst (.int 0))) (.ix (.var 1) (.cst (.int 1))))) .nil)
def t18 : TD := ⟨"num_is_within", ["x"], ["x", "size"], ⟨1, 2, b18⟩⟩
abbrev d18 : He.DefD := dd 23 "num_is_within"
/-- is_place(value) -/
def b19 : Ss := .cons (.ret (.and (.call 3 (.cons (.var 0) .nil)) (.call 18 (.cons (.var 0) .nil)))) .nil
def t19 : TD := ⟨"is_place", ["value"], ["value"], ⟨1, 1, b19⟩⟩
abbrev d19 : He.DefD := dd 24 "is_place"
/-- is_bound(value) -/
def b20 : Ss := .cons (.ret (.and (.call 2 (.cons (.var 0) .nil)) (.cmp .gt (.ix (.var 0) (.cst (.int 0))) (.cst (.int 0))))) .nil
def t20 : TD := ⟨"is_bound", ["value"], ["value"], ⟨1, 1, b20⟩⟩
abbrev d20 : He.DefD := dd 25 "is_bound"
/-- count_values(data) -/
def b21 : Ss := .cons (.ret (.bi .sum (.cons (.lc [("_", 1), ("values", 2)] (.bi .len (.cons (.var 2) .nil)) (.tup [.nm 1, .nm 2]) (.seq (.var 0)) .none) .nil))) .nil
def t21 : TD := ⟨"count_values", ["data"], ["data", "_", "values"], ⟨1, 3, b21⟩⟩
abbrev d21 : He.DefD := dd 30 "count_values"
/-- places_of(data) -/
def b22 : Ss := .cons (.ret (.lc [("place", 1), ("_", 2)] (.var 1) (.tup [.nm 1, .nm 2]) (.seq (.var 0)) .none)) .nil
def t22 : TD := ⟨"places_of", ["data"], ["data", "place", "_"], ⟨1, 3, b22⟩⟩
abbrev d22 : He.DefD := dd 31 "places_of"
/-- first_values(data) -/
def b23 : Ss := .cons (.ret (.lc [("_", 1), ("values", 2)] (.ix (.var 2) (.cst (.int 0))) (.tup [.nm 1, .nm 2]) (.seq (.var 0)) .none)) .nil
def t23 : TD := ⟨"first_values", ["data"], ["data", "_", "values"], ⟨1, 3, b23⟩⟩
abbrev d23 : He.DefD := dd 32 "first_values"
/-- series_times(one, other) -/
def b24 : Ss := .cons (.asg (.nm 2) (.lst .nil)) (.cons (.for (.nm 3) (.rng1 (.bi .len (.cons (.var 0) .nil))) (.cons (.asg (.nm 4) (.glb 1)) (.cons (.for (.nm 5) (.rng1 (.bin .add (.var 3) (.cst (.int 1)))) (.cons (.asg (.nm 4) (.call 10 (.cons (.var 4) (.cons (.call 13 (.cons (.ix (.var 0) (.var 5)) (.cons (.ix (.var 1) (.bin .sub (.var 3) (.var 5))) .nil))) .nil)))) .nil)) (.cons (.exp (.mt .append (.var 2) (.cons (.var 4) .nil))) .nil)))) (.cons (.ret (.bi .tuple (.cons (.var 2) .nil))) .nil))
def t24 : TD := ⟨"series_times", ["one", "other"], ["one", "other", "found", "at", "total", "by"], ⟨2, 6, b24⟩⟩
abbrev d24 : He.DefD := dd 37 "series_times"
/-- series_over(top, under) -/
def b25 : Ss := .cons (.asg (.nm 2) (.lst .nil)) (.cons (.for (.nm 3) (.rng1 (.bi .len (.cons (.var 0) .nil))) (.cons (.asg (.nm 4) (.ix (.var 0) (.var 3))) (.cons (.for (.nm 5) (.rng1 (.var 3)) (.cons (.asg (.nm 4) (.call 11 (.cons (.var 4) (.cons (.call 13 (.cons (.ix (.var 2) (.var 5)) (.cons (.ix (.var 1) (.bin .sub (.var 3) (.var 5))) .nil))) .nil)))) .nil)) (.cons (.exp (.mt .append (.var 2) (.cons (.call 17 (.cons (.var 4) (.cons (.ix (.var 1) (.cst (.int 0))) .nil))) .nil))) .nil)))) (.cons (.ret (.bi .tuple (.cons (.var 2) .nil))) .nil))
def t25 : TD := ⟨"series_over", ["top", "under"], ["top", "under", "found", "at", "left", "by"], ⟨2, 6, b25⟩⟩
abbrev d25 : He.DefD := dd 38 "series_over"
/-- filled(numbers, many) -/
def b26 : Ss := .cons (.ret (.bi .tuple (.cons (.lc [("at", 2)] (.ite (.cmp .lt (.var 2) (.bi .len (.cons (.var 0) .nil))) (.ix (.var 0) (.var 2)) (.glb 1)) (.nm 2) (.rng1 (.var 1)) .none) .nil))) .nil
def t26 : TD := ⟨"filled", ["numbers", "many"], ["numbers", "many", "at"], ⟨2, 3, b26⟩⟩
abbrev d26 : He.DefD := dd 39 "filled"
/-- is_below(number, bound) -/
def b27 : Ss := .cons (.ret (.cmp .lt (.call 9 (.cons (.call 16 (.cons (.var 0) .nil)) (.cons (.var 1) .nil))) (.cst (.int 0)))) .nil
def t27 : TD := ⟨"is_below", ["number", "bound"], ["number", "bound"], ⟨2, 2, b27⟩⟩
abbrev d27 : He.DefD := dd 40 "is_below"
/-- can_step(data, bound) -/
def b28 : Ss := .cons (.ret (.and (.cmp .ne (.var 0) (.tup .nil)) (.bi .all (.cons (.lc [("each", 2)] (.call 27 (.cons (.var 2) (.cons (.var 1) .nil))) (.nm 2) (.seq (.call 23 (.cons (.var 0) .nil))) .none) .nil)))) .nil
def t28 : TD := ⟨"can_step", ["data", "bound"], ["data", "bound", "each"], ⟨2, 3, b28⟩⟩
abbrev d28 : He.DefD := dd 41 "can_step"
/-- turned_values(values, value, bound) -/
def b29 : Ss := .cons (.asg (.nm 3) (.call 14 (.cons (.call 15 (.cons (.var 1) .nil)) (.cons (.call 8 (.cons (.glb 0) (.cons (.var 2) .nil))) .nil)))) (.cons (.asg (.nm 4) (.tup (.cons (.call 11 (.cons (.ix (.var 0) (.cst (.int 0))) (.cons (.var 1) .nil))) (.star (.sl (.var 0) (.some (.cst (.int 1))) .none) .nil)))) (.cons (.asg (.nm 5) (.lc [("each", 6)] (.call 12 (.cons (.call 13 (.cons (.var 3) (.cons (.var 6) .nil))) .nil)) (.nm 6) (.seq (.var 0)) .none)) (.cons (.asg (.sub (.var 5) (.cst (.int 0))) (.call 10 (.cons (.glb 2) (.cons (.ix (.var 5) (.cst (.int 0))) .nil)))) (.cons (.ret (.call 25 (.cons (.var 4) (.cons (.bi .tuple (.cons (.var 5) .nil)) .nil)))) .nil))))
def t29 : TD := ⟨"turned_values", ["values", "value", "bound"], ["values", "value", "bound", "back", "top", "under", "each"], ⟨3, 7, b29⟩⟩
abbrev d29 : He.DefD := dd 42 "turned_values"
/-- stepped_values(place, values, first, bound) -/
def b30 : Ss := .cons (.asg (.nm 4) (.call 29 (.cons (.var 1) (.cons (.ix (.var 2) (.cst (.int 1))) (.cons (.var 3) .nil))))) (.cons (.asg (.nm 5) (.call 15 (.cons (.ix (.var 2) (.cst (.int 0))) .nil))) (.cons (.asg (.nm 6) (.tup (.cons (.call 11 (.cons (.glb 2) (.cons (.call 13 (.cons (.var 5) (.cons (.var 0) .nil))) .nil))) (.cons (.call 12 (.cons (.var 5) .nil)) .nil)))) (.cons (.ite (.cmp .eq (.var 0) (.ix (.var 2) (.cst (.int 0)))) (.cons (.ret (.call 24 (.cons (.sl (.var 4) (.some (.cst (.int 1))) .none) (.cons (.call 26 (.cons (.var 6) (.cons (.bin .sub (.bi .len (.cons (.var 1) .nil)) (.cst (.int 1))) .nil))) .nil)))) .nil) .nil) (.cons (.asg (.nm 7) (.call 24 (.cons (.var 4) (.cons (.call 26 (.cons (.var 6) (.cons (.bi .len (.cons (.var 1) .nil)) .nil))) .nil)))) (.cons (.ret (.call 25 (.cons (.var 7) (.cons (.call 26 (.cons (.tup (.cons (.call 11 (.cons (.var 0) (.cons (.ix (.var 2) (.cst (.int 0))) .nil))) (.cons (.glb 2) .nil))) (.cons (.bi .len (.cons (.var 1) .nil)) .nil))) .nil)))) .nil)))))
def t30 : TD := ⟨"stepped_values", ["place", "values", "first", "bound"], ["place", "values", "first", "bound", "turned", "back", "factor", "top"], ⟨4, 8, b30⟩⟩
abbrev d30 : He.DefD := dd 43 "stepped_values"
/-- step_by(data, bound) -/
def b31 : Ss := .cons (.asg (.nm 2) (.tup (.cons (.ix (.ix (.var 0) (.cst (.int 0))) (.cst (.int 0))) (.cons (.ix (.ix (.ix (.var 0) (.cst (.int 0))) (.cst (.int 1))) (.cst (.int 0))) .nil)))) (.cons (.asg (.nm 3) (.lc [("place", 4), ("values", 5)] (.tup (.cons (.var 4) (.cons (.call 30 (.cons (.var 4) (.cons (.var 5) (.cons (.var 2) (.cons (.var 1) .nil))))) .nil))) (.tup [.nm 4, .nm 5]) (.seq (.var 0)) .none)) (.cons (.ret (.bi .tuple (.cons (.lc [("pair", 6)] (.var 6) (.nm 6) (.seq (.var 3)) (.some (.cmp .ne (.ix (.var 6) (.cst (.int 1))) (.tup .nil)))) .nil))) .nil))
def t31 : TD := ⟨"step_by", ["data", "bound"], ["data", "bound", "first", "found", "place", "values", "pair"], ⟨2, 7, b31⟩⟩
abbrev d31 : He.DefD := dd 44 "step_by"
/-- knots_and_rest(data, bound) -/
def b32 : Ss := .cons (.asg (.nm 2) (.lst .nil)) (.cons (.whl (.call 28 (.cons (.var 0) (.cons (.var 1) .nil))) (.cons (.exp (.mt .append (.var 2) (.cons (.tup (.cons (.ix (.ix (.var 0) (.cst (.int 0))) (.cst (.int 0))) (.cons (.ix (.ix (.ix (.var 0) (.cst (.int 0))) (.cst (.int 1))) (.cst (.int 0))) .nil))) .nil))) (.cons (.asg (.nm 0) (.call 31 (.cons (.var 0) (.cons (.var 1) .nil)))) .nil))) (.cons (.ret (.tup (.cons (.bi .tuple (.cons (.var 2) .nil)) (.cons (.var 0) .nil)))) .nil))
def t32 : TD := ⟨"knots_and_rest", ["data", "bound"], ["data", "bound", "found"], ⟨2, 3, b32⟩⟩
abbrev d32 : He.DefD := dd 45 "knots_and_rest"
/-- is_one_number(data, bound) -/
def b33 : Ss := .cons (.asg (.nm 2) (.ix (.ix (.ix (.var 0) (.cst (.int 0))) (.cst (.int 1))) (.cst (.int 0)))) (.cons (.ite (.cmp .ne (.call 9 (.cons (.call 16 (.cons (.var 2) .nil)) (.cons (.var 1) .nil))) (.cst (.int 0))) (.cons (.ret (.cst (.bl false))) .nil) .nil) (.cons (.ret (.bi .all (.cons (.lc [("_", 3), ("values", 4)] (.cmp .eq (.var 4) (.call 26 (.cons (.tup (.cons (.var 2) .nil)) (.cons (.bi .len (.cons (.var 4) .nil)) .nil)))) (.tup [.nm 3, .nm 4]) (.seq (.var 0)) .none) .nil))) .nil))
def t33 : TD := ⟨"is_one_number", ["data", "bound"], ["data", "bound", "first", "_", "values"], ⟨2, 5, b33⟩⟩
abbrev d33 : He.DefD := dd 46 "is_one_number"
/-- standing_of(data, bound) -/
def b34 : Ss := .cons (.ite (.cmp .eq (.var 0) (.tup .nil)) (.cons (.ret (.glb 6)) .nil) .nil) (.cons (.ret (.ite (.call 33 (.cons (.var 0) (.cons (.var 1) .nil))) (.glb 7) (.glb 8))) .nil)
def t34 : TD := ⟨"standing_of", ["data", "bound"], ["data", "bound"], ⟨2, 2, b34⟩⟩
abbrev d34 : He.DefD := dd 47 "standing_of"
/-- standing_by(data, bound) -/
def b35 : Ss := .cons (.ret (.call 34 (.cons (.ix (.call 32 (.cons (.var 0) (.cons (.var 1) .nil))) (.cst (.int 1))) (.cons (.var 1) .nil)))) .nil
def t35 : TD := ⟨"standing_by", ["data", "bound"], ["data", "bound"], ⟨2, 2, b35⟩⟩
abbrev d35 : He.DefD := dd 48 "standing_by"
/-- check_bound(value) -/
def b36 : Ss := .cons (.ite (.not (.call 20 (.cons (.var 0) .nil))) (.cons (.rai 1 (.cons (.var 0) .nil)) .nil) .nil) .nil
def t36 : TD := ⟨"check_bound", ["value"], ["value"], ⟨1, 1, b36⟩⟩
abbrev d36 : He.DefD := dd 59 "check_bound"
/-- check_place(value) -/
def b37 : Ss := .cons (.ite (.not (.call 19 (.cons (.var 0) .nil))) (.cons (.rai 2 (.cons (.var 0) .nil)) .nil) .nil) .nil
def t37 : TD := ⟨"check_place", ["value"], ["value"], ⟨1, 1, b37⟩⟩
abbrev d37 : He.DefD := dd 60 "check_place"
/-- is_a_name(value) -/
def b38 : Ss := .cons (.ite (.or (.not (.bi (.isin .str) (.cons (.var 0) .nil))) (.not (.chain .le .le (.cst (.int 1)) (.bi .len (.cons (.var 0) .nil)) (.glb 10)))) (.cons (.ret (.cst (.bl false))) .nil) .nil) (.cons (.ret (.bi .all (.cons (.lc [("sign", 1)] (.cmp .isin (.var 1) (.glb 9)) (.nm 1) (.seq (.var 0)) .none) .nil))) .nil)
def t38 : TD := ⟨"is_a_name", ["value"], ["value", "sign"], ⟨1, 2, b38⟩⟩
abbrev d38 : He.DefD := dd 64 "is_a_name"
/-- wrong_in_values(value) -/
def b39 : Ss := .cons (.ite (.or (.not (.bi (.isin .tuple) (.cons (.var 0) .nil))) (.not (.chain .le .le (.cst (.int 1)) (.bi .len (.cons (.var 0) .nil)) (.glb 4)))) (.cons (.ret (.lst (.cons (.cst .non) .nil))) .nil) .nil) (.cons (.ret (.sl (.lc [("at", 1), ("each", 2)] (.var 1) (.tup [.nm 1, .nm 2]) (.enum (.var 0)) (.some (.not (.call 3 (.cons (.var 2) .nil))))) .none (.some (.cst (.int 1))))) .nil)
def t39 : TD := ⟨"wrong_in_values", ["value"], ["value", "at", "each"], ⟨1, 3, b39⟩⟩
abbrev d39 : He.DefD := dd 65 "wrong_in_values"
/-- data_of(entries) -/
def b40 : Ss := .cons (.ret (.bi .tuple (.cons (.lc [("_", 1), ("place", 2), ("values", 3)] (.tup (.cons (.var 2) (.cons (.var 3) .nil))) (.tup [.nm 1, .nm 2, .nm 3]) (.seq (.var 0)) .none) .nil))) .nil
def t40 : TD := ⟨"data_of", ["entries"], ["entries", "_", "place", "values"], ⟨1, 4, b40⟩⟩
abbrev d40 : He.DefD := dd 66 "data_of"
/-- names_of(entries) -/
def b41 : Ss := .cons (.ret (.bi .tuple (.cons (.lc [("name", 1), ("_", 2)] (.var 1) (.tup [.nm 1, .nm 2, .nm 2]) (.seq (.var 0)) .none) .nil))) .nil
def t41 : TD := ⟨"names_of", ["entries"], ["entries", "name", "_"], ⟨1, 3, b41⟩⟩
abbrev d41 : He.DefD := dd 67 "names_of"
/-- entry_changed(entries, name, values) -/
def b42 : Ss := .cons (.ret (.bi .tuple (.cons (.lc [("each", 3), ("place", 4), ("old", 5)] (.tup (.cons (.var 3) (.cons (.var 4) (.cons (.ite (.cmp .eq (.var 3) (.var 1)) (.var 2) (.var 5)) .nil)))) (.tup [.nm 3, .nm 4, .nm 5]) (.seq (.var 0)) .none) .nil))) .nil
def t42 : TD := ⟨"entry_changed", ["entries", "name", "values"], ["entries", "name", "values", "each", "place", "old"], ⟨3, 6, b42⟩⟩
abbrev d42 : He.DefD := dd 68 "entry_changed"
/-- entries_without(entries, name) -/
def b43 : Ss := .cons (.ret (.bi .tuple (.cons (.lc [("entry", 2)] (.var 2) (.nm 2) (.seq (.var 0)) (.some (.cmp .ne (.ix (.var 2) (.cst (.int 0))) (.var 1)))) .nil))) .nil
def t43 : TD := ⟨"entries_without", ["entries", "name"], ["entries", "name", "entry"], ⟨2, 3, b43⟩⟩
abbrev d43 : He.DefD := dd 69 "entries_without"
/-- check_name(value) -/
def b44 : Ss := .cons (.ite (.not (.call 38 (.cons (.var 0) .nil))) (.cons (.rai 3 (.cons (.var 0) .nil)) .nil) .nil) .nil
def t44 : TD := ⟨"check_name", ["value"], ["value"], ⟨1, 1, b44⟩⟩
abbrev d44 : He.DefD := dd 71 "check_name"
/-- check_values(value) -/
def b45 : Ss := .cons (.for (.nm 1) (.seq (.call 39 (.cons (.var 0) .nil))) (.cons (.rai 4 (.cons (.var 1) .nil)) .nil)) .nil
def t45 : TD := ⟨"check_values", ["value"], ["value", "index"], ⟨1, 2, b45⟩⟩
abbrev d45 : He.DefD := dd 72 "check_values"
/-- check_room(entries) -/
def b46 : Ss := .cons (.ite (.or (.cmp .gt (.bi .len (.cons (.var 0) .nil)) (.glb 3)) (.cmp .gt (.call 21 (.cons (.call 40 (.cons (.var 0) .nil)) .nil)) (.glb 5))) (.cons (.rai 7 .nil) .nil) .nil) .nil
def t46 : TD := ⟨"check_room", ["entries"], ["entries"], ⟨1, 1, b46⟩⟩
abbrev d46 : He.DefD := dd 73 "check_room"
/-- _law_well(script, turn) -/
def b47 : Ss := .cons (.asg (.nm 2) (.ite (.cmp .lt (.var 1) (.bi .len (.cons (.var 0) .nil))) (.bi .int (.cons (.ix (.var 0) (.var 1)) .nil)) (.cst (.int 0)))) (.cons (.asg (.nm 3) (.bin .add (.cst (.int 90001)) (.bin .mul (.cst (.int 7211)) (.var 1)))) (.cons (.for (.nm 4) (.seq (.bin .add (.sl (.var 0) .none (.some (.cst (.int 9)))) (.lst (.cons (.var 2) .nil)))) (.cons (.asg (.nm 3) (.bin .mod (.bi .int (.cons (.bin .add (.bin .add (.bin .mul (.var 3) (.cst (.int 69621))) (.bin .mul (.bin .mod (.bi .int (.cons (.var 4) .nil)) (.cst (.int 1000000009))) (.cst (.int 31)))) (.cst (.int 12347))) .nil)) (.cst (.int 2147483629)))) .nil)) (.cons (.ret (.lst (.cons (.ite (.cmp .ge (.bi .abs (.cons (.var 2) .nil)) (.bin .pow (.cst (.int 10)) (.cst (.int 18)))) (.bi .abs (.cons (.var 2) .nil)) (.cst (.int 0))) (.cons (.var 3) (.cons (.cst (.int 0)) .nil))))) .nil)))
def t47 : TD := ⟨"_law_well", ["script", "turn"], ["script", "turn", "own", "stir", "cell"], ⟨2, 5, b47⟩⟩
abbrev d47 : He.DefD := dd 76 "_law_well"
/-- _law_draw(well, many) -/
def b48 : Ss := .cons (.ite (.cmp .gt (.ix (.var 0) (.cst (.int 0))) (.cst (.int 0))) (.cons (.asg (.tup [.sub (.var 0) (.cst (.int 0)), .nm 2]) (.bi .divmod (.cons (.ix (.var 0) (.cst (.int 0))) (.cons (.var 1) .nil)))) (.cons (.ret (.var 2)) .nil)) .nil) (.cons (.asg (.sub (.var 0) (.cst (.int 2))) (.bin .add (.ix (.var 0) (.cst (.int 2))) (.cst (.int 1)))) (.cons (.asg (.sub (.var 0) (.cst (.int 1))) (.bin .mod (.bi .int (.cons (.bin .add (.bin .add (.bin .mul (.ix (.var 0) (.cst (.int 1))) (.cst (.int 48271))) (.bin .mul (.cst (.int 70003)) (.ix (.var 0) (.cst (.int 2))))) (.cst (.int 11))) .nil)) (.cst (.int 2147483629)))) (.cons (.ret (.bin .mod (.bi .int (.cons (.bin .fdiv (.ix (.var 0) (.cst (.int 1))) (.cst (.int 211))) .nil)) (.var 1))) .nil)))
def t48 : TD := ⟨"_law_draw", ["well", "many"], ["well", "many", "digit"], ⟨2, 3, b48⟩⟩
abbrev d48 : He.DefD := dd 77 "_law_draw"
/-- _law_one_of(well, some) -/
def b49 : Ss := .cons (.ret (.ix (.var 1) (.call 48 (.cons (.var 0) (.cons (.bi .len (.cons (.var 1) .nil)) .nil))))) .nil
def t49 : TD := ⟨"_law_one_of", ["well", "some"], ["well", "some"], ⟨2, 2, b49⟩⟩
abbrev d49 : He.DefD := dd 78 "_law_one_of"
/-- _law_near(one, two) -/
def b50 : Ss := .cons (.whl (.cmp .gt (.var 1) (.cst (.int 0))) (.cons (.par [0, 1] (.cons (.var 1) (.cons (.bin .mod (.bi .int (.cons (.var 0) .nil)) (.var 1)) .nil))) .nil)) (.cons (.ret (.var 0)) .nil)
def t50 : TD := ⟨"_law_near", ["one", "two"], ["one", "two"], ⟨2, 2, b50⟩⟩
abbrev d50 : He.DefD := dd 79 "_law_near"
/-- _law_num(a, b, d) -/
def b51 : Ss := .cons (.asg (.nm 3) (.ite (.cmp .gt (.var 2) (.cst (.int 1))) (.call 50 (.cons (.call 50 (.cons (.bi .abs (.cons (.var 0) .nil)) (.cons (.bi .abs (.cons (.var 1) .nil)) .nil))) (.cons (.var 2) .nil))) (.cst (.int 1)))) (.cons (.ret (.tup (.cons (.bin .fdiv (.var 0) (.var 3)) (.cons (.bin .fdiv (.var 1) (.var 3)) (.cons (.bin .fdiv (.var 2) (.var 3)) .nil))))) .nil)
def t51 : TD := ⟨"_law_num", ["a", "b", "d"], ["a", "b", "d", "g"], ⟨3, 4, b51⟩⟩
abbrev d51 : He.DefD := dd 80 "_law_num"
/-- _law_part(n, m) -/
def b52 : Ss := .cons (.asg (.nm 2) (.call 50 (.cons (.bi .abs (.cons (.var 0) .nil)) (.cons (.var 1) .nil)))) (.cons (.ret (.tup (.cons (.bin .fdiv (.var 0) (.var 2)) (.cons (.bin .fdiv (.var 1) (.var 2)) .nil)))) .nil)
def t52 : TD := ⟨"_law_part", ["n", "m"], ["n", "m", "g"], ⟨2, 3, b52⟩⟩
abbrev d52 : He.DefD := dd 81 "_law_part"
/-- _law_out(x) -/
def b53 : Ss := .cons (.ret (.tup (.cons (.call 52 (.cons (.ix (.var 0) (.cst (.int 0))) (.cons (.ix (.var 0) (.cst (.int 2))) .nil))) (.cons (.call 52 (.cons (.ix (.var 0) (.cst (.int 1))) (.cons (.ix (.var 0) (.cst (.int 2))) .nil))) .nil)))) .nil
def t53 : TD := ⟨"_law_out", ["x"], ["x"], ⟨1, 1, b53⟩⟩
abbrev d53 : He.DefD := dd 82 "_law_out"
/-- _law_outs(some) -/
def b54 : Ss := .cons (.ret (.bi .tuple (.cons (.lc [("each", 1)] (.call 53 (.cons (.var 1) .nil)) (.nm 1) (.seq (.var 0)) .none) .nil))) .nil
def t54 : TD := ⟨"_law_outs", ["some"], ["some", "each"], ⟨1, 2, b54⟩⟩
abbrev d54 : He.DefD := dd 83 "_law_outs"
/-- _law_place(well) -/
def b55 : Ss := .cons (.asg (.nm 1) (.bin .add (.cst (.int 2)) (.call 48 (.cons (.var 0) (.cons (.cst (.int 4)) .nil))))) (.cons (.par [2, 3] (.cons (.bin .add (.bin .sub (.call 48 (.cons (.var 0) (.cons (.bin .sub (.bin .mul (.cst (.int 2)) (.var 1)) (.cst (.int 1))) .nil))) (.var 1)) (.cst (.int 1))) (.cons (.bin .add (.bin .sub (.call 48 (.cons (.var 0) (.cons (.bin .sub (.bin .mul (.cst (.int 2)) (.var 1)) (.cst (.int 1))) .nil))) (.var 1)) (.cst (.int 1))) .nil))) (.cons (.ret (.call 51 (.cons (.var 2) (.cons (.ite (.cmp .lt (.bin .add (.bin .mul (.var 2) (.var 2)) (.bin .mul (.var 3) (.var 3))) (.bin .mul (.var 1) (.var 1))) (.var 3) (.cst (.int 0))) (.cons (.var 1) .nil))))) .nil))
def t55 : TD := ⟨"_law_place", ["well"], ["well", "d", "a", "b"], ⟨1, 4, b55⟩⟩
abbrev d55 : He.DefD := dd 84 "_law_place"
/-- _law_spots(well, many) -/
def b56 : Ss := .cons (.asg (.nm 2) (.lst .nil)) (.cons (.for (.nm 3) (.rng1 (.var 1)) (.cons (.asg (.nm 4) (.call 55 (.cons (.var 0) .nil))) (.cons (.exp (.mt .append (.var 2) (.cons (.ite (.cmp .notin (.var 4) (.var 2)) (.var 4) (.tup (.cons (.cst (.int 1)) (.cons (.cst (.int 0)) (.cons (.bin .add (.cst (.int 7)) (.var 3)) .nil))))) .nil))) .nil))) (.cons (.ret (.var 2)) .nil))
def t56 : TD := ⟨"_law_spots", ["well", "many"], ["well", "many", "found", "turn", "spot"], ⟨2, 5, b56⟩⟩
abbrev d56 : He.DefD := dd 85 "_law_spots"
/-- _law_name(well, taken) -/
def b57 : Ss := .cons (.asg (.nm 2) (.cst (.str []))) (.cons (.for (.nm 3) (.rng1 (.call 49 (.cons (.var 0) (.cons (.lst (.cons (.cst (.int 1)) (.cons (.cst (.int 1)) (.cons (.cst (.int 2)) (.cons (.cst (.int 8)) .nil))))) .nil)))) (.cons (.asg (.nm 2) (.bin .add (.var 2) (.call 49 (.cons (.var 0) (.cons (.cst (.str [97, 98, 99, 100, 101, 102, 103, 104, 105, 106, 107, 108, 109, 110, 111, 112, 113, 114, 115, 116, 117, 118, 119, 120, 121, 122])) .nil))))) .nil)) (.cons (.asg (.nm 4) (.lc [("each", 5)] (.var 5) (.nm 5) (.seq (.cst (.str [97, 98, 99, 100, 101, 102, 103, 104, 105, 106, 107, 108, 109, 110, 111, 112, 113, 114, 115, 116, 117, 118, 119, 120, 121, 122]))) (.some (.cmp .notin (.var 5) (.var 1))))) (.cons (.ret (.ite (.cmp .notin (.var 2) (.var 1)) (.var 2) (.call 49 (.cons (.var 0) (.cons (.var 4) .nil))))) .nil)))
def t57 : TD := ⟨"_law_name", ["well", "taken"], ["well", "taken", "word", "turn", "spare", "each"], ⟨2, 6, b57⟩⟩
abbrev d57 : He.DefD := dd 86 "_law_name"
/-- _law_said(act) -/
def b58 : Ss := .cons (.par [1, 2] (.cons (.cst (.str [])) (.cons (.lst .nil) .nil))) (.cons (.tri (.cons (.acs 1 0) .nil) 0 3 2 [.isc 6, .isc 5, .isc 7]) (.cons (.ite (.cmp .eq (.var 2) (.lst .nil)) (.cons (.ret (.var 1)) .nil) .nil) (.cons (.ret (.tup (.cons (.cst (.str [114, 97, 105, 115, 101, 100])) (.cons (.var 2) .nil)))) .nil)))
def t58 : TD := ⟨"_law_said", ["act"], ["act", "found", "sorts", "e"], ⟨1, 4, b58⟩⟩
abbrev d58 : He.DefD := dd 87 "_law_said"
/-- _law_refused(rows, deed) -/
def b59 : Ss := .cons (.asg (.nm 2) (.lc [("each", 5)] (.var 5) (.nm 5) (.seq (.var 0)) (.some (.cmp .eq (.ix (.var 5) (.cst (.int 0))) (.ix (.var 1) (.cst (.int 1))))))) (.cons (.asg (.nm 3) (.bin .sub (.cst (.int 6)) (.bi .sum (.cons (.lc [("each", 5)] (.bi .len (.cons (.ix (.var 5) (.cst (.int 2))) .nil)) (.nm 5) (.seq (.var 0)) .none) .nil)))) (.cons (.ite (.cmp .eq (.ix (.var 1) (.cst (.int 0))) (.cst (.str [112, 117, 116]))) (.cons (.asg (.nm 4) (.or (.cmp .ne (.var 2) (.lst .nil)) (.cmp .isin (.ix (.var 1) (.cst (.int 2))) (.lc [("each", 5)] (.ix (.var 5) (.cst (.int 1))) (.nm 5) (.seq (.var 0)) .none)))) (.cons (.ret (.ite (.var 4) (.tup (.cons (.cst (.str [114, 97, 105, 115, 101, 100])) (.cons (.lst (.cons (.cst (.bl true)) (.cons (.cst (.bl false)) (.cons (.cst (.bl false)) .nil)))) .nil))) (.ite (.cmp .gt (.bi .len (.cons (.ix (.var 1) (.cst (.int 3))) .nil)) (.var 3)) (.tup (.cons (.cst (.str [114, 97, 105, 115, 101, 100])) (.cons (.lst (.cons (.cst (.bl false)) (.cons (.cst (.bl false)) (.cons (.cst (.bl true)) .nil)))) .nil))) (.cst .non)))) .nil)) .nil) (.cons (.ite (.cmp .eq (.var 2) (.lst .nil)) (.cons (.ret (.tup (.cons (.cst (.str [114, 97, 105, 115, 101, 100])) (.cons (.lst (.cons (.cst (.bl false)) (.cons (.cst (.bl true)) (.cons (.cst (.bl false)) .nil)))) .nil)))) .nil) .nil) (.cons (.ite (.and (.cmp .eq (.ix (.var 1) (.cst (.int 0))) (.cst (.str [99, 104, 97, 110, 103, 101]))) (.cmp .gt (.bi .len (.cons (.ix (.var 1) (.cst (.int 3))) .nil)) (.bin .add (.var 3) (.bi .len (.cons (.ix (.ix (.var 2) (.cst (.int 0))) (.cst (.int 2))) .nil))))) (.cons (.ret (.tup (.cons (.cst (.str [114, 97, 105, 115, 101, 100])) (.cons (.lst (.cons (.cst (.bl false)) (.cons (.cst (.bl false)) (.cons (.cst (.bl true)) .nil)))) .nil)))) .nil) .nil) (.cons (.ret (.cst .non)) .nil)))))
def t59 : TD := ⟨"_law_refused", ["rows", "deed"], ["rows", "deed", "there", "room", "alike", "each"], ⟨2, 6, b59⟩⟩
abbrev d59 : He.DefD := dd 88 "_law_refused"
/-- _law_behind(rows, deed) -/
def b60 : Ss := .cons (.ite (.cmp .eq (.ix (.var 1) (.cst (.int 0))) (.cst (.str [112, 117, 116]))) (.cons (.ret (.bin .add (.var 0) (.lst (.cons (.tup (.cons (.ix (.var 1) (.cst (.int 1))) (.cons (.ix (.var 1) (.cst (.int 2))) (.cons (.ix (.var 1) (.cst (.int 3))) .nil)))) .nil)))) .nil) .nil) (.cons (.ite (.cmp .eq (.ix (.var 1) (.cst (.int 0))) (.cst (.str [115, 116, 114, 105, 107, 101]))) (.cons (.ret (.lc [("each", 2)] (.var 2) (.nm 2) (.seq (.var 0)) (.some (.cmp .ne (.ix (.var 2) (.cst (.int 0))) (.ix (.var 1) (.cst (.int 1))))))) .nil) .nil) (.cons (.ret (.lc [("each", 2)] (.ite (.cmp .eq (.ix (.var 2) (.cst (.int 0))) (.ix (.var 1) (.cst (.int 1)))) (.tup (.cons (.ix (.var 2) (.cst (.int 0))) (.cons (.ix (.var 2) (.cst (.int 1))) (.cons (.ix (.var 1) (.cst (.int 3))) .nil)))) (.var 2)) (.nm 2) (.seq (.var 0)) .none)) .nil))
def t60 : TD := ⟨"_law_behind", ["rows", "deed"], ["rows", "deed", "each"], ⟨2, 3, b60⟩⟩
abbrev d60 : He.DefD := dd 89 "_law_behind"
/-- _law_deed(well, words, spots) -/
def b61 : Ss := .cons (.par [3, 4, 5] (.cons (.call 49 (.cons (.var 0) (.cons (.lst (.cons (.cst (.str [112, 117, 116])) (.cons (.cst (.str [112, 117, 116])) (.cons (.cst (.str [112, 117, 116])) (.cons (.cst (.str [99, 104, 97, 110, 103, 101])) (.cons (.cst (.str [99, 104, 97, 110, 103, 101])) (.cons (.cst (.str [115, 116, 114, 105, 107, 101])) (.cons (.cst (.str [117, 110, 100, 111])) .nil)))))))) .nil))) (.cons (.bin .add (.cst (.int 1)) (.call 48 (.cons (.var 0) (.cons (.cst (.int 3)) .nil)))) (.cons (.lst .nil) .nil)))) (.cons (.for (.nm 6) (.rng1 (.ite (.cmp .eq (.call 48 (.cons (.var 0) (.cons (.cst (.int 2)) .nil))) (.cst (.int 0))) (.var 4) (.cst (.int 1)))) (.cons (.exp (.mt .append (.var 5) (.cons (.call 51 (.cons (.bin .sub (.call 48 (.cons (.var 0) (.cons (.cst (.int 9)) .nil))) (.cst (.int 4))) (.cons (.bin .sub (.call 48 (.cons (.var 0) (.cons (.cst (.int 5)) .nil))) (.cst (.int 2))) (.cons (.bin .add (.cst (.int 1)) (.call 48 (.cons (.var 0) (.cons (.cst (.int 6)) .nil)))) .nil)))) .nil))) .nil)) (.cons (.ret (.tup (.cons (.var 3) (.cons (.call 49 (.cons (.var 0) (.cons (.var 1) .nil))) (.cons (.call 49 (.cons (.var 0) (.cons (.var 2) .nil))) (.cons (.var 5) .nil)))))) .nil))
def t61 : TD := ⟨"_law_deed", ["well", "words", "spots"], ["well", "words", "spots", "kind", "many", "told", "turn"], ⟨3, 7, b61⟩⟩
abbrev d61 : He.DefD := dd 90 "_law_deed"
/-- _law_act(mine, deed) -/
def b62 : Ss := .cons (.ite (.cmp .eq (.ix (.var 1) (.cst (.int 0))) (.cst (.str [112, 117, 116]))) (.cons (.ret (.mth 69 0 "put" (.var 0) (.cons (.ix (.var 1) (.cst (.int 1))) (.cons (.call 53 (.cons (.ix (.var 1) (.cst (.int 2))) .nil)) (.cons (.call 54 (.cons (.ix (.var 1) (.cst (.int 3))) .nil)) .nil))))) .nil) .nil) (.cons (.ite (.cmp .eq (.ix (.var 1) (.cst (.int 0))) (.cst (.str [99, 104, 97, 110, 103, 101]))) (.cons (.ret (.mthk 70 0 "change" (.var 0) (.cons (.ix (.var 1) (.cst (.int 1))) .nil) (.cons (.call 54 (.cons (.ix (.var 1) (.cst (.int 3))) .nil)) .nil) [0, 1, 2])) .nil) .nil) (.cons (.ret (.ite (.cmp .eq (.ix (.var 1) (.cst (.int 0))) (.cst (.str [115, 116, 114, 105, 107, 101]))) (.mthk 71 0 "strike" (.var 0) .nil (.cons (.ix (.var 1) (.cst (.int 1))) .nil) [0, 1]) (.mth 72 0 "undo" (.var 0) .nil))) .nil))
def t62 : TD := ⟨"_law_act", ["mine", "deed"], ["mine", "deed"], ⟨2, 2, b62⟩⟩
abbrev d62 : He.DefD := dd 91 "_law_act"
/-- _law_shows(mine, rows, t) -/
def b63 : Ss := .cons (.asg (.nm 3) (.lc [("each", 5)] (.tup (.cons (.ix (.var 5) (.cst (.int 0))) (.cons (.call 53 (.cons (.ix (.var 5) (.cst (.int 1))) .nil)) (.cons (.call 54 (.cons (.ix (.var 5) (.cst (.int 2))) .nil)) .nil)))) (.nm 5) (.seq (.var 1)) .none)) (.cons (.asg (.nm 4) (.lst (.cons (.mth 75 0 "entries" (.var 0) .nil) (.cons (.mth 76 0 "data" (.var 0) .nil) (.cons (.mth 74 0 "bound" (.var 0) .nil) .nil))))) (.cons (.ret (.cmp .eq (.bi .repr (.cons (.var 4) .nil)) (.bi .repr (.cons (.lst (.cons (.bi .tuple (.cons (.var 3) .nil)) (.cons (.bi .tuple (.cons (.lc [("each", 5)] (.sl (.var 5) (.some (.cst (.int 1))) .none) (.nm 5) (.seq (.var 3)) .none) .nil)) (.cons (.var 2) .nil)))) .nil)))) .nil))
def t63 : TD := ⟨"_law_shows", ["mine", "rows", "t"], ["mine", "rows", "t", "due", "told", "each"], ⟨3, 6, b63⟩⟩
abbrev d63 : He.DefD := dd 92 "_law_shows"
/-- _law_right(well) -/
def b64 : Ss := .cons (.par [1, 2] (.cons (.lst .nil) (.cons (.call 56 (.cons (.var 0) (.cons (.cst (.int 6)) .nil))) .nil))) (.cons (.for (.nm 3) (.rng1 (.cst (.int 6))) (.cons (.exp (.mt .append (.var 1) (.cons (.call 57 (.cons (.var 0) (.cons (.var 1) .nil))) .nil))) .nil)) (.cons (.asg (.nm 4) (.call 52 (.cons (.bin .add (.cst (.int 1)) (.call 48 (.cons (.var 0) (.cons (.cst (.int 9)) .nil)))) (.cons (.bin .add (.cst (.int 1)) (.call 48 (.cons (.var 0) (.cons (.cst (.int 9)) .nil)))) .nil)))) (.cons (.asg (.tup [.nm 5, .nm 6, .nm 7]) (.tup (.cons (.lst (.cons (.mk 0 66 (.cons (.var 4) .nil)) .nil)) (.cons (.lst (.cons (.lst .nil) .nil)) (.cons (.lst (.cons (.lst .nil) .nil)) .nil))))) (.cons (.for (.nm 3) (.rng1 (.bin .add (.cst (.int 12)) (.call 48 (.cons (.var 0) (.cons (.cst (.int 4)) .nil))))) (.cons (.asg (.tup [.nm 8, .nm 9]) (.tup (.cons (.call 48 (.cons (.var 0) (.cons (.bi .len (.cons (.var 5) .nil)) .nil))) (.cons (.call 61 (.cons (.var 0) (.cons (.var 1) (.cons (.var 2) .nil)))) .nil)))) (.cons (.ite (.cmp .eq (.ix (.var 9) (.cst (.int 0))) (.cst (.str [117, 110, 100, 111]))) (.cons (.asg (.nm 10) (.cmp .ne (.ix (.var 7) (.var 8)) (.lst .nil))) (.cons (.asg (.sub (.var 6) (.var 8)) (.ite (.var 10) (.mt .pop (.ix (.var 7) (.var 8)) .nil) (.ix (.var 6) (.var 8)))) .nil)) (.cons (.asg (.nm 10) (.call 59 (.cons (.ix (.var 6) (.var 8)) (.cons (.var 9) .nil)))) (.cons (.ite (.cmp .is (.var 10) (.cst .non)) (.cons (.exp (.mt .append (.ix (.var 7) (.var 8)) (.cons (.ix (.var 6) (.var 8)) .nil))) (.cons (.asg (.sub (.var 6) (.var 8)) (.call 60 (.cons (.ix (.var 6) (.var 8)) (.cons (.var 9) .nil)))) .nil)) .nil) .nil))) (.cons (.ite (.cmp .ne (.bi .repr (.cons (.lam 58 0 "_law_right.<locals>.<lambda>" (.call 62 (.cons (.ix (.var 5) (.var 8)) (.cons (.var 9) .nil)))) .nil)) (.bi .repr (.cons (.var 10) .nil))) (.cons (.ret (.cst (.bl false))) .nil) .nil) (.cons (.ite (.and (.cmp .lt (.bi .len (.cons (.var 5) .nil)) (.cst (.int 4))) (.cmp .eq (.call 48 (.cons (.var 0) (.cons (.cst (.int 4)) .nil))) (.cst (.int 0)))) (.cons (.exp (.mt .append (.var 5) (.cons (.mth 73 0 "twin" (.ix (.var 5) (.var 8)) .nil) .nil))) (.cons (.exp (.mt .append (.var 6) (.cons (.ix (.var 6) (.var 8)) .nil))) (.cons (.exp (.mt .append (.var 7) (.cons (.bi .list (.cons (.ix (.var 7) (.var 8)) .nil)) .nil))) .nil))) .nil) (.cons (.ite (.not (.bi .all (.cons (.lc [("k", 11)] (.call 63 (.cons (.ix (.var 5) (.var 11)) (.cons (.ix (.var 6) (.var 11)) (.cons (.var 4) .nil)))) (.nm 11) (.rng1 (.bi .len (.cons (.var 5) .nil))) .none) .nil))) (.cons (.ret (.cst (.bl false))) .nil) .nil) .nil)))))) (.cons (.for (.nm 11) (.rng1 (.bi .len (.cons (.var 5) .nil))) (.cons (.for (.nm 3) (.rng1 (.bi .len (.cons (.ix (.var 7) (.var 11)) .nil))) (.cons (.asg (.sub (.var 6) (.var 11)) (.mt .pop (.ix (.var 7) (.var 11)) .nil)) (.cons (.ite (.or (.cmp .isnot (.mth 72 0 "undo" (.ix (.var 5) (.var 11)) .nil) (.cst (.bl true))) (.not (.call 63 (.cons (.ix (.var 5) (.var 11)) (.cons (.ix (.var 6) (.var 11)) (.cons (.var 4) .nil)))))) (.cons (.ret (.cst (.bl false))) .nil) .nil) .nil))) (.cons (.ite (.or (.cmp .isnot (.mth 72 0 "undo" (.ix (.var 5) (.var 11)) .nil) (.cst (.bl false))) (.not (.call 63 (.cons (.ix (.var 5) (.var 11)) (.cons (.lst .nil) (.cons (.var 4) .nil)))))) (.cons (.ret (.cst (.bl false))) .nil) .nil) .nil))) (.cons (.ret (.cst (.bl true))) .nil))))))
def t64 : TD := ⟨"_law_right", ["well"], ["well", "words", "spots", "turn", "t", "books", "rows", "past", "at", "deed", "due", "k"], ⟨1, 12, b64⟩⟩
abbrev d64 : He.DefD := dd 93 "_law_right"
/-- law(script) -/
def b65 : Ss := .cons (.ret (.bi .all (.cons (.lc [("turn", 1)] (.call 64 (.cons (.call 47 (.cons (.var 0) (.cons (.var 1) .nil))) .nil)) (.nm 1) (.rng1 (.bi .max (.cons (.cst (.int 2)) (.cons (.bi .min (.cons (.bi .len (.cons (.var 0) .nil)) (.cons (.cst (.int 3)) .nil))) .nil)))) .none) .nil))) .nil
def t65 : TD := ⟨"law", ["script"], ["script", "turn"], ⟨1, 2, b65⟩⟩
abbrev d65 : He.DefD := dd 94 "law"
/-- Book.__init__(self, bound) -/
def b66 : Ss := .cons (.exp (.call 36 (.cons (.var 1) .nil))) (.cons (.sfl (.var 0) 0 "_bound" (.var 1)) (.cons (.sfl (.var 0) 0 "_entries" (.tup .nil)) (.cons (.sfl (.var 0) 0 "_past" (.lst .nil)) .nil)))
def t66 : TD := ⟨"__init__", ["self", "bound"], ["self", "bound"], ⟨2, 2, b66⟩⟩
abbrev d66 : He.DefD := ⟨("Book", some "__init__"), "__init__", "Book.__init__", defArgs (inClass (top 74) 0), defBody (inClass (top 74) 0), defScope (inClass (top 74) 0), [.adr (He.dflAt ("Book", some "__init__") 0)], []⟩
/-- Book._lead(self, entries) -/
def b67 : Ss := .cons (.exp (.call 46 (.cons (.var 1) .nil))) (.cons (.exp (.mt .append (.fld (.var 0) 0 "_past") (.cons (.fld (.var 0) 0 "_entries") .nil))) (.cons (.sfl (.var 0) 0 "_entries" (.var 1)) .nil))
def t67 : TD := ⟨"_lead", ["self", "entries"], ["self", "entries"], ⟨2, 2, b67⟩⟩
abbrev d67 : He.DefD := ⟨("Book", some "_lead"), "_lead", "Book._lead", defArgs (inClass (top 74) 1), defBody (inClass (top 74) 1), defScope (inClass (top 74) 1), [], []⟩
/-- Book._look_for(self, name) -/
def b68 : Ss := .cons (.ite (.cmp .notin (.var 1) (.call 41 (.cons (.fld (.var 0) 0 "_entries") .nil))) (.cons (.rai 5 .nil) .nil) .nil) .nil
def t68 : TD := ⟨"_look_for", ["self", "name"], ["self", "name"], ⟨2, 2, b68⟩⟩
abbrev d68 : He.DefD := ⟨("Book", some "_look_for"), "_look_for", "Book._look_for", defArgs (inClass (top 74) 2), defBody (inClass (top 74) 2), defScope (inClass (top 74) 2), [], []⟩
/-- Book.put(self, name, place, values) -/
def b69 : Ss := .cons (.exp (.call 44 (.cons (.var 1) .nil))) (.cons (.exp (.call 37 (.cons (.var 2) .nil))) (.cons (.exp (.call 45 (.cons (.var 3) .nil))) (.cons (.ite (.or (.cmp .isin (.var 1) (.call 41 (.cons (.fld (.var 0) 0 "_entries") .nil))) (.cmp .isin (.var 2) (.call 22 (.cons (.mth 76 0 "data" (.var 0) .nil) .nil)))) (.cons (.rai 6 .nil) .nil) .nil) (.cons (.exp (.mth 67 0 "_lead" (.var 0) (.cons (.tup (.star (.fld (.var 0) 0 "_entries") (.cons (.tup (.cons (.var 1) (.cons (.var 2) (.cons (.var 3) .nil)))) .nil))) .nil))) .nil))))
def t69 : TD := ⟨"put", ["self", "name", "place", "values"], ["self", "name", "place", "values"], ⟨4, 4, b69⟩⟩
abbrev d69 : He.DefD := ⟨("Book", some "put"), "put", "Book.put", defArgs (inClass (top 74) 3), defBody (inClass (top 74) 3), defScope (inClass (top 74) 3), [], []⟩
/-- Book.change(self, name, values) -/
def b70 : Ss := .cons (.exp (.call 44 (.cons (.var 1) .nil))) (.cons (.exp (.call 45 (.cons (.var 2) .nil))) (.cons (.exp (.mth 68 0 "_look_for" (.var 0) (.cons (.var 1) .nil))) (.cons (.exp (.mth 67 0 "_lead" (.var 0) (.cons (.call 42 (.cons (.fld (.var 0) 0 "_entries") (.cons (.var 1) (.cons (.var 2) .nil)))) .nil))) .nil)))
def t70 : TD := ⟨"change", ["self", "name", "values"], ["self", "name", "values"], ⟨3, 3, b70⟩⟩
abbrev d70 : He.DefD := ⟨("Book", some "change"), "change", "Book.change", defArgs (inClass (top 74) 4), defBody (inClass (top 74) 4), defScope (inClass (top 74) 4), [], []⟩
/-- Book.strike(self, name) -/
def b71 : Ss := .cons (.exp (.call 44 (.cons (.var 1) .nil))) (.cons (.exp (.mth 68 0 "_look_for" (.var 0) (.cons (.var 1) .nil))) (.cons (.exp (.mth 67 0 "_lead" (.var 0) (.cons (.call 43 (.cons (.fld (.var 0) 0 "_entries") (.cons (.var 1) .nil))) .nil))) .nil))
def t71 : TD := ⟨"strike", ["self", "name"], ["self", "name"], ⟨2, 2, b71⟩⟩
abbrev d71 : He.DefD := ⟨("Book", some "strike"), "strike", "Book.strike", defArgs (inClass (top 74) 5), defBody (inClass (top 74) 5), defScope (inClass (top 74) 5), [], []⟩
/-- Book.undo(self) -/
def b72 : Ss := .cons (.ite (.cmp .eq (.fld (.var 0) 0 "_past") (.lst .nil)) (.cons (.ret (.cst (.bl false))) .nil) .nil) (.cons (.sfl (.var 0) 0 "_entries" (.mt .pop (.fld (.var 0) 0 "_past") .nil)) (.cons (.ret (.cst (.bl true))) .nil))
def t72 : TD := ⟨"undo", ["self"], ["self"], ⟨1, 1, b72⟩⟩
abbrev d72 : He.DefD := ⟨("Book", some "undo"), "undo", "Book.undo", defArgs (inClass (top 74) 6), defBody (inClass (top 74) 6), defScope (inClass (top 74) 6), [], []⟩
/-- Book.twin(self) -/
def b73 : Ss := .cons (.asg (.nm 1) (.mk 0 66 (.cons (.fld (.var 0) 0 "_bound") .nil))) (.cons (.sfl (.var 1) 0 "_entries" (.fld (.var 0) 0 "_entries")) (.cons (.sfl (.var 1) 0 "_past" (.bi .list (.cons (.fld (.var 0) 0 "_past") .nil))) (.cons (.ret (.var 1)) .nil)))
def t73 : TD := ⟨"twin", ["self"], ["self", "found"], ⟨1, 2, b73⟩⟩
abbrev d73 : He.DefD := ⟨("Book", some "twin"), "twin", "Book.twin", defArgs (inClass (top 74) 7), defBody (inClass (top 74) 7), defScope (inClass (top 74) 7), [], []⟩
/-- Book.bound(self) -/
def b74 : Ss := .cons (.ret (.fld (.var 0) 0 "_bound")) .nil
def t74 : TD := ⟨"bound", ["self"], ["self"], ⟨1, 1, b74⟩⟩
abbrev d74 : He.DefD := ⟨("Book", some "bound"), "bound", "Book.bound", defArgs (inClass (top 74) 8), defBody (inClass (top 74) 8), defScope (inClass (top 74) 8), [], []⟩
/-- Book.entries(self) -/
def b75 : Ss := .cons (.ret (.fld (.var 0) 0 "_entries")) .nil
def t75 : TD := ⟨"entries", ["self"], ["self"], ⟨1, 1, b75⟩⟩
abbrev d75 : He.DefD := ⟨("Book", some "entries"), "entries", "Book.entries", defArgs (inClass (top 74) 9), defBody (inClass (top 74) 9), defScope (inClass (top 74) 9), [], []⟩
/-- Book.data(self) -/
def b76 : Ss := .cons (.ret (.call 40 (.cons (.fld (.var 0) 0 "_entries") .nil))) .nil
def t76 : TD := ⟨"data", ["self"], ["self"], ⟨1, 1, b76⟩⟩
abbrev d76 : He.DefD := ⟨("Book", some "data"), "data", "Book.data", defArgs (inClass (top 74) 10), defBody (inClass (top 74) 10), defScope (inClass (top 74) 10), [], []⟩
/-- Book.standing(self) -/
def b77 : Ss := .cons (.ret (.call 35 (.cons (.mth 76 0 "data" (.var 0) .nil) (.cons (.fld (.var 0) 0 "_bound") .nil)))) .nil
def t77 : TD := ⟨"standing", ["self"], ["self"], ⟨1, 1, b77⟩⟩
abbrev d77 : He.DefD := ⟨("Book", some "standing"), "standing", "Book.standing", defArgs (inClass (top 74) 11), defBody (inClass (top 74) 11), defScope (inClass (top 74) 11), [], []⟩
/-- Book.rank(self) -/
def b78 : Ss := .cons (.exp (.call 0 (.cons (.cst (.int 0)) .nil))) .nil
def t78 : TD := ⟨"rank", ["self"], ["self"], ⟨1, 1, b78⟩⟩
abbrev d78 : He.DefD := ⟨("Book", some "rank"), "rank", "Book.rank", defArgs (inClass (top 74) 12), defBody (inClass (top 74) 12), defScope (inClass (top 74) 12), [], []⟩
/-- Book.the_one(self) -/
def b79 : Ss := .cons (.exp (.call 0 (.cons (.cst (.int 1)) .nil))) .nil
def t79 : TD := ⟨"the_one", ["self"], ["self"], ⟨1, 1, b79⟩⟩
abbrev d79 : He.DefD := ⟨("Book", some "the_one"), "the_one", "Book.the_one", defArgs (inClass (top 74) 13), defBody (inClass (top 74) 13), defScope (inClass (top 74) 13), [], []⟩
/-- Book.values_at(self, place) -/
def b80 : Ss := .cons (.exp (.call 0 (.cons (.cst (.int 2)) .nil))) .nil
def t80 : TD := ⟨"values_at", ["self", "place"], ["self", "place"], ⟨2, 2, b80⟩⟩
abbrev d80 : He.DefD := ⟨("Book", some "values_at"), "values_at", "Book.values_at", defArgs (inClass (top 74) 14), defBody (inClass (top 74) 14), defScope (inClass (top 74) 14), [], []⟩
/-- Book.goes_along(self, place, number) -/
def b81 : Ss := .cons (.exp (.call 0 (.cons (.cst (.int 3)) .nil))) .nil
def t81 : TD := ⟨"goes_along", ["self", "place", "number"], ["self", "place", "number"], ⟨3, 3, b81⟩⟩
abbrev d81 : He.DefD := ⟨("Book", some "goes_along"), "goes_along", "Book.goes_along", defArgs (inClass (top 74) 15), defBody (inClass (top 74) 15), defScope (inClass (top 74) 15), [], []⟩
/-- Book.clashes(self) -/
def b82 : Ss := .cons (.exp (.call 0 (.cons (.cst (.int 4)) .nil))) .nil
def t82 : TD := ⟨"clashes", ["self"], ["self"], ⟨1, 1, b82⟩⟩
abbrev d82 : He.DefD := ⟨("Book", some "clashes"), "clashes", "Book.clashes", defArgs (inClass (top 74) 16), defBody (inClass (top 74) 16), defScope (inClass (top 74) 16), [], []⟩
/-- Book.idle(self) -/
def b83 : Ss := .cons (.exp (.call 0 (.cons (.cst (.int 5)) .nil))) .nil
def t83 : TD := ⟨"idle", ["self"], ["self"], ⟨1, 1, b83⟩⟩
abbrev d83 : He.DefD := ⟨("Book", some "idle"), "idle", "Book.idle", defArgs (inClass (top 74) 17), defBody (inClass (top 74) 17), defScope (inClass (top 74) 17), [], []⟩
def ds : List (TD × He.DefD) := [(t0, d0), (t1, d1), (t2, d2), (t3, d3), (t4, d4), (t5, d5), (t6, d6), (t7, d7), (t8, d8), (t9, d9), (t10, d10), (t11, d11), (t12, d12), (t13, d13), (t14, d14), (t15, d15), (t16, d16), (t17, d17), (t18, d18), (t19, d19), (t20, d20), (t21, d21), (t22, d22), (t23, d23), (t24, d24), (t25, d25), (t26, d26), (t27, d27), (t28, d28), (t29, d29), (t30, d30), (t31, d31), (t32, d32), (t33, d33), (t34, d34), (t35, d35), (t36, d36), (t37, d37), (t38, d38), (t39, d39), (t40, d40), (t41, d41), (t42, d42), (t43, d43), (t44, d44), (t45, d45), (t46, d46), (t47, d47), (t48, d48), (t49, d49), (t50, d50), (t51, d51), (t52, d52), (t53, d53), (t54, d54), (t55, d55), (t56, d56), (t57, d57), (t58, d58), (t59, d59), (t60, d60), (t61, d61), (t62, d62), (t63, d63), (t64, d64), (t65, d65)]
def ms : List MD := [⟨0, "__init__", t66, d66⟩, ⟨0, "_lead", t67, d67⟩, ⟨0, "_look_for", t68, d68⟩, ⟨0, "put", t69, d69⟩, ⟨0, "change", t70, d70⟩, ⟨0, "strike", t71, d71⟩, ⟨0, "undo", t72, d72⟩, ⟨0, "twin", t73, d73⟩, ⟨0, "bound", t74, d74⟩, ⟨0, "entries", t75, d75⟩, ⟨0, "data", t76, d76⟩, ⟨0, "standing", t77, d77⟩, ⟨0, "rank", t78, d78⟩, ⟨0, "the_one", t79, d79⟩, ⟨0, "values_at", t80, d80⟩, ⟨0, "goes_along", t81, d81⟩, ⟨0, "clashes", t82, d82⟩, ⟨0, "idle", t83, d83⟩]
abbrev F : List Fd := fdsOf ds ms
theorem k0 : TOk T t0 d0 := ⟨by decide +kernel, fun _ _ _ _ _ _ us hl => match us, hl with | [_], _ => rfl⟩
theorem k1 : TOk T t1 d1 := ⟨by decide +kernel, fun _ _ _ _ _ _ us hl => match us, hl with | [_], _ => rfl⟩
theorem k2 : TOk T t2 d2 := ⟨by decide +kernel, fun _ _ _ _ _ _ us hl => match us, hl with | [_], _ => rfl⟩
theorem k3 : TOk T t3 d3 := ⟨by decide +kernel, fun _ _ _ _ _ _ us hl => match us, hl with | [_], _ => rfl⟩
theorem k4 : TOk T t4 d4 := ⟨by decide +kernel, fun _ _ _ _ _ _ us hl => match us, hl with | [_, _], _ => rfl⟩
theorem k5 : TOk T t5 d5 := ⟨by decide +kernel, fun _ _ _ _ _ _ us hl => match us, hl with | [_, _], _ => rfl⟩
theorem k6 : TOk T t6 d6 := ⟨by decide +kernel, fun _ _ _ _ _ _ us hl => match us, hl with | [_, _], _ => rfl⟩
theorem k7 : TOk T t7 d7 := ⟨by decide +kernel, fun _ _ _ _ _ _ us hl => match us, hl with | [_, _], _ => rfl⟩
theorem k8 : TOk T t8 d8 := ⟨by decide +kernel, fun _ _ _ _ _ _ us hl => match us, hl with | [_, _], _ => rfl⟩
theorem k9 : TOk T t9 d9 := ⟨by decide +kernel, fun _ _ _ _ _ _ us hl => match us, hl with | [_, _], _ => rfl⟩
theorem k10 : TOk T t10 d10 := ⟨by decide +kernel, fun _ _ _ _ _ _ us hl => match us, hl with | [_, _], _ => rfl⟩
theorem k11 : TOk T t11 d11 := ⟨by decide +kernel, fun _ _ _ _ _ _ us hl => match us, hl with | [_, _], _ => rfl⟩
theorem k12 : TOk T t12 d12 := ⟨by decide +kernel, fun _ _ _ _ _ _ us hl => match us, hl with | [_], _ => rfl⟩
theorem k13 : TOk T t13 d13 := ⟨by decide +kernel, fun _ _ _ _ _ _ us hl => match us, hl with | [_, _], _ => rfl⟩
theorem k14 : TOk T t14 d14 := ⟨by decide +kernel, fun _ _ _ _ _ _ us hl => match us, hl with | [_, _], _ => rfl⟩
theorem k15 : TOk T t15 d15 := ⟨by decide +kernel, fun _ _ _ _ _ _ us hl => match us, hl with | [_], _ => rfl⟩
theorem k16 : TOk T t16 d16 := ⟨by decide +kernel, fun _ _ _ _ _ _ us hl => match us, hl with | [_], _ => rfl⟩
theorem k17 : TOk T t17 d17 := ⟨by decide +kernel, fun _ _ _ _ _ _ us hl => match us, hl with | [_, _], _ => rfl⟩
theorem k18 : TOk T t18 d18 := ⟨by decide +kernel, fun _ _ _ _ _ _ us hl => match us, hl with | [_], _ => rfl⟩
theorem k19 : TOk T t19 d19 := ⟨by decide +kernel, fun _ _ _ _ _ _ us hl => match us, hl with | [_], _ => rfl⟩
theorem k20 : TOk T t20 d20 := ⟨by decide +kernel, fun _ _ _ _ _ _ us hl => match us, hl with | [_], _ => rfl⟩
theorem k21 : TOk T t21 d21 := ⟨by decide +kernel, fun _ _ _ _ _ _ us hl => match us, hl with | [_], _ => rfl⟩
theorem k22 : TOk T t22 d22 := ⟨by decide +kernel, fun _ _ _ _ _ _ us hl => match us, hl with | [_], _ => rfl⟩
theorem k23 : TOk T t23 d23 := ⟨by decide +kernel, fun _ _ _ _ _ _ us hl => match us, hl with | [_], _ => rfl⟩
theorem k24 : TOk T t24 d24 := ⟨by decide +kernel, fun _ _ _ _ _ _ us hl => match us, hl with | [_, _], _ => rfl⟩
theorem k25 : TOk T t25 d25 := ⟨by decide +kernel, fun _ _ _ _ _ _ us hl => match us, hl with | [_, _], _ => rfl⟩
theorem k26 : TOk T t26 d26 := ⟨by decide +kernel, fun _ _ _ _ _ _ us hl => match us, hl with | [_, _], _ => rfl⟩
theorem k27 : TOk T t27 d27 := ⟨by decide +kernel, fun _ _ _ _ _ _ us hl => match us, hl with | [_, _], _ => rfl⟩
theorem k28 : TOk T t28 d28 := ⟨by decide +kernel, fun _ _ _ _ _ _ us hl => match us, hl with | [_, _], _ => rfl⟩
theorem k29 : TOk T t29 d29 := ⟨by decide +kernel, fun _ _ _ _ _ _ us hl => match us, hl with | [_, _, _], _ => rfl⟩
theorem k30 : TOk T t30 d30 := ⟨by decide +kernel, fun _ _ _ _ _ _ us hl => match us, hl with | [_, _, _, _], _ => rfl⟩
theorem k31 : TOk T t31 d31 := ⟨by decide +kernel, fun _ _ _ _ _ _ us hl => match us, hl with | [_, _], _ => rfl⟩
theorem k32 : TOk T t32 d32 := ⟨by decide +kernel, fun _ _ _ _ _ _ us hl => match us, hl with | [_, _], _ => rfl⟩
theorem k33 : TOk T t33 d33 := ⟨by decide +kernel, fun _ _ _ _ _ _ us hl => match us, hl with | [_, _], _ => rfl⟩
theorem k34 : TOk T t34 d34 := ⟨by decide +kernel, fun _ _ _ _ _ _ us hl => match us, hl with | [_, _], _ => rfl⟩
theorem k35 : TOk T t35 d35 := ⟨by decide +kernel, fun _ _ _ _ _ _ us hl => match us, hl with | [_, _], _ => rfl⟩
theorem k36 : TOk T t36 d36 := ⟨by decide +kernel, fun _ _ _ _ _ _ us hl => match us, hl with | [_], _ => rfl⟩
theorem k37 : TOk T t37 d37 := ⟨by decide +kernel, fun _ _ _ _ _ _ us hl => match us, hl with | [_], _ => rfl⟩
theorem k38 : TOk T t38 d38 := ⟨by decide +kernel, fun _ _ _ _ _ _ us hl => match us, hl with | [_], _ => rfl⟩
theorem k39 : TOk T t39 d39 := ⟨by decide +kernel, fun _ _ _ _ _ _ us hl => match us, hl with | [_], _ => rfl⟩
theorem k40 : TOk T t40 d40 := ⟨by decide +kernel, fun _ _ _ _ _ _ us hl => match us, hl with | [_], _ => rfl⟩
theorem k41 : TOk T t41 d41 := ⟨by decide +kernel, fun _ _ _ _ _ _ us hl => match us, hl with | [_], _ => rfl⟩
theorem k42 : TOk T t42 d42 := ⟨by decide +kernel, fun _ _ _ _ _ _ us hl => match us, hl with | [_, _, _], _ => rfl⟩
theorem k43 : TOk T t43 d43 := ⟨by decide +kernel, fun _ _ _ _ _ _ us hl => match us, hl with | [_, _], _ => rfl⟩
theorem k44 : TOk T t44 d44 := ⟨by decide +kernel, fun _ _ _ _ _ _ us hl => match us, hl with | [_], _ => rfl⟩
theorem k45 : TOk T t45 d45 := ⟨by decide +kernel, fun _ _ _ _ _ _ us hl => match us, hl with | [_], _ => rfl⟩
theorem k46 : TOk T t46 d46 := ⟨by decide +kernel, fun _ _ _ _ _ _ us hl => match us, hl with | [_], _ => rfl⟩
theorem k47 : TOk T t47 d47 := ⟨by decide +kernel, fun _ _ _ _ _ _ us hl => match us, hl with | [_, _], _ => rfl⟩
theorem k48 : TOk T t48 d48 := ⟨by decide +kernel, fun _ _ _ _ _ _ us hl => match us, hl with | [_, _], _ => rfl⟩
theorem k49 : TOk T t49 d49 := ⟨by decide +kernel, fun _ _ _ _ _ _ us hl => match us, hl with | [_, _], _ => rfl⟩
theorem k50 : TOk T t50 d50 := ⟨by decide +kernel, fun _ _ _ _ _ _ us hl => match us, hl with | [_, _], _ => rfl⟩
theorem k51 : TOk T t51 d51 := ⟨by decide +kernel, fun _ _ _ _ _ _ us hl => match us, hl with | [_, _, _], _ => rfl⟩
theorem k52 : TOk T t52 d52 := ⟨by decide +kernel, fun _ _ _ _ _ _ us hl => match us, hl with | [_, _], _ => rfl⟩
theorem k53 : TOk T t53 d53 := ⟨by decide +kernel, fun _ _ _ _ _ _ us hl => match us, hl with | [_], _ => rfl⟩
theorem k54 : TOk T t54 d54 := ⟨by decide +kernel, fun _ _ _ _ _ _ us hl => match us, hl with | [_], _ => rfl⟩
theorem k55 : TOk T t55 d55 := ⟨by decide +kernel, fun _ _ _ _ _ _ us hl => match us, hl with | [_], _ => rfl⟩
theorem k56 : TOk T t56 d56 := ⟨by decide +kernel, fun _ _ _ _ _ _ us hl => match us, hl with | [_, _], _ => rfl⟩
theorem k57 : TOk T t57 d57 := ⟨by decide +kernel, fun _ _ _ _ _ _ us hl => match us, hl with | [_, _], _ => rfl⟩
theorem k58 : TOk T t58 d58 := ⟨by decide +kernel, fun _ _ _ _ _ _ us hl => match us, hl with | [_], _ => rfl⟩
theorem k59 : TOk T t59 d59 := ⟨by decide +kernel, fun _ _ _ _ _ _ us hl => match us, hl with | [_, _], _ => rfl⟩
theorem k60 : TOk T t60 d60 := ⟨by decide +kernel, fun _ _ _ _ _ _ us hl => match us, hl with | [_, _], _ => rfl⟩
theorem k61 : TOk T t61 d61 := ⟨by decide +kernel, fun _ _ _ _ _ _ us hl => match us, hl with | [_, _, _], _ => rfl⟩
theorem k62 : TOk T t62 d62 := ⟨by decide +kernel, fun _ _ _ _ _ _ us hl => match us, hl with | [_, _], _ => rfl⟩
theorem k63 : TOk T t63 d63 := ⟨by decide +kernel, fun _ _ _ _ _ _ us hl => match us, hl with | [_, _, _], _ => rfl⟩
theorem k64 : TOk T t64 d64 := ⟨by decide +kernel, fun _ _ _ _ _ _ us hl => match us, hl with | [_], _ => rfl⟩
theorem k65 : TOk T t65 d65 := ⟨by decide +kernel, fun _ _ _ _ _ _ us hl => match us, hl with | [_], _ => rfl⟩
theorem ok : ∀ (i : Nat) (p : TD × He.DefD), ds[i]? = some p → TOk T p.1 p.2
  | 0, _, h => by cases h; exact k0
  | 1, _, h => by cases h; exact k1
  | 2, _, h => by cases h; exact k2
  | 3, _, h => by cases h; exact k3
  | 4, _, h => by cases h; exact k4
  | 5, _, h => by cases h; exact k5
  | 6, _, h => by cases h; exact k6
  | 7, _, h => by cases h; exact k7
  | 8, _, h => by cases h; exact k8
  | 9, _, h => by cases h; exact k9
  | 10, _, h => by cases h; exact k10
  | 11, _, h => by cases h; exact k11
  | 12, _, h => by cases h; exact k12
  | 13, _, h => by cases h; exact k13
  | 14, _, h => by cases h; exact k14
  | 15, _, h => by cases h; exact k15
  | 16, _, h => by cases h; exact k16
  | 17, _, h => by cases h; exact k17
  | 18, _, h => by cases h; exact k18
  | 19, _, h => by cases h; exact k19
  | 20, _, h => by cases h; exact k20
  | 21, _, h => by cases h; exact k21
  | 22, _, h => by cases h; exact k22
  | 23, _, h => by cases h; exact k23
  | 24, _, h => by cases h; exact k24
  | 25, _, h => by cases h; exact k25
  | 26, _, h => by cases h; exact k26
  | 27, _, h => by cases h; exact k27
  | 28, _, h => by cases h; exact k28
  | 29, _, h => by cases h; exact k29
  | 30, _, h => by cases h; exact k30
  | 31, _, h => by cases h; exact k31
  | 32, _, h => by cases h; exact k32
  | 33, _, h => by cases h; exact k33
  | 34, _, h => by cases h; exact k34
  | 35, _, h => by cases h; exact k35
  | 36, _, h => by cases h; exact k36
  | 37, _, h => by cases h; exact k37
  | 38, _, h => by cases h; exact k38
  | 39, _, h => by cases h; exact k39
  | 40, _, h => by cases h; exact k40
  | 41, _, h => by cases h; exact k41
  | 42, _, h => by cases h; exact k42
  | 43, _, h => by cases h; exact k43
  | 44, _, h => by cases h; exact k44
  | 45, _, h => by cases h; exact k45
  | 46, _, h => by cases h; exact k46
  | 47, _, h => by cases h; exact k47
  | 48, _, h => by cases h; exact k48
  | 49, _, h => by cases h; exact k49
  | 50, _, h => by cases h; exact k50
  | 51, _, h => by cases h; exact k51
  | 52, _, h => by cases h; exact k52
  | 53, _, h => by cases h; exact k53
  | 54, _, h => by cases h; exact k54
  | 55, _, h => by cases h; exact k55
  | 56, _, h => by cases h; exact k56
  | 57, _, h => by cases h; exact k57
  | 58, _, h => by cases h; exact k58
  | 59, _, h => by cases h; exact k59
  | 60, _, h => by cases h; exact k60
  | 61, _, h => by cases h; exact k61
  | 62, _, h => by cases h; exact k62
  | 63, _, h => by cases h; exact k63
  | 64, _, h => by cases h; exact k64
  | 65, _, h => by cases h; exact k65
  | n + 66, _, h => by cases h
theorem k66 : okB T t66 d66 = true := by decide +kernel
theorem w66 : ∀ (K : PySem.W.Frag) (f : Addr) (fd : FuncData), FunD K d66.name d66.qual d66.params d66.body d66.scope (d66.dvs K) (d66.kws K) f fd → L2.Binds K fd t66.ps [] ∧ ∀ (m : Nat) (ks : List Str) (pm : List Nat), (66, m, ks, pm) ∈ T.kws → KBn K fd t66.ps m ks (fun us ws => pm.filterMap fun j => (us ++ ws)[j]?) fun vs zs => pm.filterMap fun j => (vs ++ zs)[j]? := by
  intro K f fd FD
  refine ⟨?_, fun m ks pm hm => ?_⟩
  · obtain ⟨ds, r, B⟩ := FD.binds1 (ps := t66.ps) 2 1 (by simp [He.DefD.dvs]) (by rfl) fun _ _ _ _ _ _ _ us its h1 h2 => match us, its, h1, h2 with | [_, _], [_], _, _ => ⟨_, rfl, rfl⟩
    cases r
    exact B
  replace hm : (66, m, ks, pm) ∈ ([(71, 1, ["name"], [0, 1]), (70, 2, ["values"], [0, 1, 2])] : List (Nat × Nat × List Str × List Nat)) := hm
  simp only [List.mem_cons, List.not_mem_nil, or_false, Prod.mk.injEq] at hm
  rcases hm with ⟨h0, rfl, rfl, rfl⟩ | ⟨h0, rfl, rfl, rfl⟩
  · exact absurd h0 (by decide)
  · exact absurd h0 (by decide)
theorem k67 : okB T t67 d67 = true := by decide +kernel
theorem w67 : ∀ (K : PySem.W.Frag) (f : Addr) (fd : FuncData), FunD K d67.name d67.qual d67.params d67.body d67.scope (d67.dvs K) (d67.kws K) f fd → L2.Binds K fd t67.ps [] ∧ ∀ (m : Nat) (ks : List Str) (pm : List Nat), (67, m, ks, pm) ∈ T.kws → KBn K fd t67.ps m ks (fun us ws => pm.filterMap fun j => (us ++ ws)[j]?) fun vs zs => pm.filterMap fun j => (vs ++ zs)[j]? := by
  intro K f fd FD
  replace FD : FunD K d67.name d67.qual d67.params d67.body d67.scope [] [] f fd := FD
  refine ⟨FD.bindsN fun _ _ _ _ _ _ us hl => match us, hl with | [_, _], _ => rfl, fun m ks pm hm => ?_⟩
  replace hm : (67, m, ks, pm) ∈ ([(71, 1, ["name"], [0, 1]), (70, 2, ["values"], [0, 1, 2])] : List (Nat × Nat × List Str × List Nat)) := hm
  simp only [List.mem_cons, List.not_mem_nil, or_false, Prod.mk.injEq] at hm
  rcases hm with ⟨h0, rfl, rfl, rfl⟩ | ⟨h0, rfl, rfl, rfl⟩
  · exact absurd h0 (by decide)
  · exact absurd h0 (by decide)
theorem k68 : okB T t68 d68 = true := by decide +kernel
theorem w68 : ∀ (K : PySem.W.Frag) (f : Addr) (fd : FuncData), FunD K d68.name d68.qual d68.params d68.body d68.scope (d68.dvs K) (d68.kws K) f fd → L2.Binds K fd t68.ps [] ∧ ∀ (m : Nat) (ks : List Str) (pm : List Nat), (68, m, ks, pm) ∈ T.kws → KBn K fd t68.ps m ks (fun us ws => pm.filterMap fun j => (us ++ ws)[j]?) fun vs zs => pm.filterMap fun j => (vs ++ zs)[j]? := by
  intro K f fd FD
  replace FD : FunD K d68.name d68.qual d68.params d68.body d68.scope [] [] f fd := FD
  refine ⟨FD.bindsN fun _ _ _ _ _ _ us hl => match us, hl with | [_, _], _ => rfl, fun m ks pm hm => ?_⟩
  replace hm : (68, m, ks, pm) ∈ ([(71, 1, ["name"], [0, 1]), (70, 2, ["values"], [0, 1, 2])] : List (Nat × Nat × List Str × List Nat)) := hm
  simp only [List.mem_cons, List.not_mem_nil, or_false, Prod.mk.injEq] at hm
  rcases hm with ⟨h0, rfl, rfl, rfl⟩ | ⟨h0, rfl, rfl, rfl⟩
  · exact absurd h0 (by decide)
  · exact absurd h0 (by decide)
theorem k69 : okB T t69 d69 = true := by decide +kernel
theorem w69 : ∀ (K : PySem.W.Frag) (f : Addr) (fd : FuncData), FunD K d69.name d69.qual d69.params d69.body d69.scope (d69.dvs K) (d69.kws K) f fd → L2.Binds K fd t69.ps [] ∧ ∀ (m : Nat) (ks : List Str) (pm : List Nat), (69, m, ks, pm) ∈ T.kws → KBn K fd t69.ps m ks (fun us ws => pm.filterMap fun j => (us ++ ws)[j]?) fun vs zs => pm.filterMap fun j => (vs ++ zs)[j]? := by
  intro K f fd FD
  replace FD : FunD K d69.name d69.qual d69.params d69.body d69.scope [] [] f fd := FD
  refine ⟨FD.bindsN fun _ _ _ _ _ _ us hl => match us, hl with | [_, _, _, _], _ => rfl, fun m ks pm hm => ?_⟩
  replace hm : (69, m, ks, pm) ∈ ([(71, 1, ["name"], [0, 1]), (70, 2, ["values"], [0, 1, 2])] : List (Nat × Nat × List Str × List Nat)) := hm
  simp only [List.mem_cons, List.not_mem_nil, or_false, Prod.mk.injEq] at hm
  rcases hm with ⟨h0, rfl, rfl, rfl⟩ | ⟨h0, rfl, rfl, rfl⟩
  · exact absurd h0 (by decide)
  · exact absurd h0 (by decide)
theorem k70 : okB T t70 d70 = true := by decide +kernel
theorem w70 : ∀ (K : PySem.W.Frag) (f : Addr) (fd : FuncData), FunD K d70.name d70.qual d70.params d70.body d70.scope (d70.dvs K) (d70.kws K) f fd → L2.Binds K fd t70.ps [] ∧ ∀ (m : Nat) (ks : List Str) (pm : List Nat), (70, m, ks, pm) ∈ T.kws → KBn K fd t70.ps m ks (fun us ws => pm.filterMap fun j => (us ++ ws)[j]?) fun vs zs => pm.filterMap fun j => (vs ++ zs)[j]? := by
  intro K f fd FD
  replace FD : FunD K d70.name d70.qual d70.params d70.body d70.scope [] [] f fd := FD
  refine ⟨FD.bindsN fun _ _ _ _ _ _ us hl => match us, hl with | [_, _, _], _ => rfl, fun m ks pm hm => ?_⟩
  replace hm : (70, m, ks, pm) ∈ ([(71, 1, ["name"], [0, 1]), (70, 2, ["values"], [0, 1, 2])] : List (Nat × Nat × List Str × List Nat)) := hm
  simp only [List.mem_cons, List.not_mem_nil, or_false, Prod.mk.injEq] at hm
  rcases hm with ⟨h0, rfl, rfl, rfl⟩ | ⟨h0, rfl, rfl, rfl⟩
  · exact absurd h0 (by decide)
  · exact kbn_of FD fun _ _ _ _ _ _ us ws h1 h2 => match us, ws, h1, h2 with | [_, _], [_], _, _ => rfl
theorem k71 : okB T t71 d71 = true := by decide +kernel
theorem w71 : ∀ (K : PySem.W.Frag) (f : Addr) (fd : FuncData), FunD K d71.name d71.qual d71.params d71.body d71.scope (d71.dvs K) (d71.kws K) f fd → L2.Binds K fd t71.ps [] ∧ ∀ (m : Nat) (ks : List Str) (pm : List Nat), (71, m, ks, pm) ∈ T.kws → KBn K fd t71.ps m ks (fun us ws => pm.filterMap fun j => (us ++ ws)[j]?) fun vs zs => pm.filterMap fun j => (vs ++ zs)[j]? := by
  intro K f fd FD
  replace FD : FunD K d71.name d71.qual d71.params d71.body d71.scope [] [] f fd := FD
  refine ⟨FD.bindsN fun _ _ _ _ _ _ us hl => match us, hl with | [_, _], _ => rfl, fun m ks pm hm => ?_⟩
  replace hm : (71, m, ks, pm) ∈ ([(71, 1, ["name"], [0, 1]), (70, 2, ["values"], [0, 1, 2])] : List (Nat × Nat × List Str × List Nat)) := hm
  simp only [List.mem_cons, List.not_mem_nil, or_false, Prod.mk.injEq] at hm
  rcases hm with ⟨h0, rfl, rfl, rfl⟩ | ⟨h0, rfl, rfl, rfl⟩
  · exact kbn_of FD fun _ _ _ _ _ _ us ws h1 h2 => match us, ws, h1, h2 with | [_], [_], _, _ => rfl
  · exact absurd h0 (by decide)
theorem k72 : okB T t72 d72 = true := by decide +kernel
theorem w72 : ∀ (K : PySem.W.Frag) (f : Addr) (fd : FuncData), FunD K d72.name d72.qual d72.params d72.body d72.scope (d72.dvs K) (d72.kws K) f fd → L2.Binds K fd t72.ps [] ∧ ∀ (m : Nat) (ks : List Str) (pm : List Nat), (72, m, ks, pm) ∈ T.kws → KBn K fd t72.ps m ks (fun us ws => pm.filterMap fun j => (us ++ ws)[j]?) fun vs zs => pm.filterMap fun j => (vs ++ zs)[j]? := by
  intro K f fd FD
  replace FD : FunD K d72.name d72.qual d72.params d72.body d72.scope [] [] f fd := FD
  refine ⟨FD.bindsN fun _ _ _ _ _ _ us hl => match us, hl with | [_], _ => rfl, fun m ks pm hm => ?_⟩
  replace hm : (72, m, ks, pm) ∈ ([(71, 1, ["name"], [0, 1]), (70, 2, ["values"], [0, 1, 2])] : List (Nat × Nat × List Str × List Nat)) := hm
  simp only [List.mem_cons, List.not_mem_nil, or_false, Prod.mk.injEq] at hm
  rcases hm with ⟨h0, rfl, rfl, rfl⟩ | ⟨h0, rfl, rfl, rfl⟩
  · exact absurd h0 (by decide)
  · exact absurd h0 (by decide)
theorem k73 : okB T t73 d73 = true := by decide +kernel
theorem w73 : ∀ (K : PySem.W.Frag) (f : Addr) (fd : FuncData), FunD K d73.name d73.qual d73.params d73.body d73.scope (d73.dvs K) (d73.kws K) f fd → L2.Binds K fd t73.ps [] ∧ ∀ (m : Nat) (ks : List Str) (pm : List Nat), (73, m, ks, pm) ∈ T.kws → KBn K fd t73.ps m ks (fun us ws => pm.filterMap fun j => (us ++ ws)[j]?) fun vs zs => pm.filterMap fun j => (vs ++ zs)[j]? := by
  intro K f fd FD
  replace FD : FunD K d73.name d73.qual d73.params d73.body d73.scope [] [] f fd := FD
  refine ⟨FD.bindsN fun _ _ _ _ _ _ us hl => match us, hl with | [_], _ => rfl, fun m ks pm hm => ?_⟩
  replace hm : (73, m, ks, pm) ∈ ([(71, 1, ["name"], [0, 1]), (70, 2, ["values"], [0, 1, 2])] : List (Nat × Nat × List Str × List Nat)) := hm
  simp only [List.mem_cons, List.not_mem_nil, or_false, Prod.mk.injEq] at hm
  rcases hm with ⟨h0, rfl, rfl, rfl⟩ | ⟨h0, rfl, rfl, rfl⟩
  · exact absurd h0 (by decide)
  · exact absurd h0 (by decide)
theorem k74 : okB T t74 d74 = true := by decide +kernel
theorem w74 : ∀ (K : PySem.W.Frag) (f : Addr) (fd : FuncData), FunD K d74.name d74.qual d74.params d74.body d74.scope (d74.dvs K) (d74.kws K) f fd → L2.Binds K fd t74.ps [] ∧ ∀ (m : Nat) (ks : List Str) (pm : List Nat), (74, m, ks, pm) ∈ T.kws → KBn K fd t74.ps m ks (fun us ws => pm.filterMap fun j => (us ++ ws)[j]?) fun vs zs => pm.filterMap fun j => (vs ++ zs)[j]? := by
  intro K f fd FD
  replace FD : FunD K d74.name d74.qual d74.params d74.body d74.scope [] [] f fd := FD
  refine ⟨FD.bindsN fun _ _ _ _ _ _ us hl => match us, hl with | [_], _ => rfl, fun m ks pm hm => ?_⟩
  replace hm : (74, m, ks, pm) ∈ ([(71, 1, ["name"], [0, 1]), (70, 2, ["values"], [0, 1, 2])] : List (Nat × Nat × List Str × List Nat)) := hm
  simp only [List.mem_cons, List.not_mem_nil, or_false, Prod.mk.injEq] at hm
  rcases hm with ⟨h0, rfl, rfl, rfl⟩ | ⟨h0, rfl, rfl, rfl⟩
  · exact absurd h0 (by decide)
  · exact absurd h0 (by decide)
theorem k75 : okB T t75 d75 = true := by decide +kernel
theorem w75 : ∀ (K : PySem.W.Frag) (f : Addr) (fd : FuncData), FunD K d75.name d75.qual d75.params d75.body d75.scope (d75.dvs K) (d75.kws K) f fd → L2.Binds K fd t75.ps [] ∧ ∀ (m : Nat) (ks : List Str) (pm : List Nat), (75, m, ks, pm) ∈ T.kws → KBn K fd t75.ps m ks (fun us ws => pm.filterMap fun j => (us ++ ws)[j]?) fun vs zs => pm.filterMap fun j => (vs ++ zs)[j]? := by
  intro K f fd FD
  replace FD : FunD K d75.name d75.qual d75.params d75.body d75.scope [] [] f fd := FD
  refine ⟨FD.bindsN fun _ _ _ _ _ _ us hl => match us, hl with | [_], _ => rfl, fun m ks pm hm => ?_⟩
  replace hm : (75, m, ks, pm) ∈ ([(71, 1, ["name"], [0, 1]), (70, 2, ["values"], [0, 1, 2])] : List (Nat × Nat × List Str × List Nat)) := hm
  simp only [List.mem_cons, List.not_mem_nil, or_false, Prod.mk.injEq] at hm
  rcases hm with ⟨h0, rfl, rfl, rfl⟩ | ⟨h0, rfl, rfl, rfl⟩
  · exact absurd h0 (by decide)
  · exact absurd h0 (by decide)
theorem k76 : okB T t76 d76 = true := by decide +kernel
theorem w76 : ∀ (K : PySem.W.Frag) (f : Addr) (fd : FuncData), FunD K d76.name d76.qual d76.params d76.body d76.scope (d76.dvs K) (d76.kws K) f fd → L2.Binds K fd t76.ps [] ∧ ∀ (m : Nat) (ks : List Str) (pm : List Nat), (76, m, ks, pm) ∈ T.kws → KBn K fd t76.ps m ks (fun us ws => pm.filterMap fun j => (us ++ ws)[j]?) fun vs zs => pm.filterMap fun j => (vs ++ zs)[j]? := by
  intro K f fd FD
  replace FD : FunD K d76.name d76.qual d76.params d76.body d76.scope [] [] f fd := FD
  refine ⟨FD.bindsN fun _ _ _ _ _ _ us hl => match us, hl with | [_], _ => rfl, fun m ks pm hm => ?_⟩
  replace hm : (76, m, ks, pm) ∈ ([(71, 1, ["name"], [0, 1]), (70, 2, ["values"], [0, 1, 2])] : List (Nat × Nat × List Str × List Nat)) := hm
  simp only [List.mem_cons, List.not_mem_nil, or_false, Prod.mk.injEq] at hm
  rcases hm with ⟨h0, rfl, rfl, rfl⟩ | ⟨h0, rfl, rfl, rfl⟩
  · exact absurd h0 (by decide)
  · exact absurd h0 (by decide)
theorem k77 : okB T t77 d77 = true := by decide +kernel
theorem w77 : ∀ (K : PySem.W.Frag) (f : Addr) (fd : FuncData), FunD K d77.name d77.qual d77.params d77.body d77.scope (d77.dvs K) (d77.kws K) f fd → L2.Binds K fd t77.ps [] ∧ ∀ (m : Nat) (ks : List Str) (pm : List Nat), (77, m, ks, pm) ∈ T.kws → KBn K fd t77.ps m ks (fun us ws => pm.filterMap fun j => (us ++ ws)[j]?) fun vs zs => pm.filterMap fun j => (vs ++ zs)[j]? := by
  intro K f fd FD
  replace FD : FunD K d77.name d77.qual d77.params d77.body d77.scope [] [] f fd := FD
  refine ⟨FD.bindsN fun _ _ _ _ _ _ us hl => match us, hl with | [_], _ => rfl, fun m ks pm hm => ?_⟩
  replace hm : (77, m, ks, pm) ∈ ([(71, 1, ["name"], [0, 1]), (70, 2, ["values"], [0, 1, 2])] : List (Nat × Nat × List Str × List Nat)) := hm
  simp only [List.mem_cons, List.not_mem_nil, or_false, Prod.mk.injEq] at hm
  rcases hm with ⟨h0, rfl, rfl, rfl⟩ | ⟨h0, rfl, rfl, rfl⟩
  · exact absurd h0 (by decide)
  · exact absurd h0 (by decide)
theorem k78 : okB T t78 d78 = true := by decide +kernel
theorem w78 : ∀ (K : PySem.W.Frag) (f : Addr) (fd : FuncData), FunD K d78.name d78.qual d78.params d78.body d78.scope (d78.dvs K) (d78.kws K) f fd → L2.Binds K fd t78.ps [] ∧ ∀ (m : Nat) (ks : List Str) (pm : List Nat), (78, m, ks, pm) ∈ T.kws → KBn K fd t78.ps m ks (fun us ws => pm.filterMap fun j => (us ++ ws)[j]?) fun vs zs => pm.filterMap fun j => (vs ++ zs)[j]? := by
  intro K f fd FD
  replace FD : FunD K d78.name d78.qual d78.params d78.body d78.scope [] [] f fd := FD
  refine ⟨FD.bindsN fun _ _ _ _ _ _ us hl => match us, hl with | [_], _ => rfl, fun m ks pm hm => ?_⟩
  replace hm : (78, m, ks, pm) ∈ ([(71, 1, ["name"], [0, 1]), (70, 2, ["values"], [0, 1, 2])] : List (Nat × Nat × List Str × List Nat)) := hm
  simp only [List.mem_cons, List.not_mem_nil, or_false, Prod.mk.injEq] at hm
  rcases hm with ⟨h0, rfl, rfl, rfl⟩ | ⟨h0, rfl, rfl, rfl⟩
  · exact absurd h0 (by decide)
  · exact absurd h0 (by decide)
theorem k79 : okB T t79 d79 = true := by decide +kernel
theorem w79 : ∀ (K : PySem.W.Frag) (f : Addr) (fd : FuncData), FunD K d79.name d79.qual d79.params d79.body d79.scope (d79.dvs K) (d79.kws K) f fd → L2.Binds K fd t79.ps [] ∧ ∀ (m : Nat) (ks : List Str) (pm : List Nat), (79, m, ks, pm) ∈ T.kws → KBn K fd t79.ps m ks (fun us ws => pm.filterMap fun j => (us ++ ws)[j]?) fun vs zs => pm.filterMap fun j => (vs ++ zs)[j]? := by
  intro K f fd FD
  replace FD : FunD K d79.name d79.qual d79.params d79.body d79.scope [] [] f fd := FD
  refine ⟨FD.bindsN fun _ _ _ _ _ _ us hl => match us, hl with | [_], _ => rfl, fun m ks pm hm => ?_⟩
  replace hm : (79, m, ks, pm) ∈ ([(71, 1, ["name"], [0, 1]), (70, 2, ["values"], [0, 1, 2])] : List (Nat × Nat × List Str × List Nat)) := hm
  simp only [List.mem_cons, List.not_mem_nil, or_false, Prod.mk.injEq] at hm
  rcases hm with ⟨h0, rfl, rfl, rfl⟩ | ⟨h0, rfl, rfl, rfl⟩
  · exact absurd h0 (by decide)
  · exact absurd h0 (by decide)
theorem k80 : okB T t80 d80 = true := by decide +kernel
theorem w80 : ∀ (K : PySem.W.Frag) (f : Addr) (fd : FuncData), FunD K d80.name d80.qual d80.params d80.body d80.scope (d80.dvs K) (d80.kws K) f fd → L2.Binds K fd t80.ps [] ∧ ∀ (m : Nat) (ks : List Str) (pm : List Nat), (80, m, ks, pm) ∈ T.kws → KBn K fd t80.ps m ks (fun us ws => pm.filterMap fun j => (us ++ ws)[j]?) fun vs zs => pm.filterMap fun j => (vs ++ zs)[j]? := by
  intro K f fd FD
  replace FD : FunD K d80.name d80.qual d80.params d80.body d80.scope [] [] f fd := FD
  refine ⟨FD.bindsN fun _ _ _ _ _ _ us hl => match us, hl with | [_, _], _ => rfl, fun m ks pm hm => ?_⟩
  replace hm : (80, m, ks, pm) ∈ ([(71, 1, ["name"], [0, 1]), (70, 2, ["values"], [0, 1, 2])] : List (Nat × Nat × List Str × List Nat)) := hm
  simp only [List.mem_cons, List.not_mem_nil, or_false, Prod.mk.injEq] at hm
  rcases hm with ⟨h0, rfl, rfl, rfl⟩ | ⟨h0, rfl, rfl, rfl⟩
  · exact absurd h0 (by decide)
  · exact absurd h0 (by decide)
theorem k81 : okB T t81 d81 = true := by decide +kernel
theorem w81 : ∀ (K : PySem.W.Frag) (f : Addr) (fd : FuncData), FunD K d81.name d81.qual d81.params d81.body d81.scope (d81.dvs K) (d81.kws K) f fd → L2.Binds K fd t81.ps [] ∧ ∀ (m : Nat) (ks : List Str) (pm : List Nat), (81, m, ks, pm) ∈ T.kws → KBn K fd t81.ps m ks (fun us ws => pm.filterMap fun j => (us ++ ws)[j]?) fun vs zs => pm.filterMap fun j => (vs ++ zs)[j]? := by
  intro K f fd FD
  replace FD : FunD K d81.name d81.qual d81.params d81.body d81.scope [] [] f fd := FD
  refine ⟨FD.bindsN fun _ _ _ _ _ _ us hl => match us, hl with | [_, _, _], _ => rfl, fun m ks pm hm => ?_⟩
  replace hm : (81, m, ks, pm) ∈ ([(71, 1, ["name"], [0, 1]), (70, 2, ["values"], [0, 1, 2])] : List (Nat × Nat × List Str × List Nat)) := hm
  simp only [List.mem_cons, List.not_mem_nil, or_false, Prod.mk.injEq] at hm
  rcases hm with ⟨h0, rfl, rfl, rfl⟩ | ⟨h0, rfl, rfl, rfl⟩
  · exact absurd h0 (by decide)
  · exact absurd h0 (by decide)
theorem k82 : okB T t82 d82 = true := by decide +kernel
theorem w82 : ∀ (K : PySem.W.Frag) (f : Addr) (fd : FuncData), FunD K d82.name d82.qual d82.params d82.body d82.scope (d82.dvs K) (d82.kws K) f fd → L2.Binds K fd t82.ps [] ∧ ∀ (m : Nat) (ks : List Str) (pm : List Nat), (82, m, ks, pm) ∈ T.kws → KBn K fd t82.ps m ks (fun us ws => pm.filterMap fun j => (us ++ ws)[j]?) fun vs zs => pm.filterMap fun j => (vs ++ zs)[j]? := by
  intro K f fd FD
  replace FD : FunD K d82.name d82.qual d82.params d82.body d82.scope [] [] f fd := FD
  refine ⟨FD.bindsN fun _ _ _ _ _ _ us hl => match us, hl with | [_], _ => rfl, fun m ks pm hm => ?_⟩
  replace hm : (82, m, ks, pm) ∈ ([(71, 1, ["name"], [0, 1]), (70, 2, ["values"], [0, 1, 2])] : List (Nat × Nat × List Str × List Nat)) := hm
  simp only [List.mem_cons, List.not_mem_nil, or_false, Prod.mk.injEq] at hm
  rcases hm with ⟨h0, rfl, rfl, rfl⟩ | ⟨h0, rfl, rfl, rfl⟩
  · exact absurd h0 (by decide)
  · exact absurd h0 (by decide)
theorem k83 : okB T t83 d83 = true := by decide +kernel
theorem w83 : ∀ (K : PySem.W.Frag) (f : Addr) (fd : FuncData), FunD K d83.name d83.qual d83.params d83.body d83.scope (d83.dvs K) (d83.kws K) f fd → L2.Binds K fd t83.ps [] ∧ ∀ (m : Nat) (ks : List Str) (pm : List Nat), (83, m, ks, pm) ∈ T.kws → KBn K fd t83.ps m ks (fun us ws => pm.filterMap fun j => (us ++ ws)[j]?) fun vs zs => pm.filterMap fun j => (vs ++ zs)[j]? := by
  intro K f fd FD
  replace FD : FunD K d83.name d83.qual d83.params d83.body d83.scope [] [] f fd := FD
  refine ⟨FD.bindsN fun _ _ _ _ _ _ us hl => match us, hl with | [_], _ => rfl, fun m ks pm hm => ?_⟩
  replace hm : (83, m, ks, pm) ∈ ([(71, 1, ["name"], [0, 1]), (70, 2, ["values"], [0, 1, 2])] : List (Nat × Nat × List Str × List Nat)) := hm
  simp only [List.mem_cons, List.not_mem_nil, or_false, Prod.mk.injEq] at hm
  rcases hm with ⟨h0, rfl, rfl, rfl⟩ | ⟨h0, rfl, rfl, rfl⟩
  · exact absurd h0 (by decide)
  · exact absurd h0 (by decide)
theorem mok : ∀ (j : Nat) (p : MD), ms[j]? = some p → okB T p.t p.d = true ∧ (∃ x, T.ics[p.c]? = some x ∧ p.d.at_ = (x, some p.m)) ∧ ∀ (K : PySem.W.Frag) (f : Addr) (fd : FuncData), FunD K p.d.name p.d.qual p.d.params p.d.body p.d.scope (p.d.dvs K) (p.d.kws K) f fd → L2.Binds K fd p.t.ps [] ∧ ∀ (m : Nat) (ks : List Str) (pm : List Nat), (ds.length + j, m, ks, pm) ∈ T.kws → KBn K fd p.t.ps m ks (fun us ws => pm.filterMap fun j => (us ++ ws)[j]?) fun vs zs => pm.filterMap fun j => (vs ++ zs)[j]?
  | 0, _, h => by cases h; exact ⟨k66, ⟨_, rfl, rfl⟩, w66⟩
  | 1, _, h => by cases h; exact ⟨k67, ⟨_, rfl, rfl⟩, w67⟩
  | 2, _, h => by cases h; exact ⟨k68, ⟨_, rfl, rfl⟩, w68⟩
  | 3, _, h => by cases h; exact ⟨k69, ⟨_, rfl, rfl⟩, w69⟩
  | 4, _, h => by cases h; exact ⟨k70, ⟨_, rfl, rfl⟩, w70⟩
  | 5, _, h => by cases h; exact ⟨k71, ⟨_, rfl, rfl⟩, w71⟩
  | 6, _, h => by cases h; exact ⟨k72, ⟨_, rfl, rfl⟩, w72⟩
  | 7, _, h => by cases h; exact ⟨k73, ⟨_, rfl, rfl⟩, w73⟩
  | 8, _, h => by cases h; exact ⟨k74, ⟨_, rfl, rfl⟩, w74⟩
  | 9, _, h => by cases h; exact ⟨k75, ⟨_, rfl, rfl⟩, w75⟩
  | 10, _, h => by cases h; exact ⟨k76, ⟨_, rfl, rfl⟩, w76⟩
  | 11, _, h => by cases h; exact ⟨k77, ⟨_, rfl, rfl⟩, w77⟩
  | 12, _, h => by cases h; exact ⟨k78, ⟨_, rfl, rfl⟩, w78⟩
  | 13, _, h => by cases h; exact ⟨k79, ⟨_, rfl, rfl⟩, w79⟩
  | 14, _, h => by cases h; exact ⟨k80, ⟨_, rfl, rfl⟩, w80⟩
  | 15, _, h => by cases h; exact ⟨k81, ⟨_, rfl, rfl⟩, w81⟩
  | 16, _, h => by cases h; exact ⟨k82, ⟨_, rfl, rfl⟩, w82⟩
  | 17, _, h => by cases h; exact ⟨k83, ⟨_, rfl, rfl⟩, w83⟩
  | n + 18, _, h => by cases h
theorem lmd : lamD T ds ms = true := by decide +kernel
end Tx
end
section
set_option Elab.async false
set_option linter.all false
set_option maxRecDepth 100000
set_option maxHeartbeats 0
namespace Tx
open PySem PySem.Spec PyProof.Rows L2 Ev
def ins : List He.DefD := [i1, i2, i3, i4]
theorem hat : ∀ (i : Nat) (p : TD × He.DefD), ds[i]? = some p → p.2.at_ = (p.1.name, none) ∧ p.2.dfl = [] ∧ p.2.kwd = []
  | 0, _, h => by cases h; exact ⟨rfl, rfl, rfl⟩
  | 1, _, h => by cases h; exact ⟨rfl, rfl, rfl⟩
  | 2, _, h => by cases h; exact ⟨rfl, rfl, rfl⟩
  | 3, _, h => by cases h; exact ⟨rfl, rfl, rfl⟩
  | 4, _, h => by cases h; exact ⟨rfl, rfl, rfl⟩
  | 5, _, h => by cases h; exact ⟨rfl, rfl, rfl⟩
  | 6, _, h => by cases h; exact ⟨rfl, rfl, rfl⟩
  | 7, _, h => by cases h; exact ⟨rfl, rfl, rfl⟩
  | 8, _, h => by cases h; exact ⟨rfl, rfl, rfl⟩
  | 9, _, h => by cases h; exact ⟨rfl, rfl, rfl⟩
  | 10, _, h => by cases h; exact ⟨rfl, rfl, rfl⟩
  | 11, _, h => by cases h; exact ⟨rfl, rfl, rfl⟩
  | 12, _, h => by cases h; exact ⟨rfl, rfl, rfl⟩
  | 13, _, h => by cases h; exact ⟨rfl, rfl, rfl⟩
  | 14, _, h => by cases h; exact ⟨rfl, rfl, rfl⟩
  | 15, _, h => by cases h; exact ⟨rfl, rfl, rfl⟩
  | 16, _, h => by cases h; exact ⟨rfl, rfl, rfl⟩
  | 17, _, h => by cases h; exact ⟨rfl, rfl, rfl⟩
  | 18, _, h => by cases h; exact ⟨rfl, rfl, rfl⟩
  | 19, _, h => by cases h; exact ⟨rfl, rfl, rfl⟩
  | 20, _, h => by cases h; exact ⟨rfl, rfl, rfl⟩
  | 21, _, h => by cases h; exact ⟨rfl, rfl, rfl⟩
  | 22, _, h => by cases h; exact ⟨rfl, rfl, rfl⟩
  | 23, _, h => by cases h; exact ⟨rfl, rfl, rfl⟩
  | 24, _, h => by cases h; exact ⟨rfl, rfl, rfl⟩
  | 25, _, h => by cases h; exact ⟨rfl, rfl, rfl⟩
  | 26, _, h => by cases h; exact ⟨rfl, rfl, rfl⟩
  | 27, _, h => by cases h; exact ⟨rfl, rfl, rfl⟩
  | 28, _, h => by cases h; exact ⟨rfl, rfl, rfl⟩
  | 29, _, h => by cases h; exact ⟨rfl, rfl, rfl⟩
  | 30, _, h => by cases h; exact ⟨rfl, rfl, rfl⟩
  | 31, _, h => by cases h; exact ⟨rfl, rfl, rfl⟩
  | 32, _, h => by cases h; exact ⟨rfl, rfl, rfl⟩
  | 33, _, h => by cases h; exact ⟨rfl, rfl, rfl⟩
  | 34, _, h => by cases h; exact ⟨rfl, rfl, rfl⟩
  | 35, _, h => by cases h; exact ⟨rfl, rfl, rfl⟩
  | 36, _, h => by cases h; exact ⟨rfl, rfl, rfl⟩
  | 37, _, h => by cases h; exact ⟨rfl, rfl, rfl⟩
  | 38, _, h => by cases h; exact ⟨rfl, rfl, rfl⟩
  | 39, _, h => by cases h; exact ⟨rfl, rfl, rfl⟩
  | 40, _, h => by cases h; exact ⟨rfl, rfl, rfl⟩
  | 41, _, h => by cases h; exact ⟨rfl, rfl, rfl⟩
  | 42, _, h => by cases h; exact ⟨rfl, rfl, rfl⟩
  | 43, _, h => by cases h; exact ⟨rfl, rfl, rfl⟩
  | 44, _, h => by cases h; exact ⟨rfl, rfl, rfl⟩
  | 45, _, h => by cases h; exact ⟨rfl, rfl, rfl⟩
  | 46, _, h => by cases h; exact ⟨rfl, rfl, rfl⟩
  | 47, _, h => by cases h; exact ⟨rfl, rfl, rfl⟩
  | 48, _, h => by cases h; exact ⟨rfl, rfl, rfl⟩
  | 49, _, h => by cases h; exact ⟨rfl, rfl, rfl⟩
  | 50, _, h => by cases h; exact ⟨rfl, rfl, rfl⟩
  | 51, _, h => by cases h; exact ⟨rfl, rfl, rfl⟩
  | 52, _, h => by cases h; exact ⟨rfl, rfl, rfl⟩
  | 53, _, h => by cases h; exact ⟨rfl, rfl, rfl⟩
  | 54, _, h => by cases h; exact ⟨rfl, rfl, rfl⟩
  | 55, _, h => by cases h; exact ⟨rfl, rfl, rfl⟩
  | 56, _, h => by cases h; exact ⟨rfl, rfl, rfl⟩
  | 57, _, h => by cases h; exact ⟨rfl, rfl, rfl⟩
  | 58, _, h => by cases h; exact ⟨rfl, rfl, rfl⟩
  | 59, _, h => by cases h; exact ⟨rfl, rfl, rfl⟩
  | 60, _, h => by cases h; exact ⟨rfl, rfl, rfl⟩
  | 61, _, h => by cases h; exact ⟨rfl, rfl, rfl⟩
  | 62, _, h => by cases h; exact ⟨rfl, rfl, rfl⟩
  | 63, _, h => by cases h; exact ⟨rfl, rfl, rfl⟩
  | 64, _, h => by cases h; exact ⟨rfl, rfl, rfl⟩
  | 65, _, h => by cases h; exact ⟨rfl, rfl, rfl⟩
  | n + 66, _, h => by cases h
theorem hkw : ∀ (i : Nat) (p : TD × He.DefD) (m : Nat) (ks : List Str) (pm : List Nat), ds[i]? = some p → (i, m, ks, pm) ∈ T.kws → ∀ (kV doc pm' : Value) (an : Option Addr) (cdv ct : Value) (us ws : List Value), us.length = m → ws.length = ks.length → bindArgs (PySem.W.fnOf p.2.name p.2.qual p.2.params p.2.body p.2.scope .none kV doc pm' an cdv ct) ⟨us, ks.zip ws⟩ = pure (p.1.ps.zip (pm.filterMap fun j => (us ++ ws)[j]?)) := by
  intro i p m ks pm hp hm
  replace hm : (i, m, ks, pm) ∈ ([(71, 1, ["name"], [0,1]), (70, 2, ["values"], [0,1,2])] : List (Nat × Nat × List Str × List Nat)) := hm
  simp only [List.mem_cons, List.not_mem_nil, or_false, Prod.mk.injEq] at hm
  rcases hm with ⟨rfl, rfl, rfl, rfl⟩ | ⟨rfl, rfl, rfl, rfl⟩
  · cases hp
  · cases hp
theorem hini : ∀ (c : Nat) (x : Str) (k : Cls), T.ecs[c]? = some (x, k) → k.fs ≠ [] → ∃ (j : Nat) (d : He.DefD), ins[j]? = some d ∧ IniOk x k d ∧ d.dfl = [] ∧ d.kwd = []
  | 0, _, _, h, hne => by cases h; exact absurd rfl hne
  | 1, _, _, h, _ => by cases h; exact ⟨0, i1, rfl, ini1, rfl, rfl⟩
  | 2, _, _, h, _ => by cases h; exact ⟨1, i2, rfl, ini2, rfl, rfl⟩
  | 3, _, _, h, _ => by cases h; exact ⟨2, i3, rfl, ini3, rfl, rfl⟩
  | 4, _, _, h, _ => by cases h; exact ⟨3, i4, rfl, ini4, rfl, rfl⟩
  | 5, _, _, h, hne => by cases h; exact absurd rfl hne
  | 6, _, _, h, hne => by cases h; exact absurd rfl hne
  | 7, _, _, h, hne => by cases h; exact absurd rfl hne
  | n + 8, _, _, h, _ => by cases h
abbrev R : PySem.W.OpenRow := PySem.W.OpenLaw.row PySem.Challenge.rw_rimseries_k84_undo_refused_deeds_and_twi
abbrev hk : PySem.W.Hook := hookE T 4 (faOf T ds) (fnsOf ds ms ins) (T.cns.zip cs)
def ob (s : PySem.W.SharedT) : He.AlD × Bool := obE T 4 (faOf T ds) (fnsOf ds ms ins) (T.cns.zip cs) (HandSHeadRun.getT s)
theorem ob_eq (s : PySem.W.SharedT) : ob s = hk.obs s.abs := obE_eq (HandSHeadRun.getT_eq s)
def loose0 : List Str := ["_wall", "__name__", "FRAC_ONE", "NOUGHT", "ONE", "is_whole", "is_frac", "is_num", "frac_reduced", "frac_sum", "frac_less", "frac_product", "frac_over", "frac_compare", "num_sum", "num_less", "num_negative", "num_product", "num_scaled", "num_mirrored", "num_size", "num_over", "num_is_within", "is_place", "is_bound", "MOST_PLACES", "MOST_AT_ONE", "MOST_VALUES", "count_values", "places_of"]
def loose1 : List Str := ["first_values", "MANY", "SOLE", "NONE", "series_times", "series_over", "filled", "is_below", "can_step", "turned_values", "stepped_values", "step_by", "knots_and_rest", "is_one_number", "standing_of", "standing_by", "RimError", "InvalidFraction", "InvalidPlace", "InvalidName", "InvalidValues", "NotNow", "Alike", "TooMany", "check_bound", "check_place", "SMALL_LETTERS", "MOST_LETTERS", "is_a_name", "wrong_in_values"]
def loose2 : List Str := ["data_of", "names_of", "entry_changed", "entries_without", "check_name", "check_values", "check_room", "Book", "_law_well", "_law_draw", "_law_one_of", "_law_near", "_law_num", "_law_part", "_law_out", "_law_outs", "_law_place", "_law_spots", "_law_name", "_law_said", "_law_refused", "_law_behind", "_law_deed", "_law_act", "_law_shows", "_law_right"]
def loose : List Str := loose0 ++ loose1 ++ loose2
open HandSHeadRun PySem.W in
theorem run1 (w : World) : (wholeF (fun p => stepQ (denQ tabQ) p w) fenceQ 20000 R.prog).map (fun x => (looksF R.prog x.1.heap x.2.abs, seenQ (PySem.W.view R.prog [0, 94]) loose (importedModules R.prog.main.body) (fun s => xlAt (PySem.W.view R.prog [0, 94]) [] s && recOk R.toRowW.records s) x.2.abs)) = some (true, openGood (PySem.W.view R.prog [0, 94]) loose) := by
  kernel_rfl
open HandSHeadRun PySem.W in
theorem run2 (w : World) : (wholeF (fun p => stepQ (denQ tabQ) p w) fenceQ 20000 R.prog).map (fun x => ob x.2) = some (hk.val w) := by
  kernel_rfl
theorem run (w : World) : HandSHeadRun.RunEqI R (PySem.W.view R.prog [0, 94]) hk ob 20000 loose w := map_pair (run1 w) (run2 w)
end Tx
end
section
set_option Elab.async false
set_option linter.all false
set_option maxRecDepth 100000
set_option maxHeartbeats 4000000
set_option autoImplicit false
/-! Ev18: operations on plain data. -/
namespace Ev
open PySem

mutual
/-- how deep a datum without places is -/
def dpt : D → Nat
  | .tup xs => dptL xs + 1
  | .fl xs => dptL xs + 1
  | _ => 0
def dptL : List D → Nat
  | [] => 0
  | x :: r => max (dpt x) (dptL r)
end
mutual
/-- a datum without places or truths, its texts' signs within Unicode -/
def pl : D → Bool
  | .non => true
  | .int _ => true
  | .str l => l.all (· < 0x110000)
  | .tup xs => plL xs
  | _ => false
def plL : List D → Bool
  | [] => true
  | x :: r => pl x && plL r
end
mutual
def pd : D → PyData
  | .non => .none
  | .bl b => .bool b
  | .int i => .int i
  | .str l => .str ⟨l.toArray⟩
  | .tup xs => .tuple (pdL xs)
  | .fl xs => .list (pdL xs)
  | .ref _ => .none
def pdL : List D → List PyData
  | [] => []
  | x :: r => pd x :: pdL r
end
mutual
theorem toP_pl (S : Sto) : ∀ (d : D) (n : Nat), pl d = true → dpt d < n → toP S n d = some (pd d)
  | .non, n + 1, _, _ => rfl
  | .int i, n + 1, _, _ => rfl
  | .str l, n + 1, _, _ => rfl
  | .tup xs, n + 1, h, hd => by
    have h' : plL xs = true := h
    have hd' : dptL xs + 1 < n + 1 := hd
    show (mapO (toP S n) xs).map PyData.tuple = _
    rw [toPL_pl S xs n h' (by omega)]
    rfl
  | .non, 0, _, h => absurd h (by omega)
  | .int _, 0, _, h => absurd h (by omega)
  | .str _, 0, _, h => absurd h (by omega)
  | .tup _, 0, _, h => absurd h (by omega)
  | .bl _, _, h, _ => by cases h
  | .ref _, _, h, _ => by cases h
  | .fl _, _, h, _ => by cases h
theorem toPL_pl (S : Sto) : ∀ (xs : List D) (n : Nat), plL xs = true → dptL xs < n → mapO (toP S n) xs = some (pdL xs)
  | [], n, _, _ => rfl
  | x :: r, n, h, hd => by
    obtain ⟨h1, h2⟩ := Bool.and_eq_true_iff.mp (show (pl x && plL r) = true from h)
    have hd' : max (dpt x) (dptL r) < n := hd
    unfold mapO
    rw [toP_pl S x n h1 (by omega), toPL_pl S r n h2 (by omega)]
    rfl
end
mutual
theorem lay_pl : ∀ d : D, pl d = true → (pd d).canLay0 = true
  | .non, _ => rfl
  | .int _, _ => rfl
  | .str l, h => by
    have h' : l.all (· < 0x110000) = true := h
    show ((⟨l.toArray⟩ : Str).cps.all (· < 0x110000)) = true
    simpa using h'
  | .tup xs, h => by
    show PyData.canLayAll0 (pdL xs) = true
    exact layL_pl xs h
  | .bl _, h => by cases h
  | .ref _, h => by cases h
  | .fl _, h => by cases h
theorem layL_pl : ∀ xs : List D, plL xs = true → PyData.canLayAll0 (pdL xs) = true
  | [], _ => rfl
  | x :: r, h => by
    obtain ⟨h1, h2⟩ := Bool.and_eq_true_iff.mp (show (pl x && plL r) = true from h)
    show (PyData.canLay0 (pd x) && PyData.canLayAll0 (pdL r)) = true
    rw [lay_pl x h1, layL_pl r h2]
    rfl
end
mutual
/-- == is being the same -/
theorem eqv_pl : ∀ a b : D, pl a = true → pl b = true → (PyData.eqv (pd a) (pd b) = true ↔ a = b)
  | .non, b, _, h => by cases b <;> first | (cases h; done) | simp [pd, PyData.eqv]
  | .int i, b, _, h => by cases b <;> first | (cases h; done) | simp [pd, PyData.eqv]
  | .str l, b, _, h => by cases b <;> first | (cases h; done) | simp [pd, PyData.eqv]
  | .tup xs, b, h1, h => by
    cases b with
    | tup ys =>
      have := eqvL_pl xs ys h1 h
      simp [pd, PyData.eqv, this]
    | bl _ => cases h
    | ref _ => cases h
    | fl _ => cases h
    | _ => simp [pd, PyData.eqv]
  | .bl _, _, h, _ => by cases h
  | .ref _, _, h, _ => by cases h
  | .fl _, _, h, _ => by cases h
theorem eqvL_pl : ∀ xs ys : List D, plL xs = true → plL ys = true → (PyData.eqvAll (pdL xs) (pdL ys) = true ↔ xs = ys)
  | [], [], _, _ => by simp [pdL, PyData.eqvAll]
  | [], _ :: _, _, _ => by simp [pdL, PyData.eqvAll]
  | _ :: _, [], _, _ => by simp [pdL, PyData.eqvAll]
  | x :: xs, y :: ys, h, g => by
    obtain ⟨h1, h2⟩ := Bool.and_eq_true_iff.mp (show (pl x && plL xs) = true from h)
    obtain ⟨g1, g2⟩ := Bool.and_eq_true_iff.mp (show (pl y && plL ys) = true from g)
    have e1 := eqv_pl x y h1 g1
    have e2 := eqvL_pl xs ys h2 g2
    simp [pdL, PyData.eqvAll, e1, e2]
end
open Classical in
theorem eqD_pl {S : Sto} {a b : D} (ha : pl a = true) (hb : pl b = true) (da : dpt a < 20) (db : dpt b < 20) : eqD S a b = some (decide (a = b)) := by
  have key : ((toP S 20 a).bind fun p => (toP S 20 b).bind fun q => if p.canLay0 = true ∧ q.canLay0 = true then some (PyData.eqv p q) else none) = some (decide (a = b)) := by
    rw [toP_pl S a 20 ha da, toP_pl S b 20 hb db]
    simp only [Option.bind_some]
    rw [if_pos ⟨lay_pl a ha, lay_pl b hb⟩]
    congr 1
    exact Bool.eq_iff_iff.mpr ((eqv_pl a b ha hb).trans (by simp))
  cases a with
  | str l =>
    cases b with
    | str m => unfold eqD; simp
    | _ => exact key
  | _ => exact key
open Classical in
theorem inD_pl {S : Sto} {a : D} {xs : List D} (ha : pl a = true) (hb : plL xs = true) (da : dpt a < 20) (db : dptL xs < 19) : inD S a xs = some (decide (a ∈ xs)) := by
  unfold inD
  rw [toP_pl S a 20 ha da, toPL_pl S xs 19 hb db]
  simp only [Option.bind_some]
  rw [if_pos ⟨lay_pl a ha, layL_pl xs hb⟩]
  congr 1
  apply Bool.eq_iff_iff.mpr
  rw [decide_eq_true_eq]
  clear db da
  induction xs with
  | nil => simp [pdL]
  | cons y r ih =>
    obtain ⟨h1, h2⟩ := Bool.and_eq_true_iff.mp (show (pl y && plL r) = true from hb)
    have e := eqv_pl y a h1 ha
    have e2 := ih h2
    simp only [pdL, List.any_cons, Bool.or_eq_true, List.mem_cons]
    rw [e, e2]
    exact ⟨fun h => h.imp Eq.symm id, fun h => h.imp Eq.symm id⟩
open Classical in
/-- two lists -/
theorem eqD_ref {S : Sto} {m n : Nat} {xs ys : List D} (hm : S[m]? = some (.lst xs)) (hn : S[n]? = some (.lst ys)) (ha : plL xs = true) (hb : plL ys = true) (da : dptL xs < 19) (db : dptL ys < 19) : eqD S (.ref m) (.ref n) = some (decide (xs = ys)) := by
  have e : ∀ {k : Nat} {zs : List D}, S[k]? = some (.lst zs) → plL zs = true → dptL zs < 19 → toP S 20 (.ref k) = some (.list (pdL zs)) := fun {k zs} hk h d => by
    show (match S[k]? with
      | some (.lst xs) => (mapO (toP S 19) xs).map PyData.list
      | _ => none) = _
    rw [hk]
    show (mapO (toP S 19) zs).map PyData.list = _
    rw [toPL_pl S zs 19 h d]
    rfl
  show ((toP S 20 (.ref m)).bind fun p => (toP S 20 (.ref n)).bind fun q => if p.canLay0 = true ∧ q.canLay0 = true then some (PyData.eqv p q) else none) = _
  rw [e hm ha da, e hn hb db]
  simp only [Option.bind_some]
  rw [if_pos ⟨show PyData.canLayAll0 (pdL xs) = true from layL_pl xs ha, show PyData.canLayAll0 (pdL ys) = true from layL_pl ys hb⟩]
  congr 1
  exact Bool.eq_iff_iff.mpr ((eqvL_pl xs ys ha hb).trans (by simp))
@[simp] theorem seqOf_tup (S : Sto) (xs : List D) : seqOf S (.tup xs) = some xs := rfl
@[simp] theorem seqOf_fl (S : Sto) (xs : List D) : seqOf S (.fl xs) = some xs := rfl
@[simp] theorem ixD_tup (S : Sto) (xs : List D) (i : Int) : ixD S (.tup xs) (.int i) = L2.atI xs i := rfl
@[simp] theorem ixD_fl (S : Sto) (xs : List D) (i : Int) : ixD S (.fl xs) (.int i) = L2.atI xs i := rfl
@[simp] theorem eqD_int (S : Sto) (i j : Int) : eqD S (.int i) (.int j) = some (decide (i = j)) := by
  rw [eqD_pl rfl rfl (by simp [dpt]) (by simp [dpt])]
  congr 1
  simp
@[simp] theorem eqD_str' (S : Sto) (l m : List Nat) : eqD S (.str l) (.str m) = some (decide (l = m)) := rfl
@[simp] theorem cmp_eq (S : Sto) (a b : D) : cmpop .eq a b S = eqD S a b := rfl
@[simp] theorem cmp_ne (S : Sto) (a b : D) : cmpop .ne a b S = (eqD S a b).map (!·) := rfl
@[simp] theorem cmp_in (S : Sto) (a b : D) : cmpop .isin a b S = memS S a b := rfl
@[simp] theorem cmp_notin (S : Sto) (a b : D) : cmpop .notin a b S = (memS S a b).map (!·) := rfl
@[simp] theorem cmp_lt (S : Sto) (i j : Int) : cmpop .lt (.int i) (.int j) S = some (decide (i < j)) := rfl
@[simp] theorem cmp_le (S : Sto) (i j : Int) : cmpop .le (.int i) (.int j) S = some (decide (i ≤ j)) := rfl
@[simp] theorem cmp_gt (S : Sto) (i j : Int) : cmpop .gt (.int i) (.int j) S = some (decide (j < i)) := rfl
@[simp] theorem cmp_ge (S : Sto) (i j : Int) : cmpop .ge (.int i) (.int j) S = some (decide (j ≤ i)) := rfl
@[simp] theorem cmp_is (S : Sto) (a b : D) : cmpop .is a b S = isD a b := rfl
@[simp] theorem cmp_isnot (S : Sto) (a b : D) : cmpop .isnot a b S = (isD a b).map (!·) := rfl
@[simp] theorem bop_add (S : Sto) (i j : Int) : binop .add (.int i) (.int j) S = .ok (.int (i + j)) S := rfl
@[simp] theorem bop_sub (S : Sto) (i j : Int) : binop .sub (.int i) (.int j) S = .ok (.int (i - j)) S := rfl
theorem bop_mul (S : Sto) {i j : Int} (h : i.natAbs.log2 + j.natAbs.log2 < 100000000) : binop .mul (.int i) (.int j) S = .ok (.int (i * j)) S := if_pos h
theorem bop_fdiv (S : Sto) {i j : Int} (h : j ≠ 0) : binop .fdiv (.int i) (.int j) S = .ok (.int (i.fdiv j)) S := if_pos h
theorem bop_mod (S : Sto) {i j : Int} (h : j ≠ 0) : binop .mod (.int i) (.int j) S = .ok (.int (i.fmod j)) S := if_pos h
theorem bop_cat (S : Sto) {x y : List Nat} (h : x.length + y.length ≤ 16777216) : binop .add (.str x) (.str y) S = .ok (.str (x ++ y)) S := if_pos h
@[simp] theorem atI_0 {α : Type} (a : α) (l : List α) : L2.atI (a :: l) 0 = some a := by simp [L2.atI, L2.ixN]
@[simp] theorem atI_1 {α : Type} (a b : α) (l : List α) : L2.atI (a :: b :: l) 1 = some b := by
  have h : (1 : Int) < (l.length : Int) + 1 + 1 := by omega
  simp [L2.atI, L2.ixN, h]
theorem atI_nat {α : Type} (l : List α) (i : Nat) : L2.atI l (i : Int) = l[i]? := by
  unfold L2.atI L2.ixN
  by_cases h : i < l.length
  · simp [h]
  · simp [h]
end Ev
end
section
set_option Elab.async false
set_option linter.all false
set_option maxRecDepth 100000
set_option maxHeartbeats 4000000
set_option autoImplicit false
/-! Ev19: loops by an invariant, slices, joined truths. -/
namespace Ev
open PySem
open Classical in
theorem lcL_inv {s : Src} {f : D → Sto → R (Option D)} {g : D → Option D} {I : Sto → Prop} (hs : ∀ S, I S → s.ok S) :
    ∀ (its acc : List D), (∀ d ∈ its, ∀ S, I S → ∃ S', f d S = .ok (g d) S' ∧ I S') → ∀ S, I S → acc.length + its.length ≤ 16777216 → ∃ S', lcL s f its acc S = .ok (acc ++ its.filterMap g) S' ∧ I S'
  | [], acc, _, S, h, _ => ⟨S, by rw [lcL, if_pos (hs S h)]; simp, h⟩
  | d :: r, acc, hf, S, h, hl => by
    obtain ⟨S1, e1, h1⟩ := hf d (by simp) S h
    rw [lcL, if_pos (hs S h), e1, R.bind_ok]
    rw [List.length_cons] at hl
    cases hg : g d with
    | none =>
      obtain ⟨S', e, h'⟩ := lcL_inv hs r acc (fun d hd => hf d (List.mem_cons_of_mem _ hd)) S1 h1 (by omega)
      exact ⟨S', by simp only [e]; simp [hg], h'⟩
    | some y =>
      obtain ⟨S', e, h'⟩ := lcL_inv hs r (acc ++ [y]) (fun d hd => hf d (List.mem_cons_of_mem _ hd)) S1 h1 (by simp; omega)
      exact ⟨S', by simp only []; rw [if_pos (by omega), e]; simp [hg], h'⟩
/-- nothing is stored -/
theorem lcL_pure {s : Src} {f : D → Sto → R (Option D)} {g : D → Option D} {S : Sto} (its : List D) (hs : s.ok S) (hf : ∀ d ∈ its, f d S = .ok (g d) S) (hl : its.length ≤ 16777216) : lcL s f its [] S = .ok (its.filterMap g) S := by
  obtain ⟨S', e, rfl⟩ := lcL_inv (I := fun S' => S' = S) (fun S' h => h ▸ hs) its [] (fun d hd S' h => ⟨S', by subst h; exact hf d hd, h⟩) S rfl (by simpa using hl)
  simpa using e
open Classical in
theorem lcL1_inv {s : Src} {f : D → Sto → R D} {g : D → D} {I : Sto → Prop} (hs : ∀ S, I S → s.ok S) :
    ∀ (its acc : List D), (∀ d ∈ its, ∀ S, I S → ∃ S', f d S = .ok (g d) S' ∧ I S') → ∀ S, I S → acc.length + its.length ≤ 16777216 → ∃ S', lcL1 s f its acc S = .ok (acc ++ its.map g) S' ∧ I S'
  | [], acc, _, S, h, _ => ⟨S, by rw [lcL1, if_pos (hs S h)]; simp, h⟩
  | d :: r, acc, hf, S, h, hl => by
    obtain ⟨S1, e1, h1⟩ := hf d (by simp) S h
    rw [lcL1, if_pos (hs S h), e1, R.bind_ok]
    rw [List.length_cons] at hl
    obtain ⟨S', e, h'⟩ := lcL1_inv hs r (acc ++ [g d]) (fun d hd => hf d (List.mem_cons_of_mem _ hd)) S1 h1 (by simp; omega)
    exact ⟨S', by rw [if_pos (by omega), e]; simp, h'⟩
open Classical in
theorem lcL2_inv {s : Src} {f : D → List D → Sto → R (List D)} {g : D → List D} {I : Sto → Prop} (hs : ∀ S, I S → s.ok S) :
    ∀ (its acc : List D), (∀ d ∈ its, ∀ acc S, I S → acc.length + (g d).length ≤ 16777216 → ∃ S', f d acc S = .ok (acc ++ g d) S' ∧ I S') → ∀ S, I S → acc.length + (its.flatMap g).length ≤ 16777216 → ∃ S', lcL2 s f its acc S = .ok (acc ++ its.flatMap g) S' ∧ I S'
  | [], acc, _, S, h, _ => ⟨S, by rw [lcL2, if_pos (hs S h)]; simp, h⟩
  | d :: r, acc, hf, S, h, hl => by
    rw [List.flatMap_cons, List.length_append] at hl
    obtain ⟨S1, e1, h1⟩ := hf d (by simp) acc S h (by omega)
    rw [lcL2, if_pos (hs S h), e1, R.bind_ok]
    obtain ⟨S', e, h'⟩ := lcL2_inv hs r (acc ++ g d) (fun d hd => hf d (List.mem_cons_of_mem _ hd)) S1 h1 (by rw [List.length_append]; omega)
    exact ⟨S', by rw [e]; simp, h'⟩
/-- a loop whose body goes on -/
theorem forL_inv {s : Src} {f : D → En → Sto → O} {I : List D → En → Sto → Prop} (hs : ∀ l en S, I l en S → s.ok S)
    (hf : ∀ d r en S, I (d :: r) en S → ∃ en' S', (f d en S = .nx en' S' ∨ f d en S = .ct en' S') ∧ I r en' S') :
    ∀ (its : List D) en S, I its en S → ∃ en' S', forL s f its en S = .nx en' S' ∧ I [] en' S'
  | [], en, S, h => ⟨en, S, by rw [forL, if_pos (hs _ _ _ h)], h⟩
  | d :: r, en, S, h => by
    obtain ⟨en1, S1, e1, h1⟩ := hf d r en S h
    obtain ⟨en', S', e, h'⟩ := forL_inv hs hf r en1 S1 h1
    refine ⟨en', S', ?_, h'⟩
    rw [forL, if_pos (hs _ _ _ h)]
    rcases e1 with e1 | e1 <;> rw [e1]
    · rw [O.turn_nx, e]
    · rw [O.turn_ct, e]
theorem forL_nil {s : Src} {f : D → En → Sto → O} {en : En} {S : Sto} (h : s.ok S) : forL s f [] en S = .nx en S := by rw [forL, if_pos h]
theorem forL_cons {s : Src} {f : D → En → Sto → O} {d : D} {r : List D} {en : En} {S : Sto} (h : s.ok S) : forL s f (d :: r) en S = (f d en S).turn (forL s f r) := by rw [forL, if_pos h]
@[simp] theorem ok_nil (xs : List D) (S : Sto) : (Src.mk xs []).ok S := by intro p hp; cases hp
theorem ok_one {xs ys : List D} {n : Nat} {S : Sto} (h : S[n]? = some (.lst ys)) : (Src.mk xs [(n, ys)]).ok S := by
  intro p hp
  rw [List.mem_singleton.mp hp]
  simp [lstOf, h]
/-! ### the store grows -/
theorem pre_get {S S' : Sto} {n : Nat} {o : Ob} (h : S <+: S') (e : S[n]? = some o) : S'[n]? = some o := by
  obtain ⟨t, rfl⟩ := h
  rw [List.getElem?_append_left (List.getElem?_eq_some_iff.mp e).1]
  exact e
theorem pre_ok {s : Src} {S S' : Sto} (h : S <+: S') (e : s.ok S) : s.ok S' := by
  intro p hp
  have := e p hp
  cases hq : S[p.1]? with
  | none => simp [lstOf, hq] at this
  | some o =>
    have h2 := pre_get h hq
    simp only [lstOf, hq] at this
    simp only [lstOf, h2]
    exact this
theorem pre_snoc (S : Sto) (o : Ob) : S <+: S ++ [o] := ⟨[o], rfl⟩
@[simp] theorem last_get (S : Sto) (o : Ob) : (S ++ [o])[S.length]? = some o := by simp
/-- a list is given back, the store has grown -/
def Rl (r : R D) (S : Sto) (xs : List D) : Prop := ∃ k S', r = .ok (.ref k) S' ∧ S <+: S' ∧ S'[k]? = some (.lst xs)
/-- a value is given back, the store has grown -/
def Rv (r : R D) (S : Sto) (d : D) : Prop := ∃ S', r = .ok d S' ∧ S <+: S'
/-! ### slices -/
theorem cut_to {α : Type} (l : List α) (k : Nat) : cut l none (some (k : Int)) = l.take k := by
  unfold cut
  rw [HT.sIx_none, HT.sIx_nat]
  simp only [List.drop_zero, Nat.sub_zero]
  rcases Nat.le_total k l.length with h | h
  · rw [Nat.min_eq_left h]
  · rw [Nat.min_eq_right h, List.take_of_length_le (Nat.le_refl _), List.take_of_length_le h]
theorem cut_from {α : Type} (l : List α) (k : Nat) : cut l (some (k : Int)) none = l.drop k := by
  unfold cut
  rw [HT.sIx_none, HT.sIx_nat]
  rcases Nat.le_total k l.length with h | h
  · rw [Nat.min_eq_left h, List.take_of_length_le (by simp)]
  · rw [Nat.min_eq_right h, List.drop_eq_nil_of_le (Nat.le_refl _), List.drop_eq_nil_of_le h]; simp
@[simp] theorem cut_to1 {α : Type} (l : List α) : cut l none (some 1) = l.take 1 := cut_to l 1
@[simp] theorem cut_from1 {α : Type} (l : List α) : cut l (some 1) none = l.drop 1 := cut_from l 1
theorem sIx_m1 (n d : Nat) : HT.sIx n d (some (-1)) = n - 1 := by
  unfold HT.sIx
  simp
  omega
@[simp] theorem cut_last {α : Type} (l : List α) : cut l (some (-1)) none = l.drop (l.length - 1) := by
  unfold cut
  rw [sIx_m1, HT.sIx_none, List.take_of_length_le (by simp)]
@[simp] theorem cut_init {α : Type} (l : List α) : cut l none (some (-1)) = l.take (l.length - 1) := by
  unfold cut
  rw [sIx_m1, HT.sIx_none]
  simp
theorem cut_mid {α : Type} (l : List α) (k : Nat) : cut l (some (k : Int)) (some (-1)) = (l.take (l.length - 1)).drop k := by
  unfold cut
  rw [sIx_m1, HT.sIx_nat, List.drop_take]
  rcases Nat.le_total k l.length with h | h
  · rw [Nat.min_eq_left h]
  · rw [Nat.min_eq_right h, List.drop_eq_nil_of_le (Nat.le_refl _), List.drop_eq_nil_of_le h]; simp
theorem last_is {l : List Nat} {c : Nat} : l.drop (l.length - 1) = [c] ↔ l.getLast? = some c := by
  cases h : l.getLast? with
  | none =>
    have : l = [] := by simpa using h
    subst this
    simp
  | some d =>
    obtain ⟨u, rfl⟩ := List.getLast?_eq_some_iff.mp h
    simp
@[simp] theorem slD_str {l : List Nat} (h : l.length ≤ 16777216) (lo hi : Option Int) (S : Sto) : slD (.str l) lo hi S = .ok (.str (cut l lo hi)) S := if_pos h
@[simp] theorem slD_tup (l : List D) (lo hi : Option Int) (S : Sto) : slD (.tup l) lo hi S = .ok (.tup (cut l lo hi)) S := rfl
theorem slD_ref {l : List D} {n : Nat} {S : Sto} (h : S[n]? = some (.lst l)) (lo hi : Option Int) : slD (.ref n) lo hi S = .ok (.ref S.length) (S ++ [.lst (cut l lo hi)]) := by
  unfold slD
  simp [lstOf, h]
/-! ### texts' signs, truths -/
@[simp] theorem bls_map {α : Type} (l : List α) (p : α → Bool) : blsOf (l.map fun c => .bl (p c)) = some (l.map p) := by
  induction l with
  | nil => rfl
  | cons a r ih => simp [blsOf, ih]
@[simp] theorem strs_map {α : Type} (l : List α) (p : α → List Nat) : strsOf (l.map fun c => .str (p c)) = some (l.map p) := by
  induction l with
  | nil => rfl
  | cons a r ih => simp [strsOf, ih]
@[simp] theorem ints_map {α : Type} (l : List α) (p : α → Int) : intsOf (l.map fun c => .int (p c)) = some (l.map p) := by
  induction l with
  | nil => rfl
  | cons a r ih => simp [intsOf, ih]
@[simp] theorem mem_str (S : Sto) (c : Nat) (l : List Nat) : memS S (.str [c]) (.str l) = some (decide (c ∈ l)) := rfl
theorem seqOf_ref {S : Sto} {n : Nat} {xs : List D} (h : S[n]? = some (.lst xs)) : seqOf S (.ref n) = some xs := by simp [seqOf, h]
theorem lstOf_ref {S : Sto} {n : Nat} {xs : List D} (h : S[n]? = some (.lst xs)) : lstOf S (.ref n) = some xs := by simp [lstOf, h]
theorem ixD_ref {S : Sto} {n : Nat} {xs : List D} (h : S[n]? = some (.lst xs)) (i : Int) : ixD S (.ref n) (.int i) = L2.atI xs i := by simp [ixD, seqOf, h]
theorem ixD_str (S : Sto) {l : List Nat} (h : l.length ≤ 16777216) (i : Int) : ixD S (.str l) (.int i) = (L2.atI l i).map fun c => .str [c] := if_pos h
@[simp] theorem len_str {l : List Nat} (h : l.length ≤ 16777216) (S : Sto) : bi .len [.str l] S = .ok (.int l.length) S := if_pos h
@[simp] theorem len_tup (l : List D) (S : Sto) : bi .len [.tup l] S = .ok (.int l.length) S := rfl
@[simp] theorem len_fl (l : List D) (S : Sto) : bi .len [.fl l] S = .ok (.int l.length) S := rfl
theorem len_ref {S : Sto} {n : Nat} {xs : List D} (h : S[n]? = some (.lst xs)) : bi .len [.ref n] S = .ok (.int xs.length) S := by simp [bi, seqOf, h]
end Ev
end
section
set_option Elab.async false
set_option linter.all false
set_option maxRecDepth 100000
set_option maxHeartbeats 4000000
set_option autoImplicit false
/-! Ev20: the meaning, row by row. -/
namespace Ev
open PySem
def condR (x : D) (a b : R D) : R D := match x with
  | .bl true => a
  | .bl false => b
  | _ => .stuck
@[simp ↓] theorem condR_bl (p : Bool) (a b : R D) : condR (.bl p) a b = if p = true then a else b := by cases p <;> rfl
def condO (x : D) (a b : O) : O := match x with
  | .bl true => a
  | .bl false => b
  | _ => .stuck
@[simp ↓] theorem condO_bl (p : Bool) (a b : O) : condO (.bl p) a b = if p = true then a else b := by cases p <;> rfl
def negR (x : D) (S : Sto) : R D := match x with
  | .int i => .ok (.int (-i)) S
  | _ => .stuck
@[simp] theorem negR_int (i : Int) (S : Sto) : negR (.int i) S = .ok (.int (-i)) S := rfl
def notR (x : D) (S : Sto) : R D := match x with
  | .bl k => .ok (.bl (!k)) S
  | _ => .stuck
@[simp] theorem notR_bl (i : Bool) (S : Sto) : notR (.bl i) S = .ok (.bl (!i)) S := rfl
def intR (x : D) (S : Sto) : R (Option Int) := match x with
  | .int i => .ok (some i) S
  | _ => .stuck
@[simp] theorem intR_int (i : Int) (S : Sto) : intR (.int i) S = .ok (some i) S := rfl
def blR (x : D) (S : Sto) : R Bool := match x with
  | .bl i => .ok i S
  | _ => .stuck
@[simp] theorem blR_bl (i : Bool) (S : Sto) : blR (.bl i) S = .ok i S := rfl
@[simp] theorem toR_nx (en : En) (S : Sto) : (O.nx en S).toR = .ok .non S := rfl
@[simp] theorem toR_rt (d : D) (S : Sto) : (O.rt d S).toR = .ok d S := rfl
@[simp] theorem toR_ex (x : Xc) (en : En) (S : Sto) : (O.ex x en S).toR = .ex x S := rfl
theorem Rl_new {r : R D} {S S1 : Sto} {xs : List D} (h : r = .ok (.ref S1.length) (S1 ++ [.lst xs])) (p : S <+: S1) : Rl r S xs := ⟨_, _, h, p.trans (pre_snoc ..), by simp⟩
/-! what comes later has a name, so that it is not looked at ahead of time -/
@[simp ↓] theorem bind_ok' {α β : Type} (a : α) (S : Sto) (k : α → Sto → R β) : (R.ok a S).bind k = k a S := rfl
@[simp ↓] theorem bind_ex' {α β : Type} (x : Xc) (S : Sto) (k : α → Sto → R β) : (R.ex x S : R α).bind k = .ex x S := rfl
@[simp ↓] theorem then_ok' {α : Type} (a : α) (S : Sto) (en : En) (k : α → Sto → O) : (R.ok a S).then en k = k a S := rfl
@[simp ↓] theorem then_ex' {α : Type} (x : Xc) (S : Sto) (en : En) (k : α → Sto → O) : (R.ex x S : R α).then en k = .ex x en S := rfl
@[simp ↓] theorem seq_nx' (en : En) (S : Sto) (k : En → Sto → O) : (O.nx en S).seq k = k en S := rfl
@[simp ↓] theorem seq_rt' (d : D) (S : Sto) (k : En → Sto → O) : (O.rt d S).seq k = .rt d S := rfl
@[simp ↓] theorem seq_ex' (x : Xc) (en : En) (S : Sto) (k : En → Sto → O) : (O.ex x en S).seq k = .ex x en S := rfl
@[simp ↓] theorem turn_nx' (en : En) (S : Sto) (k : En → Sto → O) : (O.nx en S).turn k = k en S := rfl
@[simp ↓] theorem turn_rt' (d : D) (S : Sto) (k : En → Sto → O) : (O.rt d S).turn k = .rt d S := rfl
section
variable (G : Gm) (en : En) (S : Sto)
@[simp 500] theorem ev_var (i : Nat) : ev G (.var i) en S = R.of (en.getD i none) S := by rw [ev]
@[simp 500] theorem ev_cst (d : D) : ev G (.cst d) en S = .ok d S := by rw [ev]
@[simp 500] theorem ev_glb (i : Nat) : ev G (.glb i) en S = R.of (G.cs[i]?) S := by rw [ev]
noncomputable def kBin (o : Op2) (b : E) (x : D) (S : Sto) : R D := (ev G b en S).bind (binop o x)
@[simp 500] theorem kBin_eq (o : Op2) (b : E) (x : D) : kBin G en o b x S = (ev G b en S).bind (binop o x) := rfl
@[simp 500] theorem ev_bin (o : Op2) (a b : E) : ev G (.bin o a b) en S = (ev G a en S).bind (kBin G en o b) := by rw [ev]; rfl
@[simp 500] theorem ev_neg (a : E) : ev G (.neg a) en S = (ev G a en S).bind negR := by rw [ev]; rfl
@[simp 500] theorem ev_not (a : E) : ev G (.not a) en S = (ev G a en S).bind notR := by rw [ev]; rfl
noncomputable def kAnd (b : E) (x : D) (S : Sto) : R D := condR x (ev G b en S) (.ok (.bl false) S)
@[simp ↓ 500] theorem kAnd_eq (b : E) (x : D) : kAnd G en b x S = condR x (ev G b en S) (.ok (.bl false) S) := rfl
@[simp 500] theorem ev_and (a b : E) : ev G (.and a b) en S = (ev G a en S).bind (kAnd G en b) := by rw [ev]; rfl
noncomputable def kOr (b : E) (x : D) (S : Sto) : R D := condR x (.ok (.bl true) S) (ev G b en S)
@[simp ↓ 500] theorem kOr_eq (b : E) (x : D) : kOr G en b x S = condR x (.ok (.bl true) S) (ev G b en S) := rfl
@[simp 500] theorem ev_or (a b : E) : ev G (.or a b) en S = (ev G a en S).bind (kOr G en b) := by rw [ev]; rfl
noncomputable def kIte (a b : E) (x : D) (S : Sto) : R D := condR x (ev G a en S) (ev G b en S)
@[simp ↓ 500] theorem kIte_eq (a b : E) (x : D) : kIte G en a b x S = condR x (ev G a en S) (ev G b en S) := rfl
@[simp 500] theorem ev_ite (c a b : E) : ev G (.ite c a b) en S = (ev G c en S).bind (kIte G en a b) := by rw [ev]; rfl
noncomputable def kCmp2 (o : Cm) (x y : D) (S : Sto) : R D := R.of ((cmpop o x y S).map .bl) S
@[simp 500] theorem kCmp2_eq (o : Cm) (x y : D) : kCmp2 o x y S = R.of ((cmpop o x y S).map .bl) S := rfl
noncomputable def kCmp (o : Cm) (b : E) (x : D) (S : Sto) : R D := (ev G b en S).bind (kCmp2 o x)
@[simp 500] theorem kCmp_eq (o : Cm) (b : E) (x : D) : kCmp G en o b x S = (ev G b en S).bind (kCmp2 o x) := rfl
@[simp 500] theorem ev_cmp (o : Cm) (a b : E) : ev G (.cmp o a b) en S = (ev G a en S).bind (kCmp G en o b) := by rw [ev]; rfl
def kTup (xs : List D) (S : Sto) : R D := if xs.length ≤ 16777216 then .ok (.tup xs) S else .stuck
@[simp 500] theorem kTup_eq (xs : List D) : kTup xs S = if xs.length ≤ 16777216 then .ok (.tup xs) S else .stuck := rfl
@[simp 500] theorem ev_tup (es : Es) : ev G (.tup es) en S = (evs G es en S).bind kTup := by rw [ev]; rfl
def kLst (xs : List D) (S : Sto) : R D := if xs.length ≤ 16777216 then .ok (.ref S.length) (S ++ [.lst xs]) else .stuck
@[simp 500] theorem kLst_eq (xs : List D) : kLst xs S = if xs.length ≤ 16777216 then .ok (.ref S.length) (S ++ [.lst xs]) else .stuck := rfl
@[simp 500] theorem ev_lst (es : Es) : ev G (.lst es) en S = (evs G es en S).bind kLst := by rw [ev]; rfl
def kIx2 (x y : D) (S : Sto) : R D := R.of (ixD S x y) S
@[simp 500] theorem kIx2_eq (x y : D) : kIx2 x y S = R.of (ixD S x y) S := rfl
noncomputable def kIx (b : E) (x : D) (S : Sto) : R D := (ev G b en S).bind (kIx2 x)
@[simp 500] theorem kIx_eq (b : E) (x : D) : kIx G en b x S = (ev G b en S).bind (kIx2 x) := rfl
@[simp 500] theorem ev_ix (a b : E) : ev G (.ix a b) en S = (ev G a en S).bind (kIx G en b) := by rw [ev]; rfl
noncomputable def kSl2 (hi : Oe) (x : D) (l : Option Int) (S : Sto) : R D := (evo G hi en S).bind (slD x l)
@[simp 500] theorem kSl2_eq (hi : Oe) (x : D) (l : Option Int) : kSl2 G en hi x l S = (evo G hi en S).bind (slD x l) := rfl
noncomputable def kSl (lo hi : Oe) (x : D) (S : Sto) : R D := (evo G lo en S).bind (kSl2 G en hi x)
@[simp 500] theorem kSl_eq (lo hi : Oe) (x : D) : kSl G en lo hi x S = (evo G lo en S).bind (kSl2 G en hi x) := rfl
@[simp 500] theorem ev_sl (a : E) (lo hi : Oe) : ev G (.sl a lo hi) en S = (ev G a en S).bind (kSl G en lo hi) := by rw [ev]; rfl
@[simp 500] theorem ev_call (f : Nat) (es : Es) : ev G (.call f es) en S = (evs G es en S).bind (G.fn f) := by rw [ev]
noncomputable def kCk2 (f : Nat) (pm : List Nat) (xs zs : List D) (S : Sto) : R D := G.fn f (pm.filterMap fun i => (xs ++ zs)[i]?) S
@[simp 500] theorem kCk2_eq (f : Nat) (pm : List Nat) (xs zs : List D) : kCk2 G f pm xs zs S = G.fn f (pm.filterMap fun i => (xs ++ zs)[i]?) S := rfl
noncomputable def kCk (f : Nat) (ks : Es) (pm : List Nat) (xs : List D) (S : Sto) : R D := (evs G ks en S).bind (kCk2 G f pm xs)
@[simp 500] theorem kCk_eq (f : Nat) (ks : Es) (pm : List Nat) (xs : List D) : kCk G en f ks pm xs S = (evs G ks en S).bind (kCk2 G f pm xs) := rfl
@[simp 500] theorem ev_callk (f : Nat) (es ks : Es) (pm : List Nat) : ev G (.callk f es ks pm) en S = (evs G es en S).bind (kCk G en f ks pm) := by rw [ev]; rfl
@[simp 500] theorem ev_bi (b : Bi) (es : Es) : ev G (.bi b es) en S = (evs G es en S).bind (bi b) := by rw [ev]
noncomputable def kMt (m : Mt) (es : Es) (x : D) (S : Sto) : R D := if mtTy m x S = true then (evs G es en S).bind (mt m x) else .stuck
@[simp 500] theorem kMt_eq (m : Mt) (es : Es) (x : D) : kMt G en m es x S = if mtTy m x S = true then (evs G es en S).bind (mt m x) else .stuck := rfl
@[simp 500] theorem ev_mt (m : Mt) (a : E) (es : Es) : ev G (.mt m a es) en S = (ev G a en S).bind (kMt G en m es) := by rw [ev]; rfl
def kFld (c : Nat) (f : Str) (x : D) (S : Sto) : R D := R.of (fldD S x c f) S
@[simp 500] theorem kFld_eq (c : Nat) (f : Str) (x : D) : kFld c f x S = R.of (fldD S x c f) S := rfl
@[simp 500] theorem ev_fld (a : E) (c : Nat) (f : Str) : ev G (.fld a c f) en S = (ev G a en S).bind (kFld c f) := by rw [ev]; rfl
def kMk2 (p : Nat) (v : D) (S : Sto) : R D := match v with
  | .non => .ok (.ref p) S
  | _ => .stuck
@[simp] theorem kMk2_eq (p : Nat) : kMk2 p .non S = .ok (.ref p) S := rfl
noncomputable def kMk (c f : Nat) (xs : List D) (S : Sto) : R D := (G.fn f (.ref S.length :: xs) (S ++ [.ins c []])).bind (kMk2 S.length)
@[simp 500] theorem kMk_eq (c f : Nat) (xs : List D) : kMk G c f xs S = (G.fn f (.ref S.length :: xs) (S ++ [.ins c []])).bind (kMk2 S.length) := rfl
@[simp 500] theorem ev_mk (c f : Nat) (es : Es) : ev G (.mk c f es) en S = (evs G es en S).bind (kMk G c f) := by rw [ev]; rfl
noncomputable def kMth2 (f : Nat) (x : D) (xs : List D) (S : Sto) : R D := G.fn f (x :: xs) S
@[simp 500] theorem kMth2_eq (f : Nat) (x : D) (xs : List D) : kMth2 G f x xs S = G.fn f (x :: xs) S := rfl
noncomputable def kMth (f c : Nat) (m : Str) (es : Es) (x : D) (S : Sto) : R D := if isIns c m x S = true then (evs G es en S).bind (kMth2 G f x) else .stuck
@[simp 500] theorem kMth_eq (f c : Nat) (m : Str) (es : Es) (x : D) : kMth G en f c m es x S = if isIns c m x S = true then (evs G es en S).bind (kMth2 G f x) else .stuck := rfl
@[simp 500] theorem ev_mth (f c : Nat) (m : Str) (a : E) (es : Es) : ev G (.mth f c m a es) en S = (ev G a en S).bind (kMth G en f c m es) := by rw [ev]; rfl
noncomputable def kMtk3 (f : Nat) (pm : List Nat) (x : D) (xs zs : List D) (S : Sto) : R D := G.fn f (pm.filterMap fun i => (x :: xs ++ zs)[i]?) S
@[simp 500] theorem kMtk3_eq (f : Nat) (pm : List Nat) (x : D) (xs zs : List D) : kMtk3 G f pm x xs zs S = G.fn f (pm.filterMap fun i => (x :: xs ++ zs)[i]?) S := rfl
noncomputable def kMtk2 (f : Nat) (ks : Es) (pm : List Nat) (x : D) (xs : List D) (S : Sto) : R D := (evs G ks en S).bind (kMtk3 G f pm x xs)
@[simp 500] theorem kMtk2_eq (f : Nat) (ks : Es) (pm : List Nat) (x : D) (xs : List D) : kMtk2 G en f ks pm x xs S = (evs G ks en S).bind (kMtk3 G f pm x xs) := rfl
noncomputable def kMtk (f c : Nat) (m : Str) (es ks : Es) (pm : List Nat) (x : D) (S : Sto) : R D := if isIns c m x S = true then (evs G es en S).bind (kMtk2 G en f ks pm x) else .stuck
@[simp 500] theorem kMtk_eq (f c : Nat) (m : Str) (es ks : Es) (pm : List Nat) (x : D) : kMtk G en f c m es ks pm x S = if isIns c m x S = true then (evs G es en S).bind (kMtk2 G en f ks pm x) else .stuck := rfl
@[simp 500] theorem ev_mthk (f c : Nat) (m : Str) (a : E) (es ks : Es) (pm : List Nat) : ev G (.mthk f c m a es ks pm) en S = (ev G a en S).bind (kMtk G en f c m es ks pm) := by rw [ev]; rfl
theorem ev_lam (f k : Nat) (q : Str) (body : E) : ev G (.lam f k q body) en S = if isTbl k q S = true then G.lf f (fun S => ev G body en S) S else .stuck := by rw [ev]
@[simp 500] theorem evs_nil : evs G .nil en S = .ok [] S := by rw [evs]
def kCons2 (x : D) (xs : List D) (S : Sto) : R (List D) := .ok (x :: xs) S
@[simp 500] theorem kCons2_eq (x : D) (xs : List D) : kCons2 x xs S = .ok (x :: xs) S := rfl
noncomputable def kCons (r : Es) (x : D) (S : Sto) : R (List D) := (evs G r en S).bind (kCons2 x)
@[simp 500] theorem kCons_eq (r : Es) (x : D) : kCons G en r x S = (evs G r en S).bind (kCons2 x) := rfl
@[simp 500] theorem evs_cons (a : E) (r : Es) : evs G (.cons a r) en S = (ev G a en S).bind (kCons G en r) := by rw [evs]; rfl
def starR (o : Option (List D)) (r : R (List D)) : R (List D) := match o with
  | some ys => r.bind fun xs S => .ok (ys ++ xs) S
  | none => .stuck
def kApp (ys xs : List D) (S : Sto) : R (List D) := .ok (ys ++ xs) S
@[simp 500] theorem kApp_eq (ys xs : List D) : kApp ys xs S = .ok (ys ++ xs) S := rfl
@[simp] theorem starR_some (ys : List D) (r : R (List D)) : starR (some ys) r = r.bind (kApp ys) := rfl
noncomputable def kStar (r : Es) (x : D) (S : Sto) : R (List D) := starR (seqOf S x) (evs G r en S)
@[simp 500] theorem kStar_eq (r : Es) (x : D) : kStar G en r x S = starR (seqOf S x) (evs G r en S) := rfl
@[simp 500] theorem evs_star (a : E) (r : Es) : evs G (.star a r) en S = (ev G a en S).bind (kStar G en r) := by
  rw [evs]
  rfl
@[simp 500] theorem evo_none : evo G .none en S = .ok none S := by rw [evo]
@[simp 500] theorem evo_some (a : E) : evo G (.some a) en S = (ev G a en S).bind intR := by rw [evo]; rfl
@[simp 500] theorem evc_none : evc G .none en S = .ok true S := by rw [evc]
@[simp 500] theorem evc_some (a : E) : evc G (.some a) en S = (ev G a en S).bind blR := by rw [evc]; rfl
def kSeq (x : D) (S : Sto) : R Src := R.of (srcSeq x S) S
@[simp 500] theorem kSeq_eq (x : D) : kSeq x S = R.of (srcSeq x S) S := rfl
@[simp 500] theorem evi_seq (a : E) : evi G (.seq a) en S = (ev G a en S).bind kSeq := by rw [evi]; rfl
def kEnum (x : D) (S : Sto) : R Src := R.of (srcEnum x S) S
@[simp 500] theorem kEnum_eq (x : D) : kEnum x S = R.of (srcEnum x S) S := rfl
@[simp 500] theorem evi_enum (a : E) : evi G (.enum a) en S = (ev G a en S).bind kEnum := by rw [evi]; rfl
def kZip2 (x y : D) (S : Sto) : R Src := R.of (srcZip x y S) S
@[simp 500] theorem kZip2_eq (x y : D) : kZip2 x y S = R.of (srcZip x y S) S := rfl
noncomputable def kZip (b : E) (x : D) (S : Sto) : R Src := (ev G b en S).bind (kZip2 x)
@[simp 500] theorem kZip_eq (b : E) (x : D) : kZip G en b x S = (ev G b en S).bind (kZip2 x) := rfl
@[simp 500] theorem evi_zip (a b : E) : evi G (.zip a b) en S = (ev G a en S).bind (kZip G en b) := by rw [evi]; rfl
theorem evi_rng1 {a : E} {j : Int} {S1 : Sto} (h : ev G a en S = .ok (.int j) S1) (hs : small j) : evi G (.rng1 a) en S = .ok ⟨rngD 0 j, []⟩ S1 := by rw [evi, h, R.bind_ok]; exact if_pos hs
theorem evi_rng2 {a b : E} {i j : Int} {S1 S2 : Sto} (h : ev G a en S = .ok (.int i) S1) (h2 : ev G b en S1 = .ok (.int j) S2) (hs : small i) (hs2 : small j) : evi G (.rng2 a b) en S = .ok ⟨rngD i j, []⟩ S2 := by rw [evi, h, R.bind_ok, h2, R.bind_ok]; exact if_pos ⟨hs, hs2⟩
variable (C : List Cls)
@[simp 500] theorem asgT_nm (i : Nat) (d : D) : asgT G (.nm i) d en S = .ok (en.set i (some d)) S := by rw [asgT]
@[simp 500] theorem asgT_tup (ts : List Tg) (xs : List D) : asgT G (.tup ts) (.tup xs) en S = asgTs G ts xs en S := by rw [asgT]
@[simp 500] theorem asgTs_nil : asgTs G [] [] en S = .ok en S := by rw [asgTs]
@[simp 500] theorem asgTs_cons (t : Tg) (ts : List Tg) (d : D) (ds : List D) : asgTs G (t :: ts) (d :: ds) en S = (asgT G t d en S).bind (asgTs G ts ds) := by rw [asgTs]
theorem asgT_sub {a i : E} {d x y : D} {S1 S2 S3 : Sto} (h : ev G a en S = .ok x S1) (h2 : ev G i en S1 = .ok y S2) (h3 : setSub x y d S2 = some S3) : asgT G (.sub a i) d en S = .ok en S3 := by
  rw [asgT, h]
  simp [h2, h3]
noncomputable def kSet (t : Tg) (d : D) (S : Sto) : O := (asgT G t d en S).noex.then en O.nx
@[simp 500] theorem kSet_eq (t : Tg) (d : D) : kSet G en t d S = (asgT G t d en S).noex.then en O.nx := rfl
@[simp 500] theorem exec_asg (t : Tg) (e : E) : exec G C (.asg t e) en S = (ev G e en S).then en (kSet G en t) := by rw [exec]; rfl
def parO (o : Option En) (S : Sto) : O := match o with
  | some en => .nx en S
  | none => .stuck
@[simp] theorem parO_some (en : En) (S : Sto) : parO (some en) S = .nx en S := rfl
def kPar (is : List Nat) (ds : List D) (S : Sto) : O := parO (parSet is ds en) S
@[simp 500] theorem kPar_eq (is : List Nat) (ds : List D) : kPar en is ds S = parO (parSet is ds en) S := rfl
@[simp 500] theorem exec_par (is : List Nat) (es : Es) : exec G C (.par is es) en S = (evs G es en S).then en (kPar en is) := by rw [exec]; rfl
def kExp (_ : D) (S : Sto) : O := .nx en S
@[simp 500] theorem kExp_eq (d : D) : kExp en d S = .nx en S := rfl
@[simp 500] theorem exec_exp (e : E) : exec G C (.exp e) en S = (ev G e en S).then en (kExp en) := by rw [exec]; rfl
@[simp 500] theorem exec_ret (e : E) : exec G C (.ret e) en S = (ev G e en S).then en O.rt := by rw [exec]
@[simp 500] theorem exec_retn : exec G C .retn en S = .rt .non S := by rw [exec]
noncomputable def kIf (a b : Ss) (x : D) (S : Sto) : O := condO x (execs G C a en S) (execs G C b en S)
@[simp ↓ 500] theorem kIf_eq (a b : Ss) (x : D) : kIf G en C a b x S = condO x (execs G C a en S) (execs G C b en S) := rfl
@[simp 500] theorem exec_ite (c : E) (a b : Ss) : exec G C (.ite c a b) en S = (ev G c en S).then en (kIf G en C a b) := by rw [exec]; rfl
@[simp 500] theorem exec_brk : exec G C .brk en S = .bk en S := by rw [exec]
@[simp 500] theorem exec_cnt : exec G C .cnt en S = .ct en S := by rw [exec]
@[simp 500] theorem exec_pas : exec G C .pas en S = .nx en S := by rw [exec]
def raiO (k : Option Cls) (c : Nat) (ds : List D) (en : En) (S : Sto) : O := match k with
  | some k => if ds.length = k.fs.length then .ex ⟨c, k.fs.zip ds⟩ en S else .stuck
  | none => .stuck
@[simp] theorem raiO_some (k : Cls) (c : Nat) (ds : List D) (en : En) (S : Sto) : raiO (some k) c ds en S = if ds.length = k.fs.length then .ex ⟨c, k.fs.zip ds⟩ en S else .stuck := rfl
def kRai (c : Nat) (ds : List D) (S : Sto) : O := raiO C[c]? c ds en S
@[simp 500] theorem kRai_eq (c : Nat) (ds : List D) : kRai en C c ds S = raiO C[c]? c ds en S := rfl
@[simp 500] theorem exec_rai (c : Nat) (es : Es) : exec G C (.rai c es) en S = (evs G es en S).then en (kRai en C c) := by rw [exec]; rfl
def sflO (o : Option Sto) (en : En) : O := match o with
  | some S => .nx en S
  | none => .stuck
@[simp] theorem sflO_some (S : Sto) (en : En) : sflO (some S) en = .nx en S := rfl
def kSfl2 (c : Nat) (f : Str) (d x : D) (S : Sto) : O := sflO (setFld x c f d S) en
@[simp 500] theorem kSfl2_eq (c : Nat) (f : Str) (d x : D) : kSfl2 en c f d x S = sflO (setFld x c f d S) en := rfl
noncomputable def kSfl (a : E) (c : Nat) (f : Str) (d : D) (S : Sto) : O := (ev G a en S).then en (kSfl2 en c f d)
@[simp 500] theorem kSfl_eq (a : E) (c : Nat) (f : Str) (d : D) : kSfl G en a c f d S = (ev G a en S).then en (kSfl2 en c f d) := rfl
@[simp 500] theorem exec_sfl (a : E) (c : Nat) (f : Str) (e : E) : exec G C (.sfl a c f e) en S = (ev G e en S).then en (kSfl G en a c f) := by rw [exec]; rfl
def kAcs (j : Nat) (d : D) (S : Sto) : O := .nx (en.set j (some d)) S
@[simp 500] theorem kAcs_eq (j : Nat) (d : D) : kAcs en j d S = .nx (en.set j (some d)) S := rfl
@[simp 500] theorem exec_acs (j i : Nat) : exec G C (.acs j i) en S = (actM G.ap G.act i en S).then en (kAcs en j) := by rw [exec]; rfl
@[simp 500] theorem exec_ace (i : Nat) : exec G C (.ace i) en S = (actM G.ap G.act i en S).then en (kExp en) := by rw [exec]; rfl
@[simp 500] theorem execs_nil : execs G C .nil en S = .nx en S := by rw [execs]
@[simp 500] theorem execs_cons (s : Sm) (r : Ss) : execs G C (.cons s r) en S = (exec G C s en S).seq (execs G C r) := by rw [execs]
/-- a loop's turn -/
noncomputable def lpF (t : Tg) (b : Ss) (d : D) (en : En) (S : Sto) : O := (asgT G t d en S).noex.then en (execs G C b)
@[simp 500] theorem lpF_eq (t : Tg) (b : Ss) (d : D) : lpF G C t b d en S = (asgT G t d en S).noex.then en (execs G C b) := rfl
theorem exec_for (t : Tg) (it : It) (b : Ss) : exec G C (.for t it b) en S = (evi G it en S).then en fun s S => forL s (lpF G C t b) s.its en S := by rw [exec]; rfl
/-! ### a comprehension -/
variable {G en S}
theorem ev_lc {own : List (Str × Nat)} {elt : E} {p : Pt} {it : It} {c : Oe} {s : Src} {S1 : Sto} {I : Sto → Prop} {g : D → Option D}
    (hi : evi G it en S = .ok s S1) (h1 : I S1) (hs : ∀ S, I S → s.ok S) (hl : s.its.length ≤ 16777216)
    (hf : ∀ d ∈ s.its, ∀ S, I S → ∃ en', p.set d (wipeE en (slots own)) = some en' ∧ ((∃ S', evc G c en' S = .ok false S' ∧ g d = none ∧ I S') ∨ ∃ S2 y S', evc G c en' S = .ok true S2 ∧ ev G elt en' S2 = .ok y S' ∧ g d = some y ∧ I S')) :
    ∃ S', ev G (.lc own elt p it c) en S = .ok (.ref S'.length) (S' ++ [.lst (s.its.filterMap g)]) ∧ I S' := by
  have key := lcL_inv (s := s) (g := g) (I := I) hs (f := fun d S => (match p.set d (wipeE en (slots own)) with
        | some en' => (evc G c en' S).bind fun b S => if b = true then (ev G elt en' S).bind fun y S => .ok (some y) S else .ok none S
        | none => .stuck).noex) s.its [] (fun d hd S h => by
      obtain ⟨en', e, h⟩ := hf d hd S h
      rcases h with ⟨S', e1, e2, h'⟩ | ⟨S2, y, S', e1, e2, e3, h'⟩
      · exact ⟨S', by simp [e, e1, e2], h'⟩
      · exact ⟨S', by simp [e, e1, e2, e3], h'⟩) S1 h1 (by simpa using hl)
  obtain ⟨S', e, h'⟩ := key
  refine ⟨S', ?_, h'⟩
  rw [ev, hi, R.bind_ok]
  refine (congrArg (fun r : R (List D) => r.bind fun acc S => R.ok (D.ref S.length) (S ++ [Ob.lst acc])) e).trans ?_
  simp
/-- without a test -/
theorem ev_lcm {own : List (Str × Nat)} {elt : E} {p : Pt} {it : It} {s : Src} {S1 : Sto} {I : Sto → Prop} {g : D → D}
    (hi : evi G it en S = .ok s S1) (h1 : I S1) (hs : ∀ S, I S → s.ok S) (hl : s.its.length ≤ 16777216)
    (hf : ∀ d ∈ s.its, ∀ S, I S → ∃ en' S', p.set d (wipeE en (slots own)) = some en' ∧ ev G elt en' S = .ok (g d) S' ∧ I S') :
    ∃ S', ev G (.lc own elt p it .none) en S = .ok (.ref S'.length) (S' ++ [.lst (s.its.map g)]) ∧ I S' := by
  obtain ⟨S', e, h'⟩ := ev_lc (c := .none) (own := own) (elt := elt) (p := p) (g := fun d => some (g d)) hi h1 hs hl fun d hd S h => by
    obtain ⟨en', S', e1, e2, h'⟩ := hf d hd S h
    exact ⟨en', e1, Or.inr ⟨S, _, S', evc_none .., e2, rfl, h'⟩⟩
  exact ⟨S', by simpa using e, h'⟩
/-- nothing stored -/
theorem ev_lcp {own : List (Str × Nat)} {elt : E} {p : Pt} {it : It} {s : Src} {S1 : Sto} {g : D → D}
    (hi : evi G it en S = .ok s S1) (hs : s.ok S1) (hl : s.its.length ≤ 16777216)
    (hf : ∀ d ∈ s.its, ∃ en', p.set d (wipeE en (slots own)) = some en' ∧ ev G elt en' S1 = .ok (g d) S1) :
    ev G (.lc own elt p it .none) en S = .ok (.ref S1.length) (S1 ++ [.lst (s.its.map g)]) := by
  obtain ⟨S', e, rfl⟩ := ev_lcm (own := own) (elt := elt) (p := p) (g := g) (I := fun S => S = S1) hi rfl (fun S h => h ▸ hs) hl fun d hd S h => by
    obtain ⟨en', e1, e2⟩ := hf d hd
    subst h
    exact ⟨en', _, e1, e2, rfl⟩
  exact e
theorem ev_lc2 {own : List (Str × Nat)} {own1 : List Nat} {elt : E} {p p1 : Pt} {it it1 : It} {s : Src} {S1 : Sto} {I : Sto → Prop} {g : D → List D}
    (hi : evi G it en S = .ok s S1) (h1 : I S1) (hs : ∀ S, I S → s.ok S) (hl : (s.its.flatMap g).length ≤ 16777216)
    (hf : ∀ d ∈ s.its, ∀ S, I S → ∃ en' s1 S1 k, p.set d (wipeE en (slots own)) = some en' ∧ evi G it1 en' S = .ok s1 S1 ∧ I S1 ∧ (∀ S, S1 <+: S → s1.ok S) ∧ g d = s1.its.map k ∧
      ∀ d1 ∈ s1.its, ∀ S, S1 <+: S → I S → ∃ en'' S', p1.set d1 (wipeE en' own1) = some en'' ∧ ev G elt en'' S = .ok (k d1) S' ∧ S <+: S' ∧ I S') :
    ∃ S', ev G (.lc2 own own1 elt p it p1 it1) en S = .ok (.ref S'.length) (S' ++ [.lst (s.its.flatMap g)]) ∧ I S' := by
  have key := lcL2_inv (s := s) (g := g) (I := I) hs (f := fun d acc S => (match p.set d (wipeE en (slots own)) with
        | some en' => (evi G it1 en' S).bind fun s1 S =>
            lcL1 s1 (fun d1 S => match p1.set d1 (wipeE en' own1) with
              | some en'' => ev G elt en'' S
              | none => .stuck) s1.its acc S
        | none => .stuck).noex) s.its [] (fun d hd acc S h hb => by
      obtain ⟨en', s1, S1, k, e, e1, hI, hok, hg, hh⟩ := hf d hd S h
      obtain ⟨S', e2, h2⟩ := lcL1_inv (s := s1) (g := k) (I := fun S => S1 <+: S ∧ I S) (fun S h => hok S h.1) (f := fun d1 S => match p1.set d1 (wipeE en' own1) with
              | some en'' => ev G elt en'' S
              | none => .stuck) s1.its acc (fun d1 hd1 S h => by
        obtain ⟨en'', S', q1, q2, q3, q4⟩ := hh d1 hd1 S h.1 h.2
        exact ⟨S', by simp [q1, q2], h.1.trans q3, q4⟩) S1 ⟨List.prefix_rfl, hI⟩ (by rw [hg, List.length_map] at hb; exact hb)
      exact ⟨S', by simp [e, e1, e2, hg], h2.2⟩) S1 h1 (by simpa using hl)
  obtain ⟨S', e, h'⟩ := key
  refine ⟨S', ?_, h'⟩
  rw [ev, hi, R.bind_ok]
  refine (congrArg (fun r : R (List D) => r.bind fun acc S => R.ok (D.ref S.length) (S ++ [Ob.lst acc])) e).trans ?_
  simp
end
end Ev
end
section
set_option Elab.async false
set_option linter.all false
set_option maxRecDepth 100000
set_option maxHeartbeats 4000000
set_option autoImplicit false
/-! Ev21: what stays in the store. -/
namespace Ev
open PySem
/-- all but the places of P stay -/
def Fr (P : Nat → Prop) (S S' : Sto) : Prop := ∀ n o, ¬ P n → S[n]? = some o → S'[n]? = some o
abbrev Nope : Nat → Prop := fun _ => False
theorem Fr.rfl' {P : Nat → Prop} {S : Sto} : Fr P S S := fun _ _ _ h => h
theorem Fr.tr {P : Nat → Prop} {S S' S'' : Sto} (h : Fr P S S') (g : Fr P S' S'') : Fr P S S'' := fun n o hp ho => g n o hp (h n o hp ho)
theorem Fr.mono {P Q : Nat → Prop} {S S' : Sto} (h : Fr P S S') (hq : ∀ n, P n → Q n) : Fr Q S S' := fun n o hp ho => h n o (fun p => hp (hq n p)) ho
theorem Fr.of_pre {P : Nat → Prop} {S S' : Sto} (h : S <+: S') : Fr P S S' := fun n o _ ho => pre_get h ho
theorem Fr.set {P : Nat → Prop} {S : Sto} {k : Nat} {o : Ob} (h : P k) : Fr P S (S.set k o) := fun n o' hp ho => by
  have : k ≠ n := fun e => hp (e ▸ h)
  rw [List.getElem?_set_ne this]
  exact ho
/-- of places that were not there yet -/
theorem Fr.new {P Q : Nat → Prop} {S S' : Sto} (h : Fr P S S') (hq : ∀ n, P n → n < S.length → Q n) : Fr Q S S' := fun n o hp ho => h n o (fun p => hp (hq n p (List.getElem?_eq_some_iff.mp ho).1)) ho
theorem Fr.pre {S S' : Sto} (h : Fr Nope S S') : S <+: S' := by
  rw [List.prefix_iff_getElem?]
  intro i hi
  exact h i _ (fun h => h) (List.getElem?_eq_getElem hi)
theorem Fr.ok {P : Nat → Prop} {S S' : Sto} {s : Src} (h : Fr P S S') (e : s.ok S) (hp : ∀ p ∈ s.live, ¬ P p.1) : s.ok S' := by
  intro p hm
  have := e p hm
  cases hq : S[p.1]? with
  | none => simp [lstOf, hq] at this
  | some o =>
    have h2 := h _ _ (hp p hm) hq
    simp only [lstOf, hq] at this
    simp only [lstOf, h2]
    exact this
theorem Fr.lt {P : Nat → Prop} {S S' : Sto} {n : Nat} (h : Fr P S S') (hp : ¬ P n) (hn : n < S.length) : n < S'.length := (List.getElem?_eq_some_iff.mp (h n _ hp (List.getElem?_eq_getElem hn))).1
theorem set_get {S : Sto} {k : Nat} {o o' : Ob} (h : S[k]? = some o') : (S.set k o)[k]? = some o := by
  simp [(List.getElem?_eq_some_iff.mp h).1]
theorem get_lt {S : Sto} {k : Nat} {o : Ob} (h : S[k]? = some o) : k < S.length := (List.getElem?_eq_some_iff.mp h).1
theorem mt_append {S : Sto} {k : Nat} {xs : List D} (h : S[k]? = some (.lst xs)) (hl : xs.length < 16777216) (x : D) : mt .append (.ref k) [x] S = .ok .non (S.set k (.lst (xs ++ [x]))) := by
  simp [mt, h, hl]
theorem ty_append {S : Sto} {k : Nat} {xs : List D} (h : S[k]? = some (.lst xs)) : mtTy .append (.ref k) S = true := by simp [mtTy, lstOf, h]
/-- a list beside [] that was made for it -/
theorem eqD_nil {S : Sto} {r : Nat} {xs : List D} (h : S[r]? = some (.lst xs)) (h1 : plL xs = true) (h2 : dptL xs < 19) : eqD (S ++ [.lst []]) (.ref r) (.ref S.length) = some xs.isEmpty := by
  have g1 : (S ++ [Ob.lst []])[r]? = some (.lst xs) := pre_get (pre_snoc ..) h
  rw [eqD_ref g1 (last_get ..) h1 rfl h2 (by decide)]
  cases xs <;> simp
@[simp] theorem isD_nn : isD .non .non = some true := rfl
@[simp] theorem isD_in (i : Int) : isD (.int i) .non = some false := rfl
@[simp] theorem isD_tn (xs : List D) : isD (.tup xs) .non = some false := rfl
/-- the items of an enumeration from a place on -/
def enumA (i : Nat) (xs : List D) : List D := (xs.zipIdx i).map fun p => .tup [.int (p.2 : Nat), p.1]
theorem enumD_A (xs : List D) : enumD xs = enumA 0 xs := rfl
@[simp] theorem enumA_nil (i : Nat) : enumA i [] = [] := rfl
@[simp] theorem enumA_cons (i : Nat) (x : D) (r : List D) : enumA i (x :: r) = .tup [.int i, x] :: enumA (i + 1) r := rfl
end Ev
end
section
set_option Elab.async false
set_option linter.all false
set_option maxRecDepth 100000
set_option maxHeartbeats 4000000
set_option autoImplicit false
set_option exponentiation.threshold 500
/-! Gr1: texts of whole numbers and fractions. -/
namespace Gr
open PySem
abbrev numL := TL.numL
abbrev spl (s : Nat) (l : List Nat) : List (List Nat) := TL.spl [s] 0 [] l
/-! ### figures -/
def dig (c : Nat) : Bool := decide (48 ≤ c ∧ c ≤ 57)
def rdW (w : List Nat) : Option Nat := if w ≠ [] ∧ w.length ≤ 400 ∧ w.all dig = true ∧ (w = [48] ∨ w.head? ≠ some 48) then some (NumText.digitsVal w) else none
theorem rev_ind {P : List Nat → Prop} (h0 : P []) (h1 : ∀ p c, P p → P (p ++ [c])) (l : List Nat) : P l := by
  have : ∀ l : List Nat, P l.reverse := fun l => by
    induction l with
    | nil => exact h0
    | cons c r ih => rw [List.reverse_cons]; exact h1 _ _ ih
  simpa using this l.reverse
theorem val_snoc (p : List Nat) (c : Nat) : NumText.digitsVal (p ++ [c]) = NumText.digitsVal p * 10 + (c - 48) := by
  simp [NumText.digitsVal, List.foldl_append]
theorem val_lt (w : List Nat) (h : w.all dig = true) : NumText.digitsVal w < 10 ^ w.length := by
  induction w using rev_ind with
  | h0 => simp [NumText.digitsVal]
  | h1 p c ih =>
    rw [List.all_append, Bool.and_eq_true] at h
    have i := ih h.1
    have hc : dig c = true := by simpa using h.2
    have hc' : 48 ≤ c ∧ c ≤ 57 := by simpa [dig] using hc
    rw [val_snoc, List.length_append, List.length_singleton, Nat.pow_succ]
    omega
theorem canon (w : List Nat) (h0 : w ≠ []) (h : w.all dig = true) (hc : w = [48] ∨ w.head? ≠ some 48) : numL (NumText.digitsVal w) = w ∧ (w = [48] ∨ 0 < NumText.digitsVal w) := by
  induction w using rev_ind with
  | h0 => exact absurd rfl h0
  | h1 p c ih =>
    rw [List.all_append, Bool.and_eq_true] at h
    have hd : dig c = true := by simpa using h.2
    have hd' : 48 ≤ c ∧ c ≤ 57 := by simpa [dig] using hd
    rw [val_snoc]
    by_cases hp : p = []
    · subst hp
      simp only [NumText.digitsVal, List.foldl_nil, Nat.zero_mul, Nat.zero_add, List.nil_append]
      refine ⟨?_, ?_⟩
      · show TL.numL _ = _
        rw [TL.numL_lt (by omega)]
        congr 1
        omega
      · rcases hc with e | e
        · exact Or.inl (by simpa using e)
        · refine Or.inr ?_
          have : c ≠ 48 := by simpa using e
          omega
    · have hpc : p.head? ≠ some 48 := by
        rcases hc with e | e
        · exfalso
          cases p with
          | nil => exact hp rfl
          | cons x r => simp at e
        · cases p with
          | nil => exact absurd rfl hp
          | cons x r => simpa using e
      have ⟨e1, e2⟩ := ih hp h.1 (Or.inr hpc)
      have pos : 0 < NumText.digitsVal p := by
        rcases e2 with e2 | e2
        · subst e2; exact absurd rfl hpc
        · exact e2
      refine ⟨?_, Or.inr (by omega)⟩
      show TL.numL _ = _
      rw [TL.numL_step (by omega), show (NumText.digitsVal p * 10 + (c - 48)) / 10 = NumText.digitsVal p by omega, show 48 + (NumText.digitsVal p * 10 + (c - 48)) % 10 = c by omega]
      exact congrArg (· ++ [c]) e1
theorem numL_dig (n : Nat) : (numL n).all dig = true := by
  rw [List.all_eq_true]
  intro c hc
  simpa [dig] using TL.numL_digits n c hc
theorem numL_head (n : Nat) : numL n = [48] ∨ (numL n).head? ≠ some 48 := by
  induction n using Nat.strongRecOn with
  | _ n ih =>
    by_cases h : n < 10
    · show TL.numL n = _ ∨ (TL.numL n).head? ≠ _
      rw [TL.numL_lt h]
      by_cases z : n = 0
      · subst z; exact Or.inl rfl
      · refine Or.inr ?_
        simp
        omega
    · right
      show (TL.numL n).head? ≠ _
      rw [TL.numL_step (by omega)]
      have := ih (n / 10) (by omega)
      rcases this with e | e
      · exfalso
        have v := TL.numL_val (n / 10)
        rw [show TL.numL (n / 10) = [48] from e] at v
        simp [NumText.digitsVal] at v
        omega
      · have ne := TL.numL_ne (n / 10)
        revert e ne
        show (TL.numL (n / 10)).head? ≠ _ → _ → _
        cases TL.numL (n / 10) with
        | nil => intro _ h; exact absurd rfl h
        | cons a b => intro h _; simpa using h
abbrev big (n : Nat) : Prop := n < 10 ^ 400
theorem rdW_some {w : List Nat} {n : Nat} : rdW w = some n ↔ w = numL n ∧ big n := by
  unfold rdW
  constructor
  · intro h
    split at h
    · rename_i hh
      obtain ⟨h0, h1, h2, h3⟩ := hh
      cases h
      exact ⟨(canon w h0 h2 h3).1.symm, Nat.lt_of_lt_of_le (val_lt w h2) (Nat.pow_le_pow_right (by decide) h1)⟩
    · cases h
  · rintro ⟨rfl, h⟩
    rw [if_pos ⟨TL.numL_ne n, TL.numL_len (by decide) h, numL_dig n, numL_head n⟩]
    exact congrArg some (TL.numL_val n)
theorem rdW_num {n : Nat} (h : big n) : rdW (numL n) = some n := rdW_some.mpr ⟨rfl, h⟩
/-! ### cuts -/
theorem pre1 (s c : Nat) (r : List Nat) : TL.pre [s] (c :: r) = decide (c = s) := by
  by_cases h : c = s
  · subst h
    simp [TL.pre]
  · rw [TL.pre_of_head [] r h]
    simp [h]
theorem spl_back' (s : Nat) : ∀ (l acc : List Nat), s ∉ acc → TL.spl [s] 0 acc l ≠ [] ∧ TL.joinL [s] (TL.spl [s] 0 acc l) = acc ++ l ∧ ∀ p ∈ TL.spl [s] 0 acc l, s ∉ p
  | [], acc, h => by
    rw [TL.spl_nil]
    exact ⟨by simp, by simp [TL.joinL], by simpa using h⟩
  | c :: r, acc, h => by
    by_cases hc : c = s
    · rw [TL.spl_hit (by rw [pre1]; simp [hc])]
      obtain ⟨a1, a2, a3⟩ := spl_back' s r [] (by simp)
      show acc :: TL.spl [s] 0 [] r ≠ [] ∧ TL.joinL [s] (acc :: TL.spl [s] 0 [] r) = _ ∧ ∀ p ∈ acc :: TL.spl [s] 0 [] r, s ∉ p
      refine ⟨by simp, ?_, ?_⟩
      · cases e : TL.spl [s] 0 [] r with
        | nil => exact absurd e a1
        | cons p q =>
          rw [e] at a2
          show acc ++ ([s] ++ TL.joinL [s] (p :: q)) = _
          rw [a2, hc]
          rfl
      · intro p hp
        rcases List.mem_cons.mp hp with e | e
        · subst e; exact h
        · exact a3 p e
    · rw [TL.spl_miss (by rw [pre1]; simp [hc])]
      have := spl_back' s r (acc ++ [c]) (by simp [h]; exact fun e => hc e.symm)
      simpa using this
theorem spl_back (s : Nat) (l : List Nat) : spl s l ≠ [] ∧ TL.joinL [s] (spl s l) = l ∧ ∀ p ∈ spl s l, s ∉ p := by
  simpa using spl_back' s l [] (by simp)
theorem spl_one {s : Nat} {p : List Nat} (h : s ∉ p) : spl s p = [p] := TL.spl_last1 h
theorem spl_two {s : Nat} {p q : List Nat} (h : s ∉ p) : spl s (p ++ s :: q) = p :: spl s q := TL.spl_part1 (S := []) h
/-! ### whole numbers below nought, fractions -/
def intL (i : Int) : List Nat := if i < 0 then 45 :: numL i.natAbs else numL i.natAbs
def frL (a b : Int) : List Nat := if b = 1 then intL a else intL a ++ 47 :: intL b
def isFr (a b : Int) : Prop := 0 < b ∧ Nat.gcd a.natAbs b.natAbs = 1
instance (a b : Int) : Decidable (isFr a b) := by unfold isFr; infer_instance
def good (a b : Int) : Prop := isFr a b ∧ big a.natAbs ∧ big b.natAbs
def neg (w : List Nat) : Bool := decide (w.take 1 = [45])
def body (w : List Nat) : List Nat := if neg w = true then w.drop 1 else w
def sgn (w : List Nat) (n : Nat) : Int := if neg w = true then -(n : Int) else n
def rdP (w : List Nat) : Option (Int × Int) := match spl 47 (body w) with
  | [p] => (rdW p).bind fun n => if w = [45, 48] then none else some (sgn w n, 1)
  | [p, q] => (rdW p).bind fun n => (rdW q).bind fun m => if m < 2 ∨ Nat.gcd n m ≠ 1 then none else some (sgn w n, (m : Int))
  | _ => none
theorem numL_free {n s : Nat} (h : s < 48 ∨ 57 < s) : s ∉ numL n := TL.numL_free h
theorem numL_cons (n : Nat) : ∃ c r, numL n = c :: r ∧ 48 ≤ c ∧ c ≤ 57 := by
  cases e : numL n with
  | nil => exact absurd e (TL.numL_ne n)
  | cons c r =>
    have := TL.numL_digits n c (by rw [show TL.numL n = c :: r from e]; simp)
    exact ⟨c, r, rfl, this.1, this.2⟩
/-- the figures of a fraction -/
def fbL (a b : Nat) : List Nat := if b = 1 then numL a else numL a ++ 47 :: numL b
theorem intL_nat (n : Nat) : intL (n : Int) = numL n := by
  unfold intL
  rw [if_neg (by omega), Int.natAbs_natCast]
theorem frL_eq {a b : Int} (hb : 0 < b) : frL a b = if a < 0 then 45 :: fbL a.natAbs b.natAbs else fbL a.natAbs b.natAbs := by
  obtain ⟨m, rfl⟩ := Int.eq_ofNat_of_zero_le (Int.le_of_lt hb)
  unfold frL fbL
  rw [intL_nat, Int.natAbs_natCast]
  unfold intL
  by_cases h1 : m = 1
  · subst h1; simp
  · rw [if_neg (by omega), if_neg h1]
    split <;> simp
theorem fb_free {a b s : Nat} (h : s < 47 ∨ 57 < s) : s ∉ fbL a b := by
  unfold fbL
  split
  · exact numL_free (by omega)
  · intro hm
    rcases List.mem_append.mp hm with e | e
    · exact numL_free (by omega) e
    · rcases List.mem_cons.mp e with e | e
      · omega
      · exact numL_free (by omega) e
theorem fb_cons (a b : Nat) : ∃ c r, fbL a b = c :: r ∧ 48 ≤ c ∧ c ≤ 57 := by
  obtain ⟨c, r, e, h⟩ := numL_cons a
  unfold fbL
  split
  · exact ⟨c, r, e, h⟩
  · exact ⟨c, r ++ 47 :: numL b, by rw [e]; rfl, h⟩
theorem body_neg (w : List Nat) : neg w = true → w = 45 :: body w := by
  intro h
  unfold body
  rw [if_pos h]
  cases w with
  | nil => simp [neg] at h
  | cons c r =>
    have : c = 45 := by simpa [neg] using h
    simp [this]
theorem body_frL {a b : Int} (hb : 0 < b) : body (frL a b) = fbL a.natAbs b.natAbs ∧ neg (frL a b) = decide (a < 0) := by
  rw [frL_eq hb]
  obtain ⟨c, r, e, h⟩ := fb_cons a.natAbs b.natAbs
  by_cases ha : a < 0
  · rw [if_pos ha]
    simp [body, neg, ha]
  · rw [if_neg ha, e]
    have hc : c ≠ 45 := by omega
    simp [body, neg, ha, hc]
theorem rdP_some {w : List Nat} {a b : Int} : rdP w = some (a, b) ↔ w = frL a b ∧ good a b := by
  constructor
  · intro h
    unfold rdP at h
    obtain ⟨_, hj, hf⟩ := spl_back 47 (body w)
    split at h
    · rename_i p e
      rw [e] at hj hf
      have hj : p = body w := hj
      cases hr : rdW p with
      | none => rw [hr] at h; simp at h
      | some n =>
        rw [hr, Option.bind_some] at h
        obtain ⟨e1, e2⟩ := rdW_some.mp hr
        split at h
        · cases h
        · rename_i hz
          have h' : (sgn w n, (1 : Int)) = (a, b) := by simpa using h
          obtain ⟨rfl, rfl⟩ := Prod.mk.inj h'
          have hw : w = if neg w = true then 45 :: numL n else numL n := by
            split
            · rename_i hn
              rw [← e1, hj]; exact body_neg w hn
            · rename_i hn
              rw [← e1, hj]; unfold body; rw [if_neg hn]
          have hs : neg w = true → n ≠ 0 := by
            rintro hn rfl
            rw [if_pos hn] at hw
            exact hz hw
          refine ⟨?_, ⟨by omega, by simp⟩, ?_, by decide⟩
          · rw [frL_eq (by omega)]
            unfold sgn fbL
            by_cases hn : neg w = true
            · have := hs hn
              rw [if_pos hn] at hw ⊢
              rw [if_pos (by omega), if_pos (by simp), Int.natAbs_neg, Int.natAbs_natCast]
              exact hw
            · rw [if_neg hn] at hw ⊢
              rw [if_neg (by omega), if_pos (by simp), Int.natAbs_natCast]
              exact hw
          · unfold sgn
            split
            · rw [Int.natAbs_neg, Int.natAbs_natCast]; exact e2
            · rw [Int.natAbs_natCast]; exact e2
    · rename_i p q e
      rw [e] at hj hf
      have hj : p ++ ([47] ++ q) = body w := hj
      cases hr : rdW p with
      | none => rw [hr] at h; simp at h
      | some n =>
        cases hr2 : rdW q with
        | none => rw [hr, hr2] at h; simp at h
        | some m =>
          rw [hr, Option.bind_some, hr2, Option.bind_some] at h
          obtain ⟨e1, e2⟩ := rdW_some.mp hr
          obtain ⟨g1, g2⟩ := rdW_some.mp hr2
          split at h
          · cases h
          · rename_i hz
            have h' : (sgn w n, (m : Int)) = (a, b) := by simpa using h
            obtain ⟨rfl, rfl⟩ := Prod.mk.inj h'
            have hm : 2 ≤ m := by omega
            have hg : Nat.gcd n m = 1 := by
              have := fun e => hz (Or.inr e)
              exact Classical.byContradiction this
            have hn0 : n ≠ 0 := by
              rintro rfl
              rw [Nat.gcd_zero_left] at hg
              omega
            have hw : w = if neg w = true then 45 :: fbL n m else fbL n m := by
              have hb : body w = fbL n m := by
                unfold fbL
                rw [if_neg (by omega), ← hj, e1, g1]
                rfl
              split
              · rename_i hn
                rw [← hb]; exact body_neg w hn
              · rename_i hn
                rw [← hb]; unfold body; rw [if_neg hn]
            refine ⟨?_, ⟨by omega, ?_⟩, ?_, by rw [Int.natAbs_natCast]; exact g2⟩
            · rw [frL_eq (by omega)]
              unfold sgn
              by_cases hn : neg w = true
              · rw [if_pos hn] at hw ⊢
                rw [if_pos (by omega), Int.natAbs_neg, Int.natAbs_natCast, Int.natAbs_natCast]
                exact hw
              · rw [if_neg hn] at hw ⊢
                rw [if_neg (by omega), Int.natAbs_natCast, Int.natAbs_natCast]
                exact hw
            · unfold sgn
              split
              · rw [Int.natAbs_neg, Int.natAbs_natCast, Int.natAbs_natCast]; exact hg
              · rw [Int.natAbs_natCast, Int.natAbs_natCast]; exact hg
            · unfold sgn
              split
              · rw [Int.natAbs_neg, Int.natAbs_natCast]; exact e2
              · rw [Int.natAbs_natCast]; exact e2
    · cases h
  · rintro ⟨rfl, ⟨hb, hg⟩, b1, b2⟩
    obtain ⟨e1, e2⟩ := body_frL (a := a) hb
    have hs : sgn (frL a b) a.natAbs = a := by
      unfold sgn
      rw [e2]
      by_cases h : a < 0 <;> simp [h] <;> omega
    unfold rdP
    rw [e1]
    by_cases h1 : b = 1
    · subst h1
      have : fbL a.natAbs (Int.natAbs 1) = numL a.natAbs := by simp [fbL]
      rw [this, spl_one (numL_free (by omega))]
      show (rdW (numL a.natAbs)).bind _ = _
      rw [rdW_num b1, Option.bind_some, if_neg, hs]
      intro hw
      have e3 := e2
      rw [hw] at e3 e1
      have ha : a < 0 := by simpa [neg] using e3
      have : numL a.natAbs = numL 0 := by
        rw [this] at e1
        rw [← e1]
        rfl
      have := TL.numL_inj this
      omega
    · have : fbL a.natAbs b.natAbs = numL a.natAbs ++ 47 :: numL b.natAbs := by
        unfold fbL
        rw [if_neg (by omega)]
      rw [this, spl_two (numL_free (by omega)), spl_one (numL_free (by omega))]
      show (rdW (numL a.natAbs)).bind _ = _
      rw [rdW_num b1, Option.bind_some, rdW_num b2, Option.bind_some, if_neg, hs]
      · congr 2
        omega
      · rintro (h | h)
        · omega
        · exact h hg
end Gr
end
section
set_option Elab.async false
set_option linter.all false
set_option maxRecDepth 100000
set_option maxHeartbeats 4000000
set_option autoImplicit false
set_option exponentiation.threshold 500
/-! Gr2: texts of numbers. -/
namespace Gr
open PySem
def isSg (c : Nat) : Bool := decide (c = 43 ∨ c = 45)
def nuL (a b c d : Int) : List Nat := if c = 0 then frL a b else (if a ≠ 0 then frL a b ++ (if 0 < c then [43] else []) else []) ++ (frL c d ++ [105])
/-- the places of signs behind the first place -/
def cutsL (w : List Nat) : List Nat := ((List.range (w.length - 1)).map (1 + ·)).filter fun k => isSg (w.getD k 0)
def cutAt (w : List Nat) : Nat := (cutsL w).headD 0
/-- the text of the second part -/
def secL (w : List Nat) (k : Nat) : List Nat := if w[k]? = some 43 ∧ 0 < k then (w.take (w.length - 1)).drop (k + 1) else (w.take (w.length - 1)).drop k
structure N4 where
  a : Int
  b : Int
  c : Int
  d : Int
  deriving DecidableEq
def N4.L (z : N4) : List Nat := nuL z.a z.b z.c z.d
def N4.good (z : N4) : Prop := Gr.good z.a z.b ∧ Gr.good z.c z.d
def join2 (k : Nat) (pl : Bool) (p q : Int × Int) : Option N4 := if p.1 = 0 ∨ q.1 = 0 ∨ (0 < k ∧ pl ≠ decide (0 < q.1)) then none else some (if 0 < k then ⟨p.1, p.2, q.1, q.2⟩ else ⟨0, 1, q.1, q.2⟩)
def rdN (w : List Nat) : Option N4 := if w.getLast? ≠ some 105 then (rdP w).map fun p => ⟨p.1, p.2, 0, 1⟩
  else (if 0 < cutAt w then rdP (w.take (cutAt w)) else some (1, 1)).bind fun p => (rdP (secL w (cutAt w))).bind fun q => join2 (cutAt w) (decide (w[cutAt w]? = some 43)) p q
theorem cutAt_zero {w : List Nat} (h : ∀ k, 0 < k → k < w.length → isSg (w.getD k 0) = false) : cutsL w = [] := by
  unfold cutsL
  rw [List.filter_eq_nil_iff]
  intro k hk
  obtain ⟨j, hj, rfl⟩ := List.mem_map.mp hk
  have := List.mem_range.mp hj
  rw [h (1 + j) (by omega) (by omega)]
  simp
theorem cuts_head {w : List Nat} {k : Nat} (h0 : 0 < k) (hk : k < w.length) (hs : isSg (w.getD k 0) = true) (h : ∀ j, 0 < j → j < k → isSg (w.getD j 0) = false) : (cutsL w).head? = some k := by
  unfold cutsL
  rw [List.head?_filter, List.find?_map]
  have : List.find? ((fun k => isSg (w.getD k 0)) ∘ fun x => 1 + x) (List.range (w.length - 1)) = some (k - 1) := by
    rw [List.find?_range_eq_some]
    refine ⟨?_, by simp; omega, ?_⟩
    · show isSg (w.getD (1 + (k - 1)) 0) = true
      rw [show 1 + (k - 1) = k by omega]; exact hs
    · intro j hj
      show (!isSg (w.getD (1 + j) 0)) = true
      rw [h (1 + j) (by omega) (by omega)]
      rfl
  rw [this]
  simp
  omega
theorem cutAt_of {w : List Nat} {k : Nat} (h : (cutsL w).head? = some k) : cutAt w = k := by
  unfold cutAt
  cases e : cutsL w with
  | nil => rw [e] at h; cases h
  | cons a r => rw [e] at h; simpa using h
theorem cutAt_spec {w : List Nat} (h : 0 < cutAt w) : cutAt w < w.length ∧ isSg (w.getD (cutAt w) 0) = true := by
  have hm : cutAt w ∈ cutsL w := by
    unfold cutAt at *
    cases e : cutsL w with
    | nil => rw [e] at h; simp at h
    | cons a r => simp
  unfold cutsL at hm
  obtain ⟨h1, h2⟩ := List.mem_filter.mp hm
  obtain ⟨j, hj, e⟩ := List.mem_map.mp h1
  have := List.mem_range.mp hj
  exact ⟨by omega, h2⟩
theorem fr_ends {a b : Int} (hb : 0 < b) : (frL a b).getLast? ≠ some 105 := by
  intro h
  have hm := List.mem_of_getLast? h
  rw [frL_eq hb] at hm
  split at hm
  · rcases List.mem_cons.mp hm with e | e
    · omega
    · exact fb_free (by omega) e
  · exact fb_free (by omega) hm
theorem fr_shape {a b : Int} (hb : 0 < b) : ∃ c r, frL a b = c :: r ∧ (∀ x ∈ r, isSg x = false) ∧ ((c = 45 ∧ a < 0 ∧ r = fbL a.natAbs b.natAbs) ∨ (48 ≤ c ∧ c ≤ 57 ∧ ¬ a < 0 ∧ c :: r = fbL a.natAbs b.natAbs)) := by
  rw [frL_eq hb]
  have free : ∀ x ∈ fbL a.natAbs b.natAbs, isSg x = false := fun x hx => by
    have h1 := fun (e : x = 43) => fb_free (a := a.natAbs) (b := b.natAbs) (s := 43) (by omega) (e ▸ hx)
    have h2 := fun (e : x = 45) => fb_free (a := a.natAbs) (b := b.natAbs) (s := 45) (by omega) (e ▸ hx)
    simp [isSg]
    exact ⟨h1, h2⟩
  by_cases ha : a < 0
  · rw [if_pos ha]
    exact ⟨45, _, rfl, free, Or.inl ⟨rfl, ha, rfl⟩⟩
  · rw [if_neg ha]
    obtain ⟨c, r, e, h⟩ := fb_cons a.natAbs b.natAbs
    rw [e] at free ⊢
    exact ⟨c, r, rfl, fun x hx => free x (List.mem_cons_of_mem _ hx), Or.inr ⟨h.1, h.2, ha, rfl⟩⟩
theorem isSg_iff {c : Nat} : isSg c = true ↔ c = 43 ∨ c = 45 := by simp [isSg]
theorem getD_mem {l : List Nat} {k : Nat} (h : k < l.length) : l.getD k 0 ∈ l := by
  rw [List.getD_eq_getElem?_getD, List.getElem?_eq_getElem h]
  exact List.getElem_mem h
/-- a number's text, either no sign within or one that parts it -/
theorem nu_cut {a b c d : Int} (hb : 0 < b) (hd : 0 < d) (hc : c ≠ 0) (ha : a ≠ 0) :
    nuL a b c d = frL a b ++ (if 0 < c then 43 else 45) :: (fbL c.natAbs d.natAbs ++ [105]) := by
  unfold nuL
  rw [if_neg hc, if_pos ha, frL_eq hd]
  by_cases h : 0 < c
  · rw [if_pos h, if_pos h, if_neg (by omega)]
    simp
  · rw [if_neg h, if_neg h, if_pos (by omega)]
    simp
theorem nu_one {a b c d : Int} (hc : c ≠ 0) (ha : a = 0) : nuL a b c d = frL c d ++ [105] := by
  unfold nuL
  rw [if_neg hc, if_neg (by simpa using ha)]
  rfl
/-- no sign behind the first place -/
theorem one_free {c d : Int} (hd : 0 < d) : ∀ k, 0 < k → isSg ((frL c d ++ [105]).getD k 0) = false := by
  intro k hk
  obtain ⟨x, r, e, hr, _⟩ := fr_shape (a := c) hd
  rw [e]
  by_cases hl : k < (x :: r ++ [105]).length
  · obtain ⟨j, rfl⟩ : ∃ j, k = j + 1 := ⟨k - 1, by omega⟩
    have : (x :: r ++ [105]).getD (j + 1) 0 = (r ++ [105]).getD j 0 := rfl
    rw [this]
    have hm := getD_mem (l := r ++ [105]) (k := j) (by simp at hl ⊢; omega)
    rcases List.mem_append.mp hm with h | h
    · exact hr _ h
    · rw [List.mem_singleton.mp h]; rfl
  · rw [List.getD_eq_getElem?_getD, List.getElem?_eq_none (by omega)]; rfl
theorem two_shape {a b c d : Int} (hb : 0 < b) (hd : 0 < d) (hc : c ≠ 0) (ha : a ≠ 0) :
    let w := nuL a b c d
    let m := (frL a b).length
    0 < m ∧ m < w.length ∧ w.getD m 0 = (if 0 < c then 43 else 45) ∧ (∀ k, 0 < k → k ≠ m → isSg (w.getD k 0) = false) := by
  intro w m
  obtain ⟨x, r, e, hr, _⟩ := fr_shape (a := a) hb
  have hw : w = frL a b ++ (if 0 < c then 43 else 45) :: (fbL c.natAbs d.natAbs ++ [105]) := nu_cut hb hd hc ha
  have hm : m = r.length + 1 := by show (frL a b).length = _; rw [e]; rfl
  refine ⟨by omega, by rw [hw]; simp [m], ?_, ?_⟩
  · rw [hw, List.getD_eq_getElem?_getD, List.getElem?_append_right (by simp [m])]
    simp [m]
  · intro k h0 hk
    rw [hw, List.getD_eq_getElem?_getD]
    by_cases hl : k < m
    · rw [List.getElem?_append_left hl, e]
      obtain ⟨j, rfl⟩ : ∃ j, k = j + 1 := ⟨k - 1, by omega⟩
      rw [List.getElem?_cons_succ, List.getElem?_eq_getElem (by omega)]
      exact hr _ (List.getElem_mem _)
    · rw [List.getElem?_append_right (by omega)]
      obtain ⟨j, hj⟩ : ∃ j, k - (frL a b).length = j + 1 := ⟨k - m - 1, by show k - m = _; omega⟩
      rw [hj, List.getElem?_cons_succ]
      cases hz : (fbL c.natAbs d.natAbs ++ [105])[j]? with
      | none => rfl
      | some y =>
        have hy := List.mem_of_getElem? hz
        rcases List.mem_append.mp hy with h | h
        · have h1 := fun (e : y = 43) => fb_free (a := c.natAbs) (b := d.natAbs) (s := 43) (by omega) (e ▸ h)
          have h2 := fun (e : y = 45) => fb_free (a := c.natAbs) (b := d.natAbs) (s := 45) (by omega) (e ▸ h)
          simp [isSg]
          exact ⟨h1, h2⟩
        · rw [List.mem_singleton.mp h]; rfl
theorem good01 : good 0 1 := ⟨⟨by decide, by decide⟩, by decide, by decide⟩
theorem rdN_some {w : List Nat} {z : N4} : rdN w = some z ↔ w = z.L ∧ z.good := by
  constructor
  · intro h
    unfold rdN at h
    by_cases hl : w.getLast? = some 105
    · rw [if_neg (by simpa using hl)] at h
      obtain ⟨u, rfl⟩ : ∃ u, w = u ++ [105] := List.getLast?_eq_some_iff.mp hl
      have htk : (u ++ [105]).take ((u ++ [105]).length - 1) = u := by simp
      by_cases hk : 0 < cutAt (u ++ [105])
      · obtain ⟨k1, k2⟩ := cutAt_spec hk
        unfold join2 secL at h
        rw [htk] at h
        generalize cutAt (u ++ [105]) = k at *
        rw [if_pos hk] at h
        cases h1 : rdP ((u ++ [105]).take k) with
        | none => rw [h1] at h; simp at h
        | some p =>
          rw [h1, Option.bind_some] at h
          have hku : k < u.length := by
            rcases Nat.lt_or_ge k u.length with h | h
            · exact h
            · have : k = u.length := by simp at k1; omega
              subst this
              simp [List.getD_eq_getElem?_getD, isSg] at k2
          have e1 : (u ++ [105]).take k = u.take k := List.take_append_of_le_length (by omega)
          have e2 : (u ++ [105])[k]? = u[k]? := List.getElem?_append_left hku
          have e3 : (u ++ [105]).getD k 0 = u[k] := by rw [List.getD_eq_getElem?_getD, e2, List.getElem?_eq_getElem hku]; rfl
          rw [e2] at h
          rw [e1] at h1
          rw [e3] at k2
          have hu : u = u.take k ++ u[k] :: u.drop (k + 1) := by
            conv => lhs; rw [← List.take_append_drop k u]
            rw [List.drop_eq_getElem_cons hku]
          obtain ⟨p1, p2⟩ := p
          obtain ⟨g1, g2⟩ := rdP_some.mp h1
          have hx : u[k]? = some u[k] := List.getElem?_eq_getElem hku
          rw [hx] at h
          by_cases hp : u[k] = 43
          · rw [if_pos ⟨by rw [hp], hk⟩] at h
            cases h2 : rdP (u.drop (k + 1)) with
            | none => rw [h2] at h; simp at h
            | some q =>
              rw [h2, Option.bind_some] at h
              obtain ⟨q1, q2⟩ := q
              obtain ⟨g3, g4⟩ := rdP_some.mp h2
              split at h
              · cases h
              · rename_i hn
                cases h
                have a0 : p1 ≠ 0 := fun e => hn (Or.inl e)
                have c0 : q1 ≠ 0 := fun e => hn (Or.inr (Or.inl e))
                have c1 : 0 < q1 := by
                  by_cases h : 0 < q1
                  · exact h
                  · exact absurd (Or.inr (Or.inr ⟨hk, by simp [hp, h]⟩)) hn
                refine ⟨?_, g2, g4⟩
                show _ = nuL _ _ _ _
                rw [nu_cut g2.1.1 g4.1.1 c0 a0, if_pos c1, ← g1]
                have : u.drop (k + 1) = fbL q1.natAbs q2.natAbs := by rw [g3, frL_eq g4.1.1, if_neg (by omega)]
                conv => lhs; rw [hu, hp, this]
                simp
          · have hp2 : u[k] = 45 := by rcases isSg_iff.mp k2 with e | e; exact absurd e hp; exact e
            rw [if_neg (by rintro ⟨e, _⟩; exact hp (by simpa using e))] at h
            cases h2 : rdP (u.drop k) with
            | none => rw [h2] at h; simp at h
            | some q =>
              rw [h2, Option.bind_some] at h
              obtain ⟨q1, q2⟩ := q
              obtain ⟨g3, g4⟩ := rdP_some.mp h2
              split at h
              · cases h
              · rename_i hn
                cases h
                have a0 : p1 ≠ 0 := fun e => hn (Or.inl e)
                have c0 : q1 ≠ 0 := fun e => hn (Or.inr (Or.inl e))
                have c1 : ¬ 0 < q1 := by
                  intro h
                  exact hn (Or.inr (Or.inr ⟨hk, by simp [hp, h]⟩))
                refine ⟨?_, g2, g4⟩
                show _ = nuL _ _ _ _
                rw [nu_cut g2.1.1 g4.1.1 c0 a0, if_neg c1, ← g1]
                have : u.drop k = 45 :: fbL q1.natAbs q2.natAbs := by rw [g3, frL_eq g4.1.1, if_pos (by omega)]
                conv => lhs; rw [← List.take_append_drop k u, this]
                simp
      · unfold join2 secL at h
        rw [htk] at h
        generalize cutAt (u ++ [105]) = k at *
        have : k = 0 := by omega
        subst this
        rw [if_neg hk, if_neg (by simp), Option.bind_some, List.drop_zero] at h
        cases h2 : rdP u with
        | none => rw [h2] at h; simp at h
        | some q =>
          rw [h2, Option.bind_some] at h
          obtain ⟨q1, q2⟩ := q
          obtain ⟨g3, g4⟩ := rdP_some.mp h2
          split at h
          · cases h
          · rename_i hn
            cases h
            refine ⟨?_, good01, g4⟩
            show _ = nuL _ _ _ _
            rw [nu_one (fun e => hn (Or.inr (Or.inl e))) rfl, ← g3]
    · rw [if_pos (by simpa using hl)] at h
      cases h1 : rdP w with
      | none => rw [h1] at h; simp at h
      | some p =>
        rw [h1] at h
        cases h
        obtain ⟨p1, p2⟩ := p
        obtain ⟨g1, g2⟩ := rdP_some.mp h1
        refine ⟨?_, g2, good01⟩
        show _ = nuL _ _ _ _
        unfold nuL
        rw [if_pos rfl]
        exact g1
  · rintro ⟨rfl, g1, g2⟩
    obtain ⟨a, b, c, d⟩ := z
    show rdN (nuL a b c d) = _
    have g1 : good a b := g1
    have g2 : good c d := g2
    unfold rdN
    by_cases hc : c = 0
    · have : nuL a b c d = frL a b := by unfold nuL; rw [if_pos hc]
      rw [this, if_pos (fr_ends g1.1.1), rdP_some.mpr ⟨rfl, g1⟩]
      have hd : d = 1 := by
        have h1 := g2.1.1
        have h2 := g2.1.2
        rw [hc] at h2
        simp at h2
        omega
      simp [hc, hd]
    · by_cases ha : a = 0
      · have e := nu_one (b := b) (d := d) hc ha
        have hb : b = 1 := by
          have h1 := g1.1.1
          have h2 := g1.1.2
          rw [ha] at h2
          simp at h2
          omega
        have z : cutAt (nuL a b c d) = 0 := by unfold cutAt; rw [cutAt_zero]; rfl; rw [e]; exact fun k h _ => one_free g2.1.1 k h
        rw [z, if_neg (by rw [e]; simp), if_neg (by omega), Option.bind_some]
        have s : secL (nuL a b c d) 0 = frL c d := by
          unfold secL
          rw [if_neg (by simp), e]
          simp
        rw [s, rdP_some.mpr ⟨rfl, g2⟩, Option.bind_some]
        unfold join2
        simp [hc, ha, hb]
      · obtain ⟨m0, m1, m2, m3⟩ := two_shape g1.1.1 g2.1.1 hc ha
        have e := nu_cut g1.1.1 g2.1.1 hc ha
        have z : cutAt (nuL a b c d) = (frL a b).length := cutAt_of (cuts_head m0 m1 (by rw [m2]; split <;> rfl) (fun j h1 h2 => m3 j h1 (by omega)))
        rw [z, if_pos m0]
        have t : (nuL a b c d).take (frL a b).length = frL a b := by rw [e]; simp
        have l : (nuL a b c d).getLast? = some 105 := by
          rw [e, ← List.cons_append, ← List.append_assoc, List.getLast?_append]
          simp
        have g : (nuL a b c d)[(frL a b).length]? = some (if 0 < c then 43 else 45) := by
          rw [e, List.getElem?_append_right (by omega)]
          simp
        have s : secL (nuL a b c d) (frL a b).length = frL c d := by
          have tk : (nuL a b c d).take ((nuL a b c d).length - 1) = frL a b ++ (if 0 < c then 43 else 45) :: fbL c.natAbs d.natAbs := by
            have h : ∀ u : List Nat, (u ++ [105]).take ((u ++ [105]).length - 1) = u := fun u => by simp
            rw [e, ← List.cons_append, ← List.append_assoc, h]
          unfold secL
          rw [tk, g, frL_eq g2.1.1]
          by_cases h : 0 < c
          · rw [if_pos h, if_pos ⟨rfl, m0⟩, if_neg (by omega)]
            rw [List.drop_append]
            simp
          · rw [if_neg h, if_neg (by simp), if_pos (by omega)]
            simp
        rw [if_neg (by rw [l]; simp), t, rdP_some.mpr ⟨rfl, g1⟩, Option.bind_some, s, rdP_some.mpr ⟨rfl, g2⟩, Option.bind_some, g]
        unfold join2
        rw [if_pos m0, if_neg]
        rintro (h | h | ⟨_, h⟩)
        · exact ha h
        · exact hc h
        · apply h
          by_cases hp : 0 < c <;> simp [hp]
end Gr
end
section
set_option Elab.async false
set_option linter.all false
set_option maxRecDepth 100000
set_option maxHeartbeats 4000000
set_option autoImplicit false
set_option exponentiation.threshold 10000
/-! Gr3: numbers' texts and the machine's operations. -/
namespace Gr
open PySem Ev
theorem big_log {n : Nat} (h : big n) : n.log2 < 1920 := by
  by_cases z : n = 0
  · subst z; decide
  · have : n < 2 ^ 1920 := Nat.lt_trans h (by decide)
    exact (Nat.log2_lt z).mpr this
theorem str_int (i : Int) : (Str.ofString (toString i)).cps.toList = intL i := by
  by_cases h : i < 0
  · obtain ⟨n, rfl⟩ : ∃ n : Nat, i = Int.negSucc n := by
      cases i with
      | ofNat n => exact absurd h (by simp)
      | negSucc n => exact ⟨n, rfl⟩
    have e : toString (Int.negSucc n) = "-" ++ toString (n + 1) := rfl
    have t : TL.tl (Str.ofString (toString (Int.negSucc n))) = 45 :: numL (n + 1) := by
      rw [TL.tl_ofString, e, String.toList_append, List.map_append]
      have := TL.tl_num (n + 1)
      rw [TL.tl_ofString] at this
      show 45 :: _ = 45 :: _
      congr 1
    unfold intL
    rw [if_pos h]
    exact t
  · obtain ⟨n, rfl⟩ := Int.eq_ofNat_of_zero_le (by omega : 0 ≤ i)
    rw [intL_nat]
    exact TL.tl_num n
@[simp] theorem bi_str {i : Int} (h : big i.natAbs) (S : Sto) : bi .str [.int i] S = .ok (.str (intL i)) S := by
  show (if i.natAbs.log2 < 1920 then R.ok (D.str (Str.ofString (toString i)).cps.toList) S else .stuck) = _
  rw [if_pos (big_log h), str_int]
theorem intL_len {i : Int} (h : big i.natAbs) : (intL i).length ≤ 401 := by
  have := TL.numL_len (by decide) h
  unfold intL
  split
  · simp; exact this
  · exact Nat.le_trans this (by decide)
theorem frL_len {a b : Int} (h : big a.natAbs) (g : big b.natAbs) : (frL a b).length ≤ 803 := by
  have := intL_len h
  have := intL_len g
  unfold frL
  split
  · omega
  · simp; omega
theorem nuL_len {a b c d : Int} (h1 : big a.natAbs) (h2 : big b.natAbs) (h3 : big c.natAbs) (h4 : big d.natAbs) : (nuL a b c d).length ≤ 1610 := by
  have := frL_len h1 h2
  have := frL_len h3 h4
  unfold nuL
  split
  · omega
  · split
    · split <;> simp <;> omega
    · simp; omega
abbrev fr (a b : Int) : D := .tup [.int a, .int b]
abbrev nu (a b c d : Int) : D := .tup [fr a b, fr c d]
def N4.D (z : N4) : D := nu z.a z.b z.c z.d
@[simp] theorem eqD_fr (S : Sto) (a b c d : Int) : eqD S (fr a b) (fr c d) = some (decide (a = c ∧ b = d)) := by
  rw [eqD_pl rfl rfl (by simp [dpt, dptL]) (by simp [dpt, dptL])]
  congr 1
  simp
theorem nought {c d : Int} (h : isFr c d) : (c = 0 ∧ d = 1) ↔ c = 0 := by
  constructor
  · exact fun h => h.1
  · intro e
    subst e
    have h1 := h.1
    have h2 := h.2
    simp at h2
    exact ⟨rfl, by omega⟩
theorem intL_ne (i : Int) : intL i ≠ [] := by
  unfold intL
  split
  · simp
  · exact TL.numL_ne _
theorem frL_ne (a b : Int) : frL a b ≠ [] := by
  unfold frL
  split
  · exact intL_ne a
  · simp
theorem cat_ok {x y : List Nat} (S : Sto) (h : x.length + y.length ≤ 16777216) : binop .add (.str x) (.str y) S = .ok (.str (x ++ y)) S := if_pos h
end Gr
end
section
set_option Elab.async false
set_option linter.all false
set_option maxRecDepth 100000
set_option maxHeartbeats 4000000
set_option autoImplicit false
set_option exponentiation.threshold 10000
/-! Gr4: more of cuts and checks. -/
namespace Gr
open PySem Ev
theorem join_mem {s : List Nat} : ∀ {ps : List (List Nat)} {p : List Nat}, p ∈ ps → p.length ≤ (TL.joinL s ps).length
  | [], _, h => by cases h
  | [q], p, h => by rw [List.mem_singleton.mp h]; exact Nat.le_refl _
  | q :: r :: t, p, h => by
    show _ ≤ (q ++ (s ++ TL.joinL s (r :: t))).length
    rcases List.mem_cons.mp h with e | e
    · subst e; simp
    · have := join_mem (s := s) e
      simp
      omega
theorem join_cnt {s : Nat} : ∀ (ps : List (List Nat)), ps.length ≤ (TL.joinL [s] ps).length + 1
  | [] => by simp
  | [q] => by simp
  | q :: r :: t => by
    show _ ≤ (q ++ ([s] ++ TL.joinL [s] (r :: t))).length + 1
    have := join_cnt (s := s) (r :: t)
    simp at this ⊢
    omega
theorem spl_len {s : Nat} {l p : List Nat} (h : p ∈ spl s l) : p.length ≤ l.length := by
  have := join_mem (s := [s]) h
  rwa [(spl_back s l).2.1] at this
theorem spl_cnt (s : Nat) (l : List Nat) : (spl s l).length ≤ l.length + 1 := by
  have := join_cnt (s := s) (spl s l)
  rwa [(spl_back s l).2.1] at this
@[simp] theorem mt_split {l : List Nat} {s : Nat} (hs : s < 256) (h : l.length + 2 ≤ 16777216) (S : Sto) : mt .split (.str l) [.str [s]] S = .ok (.ref S.length) (S ++ [.lst ((spl s l).map .str)]) := by
  show (if [s] ≠ [] ∧ l.length + 2 ≤ 16777216 ∧ [s].all (· < 256) = true then _ else R.stuck) = _
  rw [if_pos ⟨by simp, h, by simp [hs]⟩]
@[simp] theorem ty_split (l : List Nat) (S : Sto) : mtTy .split (.str l) S = true := rfl
@[simp] theorem ty_rfind (l : List Nat) (S : Sto) : mtTy .rfind (.str l) S = true := rfl
@[simp] theorem ty_join (l : List Nat) (S : Sto) : mtTy .join (.str l) S = true := rfl
theorem body_len (w : List Nat) : (body w).length ≤ w.length := by unfold body; split <;> simp
abbrev frP (p : Int × Int) : Ev.D := fr p.1 p.2
theorem rd_check {w : List Nat} {x y : Int} (h : good x y) (u : ∀ p, rdP w = some p → p = (x, y)) : (rdP w).toList.map frP = if frL x y = w then [fr x y] else [] := by
  split
  · rename_i e
    rw [rdP_some.mpr ⟨e.symm, h⟩]
    rfl
  · rename_i e
    cases hr : rdP w with
    | none => rfl
    | some p =>
      exfalso
      have := u p hr
      subst this
      exact e (rdP_some.mp hr).1.symm
theorem neg_ite (G : Gm) {w : List Nat} (hw : w.length ≤ 1000000) (a b : E) (en : En) (S : Sto) (h : en.getD 0 none = some (.str w)) : ev G (.ite (.cmp .eq (.sl (.var 0) .none (.some (.cst (.int 1)))) (.cst (.str [45]))) a b) en S = if neg w = true then ev G a en S else ev G b en S := by
  have hl : w.length ≤ 16777216 := by omega
  rw [ev_ite, ev_cmp, ev_sl, ev_var, h]
  simp [hl, neg]
/-- what is read whole of the parts -/
def whN (ps : List (List Nat)) : List Nat := ps.flatMap fun p => (rdW p).toList
theorem whN_le (ps : List (List Nat)) : (whN ps).length ≤ ps.length := by
  induction ps with
  | nil => simp [whN]
  | cons p r ih =>
    unfold whN at *
    rw [List.flatMap_cons, List.length_append]
    have : ((rdW p).toList).length ≤ 1 := by cases rdW p <;> simp
    simp only [List.length_cons]
    omega
theorem good_red {a : Int} {b : Nat} (hb : b ≠ 0) (h1 : big a.natAbs) (h2 : big b) : good (a / (Nat.gcd a.natAbs b : Nat)) ((b : Int) / (Nat.gcd a.natAbs b : Nat)) := by
  have hg : 0 < Nat.gcd a.natAbs b := Nat.gcd_pos_of_pos_right _ (by omega)
  have d1 : Nat.gcd a.natAbs b ∣ a.natAbs := Nat.gcd_dvd_left ..
  have d2 : Nat.gcd a.natAbs b ∣ b := Nat.gcd_dvd_right ..
  have e1 : (a / (Nat.gcd a.natAbs b : Nat)).natAbs = a.natAbs / Nat.gcd a.natAbs b := by
    rw [Int.natAbs_ediv_of_dvd (Int.ofNat_dvd_left.mpr d1), Int.natAbs_natCast]
  have e2 : ((b : Int) / (Nat.gcd a.natAbs b : Nat)).natAbs = b / Nat.gcd a.natAbs b := by
    rw [← Int.natCast_ediv, Int.natAbs_natCast]
  refine ⟨⟨?_, ?_⟩, ?_, ?_⟩
  · rw [← Int.natCast_ediv]
    have := Nat.div_pos (Nat.le_of_dvd (by omega) d2) hg
    omega
  · rw [e1, e2, Nat.gcd_div d1 d2, Nat.div_self hg]
  · rw [e1]; exact Nat.lt_of_le_of_lt (Nat.div_le_self ..) h1
  · rw [e2]; exact Nat.lt_of_le_of_lt (Nat.div_le_self ..) h2
theorem big_bt {n : Nat} (h : big n) : n < 2 ^ 1400 := Nat.lt_trans h (by decide)
theorem sgn_abs (w : List Nat) (n : Nat) : (sgn w n).natAbs = n := by unfold sgn; split <;> omega
theorem red_one {a : Int} {b : Nat} (h : Nat.gcd a.natAbs b = 1) : (a / (Nat.gcd a.natAbs b : Nat)) = a ∧ ((b : Int) / (Nat.gcd a.natAbs b : Nat)) = b := by
  rw [h]; simp
def rdPs (w : List Nat) (ps : List (List Nat)) : Option (Int × Int) := match ps with
  | [p] => (rdW p).bind fun n => if w = [45, 48] then none else some (sgn w n, 1)
  | [p, q] => (rdW p).bind fun n => (rdW q).bind fun m => if m < 2 ∨ Nat.gcd n m ≠ 1 then none else some (sgn w n, (m : Int))
  | _ => none
theorem rdP_eq (w : List Nat) : rdP w = rdPs w (spl 47 (body w)) := rfl
theorem rdPs_none {w : List Nat} {ps : List (List Nat)} (h : 2 < ps.length ∨ (whN ps).length ≠ ps.length) : rdPs w ps = none := by
  rcases ps with _ | ⟨p, _ | ⟨q, _ | ⟨r, t⟩⟩⟩
  · rfl
  · have : (whN [p]).length ≠ 1 := by simpa using h
    cases hp : rdW p with
    | none => simp [rdPs, hp]
    | some k => simp [whN, hp] at this
  · have : (whN [p, q]).length ≠ 2 := by simpa using h
    cases hp : rdW p with
    | none => simp [rdPs, hp]
    | some k =>
      cases hq : rdW q with
      | none => simp [rdPs, hp, hq]
      | some m => simp [whN, hp, hq] at this
  · rfl
theorem sgn_neg {w : List Nat} (h : w.take 1 = [45]) (k : Nat) : sgn w k = -(k : Int) := by simp [sgn, neg, h]
theorem sgn_pos {w : List Nat} (h : ¬ w.take 1 = [45]) (k : Nat) : sgn w k = (k : Int) := by simp [sgn, neg, h]
end Gr
end
section
set_option Elab.async false
set_option linter.all false
set_option maxRecDepth 100000
set_option maxHeartbeats 4000000
set_option autoImplicit false
set_option exponentiation.threshold 10000
/-! Gr5: where the program parts a number's text. -/
namespace Gr
open PySem Ev
def rf (w : List Nat) (s : Nat) : Int := Txt.rfind ⟨w.toArray⟩ ⟨[s].toArray⟩
theorem pre_at (w : List Nat) (s i : Nat) : TL.pre [s] (w.drop i) = true ↔ w[i]? = some s := by
  rcases Nat.lt_or_ge i w.length with h | h
  · rw [List.drop_eq_getElem_cons h, pre1, decide_eq_true_iff, List.getElem?_eq_getElem h, Option.some_inj]
  · rw [List.drop_eq_nil_of_le h, List.getElem?_eq_none h]
    simp [TL.pre]
theorem rf_spec (w : List Nat) (s : Nat) : (rf w s = -1 ∧ ∀ i : Nat, w[i]? ≠ some s) ∨ ∃ i : Nat, rf w s = i ∧ w[i]? = some s ∧ ∀ k, i < k → w[k]? ≠ some s := by
  have at_i : ∀ i, StrLaws.At (⟨w.toArray⟩ : Str) ⟨[s].toArray⟩ (⟨w.toArray⟩ : Str).length i ↔ w[i]? = some s := fun i => by
    rw [TL.at_iff (by simp [TL.tl]) i]
    exact pre_at w s i
  rcases StrLaws.last_spec (⟨w.toArray⟩ : Str) ⟨[s].toArray⟩ with ⟨e, h⟩ | ⟨i, e, h1, h2⟩
  · left
    refine ⟨?_, fun i hi => h i ((at_i i).mpr hi)⟩
    unfold rf Txt.rfind
    rw [e]
  · right
    refine ⟨i, ?_, (at_i i).mp h1, fun k hk hi => h2 k hk ((at_i k).mpr hi)⟩
    unfold rf Txt.rfind
    rw [e]
def splitAt (w : List Nat) : Nat := (maxI (rf w 43) [rf w 45, 0]).toNat
theorem max3 (i j : Int) : maxI i [j, 0] = ((maxI i [j, 0]).toNat : Int) ∧ (maxI i [j, 0] = 0 ∨ maxI i [j, 0] = i ∨ maxI i [j, 0] = j) ∧ i ≤ maxI i [j, 0] ∧ j ≤ maxI i [j, 0] := by
  simp only [maxI]
  split <;> split <;> omega
theorem splitAt_int (w : List Nat) : maxI (rf w 43) [rf w 45, 0] = (splitAt w : Int) := (max3 _ _).1
theorem splitAt_le (w : List Nat) : splitAt w ≤ w.length := by
  have h := max3 (rf w 43) (rf w 45)
  have l : ∀ s, rf w s ≤ w.length := fun s => by
    rcases rf_spec w s with ⟨e, _⟩ | ⟨i, e, h, _⟩
    · omega
    · have := (List.getElem?_eq_some_iff.mp h).1
      omega
  have := l 43
  have := l 45
  unfold splitAt
  omega
theorem splitAt_of {w : List Nat} {m : Nat} (h0 : m = 0 ∨ isSg (w.getD m 0) = true) (h : ∀ k, m < k → isSg (w.getD k 0) = false) : splitAt w = m := by
  have hx := max3 (rf w 43) (rf w 45)
  have e := splitAt_int w
  have le : ∀ s, s = 43 ∨ s = 45 → rf w s ≤ m := fun s hs => by
    rcases rf_spec w s with ⟨e, _⟩ | ⟨i, e, h1, _⟩
    · omega
    · rcases Nat.lt_or_ge m i with q | q
      · have := h i q
        rw [List.getD_eq_getElem?_getD, h1] at this
        rcases hs with rfl | rfl <;> simp [isSg] at this
      · omega
  have l1 := le 43 (Or.inl rfl)
  have l2 := le 45 (Or.inr rfl)
  have ge : 0 < m → rf w 43 = m ∨ rf w 45 = m := fun hm => by
    have hs : isSg (w.getD m 0) = true := by rcases h0 with h0 | h0; omega; exact h0
    have hl : m < w.length := by
      rcases Nat.lt_or_ge m w.length with q | q
      · exact q
      · rw [List.getD_eq_getElem?_getD, List.getElem?_eq_none q] at hs
        simp [isSg] at hs
    have hg : w[m]? = some (w.getD m 0) := by rw [List.getD_eq_getElem?_getD, List.getElem?_eq_getElem hl]; rfl
    have key : ∀ s, w.getD m 0 = s → (s = 43 ∨ s = 45) → rf w s = m := fun s e hs => by
      rcases rf_spec w s with ⟨_, h1⟩ | ⟨i, e1, h1, h2⟩
      · exact absurd (hg.trans (congrArg some e)) (h1 m)
      · have := le s hs
        rcases Nat.lt_or_ge i m with q | q
        · exact absurd (hg.trans (congrArg some e)) (h2 m q)
        · omega
    rcases isSg_iff.mp hs with q | q
    · exact Or.inl (key 43 q (Or.inl rfl))
    · exact Or.inr (key 45 q (Or.inr rfl))
  rcases Nat.eq_zero_or_pos m with q | q
  · omega
  · rcases ge q with r | r <;> omega
def aheadL (w : List Nat) : List (Int × Int) := if 0 < splitAt w then (rdP (w.take (splitAt w))).toList else [(0, 1)]
def restL (w : List Nat) : List Nat := (w.take (w.length - 1)).drop (splitAt w)
def behindT (w : List Nat) : List Nat := if (restL w).take 1 = [43] ∧ 0 < splitAt w then (restL w).drop 1 else restL w
def behindL (w : List Nat) : List (Int × Int) := (rdP (behindT w)).toList
def cand (w : List Nat) : List N4 := (aheadL w).flatMap fun p => (behindL w).map fun q => ⟨p.1, p.2, q.1, q.2⟩
theorem rdP_good {w : List Nat} {p : Int × Int} (h : p ∈ (rdP w).toList) : good p.1 p.2 := by
  have : rdP w = some (p.1, p.2) := by simpa using h
  exact (rdP_some.mp this).2
theorem cand_good {w : List Nat} {z : N4} (h : z ∈ cand w) : z.good := by
  obtain ⟨p, hp, hz⟩ := List.mem_flatMap.mp h
  obtain ⟨q, hq, rfl⟩ := List.mem_map.mp hz
  refine ⟨?_, rdP_good hq⟩
  unfold aheadL at hp
  split at hp
  · exact rdP_good hp
  · rw [List.mem_singleton.mp hp]; exact good01
theorem cand_of {z : N4} (hz : z.good) (hl : z.L.getLast? = some 105) : cand z.L = [z] := by
  obtain ⟨a, b, c, d⟩ := z
  obtain ⟨g1, g2⟩ := hz
  have g1 : good a b := g1
  have g2 : good c d := g2
  have hl : (nuL a b c d).getLast? = some 105 := hl
  show cand (nuL a b c d) = _
  by_cases hc : c = 0
  · exfalso
    have : nuL a b c d = frL a b := by unfold nuL; rw [if_pos hc]
    rw [this] at hl
    exact fr_ends g1.1.1 hl
  · by_cases ha : a = 0
    · have e := nu_one (b := b) (d := d) hc ha
      have hb : b = 1 := ((nought g1.1).mpr ha).2
      have z : splitAt (nuL a b c d) = 0 := splitAt_of (Or.inl rfl) (by rw [e]; exact fun k h => one_free g2.1.1 k h)
      have r : restL (nuL a b c d) = frL c d := by unfold restL; rw [z, e]; simp
      unfold cand aheadL behindL behindT
      rw [z, if_neg (by omega), if_neg (by omega), r, rdP_some.mpr ⟨rfl, g2⟩]
      simp [ha, hb]
    · obtain ⟨m0, m1, m2, m3⟩ := two_shape g1.1.1 g2.1.1 hc ha
      have e := nu_cut g1.1.1 g2.1.1 hc ha
      have z : splitAt (nuL a b c d) = (frL a b).length := splitAt_of (Or.inr (by rw [m2]; split <;> rfl)) (fun k h => m3 k (by omega) (by omega))
      have t : (nuL a b c d).take (frL a b).length = frL a b := by rw [e]; simp
      have r : restL (nuL a b c d) = (if 0 < c then 43 else 45) :: fbL c.natAbs d.natAbs := by
        have h : ∀ u : List Nat, (u ++ [105]).take ((u ++ [105]).length - 1) = u := fun u => by simp
        unfold restL
        rw [z, e, ← List.cons_append, ← List.append_assoc, h]
        simp
      have bt : behindT (nuL a b c d) = frL c d := by
        unfold behindT
        rw [r, z, frL_eq g2.1.1]
        by_cases h : 0 < c
        · rw [if_pos h, if_pos ⟨by simp, m0⟩, if_neg (by omega)]; rfl
        · rw [if_neg h, if_neg (by simp), if_pos (by omega)]
      unfold cand aheadL behindL
      rw [z, if_pos m0, t, bt, rdP_some.mpr ⟨rfl, g1⟩, rdP_some.mpr ⟨rfl, g2⟩]
      simp
theorem cand_eq {w : List Nat} (hl : w.getLast? = some 105) : (cand w).filter (fun z => decide (z.L = w)) = (rdN w).toList := by
  cases h : rdN w with
  | none =>
    rw [Option.toList_none, List.filter_eq_nil_iff]
    intro z hz e
    have : rdN w = some z := rdN_some.mpr ⟨(by simpa using e : z.L = w).symm, cand_good hz⟩
    rw [h] at this
    cases this
  | some z =>
    obtain ⟨e, g⟩ := rdN_some.mp h
    subst e
    rw [cand_of g hl]
    simp
theorem rdN_frac {w : List Nat} (hl : w.getLast? ≠ some 105) : rdN w = (rdP w).map fun p => ⟨p.1, p.2, 0, 1⟩ := by
  unfold rdN
  rw [if_pos hl]
theorem cand_len (w : List Nat) : (cand w).length ≤ 1 := by
  have h1 : ∀ o : Option (Int × Int), o.toList.length ≤ 1 := fun o => by cases o <;> simp
  have h2 : (behindL w).length ≤ 1 := h1 _
  have h3 : (aheadL w).length ≤ 1 := by unfold aheadL; split; exact h1 _; simp
  unfold cand
  match h : aheadL w, h3 with
  | [], _ => simp
  | [p], _ => simpa using h2
theorem N4.D_inj {y z : N4} (h : y.D = z.D) : y = z := by
  obtain ⟨a, b, c, d⟩ := y
  obtain ⟨a', b', c', d'⟩ := z
  simpa [N4.D, and_assoc] using h
end Gr
end
section
set_option Elab.async false
set_option linter.all false
set_option maxRecDepth 100000
set_option maxHeartbeats 4000000
set_option autoImplicit false
set_option exponentiation.threshold 10000
/-! Gr6: repr of data; signs of texts. -/
namespace Gr
open PySem Ev
mutual
def nodes : PyData → Nat
  | .list xs => nodesL xs + 1
  | .tuple xs => nodesL xs + 1
  | _ => 1
def nodesL : List PyData → Nat
  | [] => 0
  | x :: r => nodes x + nodesL r
end
mutual
/-- no texts, no dicts, whole numbers of the machine's size -/
def plain : PyData → Bool
  | .none => true
  | .bool _ => true
  | .int i => decide (i.natAbs.log2 < 1920)
  | .list xs => plainL xs
  | .tuple xs => plainL xs
  | _ => false
def plainL : List PyData → Bool
  | [] => true
  | x :: r => plain x && plainL r
end
theorem textFrom_le : ∀ (ts : List Str) (k : Nat) (acc : Str), (textFrom k acc ts).length ≤ acc.length + piled ts
  | [], k, acc => by simp [textFrom]
  | t :: r, k, acc => by
    have := textFrom_le r (k + 1) (acc ++ (if k > 0 then ", " else "" : String) ++ t)
    have e : (acc ++ (if k > 0 then ", " else "" : String) ++ t).length ≤ acc.length + 2 + t.length := by
      rw [strLen_append, strLen_append]
      have : (((if k > 0 then ", " else "" : String) : Str)).length ≤ 2 := by split <;> decide
      omega
    rw [piled_cons]
    show (textFrom (k + 1) _ r).length ≤ _
    omega
theorem listText_le (ts : List Str) : (listText ts).length ≤ 2 + piled ts := by
  have := textFrom_le ts 0 "["
  have e1 : ((("[" : String) : Str)).length = 1 := rfl
  have e2 : ((("]" : String) : Str)).length = 1 := rfl
  unfold listText
  rw [strLen_append]
  omega
theorem tupleText_le (ts : List Str) : (tupleText ts).length ≤ 4 + piled ts := by
  unfold tupleText
  rw [strLen_append, strLen_append]
  have e1 : ((("(" : String) : Str)).length = 1 := rfl
  have e3 : (((if ts.length == 1 then ",)" else ")" : String) : Str)).length ≤ 2 := by split <;> decide
  rw [e1]
  by_cases h : ts = []
  · subst h
    have : (Str.join ", " ([] : List Str)).length = 0 := rfl
    omega
  · have := join_length_add ts h
    omega
theorem int_len {i : Int} (h : i.natAbs.log2 < 1920) : (PyData.shown (.int i)).length ≤ 700 := by
  have hl : i.natAbs < 10 ^ 600 := by
    have := Nat.lt_log2_self (n := i.natAbs)
    have h2 : i.natAbs < 2 ^ 1920 := by
      by_cases z : i.natAbs = 0
      · rw [z]; decide
      · exact (Nat.log2_lt z).mp h
    exact Nat.lt_trans h2 (by decide)
  have e := str_int i
  have : (PyData.shown (.int i)).length = (intL i).length := by
    rw [← e]
    show (Str.ofString (toString i)).cps.size = _
    simp
  rw [this]
  have := TL.numL_len (by decide) hl
  unfold intL
  split
  · show (TL.numL _).length + 1 ≤ 700
    omega
  · show (TL.numL _).length ≤ 700
    omega
mutual
theorem shown_le : ∀ d : PyData, plain d = true → d.showable = true ∧ d.shown.length + 10 ≤ 720 * nodes d
  | .none, _ => ⟨rfl, by decide⟩
  | .bool b, _ => ⟨rfl, by cases b <;> decide⟩
  | .int i, h => by
    have h : decide (i.natAbs.log2 < 1920) = true := h
    refine ⟨h, ?_⟩
    have := int_len (by simpa using h)
    show _ ≤ 720 * 1
    omega
  | .list xs, h => by
    obtain ⟨a, b⟩ := shownL_le xs h
    refine ⟨a, ?_⟩
    have := listText_le (PyData.shownAll xs)
    show (listText (PyData.shownAll xs)).length + 10 ≤ 720 * (nodesL xs + 1)
    omega
  | .tuple xs, h => by
    obtain ⟨a, b⟩ := shownL_le xs h
    refine ⟨a, ?_⟩
    have := tupleText_le (PyData.shownAll xs)
    show (tupleText (PyData.shownAll xs)).length + 10 ≤ 720 * (nodesL xs + 1)
    omega
  | .str _, h => by cases h
  | .dict _, h => by cases h
theorem shownL_le : ∀ xs : List PyData, plainL xs = true → PyData.showableAll xs = true ∧ piled (PyData.shownAll xs) ≤ 720 * nodesL xs
  | [], _ => ⟨rfl, by decide⟩
  | x :: r, h => by
    obtain ⟨h1, h2⟩ := Bool.and_eq_true_iff.mp (show (plain x && plainL r) = true from h)
    obtain ⟨a1, b1⟩ := shown_le x h1
    obtain ⟨a2, b2⟩ := shownL_le r h2
    refine ⟨?_, ?_⟩
    · show (PyData.showable x && PyData.showableAll r) = true
      rw [a1, a2]; rfl
    · show piled (PyData.shown x :: PyData.shownAll r) ≤ 720 * (nodes x + nodesL r)
      rw [piled_cons]
      omega
end
/-- a word and data without texts -/
theorem word_shown {c : List Nat} {d : PyData} (h : plain d = true) (hn : nodes d ≤ 20000) (hc : (reprText ⟨c.toArray⟩).length ≤ 1000) : (PyData.tuple [.str ⟨c.toArray⟩, d]).showable = true ∧ (PyData.tuple [.str ⟨c.toArray⟩, d]).shown.length ≤ 16777216 := by
  obtain ⟨a, b⟩ := shown_le d h
  refine ⟨?_, ?_⟩
  · show (true && (d.showable && true)) = true
    rw [a]; rfl
  · have := tupleText_le [reprText ⟨c.toArray⟩, d.shown]
    rw [piled_cons, piled_cons, piled_nil] at this
    show (tupleText [reprText ⟨c.toArray⟩, d.shown]).length ≤ _
    omega
theorem repr_of {S : Sto} {a : Ev.D} {p : PyData} (h : toP S 20 a = some p) (h1 : p.showable = true) (h2 : p.shown.length ≤ 16777216) : reprD S a = some p.shown.cps.toList := by
  unfold reprD
  rw [h, Option.bind_some, if_pos ⟨h1, h2⟩]
/-! signs -/
def asc (l : List Nat) : Prop := ∀ c ∈ l, c < 128
theorem asc_app {a b : List Nat} (h : asc a) (g : asc b) : asc (a ++ b) := fun c hc => (List.mem_append.mp hc).elim (h c) (g c)
theorem asc_cons {a : Nat} {b : List Nat} (h : a < 128) (g : asc b) : asc (a :: b) := fun c hc => (List.mem_cons.mp hc).elim (fun e => e ▸ h) (g c)
theorem asc_num (n : Nat) : asc (numL n) := fun c hc => by have := TL.numL_digits n c hc; omega
theorem asc_int (i : Int) : asc (intL i) := by
  unfold intL
  split
  · exact asc_cons (by decide) (asc_num _)
  · exact asc_num _
theorem asc_fr (a b : Int) : asc (frL a b) := by
  unfold frL
  split
  · exact asc_int _
  · exact asc_app (asc_int _) (asc_cons (by decide) (asc_int _))
theorem asc_L (z : N4) : asc z.L := by
  unfold N4.L nuL
  split
  · exact asc_fr _ _
  · refine asc_app ?_ (asc_app (asc_fr _ _) (asc_cons (by decide) (fun c h => by cases h)))
    split
    · refine asc_app (asc_fr _ _) ?_
      split
      · exact asc_cons (by decide) (fun c h => by cases h)
      · exact fun c h => by cases h
    · exact fun c h => by cases h
theorem asc_take {l : List Nat} (h : asc l) (k : Nat) : asc (l.take k) := fun c hc => h c (List.mem_of_mem_take hc)
theorem asc_pl {l : List Nat} (h : asc l) : pl (.str l) = true := by
  show l.all (· < 0x110000) = true
  rw [List.all_eq_true]
  intro c hc
  have := h c hc
  simp
  omega
theorem strs_pl {ws : List (List Nat)} (h : ∀ w ∈ ws, asc w) : plL (ws.map .str) = true ∧ dptL (ws.map Ev.D.str) = 0 := by
  induction ws with
  | nil => exact ⟨rfl, rfl⟩
  | cons w r ih =>
    obtain ⟨a, b⟩ := ih fun w hw => h w (List.mem_cons_of_mem _ hw)
    have := asc_pl (h w (by simp))
    rw [List.map_cons]
    refine ⟨?_, ?_⟩
    · show (pl (.str w) && plL (r.map .str)) = true
      rw [this, a]; rfl
    · show max 0 (dptL (r.map .str)) = 0
      rw [b]; rfl
end Gr
end
section
set_option Elab.async false
set_option linter.all false
set_option maxRecDepth 100000
set_option maxHeartbeats 4000000
set_option autoImplicit false
set_option exponentiation.threshold 10000
/-! W0: whole numbers, fractions, draws, the law's gcd. -/
namespace Pl
open Ev
abbrev Ex : List Cls := Tx.T.ecs.map Prod.snd
noncomputable abbrev fn (n i : Nat) (ds : List D) (S : Sto) : R D := fnN Tx.F Ex Tx.cs n i ds S
noncomputable abbrev GG (n : Nat) : Gm := ⟨fnN Tx.F Ex Tx.cs n, Tx.cs, lfF Tx.F Ex Tx.cs (fnN Tx.F Ex Tx.cs n), noAct, 0⟩
theorem fn_s {n i : Nat} {ds : List D} {S : Sto} {fd : Fd} (h : Tx.F[i]? = some fd) : fn (n + 1) i ds S = runF (GG n) Ex fd ds S := by
  show (match Tx.F[i]? with
    | some fd => runF (GG n) Ex fd ds S
    | none => .stuck) = _
  rw [h]
@[simp] theorem g_MP : Tx.cs[3]? = some (.int 6) := rfl
@[simp] theorem g_MA : Tx.cs[4]? = some (.int 3) := rfl
@[simp] theorem g_MV : Tx.cs[5]? = some (.int 6) := rfl
theorem is_whole_int (n : Nat) (i : Int) (S : Sto) : fn (n + 1) 1 [.int i] S = .ok (.bl true) S := by
  rw [fn_s (fd := Tx.t1.fd) rfl]
  simp [runF, Tx.t1, Tx.b1, execs, exec, ev, evs, bi, isTy, O.toR, O.seq, R.then, R.of]
theorem gcdD (S : Sto) (i j : Int) : bi .gcd [.int i, .int j] S = .ok (.int (Nat.gcd i.natAbs j.natAbs : Nat)) S := rfl
theorem is_frac_int (n : Nat) (i j : Int) (S : Sto) : fn (n + 2) 2 [.tup [.int i, .int j]] S = .ok (.bl (decide (0 < j) && decide (Nat.gcd i.natAbs j.natAbs = 1))) S := by
  rw [fn_s (fd := Tx.t2.fd) rfl]
  have w := is_whole_int n
  simp only [fn] at w
  simp [runF, Tx.t2, Tx.b2, execs, exec, ev, evs, bi, isTy, O.toR, O.seq, R.then, R.of, w]
  by_cases h : 0 < j
  · simp [h, R.of]
    norm_cast
  · simp [h]
abbrev fr (a b : Int) : D := .tup [.int a, .int b]
abbrev nu (a b c d : Int) : D := .tup [fr a b, fr c d]
def isFr (a b : Int) : Prop := 0 < b ∧ Nat.gcd a.natAbs b.natAbs = 1
instance (a b : Int) : Decidable (isFr a b) := by unfold isFr; infer_instance
theorem is_frac_fr {n : Nat} {i j : Int} {S : Sto} (h : isFr i j) : fn (n + 2) 2 [fr i j] S = .ok (.bl true) S := by
  rw [is_frac_int, decide_eq_true h.1, decide_eq_true h.2]
  rfl
theorem is_num_nu {n : Nat} {a b c d : Int} {S : Sto} (h : isFr a b) (g : isFr c d) : fn (n + 3) 3 [nu a b c d] S = .ok (.bl true) S := by
  rw [fn_s (fd := Tx.t3.fd) rfl]
  have w1 : ∀ S, fnN Tx.F Ex Tx.cs (n + 2) 2 [fr a b] S = .ok (.bl true) S := fun S => is_frac_fr h
  have w2 : ∀ S, fnN Tx.F Ex Tx.cs (n + 2) 2 [fr c d] S = .ok (.bl true) S := fun S => is_frac_fr g
  simp [runF, Tx.t3, Tx.b3, execs, exec, ev, evs, bi, isTy, O.toR, O.seq, R.then, R.of, w1, w2]
def sm (i : Int) : Prop := i.natAbs < 2 ^ 8000
theorem log_sm {i : Int} {k : Nat} (h : i.natAbs < 2 ^ k) (hk : 0 < k) : i.natAbs.log2 < k := by
  by_cases z : i.natAbs = 0
  · rw [z]; simpa using hk
  · exact (Nat.log2_lt z).mpr h
theorem frac_red {n : Nat} {p q : Int} {S : Sto} (hq : 0 < q) (hs : q.natAbs < 2 ^ 8000) : fn (n + 1) 4 [.int p, .int q] S = .ok (fr (p / (Nat.gcd p.natAbs q.natAbs : Nat)) (q / (Nat.gcd p.natAbs q.natAbs : Nat))) S := by
  rw [fn_s (fd := Tx.t4.fd) rfl]
  have hg : 0 < Nat.gcd p.natAbs q.natAbs := Nat.gcd_pos_of_pos_right _ (by omega)
  have hle : Nat.gcd p.natAbs q.natAbs ≤ q.natAbs := Nat.gcd_le_right _ (by omega)
  have hl : (((Nat.gcd p.natAbs q.natAbs : Nat) : Int)).natAbs.log2 < 9000 := Nat.lt_trans (log_sm (k := 8000) (by simpa using Nat.lt_of_le_of_lt hle hs) (by decide)) (by decide)
  have hne : ((Nat.gcd p.natAbs q.natAbs : Nat) : Int) ≠ 0 := by omega
  have f1 : ∀ (x : Int) S, binop .fdiv (.int x) (.int ((Nat.gcd p.natAbs q.natAbs : Nat) : Int)) S = .ok (.int (x / ((Nat.gcd p.natAbs q.natAbs : Nat) : Int))) S := fun x S => by
    rw [bop_fdiv S hne, Int.fdiv_eq_ediv_of_nonneg _ (by omega)]
  have f2 : ∀ S, bi .gcd [.int p, .int q] S = .ok (.int (Nat.gcd p.natAbs q.natAbs : Nat)) S := fun S => rfl
  simp [runF, Tx.t4, Tx.b4, execs, exec, ev, evs, O.toR, O.seq, R.then, R.of, asgT, hq, f1, f2]
abbrev bt (k : Nat) (i : Int) : Prop := i.natAbs < 2 ^ k
theorem bt_mul {i j : Int} {k m : Nat} (hi : bt k i) (hj : bt m j) : bt (k + m) (i * j) := by
  unfold bt
  rw [Int.natAbs_mul, Nat.pow_add]
  exact Nat.mul_lt_mul'' hi hj
theorem bt_add {i j : Int} {k : Nat} (hi : bt k i) (hj : bt k j) : bt (k + 1) (i + j) := by
  unfold bt at *
  have := Int.natAbs_add_le i j
  rw [Nat.pow_succ]
  omega
theorem bt_mono {i : Int} {k m : Nat} (h : bt k i) (hk : k ≤ m) : bt m i := Nat.lt_of_lt_of_le h (Nat.pow_le_pow_right (by decide) hk)
theorem mul_ok {i j : Int} {k m : Nat} {S : Sto} (hi : bt k i) (hj : bt m j) (h : k + m ≤ 100000) (h0 : 0 < k) (h1 : 0 < m) : binop .mul (.int i) (.int j) S = .ok (.int (i * j)) S :=
  bop_mul S (by have := log_sm hi h0; have := log_sm hj h1; omega)
theorem num_size_eq {n : Nat} {a b c d : Int} {S : Sto} (hb : 0 < b) (hd : 0 < d) (b1 : bt 1400 a) (b2 : bt 1400 b) (b3 : bt 1400 c) (b4 : bt 1400 d) :
    fn (n + 2) 16 [nu a b c d] S = .ok (fr ((a * a * d * d + c * c * b * b) / (Nat.gcd (a * a * d * d + c * c * b * b).natAbs (b * b * d * d).natAbs : Nat)) (b * b * d * d / (Nat.gcd (a * a * d * d + c * c * b * b).natAbs (b * b * d * d).natAbs : Nat))) S := by
  rw [fn_s (fd := Tx.t16.fd) rfl]
  have q : ∀ {x y : Int} S, bt 1400 x → bt 1400 y → binop .mul (.int x) (.int y) S = .ok (.int (x * y)) S := fun S h1 h2 => mul_ok h1 h2 (by decide) (by decide) (by decide)
  have q2 : ∀ {x y z : Int} S, bt 1400 x → bt 1400 y → bt 1400 z → binop .mul (.int (x * y)) (.int z) S = .ok (.int (x * y * z)) S := fun S h1 h2 h3 => mul_ok (bt_mul h1 h2) h3 (by decide) (by decide) (by decide)
  have q3 : ∀ {x y z w : Int} S, bt 1400 x → bt 1400 y → bt 1400 z → bt 1400 w → binop .mul (.int (x * y * z)) (.int w) S = .ok (.int (x * y * z * w)) S := fun S h1 h2 h3 h4 => mul_ok (bt_mul (bt_mul h1 h2) h3) h4 (by decide) (by decide) (by decide)
  have pos : 0 < b * b * d * d := Int.mul_pos (Int.mul_pos (Int.mul_pos hb hb) hd) hd
  have bnd : bt 8000 (b * b * d * d) := bt_mono (bt_mul (bt_mul (bt_mul b2 b2) b4) b4) (by decide)
  have fin : ∀ S, fnN Tx.F Ex Tx.cs (n + 1) 4 [.int (a * a * d * d + c * c * b * b), .int (b * b * d * d)] S = _ := fun S => frac_red (n := n) (p := a * a * d * d + c * c * b * b) (S := S) pos bnd
  simp [runF, Tx.t16, Tx.b16, execs, exec, ev, evs, O.toR, O.seq, R.then, R.of, asgT, asgTs, q, q2, q3, b1, b2, b3, b4, fin]
theorem div_lt {x y : Int} {g : Nat} (hg : 0 < g) (h1 : (g : Int) ∣ x) (h2 : (g : Int) ∣ y) : x / (g : Int) < y / (g : Int) ↔ x < y := by
  obtain ⟨u, rfl⟩ := h1
  obtain ⟨v, rfl⟩ := h2
  have hz : (g : Int) ≠ 0 := by omega
  rw [Int.mul_ediv_cancel_left _ hz, Int.mul_ediv_cancel_left _ hz]
  exact ⟨fun h => Int.mul_lt_mul_of_pos_left h (by omega), fun h => Int.lt_of_mul_lt_mul_left h (by omega)⟩
abbrev within (a b c d : Int) : Prop := a * a * d * d + c * c * b * b < b * b * d * d
theorem within_eq {n : Nat} {a b c d : Int} {S : Sto} (hb : 0 < b) (hd : 0 < d) (b1 : bt 1400 a) (b2 : bt 1400 b) (b3 : bt 1400 c) (b4 : bt 1400 d) :
    fn (n + 3) 18 [nu a b c d] S = .ok (.bl (decide (within a b c d))) S := by
  rw [fn_s (fd := Tx.t18.fd) rfl]
  have w : ∀ S, fnN Tx.F Ex Tx.cs (n + 2) 16 [nu a b c d] S = _ := fun S => num_size_eq (n := n) (S := S) hb hd b1 b2 b3 b4
  have pos : 0 < b * b * d * d := Int.mul_pos (Int.mul_pos (Int.mul_pos hb hb) hd) hd
  have hg : 0 < Nat.gcd (a * a * d * d + c * c * b * b).natAbs (b * b * d * d).natAbs := Nat.gcd_pos_of_pos_right _ (by omega)
  have e := div_lt hg (Int.ofNat_dvd_left.mpr (Nat.gcd_dvd_left (a * a * d * d + c * c * b * b).natAbs (b * b * d * d).natAbs)) (Int.ofNat_dvd_left.mpr (Nat.gcd_dvd_right (a * a * d * d + c * c * b * b).natAbs (b * b * d * d).natAbs))
  simp [runF, Tx.t18, Tx.b18, execs, exec, ev, evs, O.toR, O.seq, R.then, R.of, asgT, w, e]
def WellAt (S : Sto) (k m : Nat) : Prop := ∃ a b c : Int, S[k]? = some (.lst [.int a, .int b, .int c]) ∧ 0 ≤ a ∧ 0 ≤ b ∧ b < 2147483629 ∧ 0 ≤ c ∧ c ≤ m
theorem draw {n k m : Nat} {many : Int} {S : Sto} (w : WellAt S k m) (hm : m < 1000000) (h0 : 0 < many) (h1 : many < 1073741824) :
    ∃ (d : Int) (o : Ob), fn (n + 1) 48 [.ref k, .int many] S = .ok (.int d) (S.set k o) ∧ 0 ≤ d ∧ d < many ∧ WellAt (S.set k o) k (m + 1) := by
  obtain ⟨a, b, c, e, a0, b0, b1, c0, c1⟩ := w
  have hk : k < S.length := (List.getElem?_eq_some_iff.mp e).1
  rw [fn_s (fd := Tx.t48.fd) rfl]
  by_cases ha : 0 < a
  · refine ⟨a % many, .lst [.int (a / many), .int b, .int c], ?_, Int.emod_nonneg _ (by omega), Int.emod_lt_of_pos _ h0, a / many, b, c, by simp [hk], Int.ediv_nonneg a0 (by omega), b0, b1, c0, by omega⟩
    simp [runF, Tx.t48, Tx.b48, execs, exec, ev, evs, O.toR, O.seq, R.then, R.of, asgT, asgTs, ixD, seqOf, e, ha, bi, h0, h1, setSub, ixN]
  · have u : ∀ o : Ob, (S.set k o)[k]? = some o := fun o => by simp [hk]
    have at2 : ∀ x y z : D, L2.atI [x, y, z] 2 = some z := fun _ _ _ => rfl
    have m1 : ∀ S, binop .mul (.int b) (.int 48271) S = .ok (.int (b * 48271)) S := fun S => mul_ok (k := 40) (m := 40) (by unfold bt; omega) (by unfold bt; omega) (by decide) (by decide) (by decide)
    have m2 : ∀ S, binop .mul (.int 70003) (.int (c + 1)) S = .ok (.int (70003 * (c + 1))) S := fun S => mul_ok (k := 40) (m := 40) (by unfold bt; omega) (by unfold bt; omega) (by decide) (by decide) (by decide)
    have m3 : ∀ (x : Int) S, binop .mod (.int x) (.int 2147483629) S = .ok (.int (x % 2147483629)) S := fun x S => by rw [bop_mod S (by decide), Int.fmod_eq_emod_of_nonneg _ (by decide)]
    have m4 : ∀ (x : Int) S, binop .fdiv (.int x) (.int 211) S = .ok (.int (x / 211)) S := fun x S => by rw [bop_fdiv S (by decide), Int.fdiv_eq_ediv_of_nonneg _ (by decide)]
    have m5 : ∀ (x : Int) S, binop .mod (.int x) (.int many) S = .ok (.int (x % many)) S := fun x S => by rw [bop_mod S (by omega), Int.fmod_eq_emod_of_nonneg _ (by omega)]
    refine ⟨((b * 48271 + 70003 * (c + 1) + 11) % 2147483629 / 211) % many, .lst [.int a, .int ((b * 48271 + 70003 * (c + 1) + 11) % 2147483629), .int (c + 1)], ?_, Int.emod_nonneg _ (by omega), Int.emod_lt_of_pos _ h0, a, _, c + 1, by simp [hk]; exact rfl, a0, Int.emod_nonneg _ (by decide), Int.emod_lt_of_pos _ (by decide), by omega, by omega⟩
    simp [runF, Tx.t48, Tx.b48, execs, exec, ev, evs, O.toR, O.seq, R.then, R.of, asgT, asgTs, ixD, seqOf, e, ha, bi, h0, h1, setSub, ixN, u, m1, m2, m3, m4, m5, at2]
theorem gcd_loop {c : En → Sto → R Bool} {b : En → Sto → O} {S : Sto} (hc : ∀ x y : Nat, c [some (.int x), some (.int y)] S = .ok (decide (0 < y)) S) (hb : ∀ x y : Nat, 0 < y → b [some (.int x), some (.int y)] S = .nx [some (.int y), some (.int (x % y : Nat))] S) :
    ∀ y x : Nat, whlL c b [some (.int x), some (.int y)] S = .nx [some (.int (Nat.gcd x y)), some (.int (0 : Nat))] S := by
  intro y
  induction y using Nat.strongRecOn with
  | ind y ih =>
    intro x
    rw [whlL_eq, hc, R.then_ok]
    by_cases h : y = 0
    · subst h
      simp
    · rw [if_pos (by simp; omega), hb x y (by omega), O.turn_nx, ih (x % y) (Nat.mod_lt _ (by omega)) y, Nat.gcd_comm x y, Nat.gcd_rec y x, Nat.gcd_comm]
theorem near {n : Nat} {x y : Nat} {S : Sto} : fn (n + 1) 50 [.int x, .int y] S = .ok (.int (Nat.gcd x y)) S := by
  rw [fn_s (fd := Tx.t50.fd) rfl]
  have l := gcd_loop (S := S) (c := fun en S => (ev (GG n) (.cmp .gt (.var 1) (.cst (.int 0))) en S).bind fun x S => match x with
      | .bl k => .ok k S
      | _ => .stuck) (b := fun en S => execs (GG n) Ex (.cons (.par [0, 1] (.cons (.var 1) (.cons (.bin .mod (.bi .int (.cons (.var 0) .nil)) (.var 1)) .nil))) .nil) en S) (fun x y => by simp [ev, R.of]) (fun x y h => by
        have m : binop .mod (.int x) (.int y) S = .ok (.int ((x % y : Nat) : Int)) S := by
          rw [bop_mod S (by omega), Int.fmod_eq_emod_of_nonneg _ (by omega)]
          rfl
        simp [execs, exec, evs, ev, R.of, bi, m, R.then, parSet, O.seq]) y x
  have e : (exec (GG n) Ex (.whl (.cmp .gt (.var 1) (.cst (.int 0))) (.cons (.par [0, 1] (.cons (.var 1) (.cons (.bin .mod (.bi .int (.cons (.var 0) .nil)) (.var 1)) .nil))) .nil)) [some (.int x), some (.int y)] S) = _ := l
  have f : runF (GG n) Ex Tx.t50.fd [.int x, .int y] S = (execs (GG n) Ex Tx.b50 [some (.int x), some (.int y)] S).toR := rfl
  rw [f]
  unfold Tx.b50
  simp only [execs]
  rw [e]
  simp [exec, ev, R.of, R.then, O.toR, O.seq]
theorem part {n : Nat} {p : Int} {q : Nat} {S : Sto} (hq : 0 < q) (hs : q < 2 ^ 8000) : fn (n + 2) 52 [.int p, .int q] S = .ok (fr (p / (Nat.gcd p.natAbs q : Nat)) ((q : Int) / (Nat.gcd p.natAbs q : Nat))) S := by
  rw [fn_s (fd := Tx.t52.fd) rfl]
  have hg : 0 < Nat.gcd p.natAbs q := Nat.gcd_pos_of_pos_right _ hq
  have hle : Nat.gcd p.natAbs q ≤ q := Nat.gcd_le_right _ hq
  have hl : (((Nat.gcd p.natAbs q : Nat) : Int)).natAbs.log2 < 9000 := Nat.lt_trans (log_sm (k := 8000) (by simpa using Nat.lt_of_le_of_lt hle hs) (by decide)) (by decide)
  have f1 : ∀ (x : Int) S, binop .fdiv (.int x) (.int ((Nat.gcd p.natAbs q : Nat) : Int)) S = .ok (.int (x / ((Nat.gcd p.natAbs q : Nat) : Int))) S := fun x S => by
    rw [bop_fdiv S (by omega), Int.fdiv_eq_ediv_of_nonneg _ (by omega)]
  have ab : ∀ S, bi .abs [.int p] S = .ok (.int (p.natAbs : Nat)) S := fun S => by
    show R.ok (D.int (if p < 0 then -p else p)) S = _
    congr 2
    split <;> omega
  have w : ∀ S, fnN Tx.F Ex Tx.cs (n + 1) 50 [.int (p.natAbs : Nat), .int q] S = .ok (.int (Nat.gcd p.natAbs q : Nat)) S := fun S => near
  simp [runF, Tx.t52, Tx.b52, execs, exec, ev, evs, O.toR, O.seq, R.then, R.of, asgT, ab, w, f1]
end Pl
end
section
set_option Elab.async false
set_option linter.all false
set_option maxRecDepth 100000
set_option maxHeartbeats 4000000
set_option autoImplicit false
set_option exponentiation.threshold 10000
/-! W1: texts written and read. -/
namespace Pl
open Ev Gr
abbrev figs : List Nat := [48, 49, 50, 51, 52, 53, 54, 55, 56, 57]
theorem figs_dig (c : Nat) : decide (c ∈ figs) = dig c := by
  unfold dig
  congr 1
  simp [figs]
  omega
theorem int_text {w : List Nat} {k : Nat} (h : rdW w = some k) : bi .int [.str w] = fun S => .ok (.int (k : Nat)) S := by
  funext S
  have hh := h
  unfold rdW at h
  split at h
  · rename_i q
    obtain ⟨h0, h1, h2, h3⟩ := q
    show (if w.length ≤ 640 then R.of ((PySem.intText? ⟨w.toArray⟩).map D.int) S else .stuck) = _
    rw [if_pos (by omega)]
    have hd : PySem.NumText.AllDigits w := fun c hc => by
      have := List.all_eq_true.mp h2 c hc
      simpa [dig] using this
    have := PySem.intText_digits (x := ⟨w.toArray⟩) (by simpa using hd) (by simpa using h0) (by show w.toArray.size ≤ 4300; simp; omega)
    rw [this]
    cases h
    simp
  · cases h
end Pl
end
section
set_option Elab.async false
set_option linter.all false
set_option maxRecDepth 100000
set_option maxHeartbeats 4000000
set_option autoImplicit false
set_option exponentiation.threshold 10000
/-! W2: numbers written; whole numbers read by the law. -/
namespace Pl
open Ev Gr
def optI (o : Option Nat) : D := match o with
  | some k => .int (k : Nat)
  | none => .non
theorem law_all (G : Gm) (w : List Nat) (S : Sto) (hw : w.length ≤ 1000000) : ev G (.lc [("each", 1)] (.cmp .isin (.var 1) (.cst (.str [48, 49, 50, 51, 52, 53, 54, 55, 56, 57]))) (.nm 1) (.seq (.var 0)) .none) [some (.str w), none] S = .ok (.ref S.length) (S ++ [.lst (w.map fun c => .bl (dig c))]) := by
  have := ev_lcp (G := G) (en := [some (.str w), none]) (S := S) (own := [("each", 1)]) (elt := .cmp .isin (.var 1) (.cst (.str [48, 49, 50, 51, 52, 53, 54, 55, 56, 57]))) (p := .nm 1) (it := .seq (.var 0)) (s := ⟨w.map fun c => .str [c], []⟩) (S1 := S) (g := fun d => match d with | .str [c] => .bl (dig c) | _ => .non)
    (by simp [srcSeq]) (by simp) (by simp; omega) (by
      intro d hd
      obtain ⟨c, _, rfl⟩ := List.mem_map.mp hd
      refine ⟨[some (.str w), some (.str [c])], rfl, ?_⟩
      have := figs_dig c
      simpa [figs] using this)
  rw [this]
  simp [List.map_map, Function.comp_def]
end Pl
end
section
set_option Elab.async false
set_option linter.all false
set_option maxRecDepth 100000
set_option maxHeartbeats 4000000
set_option autoImplicit false
set_option exponentiation.threshold 10000
/-! W3: fractions read. -/
namespace Pl
open Ev Gr
end Pl
end
section
set_option Elab.async false
set_option linter.all false
set_option maxRecDepth 100000
set_option maxHeartbeats 4000000
set_option autoImplicit false
set_option exponentiation.threshold 10000
/-! W4: fractions read by the law. -/
namespace Pl
open Ev Gr
def optP (o : Option (Int × Int)) : D := match o with
  | some p => frP p
  | none => .non
@[simp] theorem pl_optI (o : Option Nat) : pl (optI o) = true := by cases o <;> rfl
@[simp] theorem dpt_optI (o : Option Nat) : dpt (optI o) = 0 := by cases o <;> rfl
theorem plL_opts (l : List (Option Nat)) : plL (l.map optI) = true ∧ dptL (l.map optI) = 0 := by
  induction l with
  | nil => exact ⟨rfl, rfl⟩
  | cons o r ih => simp [plL, dptL, ih]
theorem none_in {l : List (Option Nat)} {S : Sto} {r : Nat} (h : S[r]? = some (.lst (l.map optI))) : memS S .non (.ref r) = some (decide (none ∈ l)) := by
  show (seqOf S (.ref r)).bind _ = _
  rw [seqOf_ref h, Option.bind_some, inD_pl rfl (plL_opts l).1 (by simp [dpt]) (by rw [(plL_opts l).2]; decide)]
  congr 1
  have : (D.non ∈ l.map optI) ↔ none ∈ l := by
    rw [List.mem_map]
    constructor
    · rintro ⟨o, h1, h2⟩
      cases o with
      | none => exact h1
      | some k => cases h2
    · exact fun h => ⟨none, h, rfl⟩
  exact decide_eq_decide.mpr this
end Pl
end
section
set_option Elab.async false
set_option linter.all false
set_option maxRecDepth 100000
set_option maxHeartbeats 4000000
set_option autoImplicit false
set_option exponentiation.threshold 10000
/-! W5: numbers read. -/
namespace Pl
open Ev Gr
theorem mt_rf (w : List Nat) (s : Nat) (S : Sto) : mt .rfind (.str w) [.str [s]] S = .ok (.int (rf w s)) S := rfl
theorem num_pairs {n : Nat} {w : Option D} {xs ys : List (Int × Int)} {S : Sto} {r1 r2 : Nat} {o1 o2 o3 o6 o7 o8 o9 : Option D} (h1 : S[r1]? = some (.lst (xs.map frP))) (h2 : S[r2]? = some (.lst (ys.map frP))) (hl : (xs.flatMap fun p => ys.map fun q => (⟨p.1, p.2, q.1, q.2⟩ : N4)).length ≤ 1) :
    ∃ S', ev (GG n) (.lc2 [("one", 8), ("two", 9)] [9] (.tup (.cons (.var 8) (.cons (.var 9) .nil))) (.nm 8) (.seq (.var 4)) (.nm 9) (.seq (.var 5))) [w, o1, o2, o3, some (.ref r1), some (.ref r2), o6, o7, o8, o9] S = .ok (.ref S'.length) (S' ++ [.lst ((xs.flatMap fun p => ys.map fun q => (⟨p.1, p.2, q.1, q.2⟩ : N4)).map N4.D)]) ∧ S <+: S' := by
  have eqn : (xs.map frP).flatMap (fun d => (ys.map frP).map fun e => D.tup [d, e]) = (xs.flatMap fun p => ys.map fun q => (⟨p.1, p.2, q.1, q.2⟩ : N4)).map N4.D := by
    rw [List.flatMap_map, List.map_flatMap]
    congr 1
    funext p
    rw [List.map_map, List.map_map]
    rfl
  obtain ⟨S', e, h⟩ := ev_lc2 (G := GG n) (en := [w, o1, o2, o3, some (.ref r1), some (.ref r2), o6, o7, o8, o9]) (S := S) (own := [("one", 8), ("two", 9)]) (own1 := [9]) (elt := .tup (.cons (.var 8) (.cons (.var 9) .nil))) (p := .nm 8) (it := .seq (.var 4)) (p1 := .nm 9) (it1 := .seq (.var 5))
    (s := ⟨xs.map frP, [(r1, xs.map frP)]⟩) (S1 := S) (I := fun S' => S <+: S') (g := fun d => (ys.map frP).map fun e => D.tup [d, e])
    (by simp [srcSeq, lstOf, h1]) List.prefix_rfl (fun S' h => pre_ok h (ok_one h1)) (by
      show ((xs.map frP).flatMap (fun d => (ys.map frP).map fun e => D.tup [d, e])).length ≤ _
      rw [eqn, List.length_map]; omega) (by
      intro d hd S' hS
      refine ⟨[w, o1, o2, o3, some (.ref r1), some (.ref r2), o6, o7, some d, none], ⟨ys.map frP, [(r2, ys.map frP)]⟩, S', fun e => .tup [d, e], rfl, ?_, hS, fun S3 h3 => pre_ok (hS.trans h3) (ok_one h2), rfl, ?_⟩
      · have := pre_get hS h2
        simp [srcSeq, lstOf, this]
      · intro d1 hd1 S3 h3 h4
        exact ⟨[w, o1, o2, o3, some (.ref r1), some (.ref r2), o6, o7, some d, some d1], S3, rfl, by simp, List.prefix_rfl, h4⟩)
  exact ⟨S', by rw [e]; congr 4, h⟩
end Pl
end
section
set_option Elab.async false
set_option linter.all false
set_option maxRecDepth 100000
set_option maxHeartbeats 4000000
set_option autoImplicit false
set_option exponentiation.threshold 10000
/-! W6: numbers read by the law. -/
namespace Pl
open Ev Gr
def optN (o : Option N4) : D := match o with
  | some z => z.D
  | none => .non
@[simp] theorem eqD_bl (S : Sto) (a b : Bool) : eqD S (.bl a) (.bl b) = some (decide (a = b)) := by
  cases a <;> cases b <;> rfl
theorem sg_mem (c : Nat) : decide (c ∈ [43, 45]) = isSg c := by
  unfold isSg
  congr 1
  simp
theorem num_cuts {n : Nat} {w : List Nat} {S : Sto} {o1 o2 o3 o4 o5 : Option D} (hw : w.length ≤ 1000000) (h0 : 0 < w.length) :
    ev (GG n) (.lc [("k", 5)] (.var 5) (.nm 5) (.rng2 (.cst (.int 1)) (.bi .len (.cons (.var 0) .nil))) (.some (.cmp .isin (.ix (.var 0) (.var 5)) (.cst (.str [43, 45]))))) [some (.str w), o1, o2, o3, o4, o5] S = .ok (.ref S.length) (S ++ [.lst ((cutsL w).map fun (k : Nat) => .int k)]) := by
  have hl : w.length ≤ 16777216 := by omega
  obtain ⟨S', e, rfl⟩ := ev_lc (G := GG n) (en := [some (.str w), o1, o2, o3, o4, o5]) (S := S) (own := [("k", 5)]) (elt := .var 5) (p := .nm 5) (it := .rng2 (.cst (.int 1)) (.bi .len (.cons (.var 0) .nil))) (c := .some (.cmp .isin (.ix (.var 0) (.var 5)) (.cst (.str [43, 45]))))
    (s := ⟨rngD 1 w.length, []⟩) (S1 := S) (I := fun S' => S' = S) (g := fun d => match d with | .int i => if isSg (w.getD i.toNat 0) = true then some d else none | _ => none)
    (evi_rng2 (S1 := S) (GG n) _ S (by simp) (by simp [hl]) (by decide) (by unfold small; omega)) rfl (fun _ _ => ok_nil _ _) (by simp [rngD]; omega) (by
      intro d hd S' hS
      subst hS
      obtain ⟨j, hj, rfl⟩ := List.mem_map.mp hd
      have hj := List.mem_range.mp hj
      have hlt : 1 + j < w.length := by omega
      have ix : ixD S' (.str w) (.int (1 + (j : Int))) = some (.str [w.getD (1 + j) 0]) := by
        rw [ixD_str _ hl, show (1 + (j : Int)) = ((1 + j : Nat) : Int) by omega, atI_nat, List.getD_eq_getElem?_getD, List.getElem?_eq_getElem hlt]
        rfl
      have tn : (1 + (j : Int)).toNat = 1 + j := by omega
      refine ⟨[some (.str w), o1, o2, o3, o4, some (.int (1 + (j : Int)))], rfl, ?_⟩
      have sm := sg_mem (w.getD (1 + j) 0)
      by_cases h : isSg (w.getD (1 + j) 0) = true
      · right
        rw [h] at sm
        refine ⟨S', _, S', ?_, by simp; exact rfl, ?_, rfl⟩
        · have sm' : w.getD (1 + j) 0 = 43 ∨ w.getD (1 + j) 0 = 45 := by simpa using sm
          rw [evc_some, ev_cmp]
          simp only [ev_ix, ev_var, List.getD_cons_zero, List.getD_cons_succ, R.of_some, R.bind_ok, ix, ev_cst, cmp_in, mem_str, sm, Option.map_some, blR_bl, kBin_eq, kAnd_eq, kOr_eq, kIte_eq, kCmp_eq, kCmp2_eq, kTup_eq, kLst_eq, kIx_eq, kIx2_eq, kSl_eq, kSl2_eq, kMt_eq, kCons_eq, kCons2_eq, kSeq_eq, kEnum_eq, kSet_eq, kIf_eq, kExp_eq]
        · simp only [tn, h, if_true]
      · left
        have h' : isSg (w.getD (1 + j) 0) = false := by simpa using h
        rw [h'] at sm
        refine ⟨S', ?_, ?_, rfl⟩
        · rw [evc_some, ev_cmp]
          simp only [ev_ix, ev_var, List.getD_cons_zero, List.getD_cons_succ, R.of_some, R.bind_ok, ix, ev_cst, cmp_in, mem_str, sm, Option.map_some, blR_bl, kBin_eq, kAnd_eq, kOr_eq, kIte_eq, kCmp_eq, kCmp2_eq, kTup_eq, kLst_eq, kIx_eq, kIx2_eq, kSl_eq, kSl2_eq, kMt_eq, kCons_eq, kCons2_eq, kSeq_eq, kEnum_eq, kSet_eq, kIf_eq, kExp_eq]
        · simp only [tn, h', if_false, Bool.false_eq_true])
  rw [e]
  congr 4
  unfold rngD cutsL
  rw [show ((w.length : Int) - 1).toNat = w.length - 1 by omega]
  generalize List.range (w.length - 1) = rs
  induction rs with
  | nil => rfl
  | cons j r ih =>
    simp only [List.map_cons, List.filterMap_cons, List.filter_cons]
    have tn : (1 + (j : Int)).toNat = 1 + j := by omega
    rw [tn]
    by_cases h : isSg (w.getD (1 + j) 0) = true
    · simp only [h, if_true]
      rw [ih]
      simp
    · simp only [h, if_false]
      rw [ih]
      simp
end Pl
end
section
set_option Elab.async false
set_option linter.all false
set_option maxRecDepth 100000
set_option maxHeartbeats 4000000
set_option autoImplicit false
set_option exponentiation.threshold 10000
/-! W7: places, DATA's parts. -/
namespace Pl
open Ev Gr
def inDisc (z : N4) : Bool := decide (within z.a z.b z.c z.d)
theorem good_bt {a b : Int} (h : good a b) : 0 < b ∧ bt 1400 a ∧ bt 1400 b := ⟨h.1.1, big_bt h.2.1, big_bt h.2.2⟩
theorem num_within {n : Nat} {z : N4} {S : Sto} (h : z.good) : fn (n + 3) 18 [z.D] S = .ok (.bl (inDisc z)) S := by
  obtain ⟨a, b, c, d⟩ := z
  obtain ⟨h1, h2⟩ := h
  have g1 := good_bt (show good a b from h1)
  have g2 := good_bt (show good c d from h2)
  exact within_eq g1.1 g2.1 g1.2.1 g1.2.2 g2.2.1 g2.2.2
def rdPl (w : List Nat) : Option N4 := if w.getLast? = some 58 then (rdN (w.take (w.length - 1))).filter inDisc else none
theorem rdN_good {w : List Nat} {z : N4} (h : rdN w = some z) : z.good := (rdN_some.mp h).2
abbrev PR := N4 × List N4
def pD (p : PR) : D := .tup [p.1.D, .tup (p.2.map N4.D)]
theorem places_of {n : Nat} {ps : List PR} {S : Sto} (hl : ps.length ≤ 16777216) : fn (n + 1) 22 [.tup (ps.map pD)] S = .ok (.ref S.length) (S ++ [.lst (ps.map fun p => p.1.D)]) := by
  rw [fn_s (fd := Tx.t22.fd) rfl]
  have e := ev_lcp (G := GG n) (en := [some (.tup (ps.map pD)), none, none]) (S := S) (own := [("place", 1), ("_", 2)]) (elt := .var 1) (p := .tup [.nm 1, .nm 2]) (it := .seq (.var 0)) (s := ⟨ps.map pD, []⟩) (S1 := S) (g := fun d => match d with | .tup [a, _] => a | _ => .non)
    (by simp [srcSeq]) (by simp) (by simpa using hl) (by
      intro d hd
      obtain ⟨p, _, rfl⟩ := List.mem_map.mp hd
      exact ⟨[some (.tup (ps.map pD)), some p.1.D, some (.tup (p.2.map N4.D))], rfl, by simp [pD]⟩)
  simp [runF, Tx.t22, Tx.b22, e]
  intro a b _
  rfl
def cntV (ps : List PR) : Nat := (ps.map fun p => p.2.length).sum
theorem cntV_sum (ps : List PR) : (ps.map fun p => ((p.2.length : Nat) : Int)).sum = ((cntV ps : Nat) : Int) := by
  unfold cntV
  induction ps with
  | nil => rfl
  | cons p r ih =>
    simp only [List.map_cons, List.sum_cons]
    omega
theorem count_values {n : Nat} {ps : List PR} {S : Sto} (hl : ps.length ≤ 16777216) : Rv (fn (n + 1) 21 [.tup (ps.map pD)] S) S (.int (cntV ps : Nat)) := by
  rw [fn_s (fd := Tx.t21.fd) rfl]
  have e := ev_lcp (G := GG n) (en := [some (.tup (ps.map pD)), none, none]) (S := S) (own := [("_", 1), ("values", 2)]) (elt := .bi .len (.cons (.var 2) .nil)) (p := .tup [.nm 1, .nm 2]) (it := .seq (.var 0)) (s := ⟨ps.map pD, []⟩) (S1 := S) (g := fun d => match d with | .tup [_, .tup xs] => .int xs.length | _ => .non)
    (by simp [srcSeq]) (by simp) (by simpa using hl) (by
      intro d hd
      obtain ⟨p, _, rfl⟩ := List.mem_map.mp hd
      exact ⟨[some (.tup (ps.map pD)), some p.1.D, some (.tup (p.2.map N4.D))], rfl, by simp [pD]⟩)
  have e2 : ((ps.map pD).map fun d => match d with | .tup [_, .tup xs] => D.int xs.length | _ => .non) = ps.map fun p => .int ((p.2.length : Nat) : Int) := by
    rw [List.map_map]
    congr 1
    funext p
    simp [pD]
  have e3 : bi .sum [.ref S.length] (S ++ [.lst (ps.map fun p => .int ((p.2.length : Nat) : Int))]) = .ok (.int (cntV ps : Nat)) (S ++ [.lst (ps.map fun p => .int ((p.2.length : Nat) : Int))]) := by
    have : (ps.map fun p => ((p.2.length : Nat) : Int)).sum = ((cntV ps : Nat) : Int) := cntV_sum ps
    simp [bi, lstOf, this]
  refine ⟨_, ?_, pre_snoc S (.lst (ps.map fun p => .int ((p.2.length : Nat) : Int)))⟩
  have e4 : ev (GG n) _ _ S = _ := e.trans (by rw [e2])
  simp [runF, Tx.t21, Tx.b21, e4, e3]
end Pl
end
section
set_option Elab.async false
set_option linter.all false
set_option maxRecDepth 100000
set_option maxHeartbeats 4000000
set_option autoImplicit false
set_option exponentiation.threshold 10000
/-! W8: lines of DATA read. -/
namespace Pl
open Ev Gr
theorem plL_nums (zs : List N4) : plL (zs.map N4.D) = true ∧ dptL (zs.map N4.D) ≤ 2 := by
  induction zs with
  | nil => exact ⟨rfl, by decide⟩
  | cons z r ih =>
    have h1 : pl z.D = true := rfl
    have h2 : dpt z.D = 2 := by simp [N4.D, dpt, dptL]
    simp only [List.map_cons, plL, dptL, h1, h2, ih.1, Bool.and_self, true_and]
    omega
theorem num_in {S : Sto} {r : Nat} {zs : List N4} {z : N4} (h : S[r]? = some (.lst (zs.map N4.D))) [Decidable (z ∈ zs)] : memS S z.D (.ref r) = some (decide (z ∈ zs)) := by
  show (seqOf S (.ref r)).bind _ = _
  have h2 : dpt z.D = 2 := by simp [N4.D, dpt, dptL]
  have := (plL_nums zs).2
  rw [seqOf_ref h, Option.bind_some, inD_pl rfl (plL_nums zs).1 (by rw [h2]; decide) (by omega)]
  congr 1
  apply decide_eq_decide.mpr
  rw [List.mem_map]
  constructor
  · rintro ⟨y, h1, h2⟩
    exact N4.D_inj h2 ▸ h1
  · exact fun h => ⟨z, h, rfl⟩
def rdVals (cnt : Nat) : Nat → List (List Nat) → Nat ⊕ List N4
  | _, [] => .inr []
  | i, w :: r => match rdN w with
    | none => .inl (i + 1)
    | some z => if i = 3 ∨ cnt + i = 6 then .inl (i + 1) else match rdVals cnt (i + 1) r with
      | .inl k => .inl k
      | .inr zs => .inr (z :: zs)
end Pl
end
section
set_option Elab.async false
set_option linter.all false
set_option maxRecDepth 100000
set_option maxHeartbeats 4000000
set_option autoImplicit false
set_option exponentiation.threshold 10000
/-! W9: a line of DATA read, all lines. -/
namespace Pl
open Ev Gr
def lineS (ps : List PR) (ws : List (List Nat)) : Nat ⊕ PR := match ws with
  | [] => .inl 0
  | w0 :: r => match rdPl w0 with
    | none => .inl 0
    | some z => if z ∈ ps.map (fun p => p.1) ∨ ps.length = 6 then .inl 0 else match rdVals (cntV ps) 0 r with
      | .inl k => .inl k
      | .inr zs => if zs = [] then .inl 1 else .inr (z, zs)
theorem tuple_ref {S : Sto} {r : Nat} {xs : List D} (h : S[r]? = some (.lst xs)) : bi .tuple [.ref r] S = .ok (.tup xs) S := by simp [bi, lstOf, h]
def LineR (r : R D) (S : Sto) : Nat ⊕ PR → Prop
  | .inl k => ∃ X, Rv r S (.tup [.int (k : Nat), X])
  | .inr p => Rv r S (.tup [.non, pD p])
end Pl
end
section
set_option Elab.async false
set_option linter.all false
set_option maxRecDepth 100000
set_option maxHeartbeats 4000000
set_option autoImplicit false
set_option exponentiation.threshold 10000
/-! W10: DATA read. -/
namespace Pl
open Ev Gr
def textS : Nat → List PR → List (List Nat) → (Nat × Nat) ⊕ List PR
  | _, ps, [] => .inr ps
  | i, ps, l :: r => if r = [] ∧ l = [] then .inr ps else match lineS ps (spl 32 l) with
    | .inl k => .inl (i, k)
    | .inr p => if r = [] then .inl (i, (spl 32 l).length) else textS (i + 1) (ps ++ [p]) r
def DataV : (Nat × Nat) ⊕ List PR → D
  | .inl (i, k) => .tup [.tup [.int (i : Nat), .int (k : Nat)], .tup []]
  | .inr ps => .tup [.non, .tup (ps.map pD)]
theorem lineS_six {ps : List PR} {ws : List (List Nat)} {p : PR} (h : lineS ps ws = .inr p) : ps.length ≠ 6 := by
  unfold lineS at h
  split at h
  · cases h
  · split at h
    · cases h
    · split at h
      · cases h
      · rename_i hn
        exact fun e => hn (Or.inr e)
end Pl
end
section
set_option Elab.async false
set_option linter.all false
set_option maxRecDepth 100000
set_option maxHeartbeats 4000000
set_option autoImplicit false
set_option exponentiation.threshold 10000
/-! W11: a line read by the law. -/
namespace Pl
open Ev Gr
def rngN (i n : Nat) : List D := (List.range' i n).map fun (k : Nat) => D.int k
theorem rngD_N (n : Nat) : rngD 0 (n : Nat) = rngN 0 n := by
  unfold rngD rngN
  rw [List.range_eq_range', show ((n : Int) - 0).toNat = n by omega]
  congr 1
  funext k
  simp
@[simp] theorem rngN_zero (i : Nat) : rngN i 0 = [] := rfl
@[simp] theorem rngN_succ (i n : Nat) : rngN i (n + 1) = .int (i : Nat) :: rngN (i + 1) n := rfl
@[simp] theorem isD_N (z : N4) : isD z.D .non = some false := rfl
theorem rdVals_len {c : Nat} : ∀ {r : List (List Nat)} {i : Nat} {zs : List N4}, rdVals c i r = .inr zs → zs.length = r.length
  | [], i, zs, h => by cases h; rfl
  | w :: r, i, zs, h => by
    rw [rdVals] at h
    cases hz : rdN w with
    | none => rw [hz] at h; cases h
    | some z =>
      rw [hz] at h
      simp only [] at h
      split at h
      · cases h
      · cases hr : rdVals c (i + 1) r with
        | inl k => rw [hr] at h; cases h
        | inr ys =>
          rw [hr] at h
          cases h
          rw [List.length_cons, List.length_cons, rdVals_len hr]
def ValsR (o : O) (S : Sto) (tr : Nat) (fx : List (Option D)) (acc : List N4) : Nat ⊕ List N4 → Prop
  | .inl j => ∃ S', o = .rt (.tup [.non, .int (j : Nat)]) S' ∧ Fr (· = tr) S S'
  | .inr zs => ∃ p6 p7 p8 p9 S', o = .nx (fx ++ [p6, p7, p8, p9]) S' ∧ S'[tr]? = some (.lst ((acc ++ zs).map N4.D)) ∧ Fr (· = tr) S S'
end Pl
end
section
set_option Elab.async false
set_option linter.all false
set_option maxRecDepth 100000
set_option maxHeartbeats 4000000
set_option autoImplicit false
set_option exponentiation.threshold 10000
/-! W12: a line read by the law, whole. -/
namespace Pl
open Ev Gr
def LawL (r : R D) (S : Sto) : Nat ⊕ PR → Prop
  | .inl k => Rv r S (.tup [.non, .int (k : Nat)])
  | .inr p => Rv r S (.tup [pD p, .non])
theorem first_turn {w0 : List Nat} {r : List (List Nat)} {f : D → En → Sto → O} {en : En} {S : Sto} : forL ⟨rngD 0 ((w0 :: r).length : Nat), []⟩ f (Src.its ⟨rngD 0 ((w0 :: r).length : Nat), []⟩) en S = (f (.int (0 : Nat)) en S).turn fun en S => forL ⟨rngD 0 ((w0 :: r).length : Nat), []⟩ f (rngN 1 r.length) en S := by
  have e : Src.its ⟨rngD 0 ((w0 :: r).length : Nat), []⟩ = .int (0 : Nat) :: rngN 1 r.length := by
    show rngD 0 ((w0 :: r).length : Nat) = _
    rw [rngD_N, List.length_cons, rngN_succ]
  rw [e, forL_cons (ok_nil _ _)]
end Pl
end
section
set_option Elab.async false
set_option linter.all false
set_option maxRecDepth 100000
set_option maxHeartbeats 4000000
set_option autoImplicit false
set_option exponentiation.threshold 10000
/-! W13: the law's own reading of a text. -/
namespace Pl
open Ev Gr
theorem rdVals_cnt {c : Nat} : ∀ {r : List (List Nat)} {i : Nat} {zs : List N4}, rdVals c i r = .inr zs → c + i ≤ 6 → i ≤ 3 → c + i + zs.length ≤ 6 ∧ i + zs.length ≤ 3
  | [], i, zs, h, hc, hi => by cases h; simp; omega
  | w :: r, i, zs, h, hc, hi => by
    rw [rdVals] at h
    cases hz : rdN w with
    | none => rw [hz] at h; cases h
    | some z =>
      rw [hz] at h
      simp only [] at h
      split at h
      · cases h
      · rename_i hn
        cases hr : rdVals c (i + 1) r with
        | inl k => rw [hr] at h; cases h
        | inr ys =>
          rw [hr] at h
          cases h
          have := rdVals_cnt hr (by omega) (by omega)
          rw [List.length_cons]
          omega
theorem lineS_cnt {ps : List PR} {ws : List (List Nat)} {p : PR} (h : lineS ps ws = .inr p) (hc : cntV ps ≤ 6) : cntV ps + p.2.length ≤ 6 ∧ p.2.length ≤ 3 ∧ p.2 ≠ [] := by
  cases ws with
  | nil => cases h
  | cons w0 r =>
    cases hz : rdPl w0 with
    | none => simp [lineS, hz] at h
    | some z =>
      simp only [lineS, hz] at h
      split at h
      · cases h
      · cases hr : rdVals (cntV ps) 0 r with
        | inl k => rw [hr] at h; cases h
        | inr ys =>
          rw [hr] at h
          simp only [] at h
          split at h
          · cases h
          · cases h
            have := rdVals_cnt hr (by omega) (by omega)
            rename_i hne
            exact ⟨by simpa using this.1, by simpa using this.2, hne⟩
theorem cntV_app (ps : List PR) (p : PR) : cntV (ps ++ [p]) = cntV ps + p.2.length := by simp [cntV]
def OwnR (o : O) (S : Sto) (fr : Nat) (f0 f3 : Option D) : (Nat × Nat) ⊕ List PR → Prop
  | .inl (i, k) => ∃ S' q, o = .rt (.tup [.str [119, 114, 111, 110, 103], .ref q]) S' ∧ S'[q]? = some (.lst [.int (i : Nat), .int (k : Nat), .bl true, .bl true]) ∧ Fr (· = fr) S S'
  | .inr ps => ∃ p2 p4 p5 p6 p7 S', o = .nx [f0, some (.ref fr), p2, f3, p4, p5, p6, p7] S' ∧ S'[fr]? = some (.lst (ps.map pD)) ∧ Fr (· = fr) S S'
end Pl
end
section
set_option Elab.async false
set_option linter.all false
set_option maxRecDepth 100000
set_option maxHeartbeats 4000000
set_option autoImplicit false
set_option exponentiation.threshold 10000
/-! W14: what the law reads and what it is told. -/
namespace Pl
open Ev Gr
def ResR (r : R D) (S : Sto) : (Nat × Nat) ⊕ List PR → Prop
  | .inl (i, k) => ∃ S' q, r = .ok (.tup [.str [119, 114, 111, 110, 103], .ref q]) S' ∧ S'[q]? = some (.lst [.int (i : Nat), .int (k : Nat), .bl true, .bl true]) ∧ S <+: S'
  | .inr ps => ∃ S', r = .ok (.tup [.str [114, 101, 97, 100], .tup (ps.map pD)]) S' ∧ S <+: S'
theorem eqD_ways {S : Sto} {q i k : Nat} (h : S[q]? = some (.lst [.int (i : Nat), .int (k : Nat), .bl true, .bl true])) : eqD (S ++ [.lst []]) (.ref q) (.ref S.length) = some false := by
  have g1 := pre_get (pre_snoc S (.lst [])) h
  have g2 := last_get S (.lst [])
  have e1 : toP (S ++ [Ob.lst []]) 20 (.ref q) = some (.list [.int i, .int k, .bool true, .bool true]) := by
    show (match (S ++ [Ob.lst []])[q]? with
      | some (.lst xs) => (mapO (toP (S ++ [Ob.lst []]) 19) xs).map PySem.PyData.list
      | _ => none) = _
    rw [g1]
    rfl
  have e2 : toP (S ++ [Ob.lst []]) 20 (.ref S.length) = some (.list []) := by
    show (match (S ++ [Ob.lst []])[S.length]? with
      | some (.lst xs) => (mapO (toP (S ++ [Ob.lst []]) 19) xs).map PySem.PyData.list
      | _ => none) = _
    rw [g2]
    rfl
  show ((toP (S ++ [Ob.lst []]) 20 (.ref q)).bind fun p => (toP (S ++ [Ob.lst []]) 20 (.ref S.length)).bind fun q => if p.canLay0 = true ∧ q.canLay0 = true then some (PySem.PyData.eqv p q) else none) = _
  rw [e1, e2]
  rfl
end Pl
end
section
set_option Elab.async false
set_option linter.all false
set_option maxRecDepth 100000
set_option maxHeartbeats 4000000
set_option autoImplicit false
set_option exponentiation.threshold 10000
/-! W15: DATA written. -/
namespace Pl
open Ev Gr
theorem goodL_len {z : N4} (h : z.good) : z.L.length ≤ 1610 := nuL_len h.1.2.1 h.1.2.2 h.2.2.1 h.2.2.2
theorem is_num_ok {n : Nat} {z : N4} {S : Sto} (h : z.good) : fn (n + 3) 3 [z.D] S = .ok (.bl true) S := is_num_nu ⟨h.1.1.1, h.1.1.2⟩ ⟨h.2.1.1, h.2.1.2⟩
theorem is_place_ok {n : Nat} {z : N4} {S : Sto} (h : z.good) (hd : inDisc z = true) : fn (n + 4) 19 [z.D] S = .ok (.bl true) S := by
  rw [fn_s (fd := Tx.t19.fd) rfl]
  have e1 : ∀ S, fnN Tx.F Ex Tx.cs (n + 3) 3 [z.D] S = _ := fun S => is_num_ok (n := n) h
  have e2 : ∀ S, fnN Tx.F Ex Tx.cs (n + 3) 18 [z.D] S = _ := fun S => num_within (n := n) h
  simp [runF, Tx.t19, Tx.b19, e1, e2, hd]
def okP (p : PR) : Prop := p.1.good ∧ inDisc p.1 = true ∧ 1 ≤ p.2.length ∧ p.2.length ≤ 3 ∧ ∀ v ∈ p.2, v.good
theorem blsOf_true : ∀ (l : List D), (∀ d ∈ l, d = .bl true) → blsOf l = some (List.replicate l.length true)
  | [], _ => rfl
  | d :: r, h => by
    have e := h d (by simp)
    subst e
    show (blsOf r).map (true :: ·) = _
    rw [blsOf_true r fun d hd => h d (List.mem_cons_of_mem _ hd)]
    rfl
structure OkD (ps : List PR) : Prop where
  all : ∀ p ∈ ps, okP p
  nd : (ps.map fun p => p.1).Nodup
  cnt : cntV ps ≤ 6
  len : ps.length ≤ 6
theorem cntV_take (ps : List PR) (k : Nat) : cntV (ps.take k) ≤ cntV ps := by
  induction ps generalizing k with
  | nil => simp
  | cons p r ih =>
    cases k with
    | zero => simp [cntV]
    | succ k => have := ih k; simp [cntV] at this ⊢; omega
end Pl
end
section
set_option Elab.async false
set_option linter.all false
set_option maxRecDepth 100000
set_option maxHeartbeats 4000000
set_option autoImplicit false
set_option exponentiation.threshold 10000
/-! W16: DATA written, and that what is read is written again. -/
namespace Pl
open Ev Gr
def numsL (zs : List N4) : List Nat := TL.joinL [32] (zs.map N4.L)
theorem mt_join {S : Sto} {r : Nat} {sep : List Nat} {ys : List (List Nat)} (h : S[r]? = some (.lst (ys.map .str))) (hl : (ys.map List.length).sum + ys.length * sep.length ≤ 16777216) : mt .join (.str sep) [.ref r] S = .ok (.str (TL.joinL sep ys)) S := by
  have e : strsOf (ys.map .str) = some ys := by simpa using strs_map ys id
  simp only [Ev.mt, seqOf_ref h, Option.bind_some, e]
  rw [if_pos hl]
  rfl
theorem sum_len (ys : List (List Nat)) (b : Nat) (h : ∀ y ∈ ys, y.length ≤ b) : (ys.map List.length).sum ≤ ys.length * b := by
  induction ys with
  | nil => simp
  | cons y r ih =>
    have := ih fun y hy => h y (List.mem_cons_of_mem _ hy)
    have := h y (by simp)
    rw [List.map_cons, List.sum_cons, List.length_cons, Nat.succ_mul]
    omega
theorem join_len (s : List Nat) : ∀ ys : List (List Nat), (TL.joinL s ys).length ≤ (ys.map List.length).sum + ys.length * s.length
  | [] => by simp [TL.joinL]
  | [y] => by simp [TL.joinL]
  | y :: z :: r => by
    have := join_len s (z :: r)
    show (y ++ (s ++ TL.joinL s (z :: r))).length ≤ _
    rw [List.length_append, List.length_append, List.map_cons, List.sum_cons, List.length_cons (a := y), Nat.succ_mul]
    omega
def pairL (p : PR) : List Nat := p.1.L ++ ([58, 32] ++ numsL p.2)
theorem numsL_len {zs : List N4} (hg : ∀ z ∈ zs, z.good) : (numsL zs).length ≤ zs.length * 1611 := by
  have := sum_len (zs.map N4.L) 1610 (fun y hy => by obtain ⟨z, hz, rfl⟩ := List.mem_map.mp hy; exact goodL_len (hg z hz))
  have := join_len [32] (zs.map N4.L)
  simp only [List.length_map, List.length_cons, List.length_nil] at *
  unfold numsL
  omega
theorem pairL_len {p : PR} (h : okP p) : (pairL p).length ≤ 10000 := by
  have := goodL_len h.1
  have := numsL_len h.2.2.2.2
  have := h.2.2.2.1
  unfold pairL
  simp
  omega
def dataL (ps : List PR) : List Nat := (ps.map fun p => pairL p ++ [10]).flatten
theorem join_nil (ys : List (List Nat)) : TL.joinL [] ys = ys.flatten := by
  induction ys with
  | nil => rfl
  | cons y r ih =>
    cases r with
    | nil => simp [TL.joinL]
    | cons z r => show y ++ ([] ++ TL.joinL [] (z :: r)) = _; rw [ih]; rfl
theorem numsD_inj : ∀ vs us : List N4, vs.map N4.D = us.map N4.D → vs = us
  | [], [], _ => rfl
  | [], _ :: _, h => by simp at h
  | _ :: _, [], h => by simp at h
  | a :: b, c :: d, h => by
    rw [List.map_cons, List.map_cons] at h
    injection h with q1 q2
    rw [N4.D_inj q1, numsD_inj b d q2]
theorem pD_inj {p q : PR} (h : pD p = pD q) : p = q := by
  obtain ⟨z, vs⟩ := p
  obtain ⟨y, us⟩ := q
  have h : D.tup [z.D, .tup (vs.map N4.D)] = D.tup [y.D, .tup (us.map N4.D)] := h
  injection h with h
  injection h with h1 h2
  injection h2 with h2 _
  injection h2 with h2
  have e1 := N4.D_inj h1
  have e2 : vs = us := numsD_inj vs us h2
  rw [e1, e2]
theorem rdVals_words {c : Nat} : ∀ {r : List (List Nat)} {i : Nat} {zs : List N4}, rdVals c i r = .inr zs → r = zs.map N4.L ∧ ∀ z ∈ zs, z.good
  | [], i, zs, h => by cases h; exact ⟨rfl, by simp⟩
  | w :: r, i, zs, h => by
    rw [rdVals] at h
    cases hz : rdN w with
    | none => rw [hz] at h; cases h
    | some z =>
      rw [hz] at h
      simp only [] at h
      split at h
      · cases h
      · cases hr : rdVals c (i + 1) r with
        | inl k => rw [hr] at h; cases h
        | inr ys =>
          rw [hr] at h
          cases h
          obtain ⟨e, g⟩ := rdVals_words hr
          obtain ⟨e1, g1⟩ := rdN_some.mp hz
          refine ⟨by rw [e, e1]; rfl, ?_⟩
          intro y hy
          rcases List.mem_cons.mp hy with q | q
          · rw [q]; exact g1
          · exact g y q
theorem lineS_ok {ps : List PR} {ws : List (List Nat)} {p : PR} (h : lineS ps ws = .inr p) (hc : cntV ps ≤ 6) : okP p ∧ p.1 ∉ ps.map (fun p => p.1) ∧ TL.joinL [32] ws = pairL p := by
  have cn := lineS_cnt h hc
  cases ws with
  | nil => cases h
  | cons w0 r =>
    cases hz : rdPl w0 with
    | none => simp [lineS, hz] at h
    | some z =>
      simp only [lineS, hz] at h
      split at h
      · cases h
      · rename_i hn
        cases hr : rdVals (cntV ps) 0 r with
        | inl k => rw [hr] at h; cases h
        | inr ys =>
          rw [hr] at h
          simp only [] at h
          split at h
          · cases h
          · rename_i hne
            cases h
            obtain ⟨e, g⟩ := rdVals_words hr
            unfold rdPl at hz
            split at hz
            · rename_i hl
              cases hq : rdN (w0.take (w0.length - 1)) with
              | none => rw [hq] at hz; simp at hz
              | some y =>
                rw [hq] at hz
                have hy : inDisc y = true ∧ y = z := by
                  by_cases hd : inDisc y = true <;> simp [Option.filter, hd] at hz
                  exact ⟨hd, hz⟩
                obtain ⟨hd, rfl⟩ := hy
                obtain ⟨e1, g1⟩ := rdN_some.mp hq
                refine ⟨⟨g1, hd, ?_, cn.2.1, g⟩, fun hm => hn (Or.inl hm), ?_⟩
                · have := List.length_pos_iff.mpr cn.2.2
                  exact this
                · have hw : w0 = y.L ++ [58] := by
                    obtain ⟨u, hu⟩ := List.getLast?_eq_some_iff.mp hl
                    rw [hu] at e1 ⊢
                    simp at e1
                    rw [e1]
                  subst e
                  cases ys with
                  | nil => exact absurd rfl hne
                  | cons v vs =>
                    rw [hw]
                    show (y.L ++ [58]) ++ ([32] ++ TL.joinL [32] ((v :: vs).map N4.L)) = _
                    unfold pairL numsL
                    simp
            · cases hz
theorem OkD.nil : OkD [] := ⟨by simp, by simp, by decide, by simp⟩
theorem OkD.snoc {ps : List PR} {p : PR} (h : OkD ps) (hp : okP p) (hn : p.1 ∉ ps.map (fun p => p.1)) (hc : cntV ps + p.2.length ≤ 6) (h6 : ps.length ≠ 6) : OkD (ps ++ [p]) := by
  refine ⟨?_, ?_, by rw [cntV_app]; exact hc, by have := h.len; simp; omega⟩
  · intro q hq
    rcases List.mem_append.mp hq with e | e
    · exact h.all q e
    · rw [List.mem_singleton.mp e]; exact hp
  · rw [List.map_append, List.nodup_append]
    refine ⟨h.nd, by simp, ?_⟩
    intro a ha b hb
    rw [List.map_cons, List.map_nil, List.mem_singleton] at hb
    rintro rfl
    exact hn (hb ▸ ha)
theorem textS_ok : ∀ {r : List (List Nat)} {i : Nat} {ps qs : List PR}, r ≠ [] → OkD ps → textS i ps r = .inr qs → OkD qs ∧ dataL qs = dataL ps ++ TL.joinL [10] r
  | [], _, _, _, h, _, _ => absurd rfl h
  | l :: r, i, ps, qs, _, ho, h => by
    rw [textS] at h
    split at h
    · rename_i hh
      cases h
      rw [hh.1, hh.2]
      exact ⟨ho, by simp [TL.joinL]⟩
    · cases hq : lineS ps (spl 32 l) with
      | inl k => rw [hq] at h; cases h
      | inr p =>
        rw [hq] at h
        simp only [] at h
        split at h
        · cases h
        · rename_i hr
          obtain ⟨o1, o2, o3⟩ := lineS_ok hq ho.cnt
          have cn := lineS_cnt hq ho.cnt
          have six := lineS_six hq
          obtain ⟨a1, a2⟩ := textS_ok hr (ho.snoc o1 o2 cn.1 six) h
          refine ⟨a1, ?_⟩
          rw [a2]
          rw [(spl_back 32 l).2.1] at o3
          cases r with
          | nil => exact absurd rfl hr
          | cons m t =>
            show _ = dataL ps ++ (l ++ ([10] ++ TL.joinL [10] (m :: t)))
            rw [o3]
            simp [dataL]
theorem text_back {w : List Nat} {qs : List PR} (h : textS 0 [] (spl 10 w) = .inr qs) : OkD qs ∧ dataL qs = w := by
  obtain ⟨a, b⟩ := textS_ok (spl_back 10 w).1 OkD.nil h
  refine ⟨a, ?_⟩
  rw [b, (spl_back 10 w).2.1]
  rfl
end Pl
end
section
set_option Elab.async false
set_option linter.all false
set_option maxRecDepth 100000
set_option maxHeartbeats 4000000
set_option autoImplicit false
set_option exponentiation.threshold 10000
/-! W17: drawn words. -/
namespace Pl
open Ev Gr
theorem WellAt.mono {S : Sto} {k m m' : Nat} (h : WellAt S k m) (hm : m ≤ m') : WellAt S k m' := by
  obtain ⟨a, b, c, e, h1, h2, h3, h4, h5⟩ := h
  exact ⟨a, b, c, e, h1, h2, h3, h4, by omega⟩
theorem WellAt.pre {S S' : Sto} {k m : Nat} (h : WellAt S k m) (hp : S <+: S') : WellAt S' k m := by
  obtain ⟨a, b, c, e, hh⟩ := h
  exact ⟨a, b, c, pre_get hp e, hh⟩
theorem WellAt.fr {P : Nat → Prop} {S S' : Sto} {k m : Nat} (h : WellAt S k m) (hf : Fr P S S') (hk : ¬ P k) : WellAt S' k m := by
  obtain ⟨a, b, c, e, hh⟩ := h
  exact ⟨a, b, c, hf _ _ hk e, hh⟩
theorem WellAt.lt {S : Sto} {k m : Nat} (h : WellAt S k m) : k < S.length := by
  obtain ⟨a, b, c, e, hh⟩ := h
  exact get_lt e
theorem drawn {n k m : Nat} {many : Int} {S : Sto} (w : WellAt S k m) (hm : m < 1000000) (h0 : 0 < many) (h1 : many < 1073741824) :
    ∃ (d : Nat) (S' : Sto), fn (n + 1) 48 [.ref k, .int many] S = .ok (.int d) S' ∧ (d : Int) < many ∧ WellAt S' k (m + 1) ∧ Fr (· = k) S S' ∧ S'.length = S.length := by
  obtain ⟨d, o, e, a, b, c⟩ := draw (n := n) w hm h0 h1
  obtain ⟨d', rfl⟩ := Int.eq_ofNat_of_zero_le a
  exact ⟨d', _, e, b, c, Fr.set rfl, by simp⟩
theorem one_of {n k m r : Nat} {xs : List D} {S : Sto} (w : WellAt S k m) (hm : m < 1000000) (hr : S[r]? = some (.lst xs)) (hne : r ≠ k) (hx : xs ≠ []) (hl : xs.length < 1000000) :
    ∃ (d : D) (S' : Sto), fn (n + 2) 49 [.ref k, .ref r] S = .ok d S' ∧ d ∈ xs ∧ WellAt S' k (m + 1) ∧ Fr (· = k) S S' ∧ S'.length = S.length := by
  rw [fn_s (fd := Tx.t49.fd) rfl]
  have hp := List.length_pos_iff.mpr hx
  obtain ⟨d, S', e, a, b, c, l⟩ := drawn (n := n) (many := (xs.length : Nat)) w hm (by omega) (by omega)
  have e' : fnN Tx.F Ex Tx.cs (n + 1) 48 [.ref k, .int (xs.length : Nat)] S = _ := e
  have hd : d < xs.length := by omega
  have ix := ixD_ref (c _ _ hne hr) (d : Nat)
  rw [atI_nat, List.getElem?_eq_getElem hd] at ix
  exact ⟨xs[d], S', by simp [runF, Tx.t49, Tx.b49, len_ref hr, e', ix], List.getElem_mem _, b, c, l⟩
theorem part_good {n : Nat} {p q : Int} {S : Sto} (hq : 0 < q) (hp : p.natAbs < 1000000) (hs : q < 1000000) : ∃ a b, fn (n + 2) 52 [.int p, .int q] S = .ok (Gr.fr a b) S ∧ good a b := by
  obtain ⟨q, rfl⟩ := Int.eq_ofNat_of_zero_le (Int.le_of_lt hq)
  have hq : 0 < q := by omega
  have hs : q < 1000000 := by omega
  have b1 : big p.natAbs := Nat.lt_trans hp (by decide)
  have b2 : big q := Nat.lt_trans hs (by decide)
  exact ⟨_, _, part (n := n) hq (Nat.lt_trans hs (by decide)), good_red (by omega) b1 b2⟩
def Wd (r : R D) (S : Sto) (k m : Nat) : Prop := ∃ (z : N4) (S' : Sto), r = .ok (.str z.L) S' ∧ z.good ∧ WellAt S' k m ∧ Fr (· = k) S S' ∧ S'.length = S.length
end Pl
end
section
set_option Elab.async false
set_option linter.all false
set_option maxRecDepth 100000
set_option maxHeartbeats 4000000
set_option autoImplicit false
set_option exponentiation.threshold 10000
/-! X1: k84: the law's numbers, entries, what is shown. -/
namespace Pl
open Ev Gr PySem
structure T3 where
  a : Int
  b : Int
  d : Nat
  deriving DecidableEq
def T3.D (t : T3) : D := .tup [.int t.a, .int t.b, .int (t.d : Nat)]
theorem T3.D_inj {s t : T3} (h : s.D = t.D) : s = t := by
  cases s; cases t
  simp only [T3.D, D.tup.injEq, List.cons.injEq, D.int.injEq, and_true] at h
  simp only [T3.mk.injEq]
  omega
def normT (a b : Int) (d : Nat) : T3 := ⟨a / (Nat.gcd (Nat.gcd a.natAbs b.natAbs) d : Nat), b / (Nat.gcd (Nat.gcd a.natAbs b.natAbs) d : Nat), d / Nat.gcd (Nat.gcd a.natAbs b.natAbs) d⟩
theorem abs_nat (i : Int) (S : Sto) : bi .abs [.int i] S = .ok (.int (i.natAbs : Nat)) S := by
  show R.ok (D.int (if i < 0 then -i else i)) S = _
  congr 2
  split <;> omega
theorem law_num {n : Nat} {a b : Int} {d : Nat} {S : Sto} (hd : 0 < d) : fn (n + 2) 51 [.int a, .int b, .int (d : Nat)] S = .ok (normT a b d).D S := by
  rw [fn_s (fd := Tx.t51.fd) rfl]
  have hg : 0 < Nat.gcd (Nat.gcd a.natAbs b.natAbs) d := Nat.gcd_pos_of_pos_right _ hd
  have w1 : ∀ S, fnN Tx.F Ex Tx.cs (n + 1) 50 [.int (a.natAbs : Nat), .int (b.natAbs : Nat)] S = .ok (.int (Nat.gcd a.natAbs b.natAbs : Nat)) S := fun S => near
  have w2 : ∀ S, fnN Tx.F Ex Tx.cs (n + 1) 50 [.int (Nat.gcd a.natAbs b.natAbs : Nat), .int (d : Nat)] S = .ok (.int (Nat.gcd (Nat.gcd a.natAbs b.natAbs) d : Nat)) S := fun S => near
  have f1 : ∀ (x : Int) S, binop .fdiv (.int x) (.int ((Nat.gcd (Nat.gcd a.natAbs b.natAbs) d : Nat) : Int)) S = .ok (.int (x / ((Nat.gcd (Nat.gcd a.natAbs b.natAbs) d : Nat) : Int))) S := fun x S => by
    rw [bop_fdiv S (by omega), Int.fdiv_eq_ediv_of_nonneg _ (by omega)]
  have G : ∀ S, ev (GG (n + 1)) (.ite (.cmp .gt (.var 2) (.cst (.int 1))) (.call 50 (.cons (.call 50 (.cons (.bi .abs (.cons (.var 0) .nil)) (.cons (.bi .abs (.cons (.var 1) .nil)) .nil))) (.cons (.var 2) .nil))) (.cst (.int 1))) [some (.int a), some (.int b), some (.int (d : Nat)), none] S = .ok (.int (Nat.gcd (Nat.gcd a.natAbs b.natAbs) d : Nat)) S := by
    intro S
    by_cases h : 1 < d
    · have h' : (1 : Int) < (d : Nat) := by omega
      simp [h, h', abs_nat, w1, w2]
    · have h' : ¬ (1 : Int) < (d : Nat) := by omega
      have : d = 1 := by omega
      simp [h, h', this]
  show runF (GG (n + 1)) Ex Tx.t51.fd _ _ = .ok (.tup [.int (a / _), .int (b / _), .int ((d / _ : Nat) : Int)]) S
  rw [Int.natCast_ediv]
  generalize (Nat.gcd (Nat.gcd a.natAbs b.natAbs) d) = g at *
  generalize hX : E.ite (.cmp .gt (.var 2) (.cst (.int 1))) (.call 50 (.cons (.call 50 (.cons (.bi .abs (.cons (.var 0) .nil)) (.cons (.bi .abs (.cons (.var 1) .nil)) .nil))) (.cons (.var 2) .nil))) (.cst (.int 1)) = X at *
  have bd : Tx.b51 = .cons (.asg (.nm 3) X) (.cons (.ret (.tup (.cons (.bin .fdiv (.var 0) (.var 3)) (.cons (.bin .fdiv (.var 1) (.var 3)) (.cons (.bin .fdiv (.var 2) (.var 3)) .nil))))) .nil) := by rw [← hX]; rfl
  simp [runF, Tx.t51, bd, G, f1]

structure okT (t : T3) : Prop where
  pos : 0 < t.d
  sd : t.d ≤ 1000
  sa : t.a.natAbs ≤ 1000
  sb : t.b.natAbs ≤ 1000
  low : Nat.gcd (Nat.gcd t.a.natAbs t.b.natAbs) t.d = 1
theorem norm_ok {a b : Int} {d : Nat} (hd : 0 < d) (h1 : d ≤ 1000) (h2 : a.natAbs ≤ 1000) (h3 : b.natAbs ≤ 1000) : okT (normT a b d) := by
  have hg : 0 < Nat.gcd (Nat.gcd a.natAbs b.natAbs) d := Nat.gcd_pos_of_pos_right _ hd
  have g0 := Nat.gcd_dvd_left (Nat.gcd a.natAbs b.natAbs) d
  have ga : Nat.gcd (Nat.gcd a.natAbs b.natAbs) d ∣ a.natAbs := Nat.dvd_trans g0 (Nat.gcd_dvd_left ..)
  have gb : Nat.gcd (Nat.gcd a.natAbs b.natAbs) d ∣ b.natAbs := Nat.dvd_trans g0 (Nat.gcd_dvd_right ..)
  have gd := Nat.gcd_dvd_right (Nat.gcd a.natAbs b.natAbs) d
  have na : (a / ((Nat.gcd (Nat.gcd a.natAbs b.natAbs) d : Nat) : Int)).natAbs = a.natAbs / Nat.gcd (Nat.gcd a.natAbs b.natAbs) d := by rw [Int.natAbs_ediv_of_dvd (Int.ofNat_dvd_left.mpr ga), Int.natAbs_natCast]
  have nb : (b / ((Nat.gcd (Nat.gcd a.natAbs b.natAbs) d : Nat) : Int)).natAbs = b.natAbs / Nat.gcd (Nat.gcd a.natAbs b.natAbs) d := by rw [Int.natAbs_ediv_of_dvd (Int.ofNat_dvd_left.mpr gb), Int.natAbs_natCast]
  refine ⟨?_, ?_, ?_, ?_, ?_⟩
  · exact Nat.div_pos (Nat.le_of_dvd hd gd) hg
  · exact Nat.le_trans (Nat.div_le_self ..) h1
  · show (a / _).natAbs ≤ _
    rw [na]
    exact Nat.le_trans (Nat.div_le_self ..) h2
  · show (b / _).natAbs ≤ _
    rw [nb]
    exact Nat.le_trans (Nat.div_le_self ..) h3
  · show Nat.gcd (Nat.gcd (a / _).natAbs (b / _).natAbs) (d / _) = 1
    rw [na, nb, Nat.gcd_div ga gb, Nat.gcd_div g0 gd]
    exact Nat.div_self hg
def outN (t : T3) : N4 := ⟨t.a / (Nat.gcd t.a.natAbs t.d : Nat), (t.d : Int) / (Nat.gcd t.a.natAbs t.d : Nat), t.b / (Nat.gcd t.b.natAbs t.d : Nat), (t.d : Int) / (Nat.gcd t.b.natAbs t.d : Nat)⟩
theorem sm_big {k : Nat} (h : k ≤ 1000) : big k := Nat.lt_of_le_of_lt h (by decide)
theorem outN_good {t : T3} (h : okT t) : (outN t).good := by
  have := h.pos
  exact ⟨good_red (by omega) (sm_big h.sa) (sm_big h.sd), good_red (by omega) (sm_big h.sb) (sm_big h.sd)⟩
theorem law_out {n : Nat} {t : T3} {S : Sto} (h : okT t) : fn (n + 3) 53 [t.D] S = .ok (outN t).D S := by
  rw [fn_s (fd := Tx.t53.fd) rfl]
  have hd : t.d < 2 ^ 8000 := Nat.lt_of_le_of_lt h.sd (by decide)
  have e1 : ∀ S, fnN Tx.F Ex Tx.cs (n + 2) 52 [.int t.a, .int (t.d : Nat)] S = _ := fun S => part (n := n) (S := S) h.pos hd
  have e2 : ∀ S, fnN Tx.F Ex Tx.cs (n + 2) 52 [.int t.b, .int (t.d : Nat)] S = _ := fun S => part (n := n) (S := S) h.pos hd
  have at2 : ∀ x y z : D, L2.atI [x, y, z] 2 = some z := fun _ _ _ => rfl
  simp [runF, Tx.t53, Tx.b53, T3.D, e1, e2, at2]
  rfl
theorem law_outs {n r : Nat} {ts : List T3} {S : Sto} (h : ∀ t ∈ ts, okT t) (hl : ts.length ≤ 1000) (hr : S[r]? = some (.lst (ts.map T3.D))) : fn (n + 4) 54 [.ref r] S = .ok (.tup (ts.map fun t => (outN t).D)) (S ++ [.lst (ts.map fun t => (outN t).D)]) := by
  rw [fn_s (fd := Tx.t54.fd) rfl]
  have e := ev_lcp (G := GG (n + 3)) (en := [some (.ref r), none]) (S := S) (own := [("each", 1)]) (elt := .call 53 (.cons (.var 1) .nil)) (p := .nm 1) (it := .seq (.var 0)) (s := ⟨ts.map T3.D, [(r, ts.map T3.D)]⟩) (S1 := S)
    (g := fun d => match d with | .tup [.int a, .int b, .int d] => (outN ⟨a, b, d.toNat⟩).D | _ => .non)
    (by simp [srcSeq, lstOf, hr]) (ok_one hr) (by simp; omega) (by
      intro d hd
      obtain ⟨t, ht, rfl⟩ := List.mem_map.mp hd
      have e1 : fnN Tx.F Ex Tx.cs (n + 3) 53 [t.D] S = _ := law_out (n := n) (S := S) (h t ht)
      exact ⟨[some (.ref r), some t.D], rfl, by simp [e1]; rfl⟩)
  have e2 : ((ts.map T3.D).map fun d => match d with | .tup [.int a, .int b, .int d] => (outN ⟨a, b, d.toNat⟩).D | _ => .non) = ts.map fun t => (outN t).D := by
    rw [List.map_map]
    rfl
  have e3 : ev (GG (n + 3)) _ _ S = _ := e.trans (by rw [e2])
  simp [runF, Tx.t54, Tx.b54, e3, tuple_ref (last_get S (.lst (ts.map fun t => (outN t).D)))]
theorem red_eq {a a' : Int} {d d' : Nat} (hd : 0 < d) (hd' : 0 < d') (h1 : a / (Nat.gcd a.natAbs d : Nat) = a' / (Nat.gcd a'.natAbs d' : Nat)) (h2 : (d : Int) / (Nat.gcd a.natAbs d : Nat) = (d' : Int) / (Nat.gcd a'.natAbs d' : Nat)) : a * d' = a' * d := by
  have k1 : ((Nat.gcd a.natAbs d : Nat) : Int) ∣ a := Int.ofNat_dvd_left.mpr (Nat.gcd_dvd_left ..)
  have k2 : ((Nat.gcd a.natAbs d : Nat) : Int) ∣ (d : Int) := Int.ofNat_dvd_left.mpr (by simpa using Nat.gcd_dvd_right a.natAbs d)
  have k3 : ((Nat.gcd a'.natAbs d' : Nat) : Int) ∣ a' := Int.ofNat_dvd_left.mpr (Nat.gcd_dvd_left ..)
  have k4 : ((Nat.gcd a'.natAbs d' : Nat) : Int) ∣ (d' : Int) := Int.ofNat_dvd_left.mpr (by simpa using Nat.gcd_dvd_right a'.natAbs d')
  generalize ((Nat.gcd a.natAbs d : Nat) : Int) = g at *
  generalize ((Nat.gcd a'.natAbs d' : Nat) : Int) = g' at *
  have e1 := Int.ediv_mul_cancel k1
  have e2 := Int.ediv_mul_cancel k2
  have e3 := Int.ediv_mul_cancel k3
  have e4 := Int.ediv_mul_cancel k4
  rw [← e1, ← e2, ← e3, ← e4, h1, h2]
  generalize a' / g' = x
  generalize (d' : Int) / g' = y
  rw [Int.mul_assoc, Int.mul_assoc, Int.mul_comm g, Int.mul_comm g', Int.mul_assoc, Int.mul_assoc]
  congr 1
  congr 1
  exact Int.mul_comm ..
theorem low_dvd {a b a' b' : Int} {d d' : Nat} (h : Nat.gcd (Nat.gcd a.natAbs b.natAbs) d = 1) (e1 : a * d' = a' * d) (e2 : b * d' = b' * d) : d ∣ d' := by
  have f1 : d ∣ a.natAbs * d' := ⟨a'.natAbs, by
    have := congrArg Int.natAbs e1
    rw [Int.natAbs_mul, Int.natAbs_mul, Int.natAbs_natCast, Int.natAbs_natCast] at this
    rw [this, Nat.mul_comm]⟩
  have f2 : d ∣ b.natAbs * d' := ⟨b'.natAbs, by
    have := congrArg Int.natAbs e2
    rw [Int.natAbs_mul, Int.natAbs_mul, Int.natAbs_natCast, Int.natAbs_natCast] at this
    rw [this, Nat.mul_comm]⟩
  have f3 : d ∣ Nat.gcd a.natAbs b.natAbs * d' := by rw [← Nat.gcd_mul_right]; exact Nat.dvd_gcd f1 f2
  have f4 : d ∣ Nat.gcd (Nat.gcd a.natAbs b.natAbs) d * d' := by rw [← Nat.gcd_mul_right]; exact Nat.dvd_gcd f3 (Nat.dvd_mul_right ..)
  rw [h, Nat.one_mul] at f4
  exact f4
theorem outN_inj {s t : T3} (hs : okT s) (ht : okT t) (h : outN s = outN t) : s = t := by
  have h1 := congrArg N4.a h
  have h2 := congrArg N4.b h
  have h3 := congrArg N4.c h
  have h4 := congrArg N4.d h
  have e1 := red_eq hs.pos ht.pos h1 h2
  have e2 := red_eq hs.pos ht.pos h3 h4
  have ed : s.d = t.d := Nat.dvd_antisymm (low_dvd hs.low e1 e2) (low_dvd ht.low e1.symm e2.symm)
  rw [ed] at e1 e2
  have hp : (t.d : Int) ≠ 0 := by have := ht.pos; omega
  have ea := Int.eq_of_mul_eq_mul_right hp e1
  have eb := Int.eq_of_mul_eq_mul_right hp e2
  cases s; cases t
  simp_all
theorem within_out {t : T3} (h : okT t) (hw : t.a * t.a + t.b * t.b < t.d * t.d) : inDisc (outN t) = true := by
  have hd := h.pos
  have k1 : ((Nat.gcd t.a.natAbs t.d : Nat) : Int) ∣ t.a := Int.ofNat_dvd_left.mpr (Nat.gcd_dvd_left ..)
  have k2 : ((Nat.gcd t.a.natAbs t.d : Nat) : Int) ∣ (t.d : Int) := Int.ofNat_dvd_left.mpr (by simpa using Nat.gcd_dvd_right t.a.natAbs t.d)
  have k3 : ((Nat.gcd t.b.natAbs t.d : Nat) : Int) ∣ t.b := Int.ofNat_dvd_left.mpr (Nat.gcd_dvd_left ..)
  have k4 : ((Nat.gcd t.b.natAbs t.d : Nat) : Int) ∣ (t.d : Int) := Int.ofNat_dvd_left.mpr (by simpa using Nat.gcd_dvd_right t.b.natAbs t.d)
  have g1 : 0 < ((Nat.gcd t.a.natAbs t.d : Nat) : Int) := by have := Nat.gcd_pos_of_pos_right t.a.natAbs hd; omega
  have g2 : 0 < ((Nat.gcd t.b.natAbs t.d : Nat) : Int) := by have := Nat.gcd_pos_of_pos_right t.b.natAbs hd; omega
  unfold inDisc within outN
  simp only
  generalize ((Nat.gcd t.a.natAbs t.d : Nat) : Int) = g at *
  generalize ((Nat.gcd t.b.natAbs t.d : Nat) : Int) = k at *
  have e1 := Int.ediv_mul_cancel k1
  have e2 := Int.ediv_mul_cancel k2
  have e3 := Int.ediv_mul_cancel k3
  have e4 := Int.ediv_mul_cancel k4
  generalize t.a / g = x at *
  generalize (t.d : Int) / g = y at *
  generalize t.b / k = z at *
  generalize (t.d : Int) / k = u at *
  have hd' : (0 : Int) < t.d := by omega
  apply decide_eq_true
  have m : 0 < g * k * (g * k) := Int.mul_pos (Int.mul_pos g1 g2) (Int.mul_pos g1 g2)
  refine Int.lt_of_mul_lt_mul_right (a := g * k * (g * k)) ?_ (Int.le_of_lt m)
  have l : (x * x * u * u + z * z * y * y) * (g * k * (g * k)) = (t.a * t.a + t.b * t.b) * (t.d * t.d) := by
    rw [← e1, ← e3]
    have : (t.d : Int) * t.d = (u * k) * (u * k) := by rw [e4]
    rw [Int.add_mul, Int.add_mul]
    congr 1
    · rw [this]; simp only [Int.mul_assoc, Int.mul_comm, Int.mul_left_comm]
    · have : (t.d : Int) * t.d = (y * g) * (y * g) := by rw [e2]
      rw [this]; simp only [Int.mul_assoc, Int.mul_comm, Int.mul_left_comm]
  have r : y * y * u * u * (g * k * (g * k)) = (t.d * t.d) * (t.d * t.d) := by
    have a1 : (t.d : Int) * t.d = (y * g) * (y * g) := by rw [e2]
    have a2 : (t.d : Int) * t.d = (u * k) * (u * k) := by rw [e4]
    have : ((t.d : Int) * t.d) * (t.d * t.d) = ((y * g) * (y * g)) * ((u * k) * (u * k)) := by rw [← a1, ← a2]
    rw [this]
    simp only [Int.mul_assoc, Int.mul_comm, Int.mul_left_comm]
  rw [l, r]
  exact Int.mul_lt_mul_of_pos_right hw (Int.mul_pos hd' hd')
/-! entries -/
structure Ent where
  nm : List Nat
  pl : T3
  vs : List T3
  tr : Nat
def Ent.B (e : Ent) : D := .tup [.str e.nm, (outN e.pl).D, .tup (e.vs.map fun v => (outN v).D)]
def Ent.L (e : Ent) : D := .tup [.str e.nm, e.pl.D, .ref e.tr]
def Ent.P (e : Ent) : PR := (outN e.pl, e.vs.map outN)
def nameOk (w : List Nat) : Prop := 1 ≤ w.length ∧ w.length ≤ 8 ∧ ∀ c ∈ w, 97 ≤ c ∧ c ≤ 122
def okPl (t : T3) : Prop := okT t ∧ inDisc (outN t) = true
structure okE (e : Ent) : Prop where
  nm : nameOk e.nm
  pl : okPl e.pl
  v1 : 1 ≤ e.vs.length
  v3 : e.vs.length ≤ 3
  vs : ∀ v ∈ e.vs, okT v
def cntE (es : List Ent) : Nat := (es.map fun e => e.vs.length).sum
theorem cntE_P (es : List Ent) : cntV (es.map Ent.P) = cntE es := by
  unfold cntV cntE
  rw [List.map_map]
  congr 2
  funext e
  simp [Ent.P]
theorem cntE_len {es : List Ent} (h : ∀ e ∈ es, okE e) : es.length ≤ cntE es := by
  induction es with
  | nil => simp
  | cons e r ih =>
    have := ih fun x hx => h x (List.mem_cons_of_mem _ hx)
    have := (h e (by simp)).v1
    simp only [cntE, List.map_cons, List.sum_cons, List.length_cons] at *
    omega
/-! what is shown -/
mutual
def plainW : PyData → Bool
  | .none => true
  | .bool _ => true
  | .int i => decide (i.natAbs.log2 < 1920)
  | .str x => decide (x.length ≤ 20) && x.cps.toList.all (· < 0x110000)
  | .list xs => plainWL xs
  | .tuple xs => plainWL xs
  | _ => false
def plainWL : List PyData → Bool
  | [] => true
  | x :: r => plainW x && plainWL r
end
mutual
theorem shownW_le : ∀ d : PyData, plainW d = true → d.showable = true ∧ d.shown.length + 10 ≤ 720 * nodes d
  | .none, _ => ⟨rfl, by decide⟩
  | .bool b, _ => ⟨rfl, by cases b <;> decide⟩
  | .int i, h => by
    have h : decide (i.natAbs.log2 < 1920) = true := h
    refine ⟨h, ?_⟩
    have := int_len (by simpa using h)
    show _ ≤ 720 * 1
    omega
  | .list xs, h => by
    obtain ⟨a, b⟩ := shownWL_le xs h
    refine ⟨a, ?_⟩
    have := listText_le (PyData.shownAll xs)
    show (listText (PyData.shownAll xs)).length + 10 ≤ 720 * (nodesL xs + 1)
    omega
  | .tuple xs, h => by
    obtain ⟨a, b⟩ := shownWL_le xs h
    refine ⟨a, ?_⟩
    have := tupleText_le (PyData.shownAll xs)
    show (tupleText (PyData.shownAll xs)).length + 10 ≤ 720 * (nodesL xs + 1)
    omega
  | .str x, h => by
    obtain ⟨h1, h2⟩ := Bool.and_eq_true_iff.mp (show (decide (x.length ≤ 20) && x.cps.toList.all (· < 0x110000)) = true from h)
    have h3 := of_decide_eq_true h1
    have := PySem.StrLaws.reprText_len x fun c hc => by
      have := List.all_eq_true.mp h2 c hc
      have : c < 0x110000 := by simpa using this
      exact Nat.lt_trans this (by decide)
    refine ⟨rfl, ?_⟩
    show (reprText x).length + 10 ≤ 720 * 1
    omega
  | .dict _, h => by cases h
theorem shownWL_le : ∀ xs : List PyData, plainWL xs = true → PyData.showableAll xs = true ∧ piled (PyData.shownAll xs) ≤ 720 * nodesL xs
  | [], _ => ⟨rfl, by decide⟩
  | x :: r, h => by
    obtain ⟨h1, h2⟩ := Bool.and_eq_true_iff.mp (show (plainW x && plainWL r) = true from h)
    obtain ⟨a1, b1⟩ := shownW_le x h1
    obtain ⟨a2, b2⟩ := shownWL_le r h2
    refine ⟨?_, ?_⟩
    · show (PyData.showable x && PyData.showableAll r) = true
      rw [a1, a2]; rfl
    · show piled (PyData.shown x :: PyData.shownAll r) ≤ 720 * (nodes x + nodesL r)
      rw [piled_cons]
      omega
end
theorem repr_ok {S : Sto} {a : Ev.D} {p : PyData} (h : toP S 20 a = some p) (h1 : plainW p = true) (h2 : nodes p ≤ 20000) : reprD S a = some p.shown.cps.toList := by
  obtain ⟨a, b⟩ := shownW_le p h1
  exact repr_of h a (by omega)
end Pl
end
section
set_option Elab.async false
set_option linter.all false
set_option maxRecDepth 100000
set_option maxHeartbeats 4000000
set_option autoImplicit false
set_option exponentiation.threshold 10000
/-! X2: k84: what the package asks of names, places, values, entries. -/
namespace Pl
open Ev Gr PySem
@[simp] theorem g_SL : Tx.cs[9]? = some (.str [97, 98, 99, 100, 101, 102, 103, 104, 105, 106, 107, 108, 109, 110, 111, 112, 113, 114, 115, 116, 117, 118, 119, 120, 121, 122]) := rfl
@[simp] theorem g_ML : Tx.cs[10]? = some (.int 8) := rfl
abbrev abc : List Nat := [97, 98, 99, 100, 101, 102, 103, 104, 105, 106, 107, 108, 109, 110, 111, 112, 113, 114, 115, 116, 117, 118, 119, 120, 121, 122]
theorem abc_mem {c : Nat} : c ∈ abc ↔ 97 ≤ c ∧ c ≤ 122 := by
  simp [abc]
  omega
theorem all_ok {S : Sto} {r : Nat} {xs : List D} (h : S[r]? = some (.lst xs)) (ha : ∀ d ∈ xs, d = .bl true) : bi .all [.ref r] S = .ok (.bl true) S := by
  have e := blsOf_true xs ha
  show R.of (((lstOf S (.ref r)).bind blsOf).map fun is => D.bl (is.all id)) S = _
  have : lstOf S (.ref r) = some xs := by simp [lstOf, h]
  rw [this, Option.bind_some, e]
  simp
theorem ev_chain {G : Gm} {o p : Cm} {a b c : E} {en : En} {S : Sto} {x y z : D} {k : Bool} (h1 : ev G a en S = .ok x S) (h2 : ev G b en S = .ok y S) (h3 : cmpop o x y S = some true) (h4 : ev G c en S = .ok z S) (h5 : cmpop p y z S = some k) : ev G (.chain o p a b c) en S = .ok (.bl k) S := by
  rw [ev, h1, R.bind_ok, h2, R.bind_ok, h3]
  show (ev G c en S).bind _ = _
  rw [h4, R.bind_ok, h5]
  rfl
def Ent.Q (e : Ent) : D := pD e.P
theorem Q_eq (es : List Ent) : (es.map Ent.P).map pD = es.map Ent.Q := by rw [List.map_map]; rfl
theorem is_a_name {n : Nat} {w : List Nat} {S : Sto} (h : nameOk w) : fn (n + 1) 38 [.str w] S = .ok (.bl true) (S ++ [.lst (w.map fun _ => .bl true)]) := by
  rw [fn_s (fd := Tx.t38.fd) rfl]
  obtain ⟨h1, h2, h3⟩ := h
  have e := ev_lcp (G := GG n) (en := [some (.str w), none]) (S := S) (own := [("sign", 1)]) (elt := .cmp .isin (.var 1) (.glb 9)) (p := .nm 1) (it := .seq (.var 0)) (s := ⟨w.map fun c => .str [c], []⟩) (S1 := S) (g := fun _ => .bl true)
    (by simp [srcSeq]) (by simp) (by simp; omega) (by
      intro d hd
      obtain ⟨c, hc, rfl⟩ := List.mem_map.mp hd
      refine ⟨[some (.str w), some (.str [c])], rfl, ?_⟩
      have m : memS S (.str [c]) (.str abc) = some true := by
        show some (decide (c ∈ abc)) = _
        rw [decide_eq_true (abc_mem.mpr (h3 c hc))]
      simp [m])
  have e2 : ((w.map fun c => D.str [c]).map fun _ => D.bl true) = w.map fun _ => .bl true := by simp
  have e3 : ev (GG n) _ _ S = _ := e.trans (by rw [e2])
  have l1 : w.length ≤ 16777216 := by omega
  have l2 : (1 : Int) ≤ (w.length : Nat) := by omega
  have l3 : ((w.length : Nat) : Int) ≤ 8 := by omega
  have a := all_ok (last_get S (.lst (w.map fun _ => D.bl true))) (by simp)
  have ty : bi (.isin .str) [.str w] S = .ok (.bl true) S := rfl
  have ln : bi .len [.str w] S = .ok (.int (w.length : Nat)) S := if_pos l1
  have ch : ev (GG n) (.chain .le .le (.cst (.int 1)) (.bi .len (.cons (.var 0) .nil)) (.glb 10)) [some (.str w), none] S = .ok (.bl true) S := ev_chain (x := .int 1) (y := .int (w.length : Nat)) (z := .int 8) (by simp) (by simp [ln]) (by simp [l2]) (by simp) (by simp [l3])
  simp [runF, Tx.t38, Tx.b38, e3, ty, ch, a]
theorem check_name {n : Nat} {w : List Nat} {S : Sto} (h : nameOk w) : Rv (fn (n + 2) 44 [.str w] S) S .non := by
  rw [fn_s (fd := Tx.t44.fd) rfl]
  have e : fnN Tx.F Ex Tx.cs (n + 1) 38 [.str w] S = _ := is_a_name (n := n) h
  refine ⟨S ++ [.lst (w.map fun _ => .bl true)], ?_, pre_snoc ..⟩
  simp [runF, Tx.t44, Tx.b44, e]
theorem check_place {n : Nat} {z : N4} {S : Sto} (h : z.good) (hd : inDisc z = true) : fn (n + 5) 37 [z.D] S = .ok .non S := by
  rw [fn_s (fd := Tx.t37.fd) rfl]
  have e : fnN Tx.F Ex Tx.cs (n + 4) 19 [z.D] S = _ := is_place_ok (n := n) h hd
  simp [runF, Tx.t37, Tx.b37, e]
theorem wrong_in_values {n : Nat} {zs : List N4} {S0 : Sto} (h : ∀ z ∈ zs, z.good) (h1 : 1 ≤ zs.length) (h3 : zs.length ≤ 3) : Rl (fn (n + 4) 39 [.tup (zs.map N4.D)] S0) S0 [] := by
  rw [fn_s (fd := Tx.t39.fd) rfl]
  obtain ⟨S, e, hS⟩ := ev_lc (G := GG (n + 3)) (en := [some (.tup (zs.map N4.D)), none, none]) (S := S0) (own := [("at", 1), ("each", 2)]) (elt := .var 1) (p := .tup [.nm 1, .nm 2]) (it := .enum (.var 0)) (c := .some (.not (.call 3 (.cons (.var 2) .nil)))) (s := ⟨enumD (zs.map N4.D), []⟩) (S1 := S0) (I := fun S' => S' = S0) (g := fun _ => none)
    (by simp [srcEnum]) rfl (fun _ _ => ok_nil _ _) (by simp [enumD]; omega) (by
      intro d hd S' hS
      subst hS
      unfold enumD at hd
      obtain ⟨⟨x, i⟩, hm, rfl⟩ := List.mem_map.mp hd
      obtain ⟨z, hz, rfl⟩ : ∃ z, z ∈ zs ∧ x = z.D := by
        have q := List.fst_mem_of_mem_zipIdx hm
        obtain ⟨z, hz, e⟩ := List.mem_map.mp q
        exact ⟨z, hz, e.symm⟩
      refine ⟨[some (.tup (zs.map N4.D)), some (.int (i : Nat)), some z.D], rfl, Or.inl ⟨S', ?_, rfl, rfl⟩⟩
      have e1 : fnN Tx.F Ex Tx.cs (n + 3) 3 [z.D] S' = _ := is_num_ok (n := n) (h z hz)
      simp [e1])
  subst hS
  have e2 : (enumD (zs.map N4.D)).filterMap (fun _ => (none : Option D)) = [] := by simp
  have e3 : ev (GG (n + 3)) _ _ S = _ := e.trans (by rw [e2])
  have l2 : (1 : Int) ≤ (zs.length : Nat) := by omega
  have l3 : ((zs.length : Nat) : Int) ≤ 3 := by omega
  have ty : bi (.isin .tuple) [.tup (zs.map N4.D)] S = .ok (.bl true) S := rfl
  have ln : bi .len [.tup (zs.map N4.D)] S = .ok (.int (zs.length : Nat)) S := by simp [bi]
  have sl : slD (.ref S.length) none (some 1) (S ++ [.lst []]) = .ok (.ref (S ++ [Ob.lst []]).length) ((S ++ [.lst []]) ++ [.lst []]) := by simp [slD, lstOf]
  refine ⟨(S ++ [Ob.lst []]).length, (S ++ [.lst []]) ++ [.lst []], ?_, (pre_snoc ..).trans (pre_snoc ..), last_get ..⟩
  have ch : ev (GG (n + 3)) (.chain .le .le (.cst (.int 1)) (.bi .len (.cons (.var 0) .nil)) (.glb 4)) [some (.tup (zs.map N4.D)), none, none] S = .ok (.bl true) S := ev_chain (x := .int 1) (y := .int (zs.length : Nat)) (z := .int 3) (by simp) (by simp [ln]) (by simp [l2]) (by simp) (by simp [l3])
  simp [runF, Tx.t39, Tx.b39, e3, ty, ch, sl]
theorem check_values {n : Nat} {zs : List N4} {S : Sto} (h : ∀ z ∈ zs, z.good) (h1 : 1 ≤ zs.length) (h3 : zs.length ≤ 3) : Rv (fn (n + 5) 45 [.tup (zs.map N4.D)] S) S .non := by
  rw [fn_s (fd := Tx.t45.fd) rfl]
  obtain ⟨k, S', e, p, g⟩ := wrong_in_values (n := n) (S0 := S) h h1 h3
  have e' : fnN Tx.F Ex Tx.cs (n + 4) 39 [.tup (zs.map N4.D)] S = _ := e
  refine ⟨S', ?_, p⟩
  have o := ok_one (xs := []) g
  have f := exec_for (GG (n + 4)) [some (.tup (zs.map N4.D)), none] S Ex (.nm 1) (.seq (.call 39 (.cons (.var 0) .nil))) (.cons (.rai 4 (.cons (.var 1) .nil)) .nil)
  have f2 : evi (GG (n + 4)) (.seq (.call 39 (.cons (.var 0) .nil))) [some (.tup (zs.map N4.D)), none] S = .ok ⟨[], [(k, [])]⟩ S' := by simp [e', srcSeq, lstOf, g]
  rw [f2, R.then_ok, forL_nil o] at f
  simp [runF, Tx.t45, Tx.b45, f]
theorem data_of {n : Nat} {es : List Ent} {S : Sto} (hl : es.length ≤ 1000) : fn (n + 1) 40 [.tup (es.map Ent.B)] S = .ok (.tup (es.map Ent.Q)) (S ++ [.lst (es.map Ent.Q)]) := by
  rw [fn_s (fd := Tx.t40.fd) rfl]
  have e := ev_lcp (G := GG n) (en := [some (.tup (es.map Ent.B)), none, none, none]) (S := S) (own := [("_", 1), ("place", 2), ("values", 3)]) (elt := .tup (.cons (.var 2) (.cons (.var 3) .nil))) (p := .tup [.nm 1, .nm 2, .nm 3]) (it := .seq (.var 0)) (s := ⟨es.map Ent.B, []⟩) (S1 := S) (g := fun d => match d with | .tup [_, b, c] => .tup [b, c] | _ => .non)
    (by simp [srcSeq]) (by simp) (by simp; omega) (by
      intro d hd
      obtain ⟨p, _, rfl⟩ := List.mem_map.mp hd
      exact ⟨[some (.tup (es.map Ent.B)), some (.str p.nm), some (outN p.pl).D, some (.tup (p.vs.map fun v => (outN v).D))], rfl, by simp [Ent.B]⟩)
  have e2 : ((es.map Ent.B).map fun d => match d with | .tup [_, b, c] => D.tup [b, c] | _ => .non) = es.map Ent.Q := by
    rw [List.map_map]
    congr 1
    funext x
    simp [Ent.B, Ent.Q, Ent.P, pD, Function.comp_def]
  have e3 : ev (GG n) _ _ S = _ := e.trans (by rw [e2])
  simp only [runF, Tx.t40, Tx.b40]
  simp [e3, tuple_ref (last_get S (.lst (es.map Ent.Q)))]
theorem names_of {n : Nat} {es : List Ent} {S : Sto} (hl : es.length ≤ 1000) : fn (n + 1) 41 [.tup (es.map Ent.B)] S = .ok (.tup (es.map fun e => .str e.nm)) (S ++ [.lst (es.map fun e => .str e.nm)]) := by
  rw [fn_s (fd := Tx.t41.fd) rfl]
  have e := ev_lcp (G := GG n) (en := [some (.tup (es.map Ent.B)), none, none]) (S := S) (own := [("name", 1), ("_", 2)]) (elt := .var 1) (p := .tup [.nm 1, .nm 2, .nm 2]) (it := .seq (.var 0)) (s := ⟨es.map Ent.B, []⟩) (S1 := S) (g := fun d => match d with | .tup [a, _, _] => a | _ => .non)
    (by simp [srcSeq]) (by simp) (by simp; omega) (by
      intro d hd
      obtain ⟨p, _, rfl⟩ := List.mem_map.mp hd
      exact ⟨[some (.tup (es.map Ent.B)), some (.str p.nm), some (.tup (p.vs.map fun v => (outN v).D))], rfl, by simp [Ent.B]⟩)
  have e2 : ((es.map Ent.B).map fun d => match d with | .tup [a, _, _] => a | _ => D.non) = es.map fun e => .str e.nm := by
    rw [List.map_map]
    rfl
  have e3 : ev (GG n) _ _ S = _ := e.trans (by rw [e2])
  simp only [runF, Tx.t41, Tx.b41]
  simp [e3, tuple_ref (last_get S (.lst (es.map fun e => .str e.nm)))]
def chg (nm : List Nat) (vs : List T3) (tr : Nat) (e : Ent) : Ent := if e.nm = nm then ⟨e.nm, e.pl, vs, tr⟩ else e
def chgs (nm : List Nat) (vs : List T3) (tr : Nat) (es : List Ent) : List Ent := es.map (chg nm vs tr)
theorem entry_changed {n tr : Nat} {es : List Ent} {nm : List Nat} {vs : List T3} {S : Sto} (hl : es.length ≤ 1000) : fn (n + 1) 42 [.tup (es.map Ent.B), .str nm, .tup (vs.map fun v => (outN v).D)] S = .ok (.tup ((chgs nm vs tr es).map Ent.B)) (S ++ [.lst ((chgs nm vs tr es).map Ent.B)]) := by
  rw [fn_s (fd := Tx.t42.fd) rfl]
  have e := ev_lcp (G := GG n) (en := [some (.tup (es.map Ent.B)), some (.str nm), some (.tup (vs.map fun v => (outN v).D)), none, none, none]) (S := S) (own := [("each", 3), ("place", 4), ("old", 5)]) (elt := .tup (.cons (.var 3) (.cons (.var 4) (.cons (.ite (.cmp .eq (.var 3) (.var 1)) (.var 2) (.var 5)) .nil)))) (p := .tup [.nm 3, .nm 4, .nm 5]) (it := .seq (.var 0)) (s := ⟨es.map Ent.B, []⟩) (S1 := S)
    (g := fun d => match d with | .tup [.str a, b, c] => .tup [.str a, b, if a = nm then .tup (vs.map fun v => (outN v).D) else c] | _ => .non)
    (by simp [srcSeq]) (by simp) (by simp; omega) (by
      intro d hd
      obtain ⟨p, _, rfl⟩ := List.mem_map.mp hd
      refine ⟨[some (.tup (es.map Ent.B)), some (.str nm), some (.tup (vs.map fun v => (outN v).D)), some (.str p.nm), some (outN p.pl).D, some (.tup (p.vs.map fun v => (outN v).D))], rfl, ?_⟩
      by_cases h : p.nm = nm <;> simp [Ent.B, h])
  have e2 : ((es.map Ent.B).map fun d => match d with | .tup [.str a, b, c] => D.tup [.str a, b, if a = nm then .tup (vs.map fun v => (outN v).D) else c] | _ => .non) = (chgs nm vs tr es).map Ent.B := by
    unfold chgs
    rw [List.map_map, List.map_map]
    congr 1
    funext x
    unfold chg
    by_cases h : x.nm = nm <;> simp [Ent.B, h]
  have e3 : ev (GG n) _ _ S = _ := e.trans (by rw [e2])
  simp only [runF, Tx.t42, Tx.b42]
  simp [e3, tuple_ref (last_get S (.lst ((chgs nm vs tr es).map Ent.B)))]
def wout (nm : List Nat) (es : List Ent) : List Ent := es.filter fun e => !decide (e.nm = nm)
theorem entries_without {n : Nat} {es : List Ent} {nm : List Nat} {S : Sto} (hl : es.length ≤ 1000) : fn (n + 1) 43 [.tup (es.map Ent.B), .str nm] S = .ok (.tup ((wout nm es).map Ent.B)) (S ++ [.lst ((wout nm es).map Ent.B)]) := by
  rw [fn_s (fd := Tx.t43.fd) rfl]
  obtain ⟨S', e, rfl⟩ := ev_lc (G := GG n) (en := [some (.tup (es.map Ent.B)), some (.str nm), none]) (S := S) (own := [("entry", 2)]) (elt := .var 2) (p := .nm 2) (it := .seq (.var 0)) (c := .some (.cmp .ne (.ix (.var 2) (.cst (.int 0))) (.var 1))) (s := ⟨es.map Ent.B, []⟩) (S1 := S) (I := fun S' => S' = S)
    (g := fun d => match d with | .tup (.str a :: _) => if a = nm then none else some d | _ => none)
    (by simp [srcSeq]) rfl (fun _ _ => ok_nil _ _) (by simp; omega) (by
      intro d hd S' hS
      subst hS
      obtain ⟨p, _, rfl⟩ := List.mem_map.mp hd
      refine ⟨[some (.tup (es.map Ent.B)), some (.str nm), some p.B], rfl, ?_⟩
      by_cases h : p.nm = nm
      · exact Or.inl ⟨S', by simp [Ent.B, h], by simp [Ent.B, h], rfl⟩
      · exact Or.inr ⟨S', p.B, S', by simp [Ent.B, h], by simp, by simp [Ent.B, h], rfl⟩)
  have e2 : (es.map Ent.B).filterMap (fun d => match d with | .tup (.str a :: _) => if a = nm then none else some d | _ => none) = (wout nm es).map Ent.B := by
    unfold wout
    rw [List.filterMap_map]
    clear hl e
    induction es with
    | nil => rfl
    | cons x r ih =>
      by_cases h : x.nm = nm
      · rw [List.filterMap_cons_none (by simp [Ent.B, h]), List.filter_cons_of_neg (by simp [h])]
        exact ih
      · rw [List.filterMap_cons_some (b := x.B) (by simp [Ent.B, h]), List.filter_cons_of_pos (by simp [h]), List.map_cons, ih]
  have e3 : ev (GG n) _ _ S' = _ := e.trans (by rw [e2])
  simp only [runF, Tx.t43, Tx.b43]
  simp [e3, tuple_ref (last_get S' (.lst ((wout nm es).map Ent.B)))]
theorem count_ents {n : Nat} {es : List Ent} {S : Sto} (hl : es.length ≤ 1000) : Rv (fn (n + 1) 21 [.tup (es.map Ent.Q)] S) S (.int (cntE es : Nat)) := by
  have := count_values (n := n) (ps := es.map Ent.P) (S := S) (by simp; omega)
  rw [cntE_P, Q_eq] at this
  exact this
theorem check_room {n : Nat} {es : List Ent} {S : Sto} (hl : es.length ≤ 1000) (ho : es.length ≤ cntE es) : ∃ S', fn (n + 2) 46 [.tup (es.map Ent.B)] S = (if 6 < cntE es then .ex ⟨7, []⟩ S' else .ok .non S') ∧ S <+: S' := by
  rw [fn_s (fd := Tx.t46.fd) rfl]
  by_cases h6 : 6 < es.length
  · refine ⟨S, ?_, List.prefix_rfl⟩
    rw [if_pos (by omega)]
    have l : (6 : Int) < (es.length : Nat) := by omega
    simp [runF, Tx.t46, Tx.b46, l, bi]
    rfl
  · have e1 : fnN Tx.F Ex Tx.cs (n + 1) 40 [.tup (es.map Ent.B)] S = _ := data_of (n := n) hl
    obtain ⟨S', e2, p⟩ := count_ents (n := n) (S := S ++ [.lst (es.map Ent.Q)]) hl
    have e2' : fnN Tx.F Ex Tx.cs (n + 1) 21 [.tup (es.map Ent.Q)] (S ++ [.lst (es.map Ent.Q)]) = _ := e2
    refine ⟨S', ?_, (pre_snoc ..).trans p⟩
    have l : ¬ (6 : Int) < (es.length : Nat) := by omega
    by_cases h : 6 < cntE es
    · have h' : (6 : Int) < (cntE es : Nat) := by omega
      rw [if_pos h]
      simp [runF, Tx.t46, Tx.b46, l, bi, e1, e2', h']
      rfl
    · have h' : ¬ (6 : Int) < (cntE es : Nat) := by omega
      rw [if_neg h]
      simp [runF, Tx.t46, Tx.b46, l, bi, e1, e2', h']
end Pl
end
section
set_option Elab.async false
set_option linter.all false
set_option maxRecDepth 100000
set_option maxHeartbeats 4000000
set_option autoImplicit false
set_option exponentiation.threshold 10000
/-! X3: k84: a book. -/
namespace Pl
open Ev Gr PySem
def bkF (t d : D) (q : Nat) : List (Str × D) := [("_bound", t), ("_entries", d), ("_past", .ref q)]
def tupB (es : List Ent) : D := .tup (es.map Ent.B)
structure Bk (S : Sto) (p q : Nat) (t : D) (es : List Ent) (pss : List (List Ent)) : Prop where
  at_ : S[p]? = some (.ins 0 (bkF t (tupB es) q))
  past : S[q]? = some (.lst (pss.map tupB))
theorem Bk.fr {P : Nat → Prop} {S S' : Sto} {p q : Nat} {t : D} {es : List Ent} {pss : List (List Ent)} (h : Bk S p q t es pss) (f : Fr P S S') (hp : ¬ P p) (hq : ¬ P q) : Bk S' p q t es pss := ⟨f _ _ hp h.at_, f _ _ hq h.past⟩
theorem Bk.pre {S S' : Sto} {p q : Nat} {t : D} {es : List Ent} {pss : List (List Ent)} (h : Bk S p q t es pss) (f : S <+: S') : Bk S' p q t es pss := ⟨pre_get f h.at_, pre_get f h.past⟩
theorem Bk.ne {S : Sto} {p q : Nat} {t : D} {es : List Ent} {pss : List (List Ent)} (h : Bk S p q t es pss) : p ≠ q := fun e => by
  have := h.at_
  rw [e, h.past] at this
  cases this
section
variable {S : Sto} {p q : Nat} {t d : D}
theorem f_bound (h : S[p]? = some (.ins 0 (bkF t d q))) : fldD S (.ref p) 0 "_bound" = some t := by unfold fldD; simp only [h]; rfl
theorem f_ents (h : S[p]? = some (.ins 0 (bkF t d q))) : fldD S (.ref p) 0 "_entries" = some d := by unfold fldD; simp only [h]; rfl
theorem f_past (h : S[p]? = some (.ins 0 (bkF t d q))) : fldD S (.ref p) 0 "_past" = some (.ref q) := by unfold fldD; simp only [h]; rfl
theorem i_of (h : S[p]? = some (.ins 0 (bkF t d q))) {m : Str} (hm : ((bkF t d q).lookup m).isNone = true) : isIns 0 m (.ref p) S = true := by unfold isIns; simp only [h, hm]; rfl
theorem s_ents (h : S[p]? = some (.ins 0 (bkF t d q))) (x : D) : setFld (.ref p) 0 "_entries" x S = some (S.set p (.ins 0 (bkF t x q))) := by unfold setFld; simp only [h]; rfl
theorem s_past (h : S[p]? = some (.ins 0 (bkF t d q))) (k : Nat) : setFld (.ref p) 0 "_past" (.ref k) S = some (S.set p (.ins 0 (bkF t d k))) := by unfold setFld; simp only [h]; rfl
theorem s_1 (h : S[p]? = some (.ins 0 [])) (x : D) : setFld (.ref p) 0 "_bound" x S = some (S.set p (.ins 0 [("_bound", x)])) := by unfold setFld; simp only [h]; rfl
theorem s_2 (h : S[p]? = some (.ins 0 [("_bound", t)])) (x : D) : setFld (.ref p) 0 "_entries" x S = some (S.set p (.ins 0 [("_bound", t), ("_entries", x)])) := by unfold setFld; simp only [h]; rfl
theorem s_3 (h : S[p]? = some (.ins 0 [("_bound", t), ("_entries", d)])) (k : Nat) : setFld (.ref p) 0 "_past" (.ref k) S = some (S.set p (.ins 0 (bkF t d k))) := by unfold setFld; simp only [h]; rfl
end
theorem check_bound {n : Nat} {a b : Int} {S : Sto} (h : isFr a b) (ha : 0 < a) : fn (n + 4) 36 [fr a b] S = .ok .non S := by
  rw [fn_s (fd := Tx.t36.fd) rfl]
  have e1 : ∀ S, fnN Tx.F Ex Tx.cs (n + 2) 2 [fr a b] S = _ := fun S => is_frac_fr (n := n) h
  have e2 : ∀ S, fnN Tx.F Ex Tx.cs (n + 3) 20 [fr a b] S = .ok (.bl true) S := fun S => by
    show fn (n + 2 + 1) 20 [fr a b] S = _
    rw [fn_s (fd := Tx.t20.fd) rfl]
    simp [runF, Tx.t20, Tx.b20, e1, ha]
  simp [runF, Tx.t36, Tx.b36, e2]
theorem init {n p : Nat} {a b : Int} {S : Sto} (h : isFr a b) (ha : 0 < a) (hp : S[p]? = some (.ins 0 [])) :
    ∃ S', fn (n + 5) 66 [.ref p, fr a b] S = .ok .non S' ∧ Bk S' p S.length (fr a b) [] [] ∧ Fr (· = p) S S' ∧ S'.length = S.length + 1 := by
  rw [fn_s (fd := Tx.t66.fd) rfl]
  have c : fnN Tx.F Ex Tx.cs (n + 4) 36 [fr a b] S = _ := check_bound (n := n) h ha
  have e1 := s_1 hp (fr a b)
  have h1 := set_get (o := .ins 0 [("_bound", fr a b)]) hp
  have e2 := s_2 h1 (.tup [])
  have h2 := set_get (o := .ins 0 [("_bound", fr a b), ("_entries", .tup [])]) h1
  rw [List.set_set] at h2 e2
  have h3 : (S.set p (.ins 0 [("_bound", fr a b), ("_entries", .tup [])]) ++ [Ob.lst []])[p]? = some (.ins 0 [("_bound", fr a b), ("_entries", .tup [])]) := pre_get (pre_snoc ..) h2
  have e3 := s_3 h3 S.length
  have hl := get_lt hp
  refine ⟨(S.set p (.ins 0 [("_bound", fr a b), ("_entries", .tup [])]) ++ [Ob.lst []]).set p (.ins 0 (bkF (fr a b) (.tup []) S.length)), ?_, ⟨set_get h3, ?_⟩, ?_, by simp⟩
  · simp [runF, Tx.t66, Tx.b66, c, e1, e2, e3]
  · rw [List.getElem?_set_ne (by omega), List.getElem?_append_right (by simp)]
    simp
  · intro i o hi ho
    have hi' : p ≠ i := fun e => hi e.symm
    rw [List.getElem?_set_ne hi']
    exact pre_get (pre_snoc ..) (by rw [List.getElem?_set_ne hi']; exact ho)
/-! what is asked of a book's entries -/
def uni (w : List Nat) : Prop := ∀ c ∈ w, c < 0x110000
theorem name_uni {w : List Nat} (h : nameOk w) : uni w := fun c hc => by have := h.2.2 c hc; omega
theorem pl_str {w : List Nat} (h : uni w) : pl (.str w) = true := by
  show w.all (· < 0x110000) = true
  rw [List.all_eq_true]
  intro c hc
  exact decide_eq_true (h c hc)
theorem pl_strs {ws : List (List Nat)} (h : ∀ w ∈ ws, uni w) : plL (ws.map .str) = true ∧ dptL (ws.map .str) = 0 := by
  induction ws with
  | nil => exact ⟨rfl, rfl⟩
  | cons w r ih =>
    obtain ⟨a, b⟩ := ih fun x hx => h x (List.mem_cons_of_mem _ hx)
    refine ⟨?_, ?_⟩
    · show (pl (.str w) && plL (r.map .str)) = true
      rw [pl_str (h w (by simp)), a]; rfl
    · show max 0 (dptL (r.map .str)) = 0
      rw [b]; rfl
theorem str_in {S : Sto} {w : List Nat} {ws : List (List Nat)} (h : uni w) (hs : ∀ x ∈ ws, uni x) : inD S (.str w) (ws.map .str) = some (decide (w ∈ ws)) := by
  obtain ⟨a, b⟩ := pl_strs hs
  rw [inD_pl (pl_str h) a (show (0:Nat) < 20 by decide) (by rw [b]; decide)]
  congr 1
  apply decide_eq_decide.mpr
  rw [List.mem_map]
  constructor
  · rintro ⟨x, h1, h2⟩
    injection h2 with h2
    exact h2 ▸ h1
  · exact fun h => ⟨w, h, rfl⟩
def nmsOf (es : List Ent) : List (List Nat) := es.map fun e => e.nm
def plsOf (es : List Ent) : List N4 := es.map fun e => outN e.pl
theorem names_of' {n : Nat} {es : List Ent} {S : Sto} (hl : es.length ≤ 1000) : fn (n + 1) 41 [tupB es] S = .ok (.tup ((nmsOf es).map .str)) (S ++ [.lst ((nmsOf es).map .str)]) := by
  have := names_of (n := n) (S := S) hl
  rw [show (es.map fun e => D.str e.nm) = (nmsOf es).map .str by unfold nmsOf; rw [List.map_map]; rfl] at this
  exact this
theorem places_of' {n : Nat} {es : List Ent} {S : Sto} (hl : es.length ≤ 1000) : fn (n + 1) 22 [.tup (es.map Ent.Q)] S = .ok (.ref S.length) (S ++ [.lst ((plsOf es).map N4.D)]) := by
  have := places_of (n := n) (ps := es.map Ent.P) (S := S) (by simp; omega)
  rw [Q_eq, show ((es.map Ent.P).map fun p => p.1.D) = (plsOf es).map N4.D by unfold plsOf; rw [List.map_map, List.map_map]; rfl] at this
  exact this
theorem mem_tup {S : Sto} {a : D} {xs : List D} : memS S a (.tup xs) = inD S a xs := rfl
theorem data {n p q : Nat} {t : D} {es : List Ent} {pss : List (List Ent)} {S : Sto} (h : Bk S p q t es pss) (hl : es.length ≤ 1000) : fn (n + 2) 76 [.ref p] S = .ok (.tup (es.map Ent.Q)) (S ++ [.lst (es.map Ent.Q)]) := by
  rw [fn_s (fd := Tx.t76.fd) rfl]
  have e1 := f_ents h.at_
  have e2 : fnN Tx.F Ex Tx.cs (n + 1) 40 [tupB es] S = _ := data_of (n := n) hl
  simp [runF, Tx.t76, Tx.b76, e1, e2]
theorem entries {n p q : Nat} {t : D} {es : List Ent} {pss : List (List Ent)} {S : Sto} (h : Bk S p q t es pss) : fn (n + 1) 75 [.ref p] S = .ok (tupB es) S := by
  rw [fn_s (fd := Tx.t75.fd) rfl]
  simp [runF, Tx.t75, Tx.b75, f_ents h.at_]
theorem bound {n p q : Nat} {t : D} {es : List Ent} {pss : List (List Ent)} {S : Sto} (h : Bk S p q t es pss) : fn (n + 1) 74 [.ref p] S = .ok t S := by
  rw [fn_s (fd := Tx.t74.fd) rfl]
  simp [runF, Tx.t74, Tx.b74, f_bound h.at_]
theorem lead {n p q : Nat} {t : D} {es es' : List Ent} {pss : List (List Ent)} {S : Sto} (h : Bk S p q t es pss) (hl : es'.length ≤ 1000) (ho : es'.length ≤ cntE es') (hp : pss.length ≤ 1000) :
    ∃ S', fn (n + 3) 67 [.ref p, tupB es'] S = (if 6 < cntE es' then .ex ⟨7, []⟩ S' else .ok .non S') ∧ S.length ≤ S'.length ∧ (6 < cntE es' → S <+: S') ∧ (¬ 6 < cntE es' → Bk S' p q t es' (pss ++ [es]) ∧ Fr (fun x => x = p ∨ x = q) S S') := by
  rw [fn_s (fd := Tx.t67.fd) rfl]
  obtain ⟨S1, e1, p1⟩ := check_room (n := n) (S := S) hl ho
  have e1 : fnN Tx.F Ex Tx.cs (n + 2) 46 [tupB es'] S = _ := e1
  by_cases h6 : 6 < cntE es'
  · rw [if_pos h6] at e1
    refine ⟨S1, ?_, p1.length_le, fun _ => p1, fun z => absurd h6 z⟩
    rw [if_pos h6]
    simp [runF, Tx.t67, Tx.b67, e1]
  · rw [if_neg h6] at e1
    have h1 := h.pre p1
    have a1 := f_past h1.at_
    have a2 := f_ents h1.at_
    have ty := ty_append h1.past
    have m := mt_append h1.past (by simp; omega) (tupB es)
    have ne := h1.ne
    have h2 : (S1.set q (.lst (pss.map tupB ++ [tupB es])))[p]? = some (.ins 0 (bkF t (tupB es) q)) := by rw [List.getElem?_set_ne (fun e => ne e.symm)]; exact h1.at_
    have s := s_ents h2 (tupB es')
    refine ⟨(S1.set q (.lst (pss.map tupB ++ [tupB es]))).set p (.ins 0 (bkF t (tupB es') q)), ?_, by simp; exact p1.length_le, fun z => absurd z h6, fun _ => ⟨⟨set_get h2, ?_⟩, ?_⟩⟩
    · rw [if_neg h6]
      simp [runF, Tx.t67, Tx.b67, e1, a1, a2, ty, m, s]
    · rw [List.getElem?_set_ne ne, set_get h1.past]
      simp
    · exact (Fr.of_pre p1).tr ((Fr.set (P := fun x => x = p ∨ x = q) (Or.inr rfl)).tr (Fr.set (Or.inl rfl)))
theorem look_for {n p q : Nat} {t : D} {es : List Ent} {pss : List (List Ent)} {w : List Nat} {S : Sto} (h : Bk S p q t es pss) (hl : es.length ≤ 1000) (hw : uni w) (hn : ∀ e ∈ es, nameOk e.nm) :
    ∃ S', fn (n + 2) 68 [.ref p, .str w] S = (if w ∈ nmsOf es then .ok .non S' else .ex ⟨5, []⟩ S') ∧ S <+: S' := by
  rw [fn_s (fd := Tx.t68.fd) rfl]
  have e1 := f_ents h.at_
  have e2 : fnN Tx.F Ex Tx.cs (n + 1) 41 [tupB es] S = _ := names_of' (n := n) hl
  have e3 : memS (S ++ [.lst ((nmsOf es).map .str)]) (.str w) (.tup ((nmsOf es).map .str)) = some (decide (w ∈ nmsOf es)) := str_in hw (by
    intro x hx
    obtain ⟨e, he, rfl⟩ := List.mem_map.mp hx
    exact name_uni (hn e he))
  refine ⟨S ++ [.lst ((nmsOf es).map .str)], ?_, pre_snoc ..⟩
  by_cases hm : w ∈ nmsOf es
  · rw [if_pos hm]
    simp [runF, Tx.t68, Tx.b68, e1, e2, e3, hm]
  · rw [if_neg hm]
    simp [runF, Tx.t68, Tx.b68, e1, e2, e3, hm]
    rfl
end Pl
end
section
set_option Elab.async false
set_option linter.all false
set_option maxRecDepth 100000
set_option maxHeartbeats 4000000
set_option autoImplicit false
set_option exponentiation.threshold 10000
/-! X4: k84: deeds on a book. -/
namespace Pl
open Ev Gr PySem
structure Dd where
  kd : List Nat
  nm : List Nat
  pl : T3
  vs : List T3
  tr : Nat
abbrev wPut : List Nat := [112, 117, 116]
abbrev wChange : List Nat := [99, 104, 97, 110, 103, 101]
abbrev wStrike : List Nat := [115, 116, 114, 105, 107, 101]
abbrev wUndo : List Nat := [117, 110, 100, 111]
def Dd.ent (d : Dd) : Ent := ⟨d.nm, d.pl, d.vs, d.tr⟩
open Classical in
noncomputable def refu (es : List Ent) (d : Dd) : Option Nat :=
  if d.kd = wPut then (if d.nm ∈ nmsOf es ∨ outN d.pl ∈ plsOf es then some 6 else if 6 < cntE es + d.vs.length then some 7 else none)
  else if d.nm ∉ nmsOf es then some 5
  else if d.kd = wChange ∧ 6 < cntE (chgs d.nm d.vs d.tr es) then some 7 else none
def behind (es : List Ent) (d : Dd) : List Ent := if d.kd = wPut then es ++ [d.ent] else if d.kd = wStrike then wout d.nm es else chgs d.nm d.vs d.tr es
structure OkDd (d : Dd) : Prop where
  nm : nameOk d.nm
  pl : okPl d.pl
  v1 : 1 ≤ d.vs.length
  v3 : d.vs.length ≤ 3
  vs : ∀ v ∈ d.vs, okT v
theorem OkDd.e {d : Dd} (h : OkDd d) : okE d.ent := ⟨h.nm, h.pl, h.v1, h.v3, h.vs⟩
structure OkEs (es : List Ent) : Prop where
  each : ∀ e ∈ es, okE e
  cnt : cntE es ≤ 6
  nd : (nmsOf es).Nodup
theorem OkEs.len {es : List Ent} (h : OkEs es) : es.length ≤ 6 := Nat.le_trans (cntE_len h.each) h.cnt
theorem OkEs.nil : OkEs [] := ⟨by simp, by decide, by simp [nmsOf]⟩
theorem chg_nm (nm : List Nat) (vs : List T3) (tr : Nat) (e : Ent) : (chg nm vs tr e).nm = e.nm := by unfold chg; split <;> rfl
theorem chg_pl (nm : List Nat) (vs : List T3) (tr : Nat) (e : Ent) : (chg nm vs tr e).pl = e.pl := by unfold chg; split <;> rfl
theorem chgs_nms (nm : List Nat) (vs : List T3) (tr : Nat) (es : List Ent) : nmsOf (chgs nm vs tr es) = nmsOf es := by
  unfold nmsOf chgs
  rw [List.map_map]
  exact List.map_congr_left fun e _ => chg_nm ..
theorem chg_ok {d : Dd} (h : OkDd d) {e : Ent} (he : okE e) : okE (chg d.nm d.vs d.tr e) := by
  unfold chg
  split
  · exact ⟨he.nm, he.pl, h.v1, h.v3, h.vs⟩
  · exact he
theorem cntE_app (es : List Ent) (e : Ent) : cntE (es ++ [e]) = cntE es + e.vs.length := by simp [cntE]
theorem cntE_wout (nm : List Nat) (es : List Ent) : cntE (wout nm es) ≤ cntE es := by
  unfold wout
  induction es with
  | nil => simp
  | cons e r ih =>
    rw [List.filter_cons]
    split
    · simp only [cntE, List.map_cons, List.sum_cons] at *
      omega
    · simp only [cntE, List.map_cons, List.sum_cons] at *
      omega
theorem chgs_cnt_len {d : Dd} (h : OkDd d) {es : List Ent} (he : ∀ e ∈ es, okE e) : (chgs d.nm d.vs d.tr es).length ≤ cntE (chgs d.nm d.vs d.tr es) := cntE_len (by
  intro x hx
  obtain ⟨e, h1, rfl⟩ := List.mem_map.mp hx
  exact chg_ok h (he e h1))
theorem refu_ok {es : List Ent} {d : Dd} (he : OkEs es) (hd : OkDd d) (h3 : d.kd = wPut ∨ d.kd = wChange ∨ d.kd = wStrike) (h : refu es d = none) : OkEs (behind es d) := by
  unfold refu at h
  unfold behind
  split at h
  · rename_i hk
    rw [if_pos hk]
    split at h
    · cases h
    · rename_i hn
      split at h
      · cases h
      · rename_i hc
        rw [not_or] at hn
        refine ⟨?_, ?_, ?_⟩
        · intro e hm
          rcases List.mem_append.mp hm with h1 | h1
          · exact he.each e h1
          · rw [List.mem_singleton.mp h1]; exact hd.e
        · rw [cntE_app]
          show cntE es + d.vs.length ≤ 6
          omega
        · show ((es ++ [d.ent]).map fun e => e.nm).Nodup
          rw [List.map_append]
          refine List.nodup_append.mpr ⟨he.nd, by simp, ?_⟩
          intro a ha b hb e
          subst e
          have : a = d.nm := by simpa [Dd.ent] using hb
          exact hn.1 (this ▸ ha)
  · rename_i hk
    rw [if_neg hk]
    split at h
    · cases h
    · split at h
      · cases h
      · rename_i hc
        split
        · refine ⟨fun e hm => he.each e (List.mem_filter.mp hm).1, Nat.le_trans (cntE_wout ..) he.cnt, ?_⟩
          exact List.Nodup.sublist (List.Sublist.map _ (List.filter_sublist)) he.nd
        · rename_i hs
          refine ⟨?_, ?_, by rw [chgs_nms]; exact he.nd⟩
          · intro x hx
            obtain ⟨e, h1, rfl⟩ := List.mem_map.mp hx
            exact chg_ok hd (he.each e h1)
          · have hch : d.kd = wChange := by
              rcases h3 with h3 | h3 | h3
              · exact absurd h3 hk
              · exact h3
              · exact absurd h3 hs
            exact Nat.le_of_not_lt fun z => hc ⟨hch, z⟩
def Act (r : R D) (S : Sto) (p q : Nat) (t : D) (v : D) (es' : List Ent) (pss' : List (List Ent)) : Option Nat → Prop
  | some c => ∃ S', r = .ex ⟨c, []⟩ S' ∧ S <+: S'
  | none => ∃ S', r = .ok v S' ∧ Bk S' p q t es' pss' ∧ Fr (fun x => x = p ∨ x = q) S S' ∧ S.length ≤ S'.length
theorem put {n p q : Nat} {t : D} {es : List Ent} {pss : List (List Ent)} {d : Dd} {S : Sto} (h : Bk S p q t es pss) (he : OkEs es) (hd : OkDd d) (hp : pss.length ≤ 1000) (hk : d.kd = wPut) :
    Act (fn (n + 6) 69 [.ref p, .str d.nm, (outN d.pl).D, .tup (d.vs.map fun v => (outN v).D)] S) S p q t .non (behind es d) (pss ++ [es]) (refu es d) := by
  rw [fn_s (fd := Tx.t69.fd) rfl]
  have hl := he.len
  have g1 := outN_good hd.pl.1
  have gv : ∀ z ∈ d.vs.map outN, z.good := fun z hz => by
    obtain ⟨v, hv, rfl⟩ := List.mem_map.mp hz
    exact outN_good (hd.vs v hv)
  have vv : (d.vs.map fun v => (outN v).D) = (d.vs.map outN).map N4.D := by rw [List.map_map]; rfl
  obtain ⟨S1, e1, p1⟩ := check_name (n := n + 3) (S := S) hd.nm
  have e2 : fnN Tx.F Ex Tx.cs (n + 5) 37 [(outN d.pl).D] S1 = _ := check_place (n := n) (S := S1) g1 hd.pl.2
  obtain ⟨S2, e3, p2⟩ := check_values (n := n) (S := S1) gv (by simpa using hd.v1) (by simpa using hd.v3)
  rw [← vv] at e3
  have h2 := h.pre (p1.trans p2)
  have a1 := f_ents h2.at_
  have e4 : fnN Tx.F Ex Tx.cs (n + 5) 41 [tupB es] S2 = _ := names_of' (n := n + 4) (S := S2) (by omega)
  have p3 : S2 <+: S2 ++ [.lst ((nmsOf es).map .str)] := pre_snoc ..
  have m1 : memS (S2 ++ [.lst ((nmsOf es).map .str)]) (.str d.nm) (.tup ((nmsOf es).map .str)) = some (decide (d.nm ∈ nmsOf es)) := str_in (name_uni hd.nm) (by
    intro x hx
    obtain ⟨e, h1, rfl⟩ := List.mem_map.mp hx
    exact name_uni (he.each e h1).nm)
  generalize hS3 : S2 ++ [Ob.lst ((nmsOf es).map .str)] = S3 at *
  have h3 := h2.pre p3
  have a2 := f_ents h3.at_
  have i3 : isIns 0 "data" (.ref p) S3 = true := i_of h3.at_ rfl
  have e5 : fnN Tx.F Ex Tx.cs (n + 5) 76 [.ref p] S3 = _ := data (n := n + 3) h3 (by omega)
  have p4 : S3 <+: S3 ++ [.lst (es.map Ent.Q)] := pre_snoc ..
  generalize hS4 : S3 ++ [Ob.lst (es.map Ent.Q)] = S4 at *
  have e6 : fnN Tx.F Ex Tx.cs (n + 5) 22 [.tup (es.map Ent.Q)] S4 = _ := places_of' (n := n + 4) (S := S4) (by omega)
  have p5 : S4 <+: S4 ++ [.lst ((plsOf es).map N4.D)] := pre_snoc ..
  have g5 : (S4 ++ [Ob.lst ((plsOf es).map N4.D)])[S4.length]? = some (.lst ((plsOf es).map N4.D)) := last_get ..
  have m2 : memS (S4 ++ [.lst ((plsOf es).map N4.D)]) (outN d.pl).D (.ref S4.length) = some (@decide (outN d.pl ∈ plsOf es) (Classical.propDecidable _)) := @num_in _ _ _ _ g5 (Classical.propDecidable _)
  generalize hS5 : S4 ++ [Ob.lst ((plsOf es).map N4.D)] = S5 at *
  have h5 := h3.pre (p4.trans p5)
  unfold refu
  rw [if_pos hk]
  by_cases c1 : d.nm ∈ nmsOf es
  · rw [if_pos (Or.inl c1)]
    refine ⟨S3, ?_, p1.trans (p2.trans p3)⟩
    simp [runF, Tx.t69, Tx.b69, e1, e2, e3, a1, e4, m1, c1]
    rfl
  · by_cases c2 : outN d.pl ∈ plsOf es
    · rw [if_pos (Or.inr c2)]
      refine ⟨S5, ?_, p1.trans (p2.trans (p3.trans (p4.trans p5)))⟩
      simp [runF, Tx.t69, Tx.b69, e1, e2, e3, a1, e4, m1, c1, i3, e5, e6, m2, c2]
      rfl
    · rw [if_neg (by rintro (h | h); exact c1 h; exact c2 h)]
      have a5 := f_ents h5.at_
      have i5 : isIns 0 "_lead" (.ref p) S5 = true := i_of h5.at_ rfl
      have es' : ∀ e ∈ es ++ [d.ent], okE e := fun e hm => by
        rcases List.mem_append.mp hm with h1 | h1
        · exact he.each e h1
        · rw [List.mem_singleton.mp h1]; exact hd.e
      have sq : seqOf S5 (tupB es) = some (es.map Ent.B) := rfl
      have ap : es.map Ent.B ++ [D.tup [.str d.nm, (outN d.pl).D, .tup (d.vs.map fun v => (outN v).D)]] = (es ++ [d.ent]).map Ent.B := by rw [List.map_append]; rfl
      have ln : (es ++ [d.ent]).length ≤ 7 := by simp; omega
      have ln2 : es.length + 1 ≤ 16777216 := by omega
      obtain ⟨S6, e7, l7, x7, y7⟩ := lead (n := n + 2) (es' := es ++ [d.ent]) h5 (by omega) (cntE_len es') hp
      have e7 : fnN Tx.F Ex Tx.cs (n + 5) 67 [.ref p, .tup ((es ++ [d.ent]).map Ent.B)] S5 = _ := e7
      have ce : cntE (es ++ [d.ent]) = cntE es + d.vs.length := cntE_app ..
      rw [ce] at e7 x7 y7
      rw [← ap] at e7
      by_cases c3 : 6 < cntE es + d.vs.length
      · rw [if_pos c3]
        rw [if_pos c3] at e7
        refine ⟨S6, ?_, p1.trans (p2.trans (p3.trans (p4.trans (p5.trans (x7 c3)))))⟩
        simp [runF, Tx.t69, Tx.b69, e1, e2, e3, a1, e4, m1, c1, i3, e5, e6, m2, c2, i5, a5, sq, ln2, e7]
      · rw [if_neg c3]
        rw [if_neg c3] at e7
        obtain ⟨z1, z2⟩ := y7 c3
        refine ⟨S6, ?_, ?_, (Fr.of_pre (p1.trans (p2.trans (p3.trans (p4.trans p5))))).tr z2, Nat.le_trans (p1.trans (p2.trans (p3.trans (p4.trans p5)))).length_le l7⟩
        · simp [runF, Tx.t69, Tx.b69, e1, e2, e3, a1, e4, m1, c1, i3, e5, e6, m2, c2, i5, a5, sq, ln2, e7]
        · unfold behind
          rw [if_pos hk]
          exact z1
theorem change {n p q : Nat} {t : D} {es : List Ent} {pss : List (List Ent)} {d : Dd} {S : Sto} (h : Bk S p q t es pss) (he : OkEs es) (hd : OkDd d) (hp : pss.length ≤ 1000) (hk : d.kd = wChange) :
    Act (fn (n + 6) 70 [.ref p, .str d.nm, .tup (d.vs.map fun v => (outN v).D)] S) S p q t .non (behind es d) (pss ++ [es]) (refu es d) := by
  rw [fn_s (fd := Tx.t70.fd) rfl]
  have hl := he.len
  have gv : ∀ z ∈ d.vs.map outN, z.good := fun z hz => by
    obtain ⟨v, hv, rfl⟩ := List.mem_map.mp hz
    exact outN_good (hd.vs v hv)
  have vv : (d.vs.map fun v => (outN v).D) = (d.vs.map outN).map N4.D := by rw [List.map_map]; rfl
  obtain ⟨S1, e1, p1⟩ := check_name (n := n + 3) (S := S) hd.nm
  obtain ⟨S2, e3, p2⟩ := check_values (n := n) (S := S1) gv (by simpa using hd.v1) (by simpa using hd.v3)
  rw [← vv] at e3
  have h2 := h.pre (p1.trans p2)
  have i2 : isIns 0 "_look_for" (.ref p) S2 = true := i_of h2.at_ rfl
  obtain ⟨S3, e4, p3⟩ := look_for (n := n + 3) (w := d.nm) h2 (by omega) (name_uni hd.nm) (fun e hm => (he.each e hm).nm)
  have e4 : fnN Tx.F Ex Tx.cs (n + 5) 68 [.ref p, .str d.nm] S2 = _ := e4
  have np : ¬ d.kd = wPut := by rw [hk]; decide
  have ns : ¬ d.kd = wStrike := by rw [hk]; decide
  unfold refu
  rw [if_neg np]
  by_cases c1 : d.nm ∈ nmsOf es
  · rw [if_neg (not_not_intro c1)]
    rw [if_pos c1] at e4
    have h3 := h2.pre p3
    have a3 := f_ents h3.at_
    have e5 : fnN Tx.F Ex Tx.cs (n + 5) 42 [tupB es, .str d.nm, .tup (d.vs.map fun v => (outN v).D)] S3 = _ := entry_changed (n := n + 4) (tr := d.tr) (S := S3) (by omega)
    have p4 : S3 <+: S3 ++ [.lst ((chgs d.nm d.vs d.tr es).map Ent.B)] := pre_snoc ..
    generalize hS4 : S3 ++ [Ob.lst ((chgs d.nm d.vs d.tr es).map Ent.B)] = S4 at *
    have h4 := h3.pre p4
    have i4 : isIns 0 "_lead" (.ref p) S3 = true := i_of h3.at_ rfl
    have ln : (chgs d.nm d.vs d.tr es).length = es.length := by simp [chgs]
    obtain ⟨S6, e7, l7, x7, y7⟩ := lead (n := n + 2) (es' := chgs d.nm d.vs d.tr es) h4 (by omega) (chgs_cnt_len hd he.each) hp
    have e7 : fnN Tx.F Ex Tx.cs (n + 5) 67 [.ref p, .tup ((chgs d.nm d.vs d.tr es).map Ent.B)] S4 = _ := e7
    by_cases c3 : 6 < cntE (chgs d.nm d.vs d.tr es)
    · rw [if_pos ⟨hk, c3⟩]
      rw [if_pos c3] at e7
      refine ⟨S6, ?_, p1.trans (p2.trans (p3.trans (p4.trans (x7 c3))))⟩
      simp [runF, Tx.t70, Tx.b70, e1, e3, i2, e4, i4, a3, e5, e7]
    · rw [if_neg (fun z => c3 z.2)]
      rw [if_neg c3] at e7
      obtain ⟨z1, z2⟩ := y7 c3
      refine ⟨S6, ?_, ?_, (Fr.of_pre (p1.trans (p2.trans (p3.trans p4)))).tr z2, Nat.le_trans (p1.trans (p2.trans (p3.trans p4))).length_le l7⟩
      · simp [runF, Tx.t70, Tx.b70, e1, e3, i2, e4, i4, a3, e5, e7]
      · unfold behind
        rw [if_neg np, if_neg ns]
        exact z1
  · rw [if_pos c1]
    rw [if_neg c1] at e4
    refine ⟨S3, ?_, p1.trans (p2.trans p3)⟩
    simp [runF, Tx.t70, Tx.b70, e1, e3, i2, e4]
theorem strike {n p q : Nat} {t : D} {es : List Ent} {pss : List (List Ent)} {d : Dd} {S : Sto} (h : Bk S p q t es pss) (he : OkEs es) (hd : OkDd d) (hp : pss.length ≤ 1000) (hk : d.kd = wStrike) :
    Act (fn (n + 6) 71 [.ref p, .str d.nm] S) S p q t .non (behind es d) (pss ++ [es]) (refu es d) := by
  rw [fn_s (fd := Tx.t71.fd) rfl]
  have hl := he.len
  obtain ⟨S2, e1, p1⟩ := check_name (n := n + 3) (S := S) hd.nm
  have h2 := h.pre p1
  have i2 : isIns 0 "_look_for" (.ref p) S2 = true := i_of h2.at_ rfl
  obtain ⟨S3, e4, p3⟩ := look_for (n := n + 3) (w := d.nm) h2 (by omega) (name_uni hd.nm) (fun e hm => (he.each e hm).nm)
  have e4 : fnN Tx.F Ex Tx.cs (n + 5) 68 [.ref p, .str d.nm] S2 = _ := e4
  have np : ¬ d.kd = wPut := by rw [hk]; decide
  have nc : ¬ d.kd = wChange := by rw [hk]; decide
  unfold refu
  rw [if_neg np]
  by_cases c1 : d.nm ∈ nmsOf es
  · rw [if_neg (not_not_intro c1), if_neg (fun z => nc z.1)]
    rw [if_pos c1] at e4
    have h3 := h2.pre p3
    have a3 := f_ents h3.at_
    have e5 : fnN Tx.F Ex Tx.cs (n + 5) 43 [tupB es, .str d.nm] S3 = _ := entries_without (n := n + 4) (S := S3) (by omega)
    have p4 : S3 <+: S3 ++ [.lst ((wout d.nm es).map Ent.B)] := pre_snoc ..
    generalize hS4 : S3 ++ [Ob.lst ((wout d.nm es).map Ent.B)] = S4 at *
    have h4 := h3.pre p4
    have i4 : isIns 0 "_lead" (.ref p) S3 = true := i_of h3.at_ rfl
    have ln : (wout d.nm es).length ≤ es.length := List.length_filter_le ..
    have cw := cntE_wout d.nm es
    have hc := he.cnt
    obtain ⟨S6, e7, l7, x7, y7⟩ := lead (n := n + 2) (es' := wout d.nm es) h4 (by omega) (cntE_len fun e hm => he.each e (List.mem_filter.mp hm).1) hp
    have e7 : fnN Tx.F Ex Tx.cs (n + 5) 67 [.ref p, .tup ((wout d.nm es).map Ent.B)] S4 = _ := e7
    have c3 : ¬ 6 < cntE (wout d.nm es) := by omega
    rw [if_neg c3] at e7
    obtain ⟨z1, z2⟩ := y7 c3
    refine ⟨S6, ?_, ?_, (Fr.of_pre (p1.trans (p3.trans p4))).tr z2, Nat.le_trans (p1.trans (p3.trans p4)).length_le l7⟩
    · simp [runF, Tx.t71, Tx.b71, e1, i2, e4, i4, a3, e5, e7]
    · unfold behind
      rw [if_neg np, if_pos hk]
      exact z1
  · rw [if_pos c1]
    rw [if_neg c1] at e4
    refine ⟨S3, ?_, p1.trans p3⟩
    simp [runF, Tx.t71, Tx.b71, e1, i2, e4]
theorem pl_ent {e : Ent} (h : nameOk e.nm) : pl e.B = true ∧ dpt e.B ≤ 4 := by
  have v : plL (e.vs.map fun v => (outN v).D) = true ∧ dptL (e.vs.map fun v => (outN v).D) ≤ 2 := by
    have : (e.vs.map fun v => (outN v).D) = (e.vs.map outN).map N4.D := by rw [List.map_map]; rfl
    rw [this]
    exact plL_nums _
  have p1 : pl (outN e.pl).D = true := rfl
  have p2 : dpt (outN e.pl).D = 2 := by simp [N4.D, dpt, dptL]
  refine ⟨?_, ?_⟩
  · show (pl (.str e.nm) && (pl (outN e.pl).D && (plL (e.vs.map fun v => (outN v).D) && true))) = true
    rw [pl_str (name_uni h), p1, v.1]
    rfl
  · have : dpt e.B = 1 + max (dpt (.str e.nm)) (max (dpt (outN e.pl).D) (max (1 + dptL (e.vs.map fun v => (outN v).D)) 0)) := by
      simp [Ent.B, dpt, dptL, Nat.add_comm]
    have z : dpt (.str e.nm) = 0 := rfl
    omega
theorem pl_tupB {es : List Ent} (h : ∀ e ∈ es, nameOk e.nm) : pl (tupB es) = true ∧ dpt (tupB es) ≤ 5 := by
  have : plL (es.map Ent.B) = true ∧ dptL (es.map Ent.B) ≤ 4 := by
    induction es with
    | nil => exact ⟨rfl, by decide⟩
    | cons e r ih =>
      obtain ⟨a, b⟩ := ih fun x hx => h x (List.mem_cons_of_mem _ hx)
      obtain ⟨c, d⟩ := pl_ent (h e (by simp))
      refine ⟨?_, ?_⟩
      · show (pl e.B && plL (r.map Ent.B)) = true
        rw [a, c]; rfl
      · show max (dpt e.B) (dptL (r.map Ent.B)) ≤ 4
        omega
  refine ⟨this.1, ?_⟩
  have e : dpt (tupB es) = dptL (es.map Ent.B) + 1 := by simp [tupB, dpt]
  omega
theorem pl_pss {pss : List (List Ent)} (h : ∀ es ∈ pss, ∀ e ∈ es, nameOk e.nm) : plL (pss.map tupB) = true ∧ dptL (pss.map tupB) ≤ 5 := by
  induction pss with
  | nil => exact ⟨rfl, by decide⟩
  | cons e r ih =>
    obtain ⟨a, b⟩ := ih fun x hx => h x (List.mem_cons_of_mem _ hx)
    obtain ⟨c, d⟩ := pl_tupB (h e (by simp))
    refine ⟨?_, ?_⟩
    · show (pl (tupB e) && plL (r.map tupB)) = true
      rw [a, c]; rfl
    · show max (dpt (tupB e)) (dptL (r.map tupB)) ≤ 5
      omega
theorem mt_pop {S : Sto} {r : Nat} {xs : List D} {x : D} (h : S[r]? = some (.lst (xs ++ [x]))) : mt .pop (.ref r) [] S = .ok x (S.set r (.lst xs)) := by
  simp [Ev.mt, h]
theorem undo_0 {n p q : Nat} {t : D} {es : List Ent} {S : Sto} (h : Bk S p q t es []) : fn (n + 1) 72 [.ref p] S = .ok (.bl false) (S ++ [.lst []]) := by
  rw [fn_s (fd := Tx.t72.fd) rfl]
  have a := f_past h.at_
  have g := eqD_nil h.past rfl (by decide)
  simp [runF, Tx.t72, Tx.b72, a, g]
theorem undo_1 {n p q : Nat} {t : D} {es es' : List Ent} {pss : List (List Ent)} {S : Sto} (h : Bk S p q t es (pss ++ [es'])) (hn : ∀ es ∈ pss ++ [es'], ∀ e ∈ es, nameOk e.nm) : ∃ S', fn (n + 1) 72 [.ref p] S = .ok (.bl true) S' ∧ Bk S' p q t es' pss ∧ Fr (fun x => x = p ∨ x = q) S S' ∧ S.length ≤ S'.length := by
  rw [fn_s (fd := Tx.t72.fd) rfl]
  have a := f_past h.at_
  obtain ⟨l1, l2⟩ := pl_pss hn
  have g := eqD_nil h.past l1 (by omega)
  have ne : ((pss ++ [es']).map tupB).isEmpty = false := by simp
  rw [ne] at g
  have h1 := h.pre (pre_snoc S (.lst []))
  have a1 := f_past h1.at_
  have ps := h1.past
  rw [List.map_append, List.map_singleton] at ps
  have ty : mtTy .pop (.ref q) (S ++ [.lst []]) = true := by simp [mtTy, lstOf, ps]
  have mp := mt_pop ps
  have ne2 := h1.ne
  generalize hS1 : S ++ [Ob.lst []] = S1 at *
  have h2 : (S1.set q (.lst (pss.map tupB)))[p]? = some (.ins 0 (bkF t (tupB es) q)) := by rw [List.getElem?_set_ne (fun e => ne2 e.symm)]; exact h1.at_
  have s := s_ents h2 (tupB es')
  refine ⟨(S1.set q (.lst (pss.map tupB))).set p (.ins 0 (bkF t (tupB es') q)), ?_, ⟨set_get h2, ?_⟩, ?_, ?_⟩
  · simp [runF, Tx.t72, Tx.b72, a, g, hS1, a1, ty, mp, s]
  · rw [List.getElem?_set_ne ne2, set_get h1.past]
  · exact (Fr.of_pre (hS1 ▸ pre_snoc ..)).tr ((Fr.set (P := fun x => x = p ∨ x = q) (Or.inr rfl)).tr (Fr.set (Or.inl rfl)))
  · subst hS1; simp
theorem twin {n p q : Nat} {a b : Int} {es : List Ent} {pss : List (List Ent)} {S : Sto} (h : Bk S p q (fr a b) es pss) (hf : isFr a b) (ha : 0 < a) : ∃ S' q', fn (n + 6) 73 [.ref p] S = .ok (.ref S.length) S' ∧ Bk S' S.length q' (fr a b) es pss ∧ S <+: S' ∧ S.length < q' := by
  rw [fn_s (fd := Tx.t73.fd) rfl]
  have a1 := f_bound h.at_
  have p0 : (S ++ [Ob.ins 0 []])[S.length]? = some (.ins 0 []) := last_get ..
  obtain ⟨S1, e1, k1, f1, l1⟩ := init (n := n) hf ha p0
  have e1 : fnN Tx.F Ex Tx.cs (n + 5) 66 [.ref S.length, fr a b] (S ++ [.ins 0 []]) = _ := e1
  have f1' : Fr Nope S S1 := fun i o _ hi => f1 i o (fun e => by have := get_lt hi; omega) (pre_get (pre_snoc ..) hi)
  have pp := f1'.pre
  have h1 := h.pre pp
  have a2 := f_ents h1.at_
  have s2 := s_ents k1.at_ (tupB es)
  have g2 := set_get (o := .ins 0 (bkF (fr a b) (tupB es) (S ++ [Ob.ins 0 []]).length)) k1.at_
  have hp := get_lt h.at_
  have hq := get_lt h.past
  have ne1 : S.length ≠ p := by omega
  have ne2 : S.length ≠ q := by omega
  generalize (S ++ [Ob.ins 0 []]).length = L at *
  have g3 : (S1.set S.length (.ins 0 (bkF (fr a b) (tupB es) L)))[p]? = some (.ins 0 (bkF (fr a b) (tupB es) q)) := by rw [List.getElem?_set_ne ne1]; exact h1.at_
  have a3 := f_past g3
  have g4 : (S1.set S.length (.ins 0 (bkF (fr a b) (tupB es) L)))[q]? = some (.lst (pss.map tupB)) := by rw [List.getElem?_set_ne ne2]; exact h1.past
  have ls : bi .list [.ref q] (S1.set S.length (.ins 0 (bkF (fr a b) (tupB es) L))) = .ok (.ref S1.length) (S1.set S.length (.ins 0 (bkF (fr a b) (tupB es) L)) ++ [.lst (pss.map tupB)]) := by simp [bi, seqOf_ref g4]
  have g5 : (S1.set S.length (.ins 0 (bkF (fr a b) (tupB es) L)) ++ [Ob.lst (pss.map tupB)])[S.length]? = some (.ins 0 (bkF (fr a b) (tupB es) L)) := pre_get (pre_snoc ..) g2
  have s5 := s_past g5 S1.length
  have lt : S.length < S1.length := get_lt k1.at_
  refine ⟨(S1.set S.length (.ins 0 (bkF (fr a b) (tupB es) L)) ++ [Ob.lst (pss.map tupB)]).set S.length (.ins 0 (bkF (fr a b) (tupB es) S1.length)), S1.length, ?_, ⟨set_get g5, ?_⟩, ?_, lt⟩
  · simp [runF, Tx.t73, Tx.b73, a1, e1, a2, s2, a3, ls, s5]
  · rw [List.getElem?_set_ne (by omega), List.getElem?_append_right (by simp)]
    simp
  · refine Fr.pre fun i o _ hi => ?_
    have := get_lt hi
    rw [List.getElem?_set_ne (by omega)]
    refine pre_get (pre_snoc ..) ?_
    rw [List.getElem?_set_ne (by omega)]
    exact pre_get pp hi
end Pl
end
section
set_option Elab.async false
set_option linter.all false
set_option maxRecDepth 100000
set_option maxHeartbeats 4000000
set_option autoImplicit false
set_option exponentiation.threshold 10000
/-! X5: k84: what is drawn. -/
namespace Pl
open Ev Gr PySem
theorem norm_in {a b : Int} {d : Nat} (hd : 0 < d) (h : a * a + b * b < (d : Int) * d) : (normT a b d).a * (normT a b d).a + (normT a b d).b * (normT a b d).b < ((normT a b d).d : Int) * (normT a b d).d := by
  have hg : 0 < Nat.gcd (Nat.gcd a.natAbs b.natAbs) d := Nat.gcd_pos_of_pos_right _ hd
  have g0 := Nat.gcd_dvd_left (Nat.gcd a.natAbs b.natAbs) d
  have ga : ((Nat.gcd (Nat.gcd a.natAbs b.natAbs) d : Nat) : Int) ∣ a := Int.ofNat_dvd_left.mpr (Nat.dvd_trans g0 (Nat.gcd_dvd_left ..))
  have gb : ((Nat.gcd (Nat.gcd a.natAbs b.natAbs) d : Nat) : Int) ∣ b := Int.ofNat_dvd_left.mpr (Nat.dvd_trans g0 (Nat.gcd_dvd_right ..))
  have gd : ((Nat.gcd (Nat.gcd a.natAbs b.natAbs) d : Nat) : Int) ∣ (d : Int) := Int.ofNat_dvd_left.mpr (by simpa using Nat.gcd_dvd_right (Nat.gcd a.natAbs b.natAbs) d)
  show a / _ * (a / _) + b / _ * (b / _) < ((d / _ : Nat) : Int) * ((d / _ : Nat) : Int)
  rw [Int.natCast_ediv]
  have hg' : 0 < ((Nat.gcd (Nat.gcd a.natAbs b.natAbs) d : Nat) : Int) := by omega
  generalize ((Nat.gcd (Nat.gcd a.natAbs b.natAbs) d : Nat) : Int) = g at *
  have e1 := Int.ediv_mul_cancel ga
  have e2 := Int.ediv_mul_cancel gb
  have e3 := Int.ediv_mul_cancel gd
  generalize a / g = x at *
  generalize b / g = y at *
  generalize (d : Int) / g = z at *
  rw [← e1, ← e2, ← e3] at h
  have m : 0 < g * g := Int.mul_pos hg' hg'
  refine Int.lt_of_mul_lt_mul_right (a := g * g) ?_ (Int.le_of_lt m)
  have l : (x * x + y * y) * (g * g) = x * g * (x * g) + y * g * (y * g) := by
    rw [Int.add_mul]
    congr 1 <;> simp only [Int.mul_assoc, Int.mul_comm, Int.mul_left_comm]
  have r : z * z * (g * g) = z * g * (z * g) := by simp only [Int.mul_assoc, Int.mul_comm, Int.mul_left_comm]
  rw [l, r]
  exact h
theorem sq_le {x : Int} {k : Nat} (h : x.natAbs ≤ k) : bt 40 x ∨ 1000 < k := by
  by_cases h2 : 1000 < k
  · exact Or.inr h2
  · exact Or.inl (Nat.lt_of_le_of_lt (Nat.le_trans h (Nat.le_of_not_lt h2)) (by decide))
theorem law_place {n k m : Nat} {S : Sto} (w : WellAt S k m) (hm : m < 900000) : ∃ (t : T3) (S' : Sto), fn (n + 3) 55 [.ref k] S = .ok t.D S' ∧ okPl t ∧ WellAt S' k (m + 3) ∧ Fr (· = k) S S' ∧ S'.length = S.length := by
  rw [fn_s (fd := Tx.t55.fd) rfl]
  obtain ⟨d0, S1, e1, a1, w1, f1, l1⟩ := drawn (n := n + 1) (many := 4) w (by omega) (by decide) (by decide)
  obtain ⟨d1, S2, e2, a2, w2, f2, l2⟩ := drawn (n := n + 1) (many := 2 * (2 + (d0 : Int)) - 1) w1 (by omega) (by omega) (by omega)
  obtain ⟨d2, S3, e3, a3, w3, f3, l3⟩ := drawn (n := n + 1) (many := 2 * (2 + (d0 : Int)) - 1) w2 (by omega) (by omega) (by omega)
  have E1 : fnN Tx.F Ex Tx.cs (n + 2) 48 [.ref k, .int 4] S = _ := e1
  have E2 : fnN Tx.F Ex Tx.cs (n + 2) 48 [.ref k, .int (2 * (2 + (d0 : Int)) - 1)] S1 = _ := e2
  have E3 : fnN Tx.F Ex Tx.cs (n + 2) 48 [.ref k, .int (2 * (2 + (d0 : Int)) - 1)] S2 = _ := e3
  have hA : ((d1 : Int) - (2 + (d0 : Int)) + 1).natAbs ≤ 10 := by omega
  have hB : ((d2 : Int) - (2 + (d0 : Int)) + 1).natAbs ≤ 10 := by omega
  have hA1 : ((d1 : Int) - (2 + (d0 : Int)) + 1).natAbs < 2 + d0 := by omega
  have m0 : ∀ S, binop .mul (.int 2) (.int (2 + (d0 : Int))) S = .ok (.int (2 * (2 + (d0 : Int)))) S := fun S => mul_ok (k := 40) (m := 40) (by unfold bt; omega) (by unfold bt; omega) (by decide) (by decide) (by decide)
  have m1 : ∀ S, binop .mul (.int (2 + (d0 : Int))) (.int (2 + (d0 : Int))) S = .ok (.int ((2 + (d0 : Int)) * (2 + (d0 : Int)))) S := fun S => mul_ok (k := 40) (m := 40) (by unfold bt; omega) (by unfold bt; omega) (by decide) (by decide) (by decide)
  have mA : ∀ S, binop .mul (.int ((d1 : Int) - (2 + (d0 : Int)) + 1)) (.int ((d1 : Int) - (2 + (d0 : Int)) + 1)) S = .ok (.int (((d1 : Int) - (2 + (d0 : Int)) + 1) * ((d1 : Int) - (2 + (d0 : Int)) + 1))) S := fun S => mul_ok (k := 40) (m := 40) (by unfold bt; omega) (by unfold bt; omega) (by decide) (by decide) (by decide)
  have mB : ∀ S, binop .mul (.int ((d2 : Int) - (2 + (d0 : Int)) + 1)) (.int ((d2 : Int) - (2 + (d0 : Int)) + 1)) S = .ok (.int (((d2 : Int) - (2 + (d0 : Int)) + 1) * ((d2 : Int) - (2 + (d0 : Int)) + 1))) S := fun S => mul_ok (k := 40) (m := 40) (by unfold bt; omega) (by unfold bt; omega) (by decide) (by decide) (by decide)
  generalize hx : (d1 : Int) - (2 + (d0 : Int)) + 1 = x at *
  generalize hy : (d2 : Int) - (2 + (d0 : Int)) + 1 = y at *
  have dc : (2 + (d0 : Int)) = ((2 + d0 : Nat) : Int) := by omega
  have fin : ∀ b : Int, b.natAbs ≤ 10 → x * x + b * b < ((2 + d0 : Nat) : Int) * ((2 + d0 : Nat) : Int) → (∀ S, ev (GG (n + 2)) (.ite (.cmp .lt (.bin .add (.bin .mul (.var 2) (.var 2)) (.bin .mul (.var 3) (.var 3))) (.bin .mul (.var 1) (.var 1))) (.var 3) (.cst (.int 0))) [some (.ref k), some (.int (2 + (d0 : Int))), some (.int x), some (.int y)] S = .ok (.int b) S) → ∃ (t : T3) (S' : Sto), runF (GG (n + 2)) Ex Tx.t55.fd [.ref k] S = .ok t.D S' ∧ okPl t ∧ WellAt S' k (m + 3) ∧ Fr (· = k) S S' ∧ S'.length = S.length := by
    intro b hb hin hev
    have e4 := law_num (n := n) (a := x) (b := b) (d := 2 + d0) (S := S3) (by omega)
    rw [← dc] at e4
    have E4 : fnN Tx.F Ex Tx.cs (n + 2) 51 [.int x, .int b, .int (2 + (d0 : Int))] S3 = _ := e4
    have o := norm_ok (a := x) (b := b) (d := 2 + d0) (by omega) (by omega) (by omega) (by omega)
    refine ⟨normT x b (2 + d0), S3, ?_, ⟨o, within_out o (norm_in (by omega) hin)⟩, w3, f1.tr (f2.tr f3), by omega⟩
    generalize hX : E.ite (.cmp .lt (.bin .add (.bin .mul (.var 2) (.var 2)) (.bin .mul (.var 3) (.var 3))) (.bin .mul (.var 1) (.var 1))) (.var 3) (.cst (.int 0)) = X at *
    have bd : Tx.b55 = .cons (.asg (.nm 1) (.bin .add (.cst (.int 2)) (.call 48 (.cons (.var 0) (.cons (.cst (.int 4)) .nil))))) (.cons (.par [2, 3] (.cons (.bin .add (.bin .sub (.call 48 (.cons (.var 0) (.cons (.bin .sub (.bin .mul (.cst (.int 2)) (.var 1)) (.cst (.int 1))) .nil))) (.var 1)) (.cst (.int 1))) (.cons (.bin .add (.bin .sub (.call 48 (.cons (.var 0) (.cons (.bin .sub (.bin .mul (.cst (.int 2)) (.var 1)) (.cst (.int 1))) .nil))) (.var 1)) (.cst (.int 1))) .nil))) (.cons (.ret (.call 51 (.cons (.var 2) (.cons X (.cons (.var 1) .nil))))) .nil)) := by rw [← hX]; rfl
    simp [runF, Tx.t55, bd, E1, E2, E3, m0, hx, hy, hev, E4, parSet]
  rw [dc] at m1
  by_cases c : x * x + y * y < ((2 + d0 : Nat) : Int) * ((2 + d0 : Nat) : Int)
  · refine fin y hB c fun S => ?_
    rw [dc]
    generalize ((2 + d0 : Nat) : Int) = z at *
    simp [mA, mB, m1, c]
  · refine fin 0 (by decide) ?_ fun S => ?_
    · have h1 : x * x = ((x.natAbs * x.natAbs : Nat) : Int) := by rw [Int.natAbs_mul_self]
      have h2 : x.natAbs * x.natAbs < (2 + d0) * (2 + d0) := Nat.mul_lt_mul'' hA1 hA1
      rw [h1]
      omega
    · rw [dc]
      generalize ((2 + d0 : Nat) : Int) = z at *
      simp [mA, mB, m1, c]
theorem t3_pl (ts : List T3) : plL (ts.map T3.D) = true ∧ dptL (ts.map T3.D) ≤ 1 := by
  induction ts with
  | nil => exact ⟨rfl, by decide⟩
  | cons z r ih =>
    have h1 : pl z.D = true := rfl
    have h2 : dpt z.D = 1 := by simp [T3.D, dpt, dptL]
    simp only [List.map_cons, plL, dptL, h1, h2, ih.1, Bool.and_self, true_and]
    omega
theorem t3_in {S : Sto} {r : Nat} {ts : List T3} {t : T3} (h : S[r]? = some (.lst (ts.map T3.D))) : memS S t.D (.ref r) = some (decide (t ∈ ts)) := by
  show (seqOf S (.ref r)).bind _ = _
  have h2 : dpt t.D = 1 := by simp [T3.D, dpt, dptL]
  have := (t3_pl ts).2
  rw [seqOf_ref h, Option.bind_some, inD_pl rfl (t3_pl ts).1 (by rw [h2]; decide) (by omega)]
  congr 1
  apply decide_eq_decide.mpr
  rw [List.mem_map]
  constructor
  · rintro ⟨y, h1, h2⟩
    exact T3.D_inj h2 ▸ h1
  · exact fun h => ⟨t, h, rfl⟩
theorem spare_pl {i : Nat} (hi : i ≤ 6) : okPl ⟨1, 0, 7 + i⟩ := by
  have o : okT ⟨1, 0, 7 + i⟩ := ⟨by show 0 < 7 + i; omega, by show 7 + i ≤ 1000; omega, by show (1 : Int).natAbs ≤ 1000; decide, by show (0 : Int).natAbs ≤ 1000; decide, by simp⟩
  refine ⟨o, within_out o ?_⟩
  show (1 : Int) * 1 + 0 * 0 < ((7 + i : Nat) : Int) * ((7 + i : Nat) : Int)
  have : (7 : Int) * 7 ≤ ((7 + i : Nat) : Int) * ((7 + i : Nat) : Int) := Int.mul_le_mul (by omega) (by omega) (by decide) (by omega)
  omega
theorem spots_loop {n k f : Nat} {o1 : Option D} {L : List D} (hk : f ≠ k) :
    ∀ (j i m : Nat) (ts : List T3) (o3 o4 : Option D) (S : Sto), WellAt S k m → m + 3 * j < 900000 → S[f]? = some (.lst (ts.map T3.D)) → ts.length + j ≤ 1000 → i + j ≤ 6 → (∀ t ∈ ts, okPl t) →
      ∃ (ts' : List T3) (p3 p4 : Option D) (S' : Sto), forL ⟨L, []⟩ (lpF (GG (n + 3)) Ex (.nm 3) (.cons (.asg (.nm 4) (.call 55 (.cons (.var 0) .nil))) (.cons (.exp (.mt .append (.var 2) (.cons (.ite (.cmp .notin (.var 4) (.var 2)) (.var 4) (.tup (.cons (.cst (.int 1)) (.cons (.cst (.int 0)) (.cons (.bin .add (.cst (.int 7)) (.var 3)) .nil))))) .nil))) .nil))) (rngN i j) [some (.ref k), o1, some (.ref f), o3, o4] S = .nx [some (.ref k), o1, some (.ref f), p3, p4] S' ∧
        S'[f]? = some (.lst (ts'.map T3.D)) ∧ ts'.length = ts.length + j ∧ (∀ t ∈ ts', okPl t) ∧ WellAt S' k (m + 3 * j) ∧ Fr (fun x => x = k ∨ x = f) S S' ∧ S'.length = S.length := by
  intro j
  induction j with
  | zero =>
    intro i m ts o3 o4 S w _ h _ _ hw
    exact ⟨ts, o3, o4, S, forL_nil (ok_nil _ _), h, rfl, hw, w, Fr.rfl', rfl⟩
  | succ j ih =>
    intro i m ts o3 o4 S w hm h hl hi hw
    obtain ⟨t, S1, a1, a2, a3, a4, a5⟩ := law_place (n := n) w (by omega)
    have A1 : fnN Tx.F Ex Tx.cs (n + 3) 55 [.ref k] S = _ := a1
    have h1 := a4 _ _ hk h
    have ni := t3_in (t := t) h1
    have ty := ty_append h1
    have key : ∀ u : T3, okPl u → (∀ S, S[f]? = some (.lst (ts.map T3.D)) → ev (GG (n + 3)) (.ite (.cmp .notin (.var 4) (.var 2)) (.var 4) (.tup (.cons (.cst (.int 1)) (.cons (.cst (.int 0)) (.cons (.bin .add (.cst (.int 7)) (.var 3)) .nil))))) [some (.ref k), o1, some (.ref f), some (.int (i : Nat)), some t.D] S = .ok u.D S) → ∃ (ts' : List T3) (p3 p4 : Option D) (S' : Sto), forL ⟨L, []⟩ (lpF (GG (n + 3)) Ex (.nm 3) (.cons (.asg (.nm 4) (.call 55 (.cons (.var 0) .nil))) (.cons (.exp (.mt .append (.var 2) (.cons (.ite (.cmp .notin (.var 4) (.var 2)) (.var 4) (.tup (.cons (.cst (.int 1)) (.cons (.cst (.int 0)) (.cons (.bin .add (.cst (.int 7)) (.var 3)) .nil))))) .nil))) .nil))) (rngN i (j + 1)) [some (.ref k), o1, some (.ref f), o3, o4] S = .nx [some (.ref k), o1, some (.ref f), p3, p4] S' ∧
        S'[f]? = some (.lst (ts'.map T3.D)) ∧ ts'.length = ts.length + (j + 1) ∧ (∀ t ∈ ts', okPl t) ∧ WellAt S' k (m + 3 * (j + 1)) ∧ Fr (fun x => x = k ∨ x = f) S S' ∧ S'.length = S.length := by
      intro u hu hev
      have ap := mt_append h1 (by simp; omega) u.D
      have h2 : (S1.set f (.lst (ts.map T3.D ++ [u.D])))[f]? = some (.lst ((ts ++ [u]).map T3.D)) := by rw [set_get h1]; simp
      have w2 : WellAt (S1.set f (.lst (ts.map T3.D ++ [u.D]))) k (m + 3) := a3.fr (Fr.set (P := (· = f)) rfl) (fun e => hk e.symm)
      obtain ⟨ts', p3, p4, S', b1, b2, b3, b4, b5, b6, b7⟩ := ih (i + 1) (m + 3) (ts ++ [u]) (some (.int (i : Nat))) (some t.D) _ w2 (by omega) h2 (by simp; omega) (by omega) (fun w hw' => by
        rcases List.mem_append.mp hw' with q | q
        · exact hw w q
        · rw [List.mem_singleton.mp q]; exact hu)
      refine ⟨ts', p3, p4, S', ?_, b2, by rw [b3]; simp; omega, b4, b5.mono (by omega), ((a4.mono (Q := fun x => x = k ∨ x = f) (fun _ h => Or.inl h)).tr (Fr.set (P := fun x => x = k ∨ x = f) (Or.inr rfl))).tr b6, by rw [b7]; simp [a5]⟩
      rw [rngN_succ]
      simp only [forL_cons (ok_nil _ _)]
      rw [← b1]
      have hev1 := hev S1 h1
      generalize hX : E.ite (.cmp .notin (.var 4) (.var 2)) (.var 4) (.tup (.cons (.cst (.int 1)) (.cons (.cst (.int 0)) (.cons (.bin .add (.cst (.int 7)) (.var 3)) .nil)))) = X at *
      simp [A1, ty, hev1, ap]
    by_cases c : t ∈ ts
    · refine key ⟨1, 0, 7 + i⟩ (spare_pl (by omega)) fun S hS => ?_
      have := t3_in (t := t) hS
      simp [this, c]
      simp [T3.D]
    · refine key t a2 fun S hS => ?_
      have := t3_in (t := t) hS
      simp [this, c]
theorem law_spots {n k m : Nat} {S : Sto} (w : WellAt S k m) (hm : m < 800000) : ∃ (f : Nat) (ts : List T3) (S' : Sto), fn (n + 4) 56 [.ref k, .int 6] S = .ok (.ref f) S' ∧ S'[f]? = some (.lst (ts.map T3.D)) ∧ ts.length = 6 ∧ (∀ t ∈ ts, okPl t) ∧ WellAt S' k (m + 18) ∧ Fr (· = k) S S' ∧ S.length ≤ f ∧ S.length ≤ S'.length := by
  rw [fn_s (fd := Tx.t56.fd) rfl]
  have w1 : WellAt (S ++ [.lst []]) k m := w.pre (pre_snoc ..)
  have hk : S.length ≠ k := by have := w.lt; omega
  obtain ⟨ts, p3, p4, S', b1, b2, b3, b4, b5, b6, b7⟩ := spots_loop (n := n) (o1 := some (.int 6)) (L := rngD 0 (6 : Nat)) hk 6 0 m [] none none _ w1 (by omega) (last_get ..) (by decide) (by decide) (by simp)
  refine ⟨S.length, ts, S', ?_, b2, by simpa using b3, b4, b5, ((Fr.of_pre (pre_snoc ..)).tr b6).new (fun x hx hl => by rcases hx with e | e; exact e; omega), Nat.le_refl _, by rw [b7]; simp⟩
  have f := exec_for (GG (n + 3)) [some (.ref k), some (.int 6), some (.ref S.length), none, none] (S ++ [.lst []]) Ex (.nm 3) (.rng1 (.var 1)) (.cons (.asg (.nm 4) (.call 55 (.cons (.var 0) .nil))) (.cons (.exp (.mt .append (.var 2) (.cons (.ite (.cmp .notin (.var 4) (.var 2)) (.var 4) (.tup (.cons (.cst (.int 1)) (.cons (.cst (.int 0)) (.cons (.bin .add (.cst (.int 7)) (.var 3)) .nil))))) .nil))) .nil))
  rw [evi_rng1 (j := 6) (S1 := S ++ [.lst []]) _ _ _ (by simp) (by decide), R.then_ok] at f
  have hx : (Src.mk (rngD 0 6) []).its = rngN 0 6 := rngD_N 6
  have hy : rngD 0 ((6 : Nat) : Int) = rngD 0 6 := rfl
  rw [hy] at b1
  rw [hx, b1] at f
  simp [runF, Tx.t56, Tx.b56, f]
end Pl
end
section
set_option Elab.async false
set_option linter.all false
set_option maxRecDepth 100000
set_option maxHeartbeats 4000000
set_option autoImplicit false
set_option exponentiation.threshold 10000
/-! X6: k84: names and deeds drawn. -/
namespace Pl
open Ev Gr PySem
theorem one_of_s {n k m : Nat} {xs : List Nat} {S : Sto} (w : WellAt S k m) (hm : m < 1000000) (hx : xs ≠ []) (hl : xs.length < 1000000) :
    ∃ (c : Nat) (S' : Sto), fn (n + 2) 49 [.ref k, .str xs] S = .ok (.str [c]) S' ∧ c ∈ xs ∧ WellAt S' k (m + 1) ∧ Fr (· = k) S S' ∧ S'.length = S.length := by
  rw [fn_s (fd := Tx.t49.fd) rfl]
  have hp := List.length_pos_iff.mpr hx
  obtain ⟨d, S', e, a, b, c, l⟩ := drawn (n := n) (many := (xs.length : Nat)) w hm (by omega) (by omega)
  have e' : fnN Tx.F Ex Tx.cs (n + 1) 48 [.ref k, .int (xs.length : Nat)] S = _ := e
  have hd : d < xs.length := by omega
  have l0 : xs.length ≤ 16777216 := by omega
  have ix := ixD_str S' l0 (d : Nat)
  rw [atI_nat, List.getElem?_eq_getElem hd] at ix
  exact ⟨xs[d], S', by simp [runF, Tx.t49, Tx.b49, len_str l0, e', ix], List.getElem_mem _, b, c, l⟩
theorem name_loop {n k : Nat} {o1 o4 o5 : Option D} {L : List D} :
    ∀ (j i m : Nat) (w : List Nat) (o3 : Option D) (S : Sto), WellAt S k m → m + j < 900000 → w.length + j ≤ 8 → (∀ c ∈ w, 97 ≤ c ∧ c ≤ 122) →
      ∃ (w' : List Nat) (p3 : Option D) (S' : Sto), forL ⟨L, []⟩ (lpF (GG (n + 2)) Ex (.nm 3) (.cons (.asg (.nm 2) (.bin .add (.var 2) (.call 49 (.cons (.var 0) (.cons (.cst (.str [97, 98, 99, 100, 101, 102, 103, 104, 105, 106, 107, 108, 109, 110, 111, 112, 113, 114, 115, 116, 117, 118, 119, 120, 121, 122])) .nil))))) .nil)) (rngN i j) [some (.ref k), o1, some (.str w), o3, o4, o5] S = .nx [some (.ref k), o1, some (.str w'), p3, o4, o5] S' ∧
        w'.length = w.length + j ∧ (∀ c ∈ w', 97 ≤ c ∧ c ≤ 122) ∧ WellAt S' k (m + j) ∧ Fr (· = k) S S' ∧ S'.length = S.length := by
  intro j
  induction j with
  | zero =>
    intro i m w o3 S hw _ _ hc
    exact ⟨w, o3, S, forL_nil (ok_nil _ _), rfl, hc, hw, Fr.rfl', rfl⟩
  | succ j ih =>
    intro i m w o3 S hw hm hl hc
    obtain ⟨c, S1, a1, a2, a3, a4, a5⟩ := one_of_s (n := n) (xs := abc) hw (by omega) (by simp) (by simp)
    have A1 : fnN Tx.F Ex Tx.cs (n + 2) 49 [.ref k, .str [97, 98, 99, 100, 101, 102, 103, 104, 105, 106, 107, 108, 109, 110, 111, 112, 113, 114, 115, 116, 117, 118, 119, 120, 121, 122]] S = _ := a1
    have ct : binop .add (.str w) (.str [c]) S1 = .ok (.str (w ++ [c])) S1 := bop_cat _ (by simp; omega)
    obtain ⟨w', p3, S', b1, b2, b3, b4, b5, b6⟩ := ih (i + 1) (m + 1) (w ++ [c]) (some (.int (i : Nat))) S1 a3 (by omega) (by simp; omega) (fun x hx => by
      rcases List.mem_append.mp hx with q | q
      · exact hc x q
      · rw [List.mem_singleton.mp q]; exact abc_mem.mp a2)
    refine ⟨w', p3, S', ?_, by rw [b2]; simp; omega, b3, b4.mono (by omega), a4.tr b5, by rw [b6, a5]⟩
    rw [rngN_succ]
    simp only [forL_cons (ok_nil _ _)]
    rw [← b1]
    simp [A1, ct]
theorem str_inr {S : Sto} {r : Nat} {w : List Nat} {ws : List (List Nat)} (h : uni w) (hs : ∀ x ∈ ws, uni x) (hr : S[r]? = some (.lst (ws.map .str))) : memS S (.str w) (.ref r) = some (decide (w ∈ ws)) := by
  show (seqOf S (.ref r)).bind _ = _
  rw [seqOf_ref hr, Option.bind_some]
  exact str_in h hs
theorem spare_ne {ws : List (List Nat)} (h : ws.length ≤ 25) : abc.filter (fun c => !decide ([c] ∈ ws)) ≠ [] := by
  intro e
  rw [List.filter_eq_nil_iff] at e
  have s : (abc.map fun c => [c]) ⊆ ws := by
    intro x hx
    obtain ⟨c, hc, rfl⟩ := List.mem_map.mp hx
    have := e c hc
    simpa using this
  have := List.Nodup.length_le_of_subset (l₁ := abc.map fun c => [c]) (by decide) s
  have l : (abc.map fun c => [c]).length = 26 := rfl
  omega
theorem abc_uni {c : Nat} (h : c ∈ abc) : uni [c] := fun x hx => by
  rw [List.mem_singleton.mp hx]
  have := abc_mem.mp h
  omega
theorem law_name {n k m r : Nat} {ws : List (List Nat)} {S : Sto} (hw : WellAt S k m) (hm : m < 800000) (hr : S[r]? = some (.lst (ws.map .str))) (hk : r ≠ k) (hn : ∀ x ∈ ws, nameOk x) (hl : ws.length ≤ 20) :
    ∃ (w : List Nat) (S' : Sto), fn (n + 3) 57 [.ref k, .ref r] S = .ok (.str w) S' ∧ nameOk w ∧ WellAt S' k (m + 10) ∧ Fr (· = k) S S' ∧ S.length ≤ S'.length := by
  rw [fn_s (fd := Tx.t57.fd) rfl]
  have un : ∀ x ∈ ws, uni x := fun x hx => name_uni (hn x hx)
  have w1 := hw.pre (pre_snoc S (.lst [.int 1, .int 1, .int 2, .int 8]))
  obtain ⟨d, S1, e1, a1, b1, c1, l1⟩ := one_of (n := n) w1 (by omega) (last_get S (.lst [.int 1, .int 1, .int 2, .int 8])) (by have := hw.lt; omega) (by simp) (by simp)
  have E1 : fnN Tx.F Ex Tx.cs (n + 2) 49 [.ref k, .ref S.length] (S ++ [.lst [.int 1, .int 1, .int 2, .int 8]]) = .ok d S1 := e1
  obtain ⟨cn, hc1, hc8, rfl⟩ : ∃ cn : Nat, 1 ≤ cn ∧ cn ≤ 8 ∧ d = .int (cn : Nat) := by
    simp only [List.mem_cons, List.not_mem_nil, or_false] at a1
    rcases a1 with e | e | e | e
    · exact ⟨1, by omega, by omega, e⟩
    · exact ⟨1, by omega, by omega, e⟩
    · exact ⟨2, by omega, by omega, e⟩
    · exact ⟨8, by omega, by omega, e⟩
  obtain ⟨w, p3, S2, e2, l2, ok2, b2, c2, g2⟩ := name_loop (n := n) (o1 := some (.ref r)) (o4 := none) (o5 := none) (L := rngD 0 (cn : Nat)) cn 0 (m + 1) [] none S1 b1 (by omega) (by simpa using hc8) (by simp)
  have f := exec_for (GG (n + 2)) [some (.ref k), some (.ref r), some (.str []), none, none, none] S Ex (.nm 3) (.rng1 (.call 49 (.cons (.var 0) (.cons (.lst (.cons (.cst (.int 1)) (.cons (.cst (.int 1)) (.cons (.cst (.int 2)) (.cons (.cst (.int 8)) .nil))))) .nil)))) (.cons (.asg (.nm 2) (.bin .add (.var 2) (.call 49 (.cons (.var 0) (.cons (.cst (.str [97, 98, 99, 100, 101, 102, 103, 104, 105, 106, 107, 108, 109, 110, 111, 112, 113, 114, 115, 116, 117, 118, 119, 120, 121, 122])) .nil))))) .nil)
  rw [evi_rng1 (j := (cn : Nat)) (S1 := S1) _ _ _ (by simp [E1]) (by unfold small; omega), R.then_ok] at f
  have hx : (Src.mk (rngD 0 (cn : Nat)) []).its = rngN 0 cn := rngD_N cn
  rw [hx, e2] at f
  have f02 : Fr (· = k) S S2 := (Fr.of_pre (pre_snoc ..)).tr (c1.tr c2)
  have lS : S2.length = S.length + 1 := by rw [g2, l1]; simp
  have hr2 := f02 _ _ hk hr
  have nw : nameOk w := ⟨by rw [l2]; simpa using hc1, by rw [l2]; simpa using hc8, ok2⟩
  obtain ⟨S3, e3, rfl⟩ := ev_lc (G := GG (n + 2)) (en := [some (.ref k), some (.ref r), some (.str w), p3, none, none]) (S := S2) (own := [("each", 5)]) (elt := .var 5) (p := .nm 5) (it := .seq (.cst (.str [97, 98, 99, 100, 101, 102, 103, 104, 105, 106, 107, 108, 109, 110, 111, 112, 113, 114, 115, 116, 117, 118, 119, 120, 121, 122]))) (c := .some (.cmp .notin (.var 5) (.var 1))) (s := ⟨abc.map fun c => .str [c], []⟩) (S1 := S2) (I := fun S' => S' = S2)
    (g := fun d => match d with | .str [c] => if [c] ∈ ws then none else some (D.str [c]) | _ => none)
    (by simp [srcSeq]) rfl (fun _ _ => ok_nil _ _) (by simp) (by
      intro d hd S' hS
      subst hS
      obtain ⟨c, hc, rfl⟩ := List.mem_map.mp hd
      have mm := str_inr (abc_uni hc) un hr2
      refine ⟨[some (.ref k), some (.ref r), some (.str w), p3, none, some (.str [c])], rfl, ?_⟩
      by_cases h : [c] ∈ ws
      · exact Or.inl ⟨S', by simp [mm, h], by simp [h], rfl⟩
      · exact Or.inr ⟨S', .str [c], S', by simp [mm, h], by simp, by simp [h], rfl⟩)
  have e4 : (abc.map fun c => D.str [c]).filterMap (fun d => match d with | .str [c] => if [c] ∈ ws then none else some (D.str [c]) | _ => none) = (abc.filter (fun c => !decide ([c] ∈ ws))).map fun c => D.str [c] := by
    rw [List.filterMap_map]
    generalize abc = l
    induction l with
    | nil => rfl
    | cons x t ih =>
      by_cases h : [x] ∈ ws
      · rw [List.filterMap_cons_none (by simp [h]), List.filter_cons_of_neg (by simp [h])]
        exact ih
      · rw [List.filterMap_cons_some (b := .str [x]) (by simp [h]), List.filter_cons_of_pos (by simp [h]), List.map_cons, ih]
  have E3 : ev (GG (n + 2)) _ _ S3 = .ok (.ref S3.length) (S3 ++ [.lst ((abc.filter (fun c => !decide ([c] ∈ ws))).map fun c => .str [c])]) := e3.trans (by rw [e4])
  have sn := spare_ne (ws := ws) (by omega)
  have hlen : (abc.filter (fun c => !decide ([c] ∈ ws))).length ≤ 26 := List.length_filter_le ..
  have hmem : ∀ c ∈ abc.filter (fun c => !decide ([c] ∈ ws)), c ∈ abc := fun c hc => (List.mem_filter.mp hc).1
  generalize abc.filter (fun c => !decide ([c] ∈ ws)) = sp at *
  have p3' := pre_snoc S3 (.lst (sp.map fun c => .str [c]))
  have hr3 := pre_get p3' hr2
  have mw := str_inr (name_uni nw) un hr3
  by_cases h : w ∈ ws
  · obtain ⟨d, S4, e5, a5, b5, c5, l5⟩ := one_of (n := n) (b2.pre p3') (by omega) (last_get S3 (.lst (sp.map fun c => .str [c]))) (by have := b2.lt; omega) (by simpa using sn) (by simp; omega)
    have E5 : fnN Tx.F Ex Tx.cs (n + 2) 49 [.ref k, .ref S3.length] (S3 ++ [.lst (sp.map fun c => .str [c])]) = .ok d S4 := e5
    obtain ⟨c, hc, rfl⟩ := List.mem_map.mp a5
    refine ⟨[c], S4, ?_, ⟨by simp, by simp, fun x hx => by rw [List.mem_singleton.mp hx]; exact abc_mem.mp (hmem c hc)⟩, b5.mono (by omega), f02.tr ((Fr.of_pre p3').tr c5), by rw [l5]; simp; omega⟩
    simp [runF, Tx.t57, Tx.b57, f, E3, mw, h, E5]
  · refine ⟨w, S3 ++ [.lst (sp.map fun c => .str [c])], ?_, nw, (b2.pre p3').mono (by omega), f02.tr (Fr.of_pre p3'), by simp; omega⟩
    simp [runF, Tx.t57, Tx.b57, f, E3, mw, h]
def Dd.D (d : Dd) : D := .tup [.str d.kd, .str d.nm, d.pl.D, .ref d.tr]
def kinds (w : List Nat) : Prop := w = wPut ∨ w = wChange ∨ w = wStrike ∨ w = wUndo
theorem told_loop {n k f : Nat} {o1 o2 o3 o4 : Option D} {L : List D} (hk : f ≠ k) :
    ∀ (j i m : Nat) (ts : List T3) (o6 : Option D) (S : Sto), WellAt S k m → m + 3 * j < 900000 → S[f]? = some (.lst (ts.map T3.D)) → ts.length + j ≤ 1000 → (∀ t ∈ ts, okT t) →
      ∃ (ts' : List T3) (p6 : Option D) (S' : Sto), forL ⟨L, []⟩ (lpF (GG (n + 2)) Ex (.nm 6) (.cons (.exp (.mt .append (.var 5) (.cons (.call 51 (.cons (.bin .sub (.call 48 (.cons (.var 0) (.cons (.cst (.int 9)) .nil))) (.cst (.int 4))) (.cons (.bin .sub (.call 48 (.cons (.var 0) (.cons (.cst (.int 5)) .nil))) (.cst (.int 2))) (.cons (.bin .add (.cst (.int 1)) (.call 48 (.cons (.var 0) (.cons (.cst (.int 6)) .nil)))) .nil)))) .nil))) .nil)) (rngN i j) [some (.ref k), o1, o2, o3, o4, some (.ref f), o6] S = .nx [some (.ref k), o1, o2, o3, o4, some (.ref f), p6] S' ∧
        S'[f]? = some (.lst (ts'.map T3.D)) ∧ ts'.length = ts.length + j ∧ (∀ t ∈ ts', okT t) ∧ WellAt S' k (m + 3 * j) ∧ Fr (fun x => x = k ∨ x = f) S S' ∧ S'.length = S.length := by
  intro j
  induction j with
  | zero =>
    intro i m ts o6 S w _ h _ hw
    exact ⟨ts, o6, S, forL_nil (ok_nil _ _), h, rfl, hw, w, Fr.rfl', rfl⟩
  | succ j ih =>
    intro i m ts o6 S w hm h hl hw
    obtain ⟨d1, S1, e1, a1, w1, f1, l1⟩ := drawn (n := n + 1) (many := 9) w (by omega) (by decide) (by decide)
    obtain ⟨d2, S2, e2, a2, w2, f2, l2⟩ := drawn (n := n + 1) (many := 5) w1 (by omega) (by decide) (by decide)
    obtain ⟨d3, S3, e3, a3, w3, f3, l3⟩ := drawn (n := n + 1) (many := 6) w2 (by omega) (by decide) (by decide)
    have E1 : fnN Tx.F Ex Tx.cs (n + 2) 48 [.ref k, .int 9] S = _ := e1
    have E2 : fnN Tx.F Ex Tx.cs (n + 2) 48 [.ref k, .int 5] S1 = _ := e2
    have E3 : fnN Tx.F Ex Tx.cs (n + 2) 48 [.ref k, .int 6] S2 = _ := e3
    have e4 := law_num (n := n) (a := (d1 : Int) - 4) (b := (d2 : Int) - 2) (d := 1 + d3) (S := S3) (by omega)
    rw [show (((1 + d3 : Nat)) : Int) = 1 + (d3 : Int) by omega] at e4
    have E4 : fnN Tx.F Ex Tx.cs (n + 2) 51 [.int ((d1 : Int) - 4), .int ((d2 : Int) - 2), .int (1 + (d3 : Int))] S3 = _ := e4
    have o := norm_ok (a := (d1 : Int) - 4) (b := (d2 : Int) - 2) (d := 1 + d3) (by omega) (by omega) (by omega) (by omega)
    generalize normT ((d1 : Int) - 4) ((d2 : Int) - 2) (1 + d3) = t at *
    have f03 : Fr (· = k) S S3 := f1.tr (f2.tr f3)
    have h3 := f03 _ _ hk h
    have ap := mt_append h3 (by simp; omega) t.D
    have ty := ty_append h
    have h4 : (S3.set f (.lst (ts.map T3.D ++ [t.D])))[f]? = some (.lst ((ts ++ [t]).map T3.D)) := by rw [set_get h3]; simp
    have w4 : WellAt (S3.set f (.lst (ts.map T3.D ++ [t.D]))) k (m + 3) := w3.fr (Fr.set (P := (· = f)) rfl) (fun e => hk e.symm)
    obtain ⟨ts', p6, S', b1, b2, b3, b4, b5, b6, b7⟩ := ih (i + 1) (m + 3) (ts ++ [t]) (some (.int (i : Nat))) _ w4 (by omega) h4 (by simp; omega) (fun w hw' => by
      rcases List.mem_append.mp hw' with q | q
      · exact hw w q
      · rw [List.mem_singleton.mp q]; exact o)
    refine ⟨ts', p6, S', ?_, b2, by rw [b3]; simp; omega, b4, b5.mono (by omega), ((f03.mono (Q := fun x => x = k ∨ x = f) (fun _ h => Or.inl h)).tr (Fr.set (P := fun x => x = k ∨ x = f) (Or.inr rfl))).tr b6, by rw [b7]; simp; omega⟩
    rw [rngN_succ]
    simp only [forL_cons (ok_nil _ _)]
    rw [← b1]
    simp [E1, E2, E3, E4, ty, ap]
abbrev kindsD : List D := [.str wPut, .str wPut, .str wPut, .str wChange, .str wChange, .str wStrike, .str wUndo]
theorem law_deed {n k m wr sr : Nat} {ws : List (List Nat)} {sp : List T3} {S : Sto} (hw : WellAt S k m) (hm : m < 800000) (hr : S[wr]? = some (.lst (ws.map .str))) (hs : S[sr]? = some (.lst (sp.map T3.D))) (k1 : wr ≠ k) (k2 : sr ≠ k) (hn : ∀ x ∈ ws, nameOk x) (hp : ∀ t ∈ sp, okPl t) (n1 : ws ≠ []) (n2 : sp ≠ []) (l1 : ws.length ≤ 20) (l2 : sp.length ≤ 20) :
    ∃ (d : Dd) (S' : Sto), fn (n + 3) 61 [.ref k, .ref wr, .ref sr] S = .ok d.D S' ∧ OkDd d ∧ kinds d.kd ∧ S'[d.tr]? = some (.lst (d.vs.map T3.D)) ∧ WellAt S' k (m + 20) ∧ Fr (· = k) S S' ∧ S.length ≤ d.tr ∧ S.length ≤ S'.length := by
  rw [fn_s (fd := Tx.t61.fd) rfl]
  have w1 := hw.pre (pre_snoc S (.lst kindsD))
  obtain ⟨kd, S1, e1, a1, b1, c1, g1⟩ := one_of (n := n) w1 (by omega) (last_get S (.lst kindsD)) (by have := hw.lt; omega) (by simp) (by simp)
  have E1 : fnN Tx.F Ex Tx.cs (n + 2) 49 [.ref k, .ref S.length] (S ++ [.lst [.str [112, 117, 116], .str [112, 117, 116], .str [112, 117, 116], .str [99, 104, 97, 110, 103, 101], .str [99, 104, 97, 110, 103, 101], .str [115, 116, 114, 105, 107, 101], .str [117, 110, 100, 111]]]) = .ok kd S1 := e1
  obtain ⟨kw, hk, rfl⟩ : ∃ kw : List Nat, kinds kw ∧ kd = .str kw := by
    simp only [List.mem_cons, List.not_mem_nil, or_false] at a1
    unfold kinds
    rcases a1 with e | e | e | e | e | e | e
    · exact ⟨wPut, by simp, e⟩
    · exact ⟨wPut, by simp, e⟩
    · exact ⟨wPut, by simp, e⟩
    · exact ⟨wChange, by simp, e⟩
    · exact ⟨wChange, by simp, e⟩
    · exact ⟨wStrike, by simp, e⟩
    · exact ⟨wUndo, by simp, e⟩
  obtain ⟨d2, S2, e2, a2, b2, c2, g2⟩ := drawn (n := n + 1) (many := 3) b1 (by omega) (by decide) (by decide)
  have E2 : fnN Tx.F Ex Tx.cs (n + 2) 48 [.ref k, .int 3] S1 = _ := e2
  have w3 := b2.pre (pre_snoc S2 (.lst []))
  obtain ⟨d3, S3, e3, a3, b3, c3, g3⟩ := drawn (n := n + 1) (many := 2) w3 (by omega) (by decide) (by decide)
  have E3 : fnN Tx.F Ex Tx.cs (n + 2) 48 [.ref k, .int 2] (S2 ++ [.lst []]) = _ := e3
  have sl : S2.length = S.length + 1 := by rw [g2, g1]; simp
  have fk : S2.length ≠ k := by have := b2.lt; omega
  have hf3 := c3 _ _ fk (last_get S2 (.lst []))
  obtain ⟨c, hc1, hc3, hcv⟩ : ∃ c : Nat, 1 ≤ c ∧ c ≤ 3 ∧ ev (GG (n + 2)) (.ite (.cmp .eq (.call 48 (.cons (.var 0) (.cons (.cst (.int 2)) .nil))) (.cst (.int 0))) (.var 4) (.cst (.int 1))) [some (.ref k), some (.ref wr), some (.ref sr), some (.str kw), some (.int (1 + (d2 : Int))), some (.ref S2.length), none] (S2 ++ [.lst []]) = .ok (.int (c : Nat)) S3 := by
    by_cases q : d3 = 0
    · subst q
      exact ⟨1 + d2, by omega, by omega, by simp [E3]⟩
    · exact ⟨1, by omega, by omega, by simp [E3, q]⟩
  obtain ⟨ts, p6, S4, t1, t2, t3, t4, t5, t6, t7⟩ := told_loop (n := n) (o1 := some (.ref wr)) (o2 := some (.ref sr)) (o3 := some (.str kw)) (o4 := some (.int (1 + (d2 : Int)))) (L := rngD 0 (c : Nat)) fk c 0 _ [] none S3 b3 (by omega) hf3 (by simp; omega) (by simp)
  have f := exec_for (GG (n + 2)) [some (.ref k), some (.ref wr), some (.ref sr), some (.str kw), some (.int (1 + (d2 : Int))), some (.ref S2.length), none] (S2 ++ [.lst []]) Ex (.nm 6) (.rng1 (.ite (.cmp .eq (.call 48 (.cons (.var 0) (.cons (.cst (.int 2)) .nil))) (.cst (.int 0))) (.var 4) (.cst (.int 1)))) (.cons (.exp (.mt .append (.var 5) (.cons (.call 51 (.cons (.bin .sub (.call 48 (.cons (.var 0) (.cons (.cst (.int 9)) .nil))) (.cst (.int 4))) (.cons (.bin .sub (.call 48 (.cons (.var 0) (.cons (.cst (.int 5)) .nil))) (.cst (.int 2))) (.cons (.bin .add (.cst (.int 1)) (.call 48 (.cons (.var 0) (.cons (.cst (.int 6)) .nil)))) .nil)))) .nil))) .nil)
  rw [evi_rng1 (j := (c : Nat)) (S1 := S3) _ _ _ hcv (by unfold small; omega), R.then_ok] at f
  have hx : (Src.mk (rngD 0 (c : Nat)) []).its = rngN 0 c := rngD_N c
  rw [hx, t1] at f
  have f2 : Fr (· = k) S S2 := (Fr.of_pre (pre_snoc ..)).tr (c1.tr c2)
  have f4 : Fr (· = k) S S4 := fun i o hi ho => by
    have h3 := (f2.tr ((Fr.of_pre (pre_snoc S2 (.lst []))).tr c3)) i o hi ho
    have := get_lt ho
    exact t6 i o (by rintro (e | e); exact hi e; omega) h3
  obtain ⟨nd, S5, e5, a5, b5, c5, g5⟩ := one_of (n := n) t5 (by omega) (f4 _ _ k1 hr) k1 (by simpa using n1) (by simp; omega)
  have E5 : fnN Tx.F Ex Tx.cs (n + 2) 49 [.ref k, .ref wr] S4 = _ := e5
  obtain ⟨w, hwm, rfl⟩ := List.mem_map.mp a5
  obtain ⟨pd, S6, e6, a6, b6, c6, g6⟩ := one_of (n := n) b5 (by omega) ((f4.tr c5) _ _ k2 hs) k2 (by simpa using n2) (by simp; omega)
  have E6 : fnN Tx.F Ex Tx.cs (n + 2) 49 [.ref k, .ref sr] S5 = _ := e6
  obtain ⟨t, htm, rfl⟩ := List.mem_map.mp a6
  have lt : ts.length = c := by simpa using t3
  have s3 : S3.length = S.length + 2 := by rw [g3]; simp; omega
  refine ⟨⟨kw, w, t, ts, S2.length⟩, S6, ?_, ⟨hn w hwm, hp t htm, by show 1 ≤ ts.length; omega, by show ts.length ≤ 3; omega, t4⟩, hk, (c5.tr c6) _ _ fk t2, b6.mono (by omega), f4.tr (c5.tr c6), by show S.length ≤ S2.length; omega, by rw [g6, g5, t7, s3]; omega⟩
  simp [runF, Tx.t61, Tx.b61, E1, E2, f, E5, E6, parSet]
  rfl
end Pl
end
section
set_option Elab.async false
set_option linter.all false
set_option maxRecDepth 100000
set_option maxHeartbeats 4000000
set_option autoImplicit false
set_option exponentiation.threshold 10000
/-! X7: k84: the law's own rows. -/
namespace Pl
open Ev Gr PySem
def okL (S : Sto) (n : Nat) (d : D) : Prop := ∃ p, toP S n d = some p ∧ p.canLay0 = true
theorem okL_pl {S : Sto} {n : Nat} {d : D} (h : pl d = true) (h2 : dpt d < n) : okL S n d := ⟨pd d, toP_pl S d n h h2, lay_pl d h⟩
theorem okL_bl {S : Sto} {n : Nat} (b : Bool) : okL S (n + 1) (.bl b) := ⟨.bool b, rfl, rfl⟩
theorem okL_all {S : Sto} {n : Nat} : ∀ {xs : List D}, (∀ x ∈ xs, okL S n x) → ∃ ps, mapO (toP S n) xs = some ps ∧ PyData.canLayAll0 ps = true ∧ ps.length = xs.length
  | [], _ => ⟨[], rfl, rfl, rfl⟩
  | x :: r, h => by
    obtain ⟨p, e, l⟩ := h x (by simp)
    obtain ⟨ps, e2, l2, l3⟩ := okL_all (xs := r) fun y hy => h y (List.mem_cons_of_mem _ hy)
    refine ⟨p :: ps, ?_, ?_, by simp [l3]⟩
    · show (toP S n x).bind _ = _
      rw [e]
      show (mapO (toP S n) r).bind _ = _
      rw [e2]
      rfl
    · show (p.canLay0 && PyData.canLayAll0 ps) = true
      rw [l, l2]; rfl
theorem okL_tup {S : Sto} {n : Nat} {xs : List D} (h : ∀ x ∈ xs, okL S n x) : okL S (n + 1) (.tup xs) := by
  obtain ⟨ps, e, l, _⟩ := okL_all h
  refine ⟨.tuple ps, ?_, l⟩
  show (mapO (toP S n) xs).map _ = _
  rw [e]; rfl
theorem okL_ref {S : Sto} {n r : Nat} {xs : List D} (hr : S[r]? = some (.lst xs)) (h : ∀ x ∈ xs, okL S n x) : okL S (n + 1) (.ref r) := by
  obtain ⟨ps, e, l, _⟩ := okL_all h
  refine ⟨.list ps, ?_, l⟩
  show (match S[r]? with
    | some (.lst xs) => (mapO (toP S n) xs).map PyData.list
    | _ => none) = _
  rw [hr]
  show (mapO (toP S n) xs).map _ = _
  rw [e]; rfl
theorem eqD_nilL {S : Sto} {r z : Nat} {xs : List D} (hr : S[r]? = some (.lst xs)) (hz : S[z]? = some (.lst [])) (h : ∀ x ∈ xs, okL S 19 x) : eqD S (.ref r) (.ref z) = some xs.isEmpty := by
  obtain ⟨ps, e, l, l2⟩ := okL_all h
  have e1 : toP S 20 (.ref r) = some (.list ps) := by
    show (match S[r]? with
      | some (.lst xs) => (mapO (toP S 19) xs).map PyData.list
      | _ => none) = _
    rw [hr]
    show (mapO (toP S 19) xs).map _ = _
    rw [e]; rfl
  have e2 : toP S 20 (.ref z) = some (.list []) := by
    show (match S[z]? with
      | some (.lst xs) => (mapO (toP S 19) xs).map PyData.list
      | _ => none) = _
    rw [hz]
    rfl
  show ((toP S 20 (.ref r)).bind fun p => (toP S 20 (.ref z)).bind fun q => if p.canLay0 = true ∧ q.canLay0 = true then some (PyData.eqv p q) else none) = _
  rw [e1, e2]
  simp only [Option.bind_some]
  rw [if_pos ⟨show PyData.canLayAll0 ps = true from l, rfl⟩]
  congr 1
  cases xs with
  | nil =>
    have : ps = [] := List.length_eq_zero_iff.mp (by simpa using l2)
    subst this
    rfl
  | cons x t =>
    cases ps with
    | nil => simp at l2
    | cons p q => rfl
structure Rows (S : Sto) (r : Nat) (es : List Ent) : Prop where
  at_ : S[r]? = some (.lst (es.map Ent.L))
  tr : ∀ e ∈ es, S[e.tr]? = some (.lst (e.vs.map T3.D))
theorem Rows.pre {S S' : Sto} {r : Nat} {es : List Ent} (h : Rows S r es) (p : S <+: S') : Rows S' r es := ⟨pre_get p h.at_, fun e he => pre_get p (h.tr e he)⟩
theorem Rows.fr {P : Nat → Prop} {S S' : Sto} {r : Nat} {es : List Ent} (h : Rows S r es) (f : Fr P S S') (hr : ¬ P r) (ht : ∀ e ∈ es, ¬ P e.tr) : Rows S' r es := ⟨f _ _ hr h.at_, fun e he => f _ _ (ht e he) (h.tr e he)⟩
theorem okL_L {S : Sto} {n : Nat} {e : Ent} (hn : nameOk e.nm) (ht : S[e.tr]? = some (.lst (e.vs.map T3.D))) : okL S (n + 4) e.L := by
  refine okL_tup fun x hx => ?_
  simp only [List.mem_cons, List.not_mem_nil, or_false] at hx
  rcases hx with rfl | rfl | rfl
  · exact okL_pl (pl_str (name_uni hn)) (by show 0 < n + 3; omega)
  · exact okL_pl rfl (by have h2 : dpt e.pl.D = 1 := by simp [T3.D, dpt, dptL]
                         omega)
  · refine okL_ref ht fun x hx => ?_
    obtain ⟨t, _, rfl⟩ := List.mem_map.mp hx
    exact okL_pl rfl (by have h2 : dpt t.D = 1 := by simp [T3.D, dpt, dptL]
                         omega)
abbrev wRaised : List Nat := [114, 97, 105, 115, 101, 100]
def Told (x : D) (S : Sto) : Option Nat → Prop
  | none => x = .non
  | some c => ∃ q, x = .tup [.str wRaised, .ref q] ∧ S[q]? = some (.lst [.bl (decide (c = 6)), .bl (decide (c = 5)), .bl (decide (c = 7))])
def fil (nm : List Nat) (es : List Ent) : List Ent := es.filter fun e => decide (e.nm = nm)
theorem fil_nil {nm : List Nat} {es : List Ent} : fil nm es = [] ↔ nm ∉ nmsOf es := by
  unfold fil nmsOf
  rw [List.filter_eq_nil_iff]
  constructor
  · intro h hm
    obtain ⟨e, he, rfl⟩ := List.mem_map.mp hm
    exact h e he (by simp)
  · intro h e he hd
    exact h (List.mem_map.mpr ⟨e, he, of_decide_eq_true hd⟩)
theorem chgs_none {nm : List Nat} {vs : List T3} {tr : Nat} : ∀ {es : List Ent}, nm ∉ nmsOf es → chgs nm vs tr es = es
  | [], _ => rfl
  | e :: r, h => by
    have h1 : ¬ e.nm = nm := fun q => h (by simp [nmsOf, q])
    have h2 : nm ∉ nmsOf r := fun q => h (by simp only [nmsOf, List.map_cons, List.mem_cons] at *; exact Or.inr q)
    show chg nm vs tr e :: chgs nm vs tr r = _
    rw [chgs_none h2]
    unfold chg
    rw [if_neg h1]
theorem chgs_cnt {nm : List Nat} {vs : List T3} {tr : Nat} {e : Ent} {t : List Ent} : ∀ {es : List Ent}, (nmsOf es).Nodup → fil nm es = e :: t → cntE (chgs nm vs tr es) + e.vs.length = cntE es + vs.length
  | [], _, h => by cases h
  | x :: r, hn, h => by
    have hn' : x.nm ∉ nmsOf r ∧ (nmsOf r).Nodup := List.nodup_cons.mp hn
    unfold fil at h
    rw [List.filter_cons] at h
    by_cases q : x.nm = nm
    · rw [if_pos (by simp [q])] at h
      injection h with h1 h2
      subst h1
      have hr : chgs nm vs tr r = r := chgs_none (q ▸ hn'.1)
      show cntE (chg nm vs tr x :: chgs nm vs tr r) + _ = _
      rw [hr]
      unfold chg
      rw [if_pos q]
      simp only [cntE, List.map_cons, List.sum_cons]
      omega
    · rw [if_neg (by simp [q])] at h
      have ih := chgs_cnt (nm := nm) (vs := vs) (tr := tr) hn'.2 h
      show cntE (chg nm vs tr x :: chgs nm vs tr r) + _ = _
      unfold chg
      rw [if_neg q]
      simp only [cntE, List.map_cons, List.sum_cons] at *
      omega
theorem pls_mem {es : List Ent} {t : T3} (h : ∀ e ∈ es, okT e.pl) (ht : okT t) : outN t ∈ plsOf es ↔ t ∈ es.map fun e => e.pl := by
  constructor
  · intro hm
    obtain ⟨e, he, q⟩ := List.mem_map.mp hm
    rw [← outN_inj (h e he) ht q]
    exact List.mem_map.mpr ⟨e, he, rfl⟩
  · intro hm
    obtain ⟨e, he, rfl⟩ := List.mem_map.mp hm
    exact List.mem_map.mpr ⟨e, he, rfl⟩
theorem cntE_sum (es : List Ent) : (es.map fun e => ((e.vs.length : Nat) : Int)).sum = ((cntE es : Nat) : Int) := by
  unfold cntE
  induction es with
  | nil => rfl
  | cons p r ih =>
    simp only [List.map_cons, List.sum_cons]
    omega
theorem at_2 {α : Type} (a b c : α) (l : List α) : L2.atI (a :: b :: c :: l) 2 = some c := by
  have := atI_nat (a :: b :: c :: l) 2
  exact this
theorem at_3 {α : Type} (a b c d : α) (l : List α) : L2.atI (a :: b :: c :: d :: l) 3 = some d := by
  have := atI_nat (a :: b :: c :: d :: l) 3
  exact this
theorem law_refused {n r : Nat} {es : List Ent} {d : Dd} {S : Sto} (h : Rows S r es) (he : OkEs es) (hd : OkDd d) (ht : S[d.tr]? = some (.lst (d.vs.map T3.D))) :
    ∃ (x : D) (S' : Sto), fn (n + 1) 59 [.ref r, d.D] S = .ok x S' ∧ Told x S' (refu es d) ∧ S <+: S' := by
  rw [fn_s (fd := Tx.t59.fd) rfl]
  have hl := he.len
  have hc := he.cnt
  -- those of the name
  obtain ⟨Sx, e1, rfl⟩ := ev_lc (G := GG n) (en := [some (.ref r), some d.D, none, none, none, none]) (S := S) (own := [("each", 5)]) (elt := .var 5) (p := .nm 5) (it := .seq (.var 0)) (c := .some (.cmp .eq (.ix (.var 5) (.cst (.int 0))) (.ix (.var 1) (.cst (.int 1))))) (s := ⟨es.map Ent.L, [(r, es.map Ent.L)]⟩) (S1 := S) (I := fun S' => S' = S)
    (g := fun x => match x with | .tup (.str a :: _) => if a = d.nm then some x else none | _ => none)
    (by simp [srcSeq, lstOf, h.at_]) rfl (fun _ e => e ▸ ok_one h.at_) (by simp; omega) (by
      intro x hx S' hS
      subst hS
      obtain ⟨e, _, rfl⟩ := List.mem_map.mp hx
      refine ⟨[some (.ref r), some d.D, none, none, none, some e.L], rfl, ?_⟩
      by_cases q : e.nm = d.nm
      · exact Or.inr ⟨S', e.L, S', by simp [Ent.L, Dd.D, q], by simp, by simp [Ent.L, q], rfl⟩
      · exact Or.inl ⟨S', by simp [Ent.L, Dd.D, q], by simp [Ent.L, q], rfl⟩)
  have e1' : (es.map Ent.L).filterMap (fun x => match x with | .tup (.str a :: _) => if a = d.nm then some x else none | _ => none) = (fil d.nm es).map Ent.L := by
    unfold fil
    rw [List.filterMap_map]
    generalize es = l
    induction l with
    | nil => rfl
    | cons x t ih =>
      by_cases q : x.nm = d.nm
      · rw [List.filterMap_cons_some (b := x.L) (by simp [Ent.L, q]), List.filter_cons_of_pos (by simp [q]), List.map_cons, ih]
      · rw [List.filterMap_cons_none (by simp [Ent.L, q]), List.filter_cons_of_neg (by simp [q])]
        exact ih
  have E1 : ev (GG n) _ _ Sx = .ok (.ref Sx.length) (Sx ++ [.lst ((fil d.nm es).map Ent.L)]) := e1.trans (by rw [e1'])
  have p1 := pre_snoc Sx (.lst ((fil d.nm es).map Ent.L))
  have g1 := last_get Sx (.lst ((fil d.nm es).map Ent.L))
  have h1 := h.pre p1
  have ht1 := pre_get p1 ht
  have fm : ∀ e ∈ fil d.nm es, e ∈ es := fun e hm => (List.mem_filter.mp hm).1
  generalize hS1 : Sx ++ [Ob.lst ((fil d.nm es).map Ent.L)] = S1 at *
  -- the room
  have e2 := ev_lcp (G := GG n) (en := [some (.ref r), some d.D, some (.ref Sx.length), none, none, none]) (S := S1) (own := [("each", 5)]) (elt := .bi .len (.cons (.ix (.var 5) (.cst (.int 2))) .nil)) (p := .nm 5) (it := .seq (.var 0)) (s := ⟨es.map Ent.L, [(r, es.map Ent.L)]⟩) (S1 := S1)
    (g := fun x => match x with | .tup [_, _, .ref q] => (match S1[q]? with | some (.lst xs) => .int xs.length | _ => .non) | _ => .non)
    (by simp [srcSeq, lstOf, h1.at_]) (ok_one h1.at_) (by simp; omega) (by
      intro x hx
      obtain ⟨e, hm, rfl⟩ := List.mem_map.mp hx
      have ln := len_ref (h1.tr e hm)
      exact ⟨[some (.ref r), some d.D, some (.ref Sx.length), none, none, some e.L], rfl, by simp [Ent.L, at_2, ln, h1.tr e hm]⟩)
  have e2' : ((es.map Ent.L).map fun x => match x with | .tup [_, _, .ref q] => (match S1[q]? with | some (.lst xs) => D.int xs.length | _ => .non) | _ => .non) = es.map fun e => .int ((e.vs.length : Nat) : Int) := by
    rw [List.map_map]
    apply List.map_congr_left
    intro e hm
    simp [Ent.L, h1.tr e hm]
  have E2 : ev (GG n) _ _ S1 = .ok (.ref S1.length) (S1 ++ [.lst (es.map fun e => .int ((e.vs.length : Nat) : Int))]) := e2.trans (by rw [e2'])
  have sm : bi .sum [.ref S1.length] (S1 ++ [.lst (es.map fun e => .int ((e.vs.length : Nat) : Int))]) = .ok (.int (cntE es : Nat)) (S1 ++ [.lst (es.map fun e => .int ((e.vs.length : Nat) : Int))]) := by
    have := cntE_sum es
    simp [bi, lstOf, this]
  have p2 := pre_snoc S1 (.lst (es.map fun e => .int ((e.vs.length : Nat) : Int)))
  have h2 := h1.pre p2
  have ht2 := pre_get p2 ht1
  have g2 := pre_get p2 g1
  generalize hS2 : S1 ++ [Ob.lst (es.map fun e => .int ((e.vs.length : Nat) : Int))] = S2 at *
  have p3 := pre_snoc S2 (.lst [])
  have h3 := h2.pre p3
  have ht3 := pre_get p3 ht2
  have g3 := pre_get p3 g2
  have nl := eqD_nilL g3 (last_get S2 (.lst [])) (by
    intro x hx
    obtain ⟨e, hm, rfl⟩ := List.mem_map.mp hx
    exact okL_L (n := 15) (he.each e (fm e hm)).nm (h3.tr e (fm e hm)))
  have ie : ((fil d.nm es).map Ent.L).isEmpty = decide (d.nm ∉ nmsOf es) := by
    rw [List.isEmpty_map]
    by_cases q : fil d.nm es = []
    · rw [q, decide_eq_true (fil_nil.mp q)]; rfl
    · have : ¬ d.nm ∉ nmsOf es := fun z => q (fil_nil.mpr z)
      rw [decide_eq_false this]
      simpa using q
  rw [ie] at nl
  generalize hS3 : S2 ++ [Ob.lst []] = S3 at *
  have P3 : Sx <+: S3 := p1.trans (p2.trans p3)
  unfold refu
  by_cases k : d.kd = wPut
  · rw [if_pos k]
    by_cases c1 : d.nm ∈ nmsOf es
    · rw [if_pos (Or.inl c1)]
      refine ⟨.tup [.str wRaised, .ref S3.length], S3 ++ [.lst [.bl true, .bl false, .bl false]], ?_, ⟨S3.length, rfl, last_get ..⟩, P3.trans (pre_snoc ..)⟩
      simp only [Dd.D, k] at E1 E2
      simp [runF, Tx.t59, Tx.b59, E1, E2, sm, hS3, nl, c1, k, Dd.D]
    · have e5 := ev_lcp (G := GG n) (en := [some (.ref r), some d.D, some (.ref Sx.length), some (.int (6 - (cntE es : Int))), none, none]) (S := S3) (own := [("each", 5)]) (elt := .ix (.var 5) (.cst (.int 1))) (p := .nm 5) (it := .seq (.var 0)) (s := ⟨es.map Ent.L, [(r, es.map Ent.L)]⟩) (S1 := S3)
        (g := fun x => match x with | .tup [_, a, _] => a | _ => .non)
        (by simp [srcSeq, lstOf, h3.at_]) (ok_one h3.at_) (by simp; omega) (by
          intro x hx
          obtain ⟨e, hm, rfl⟩ := List.mem_map.mp hx
          exact ⟨[some (.ref r), some d.D, some (.ref Sx.length), some (.int (6 - (cntE es : Int))), none, some e.L], rfl, by simp [Ent.L]⟩)
      have e5' : ((es.map Ent.L).map fun x => match x with | .tup [_, a, _] => a | _ => D.non) = (es.map fun e => e.pl).map T3.D := by
        rw [List.map_map, List.map_map]
        rfl
      have E5 : ev (GG n) _ _ S3 = .ok (.ref S3.length) (S3 ++ [.lst ((es.map fun e => e.pl).map T3.D)]) := e5.trans (by rw [e5'])
      have p4 := pre_snoc S3 (.lst ((es.map fun e => e.pl).map T3.D))
      have mm := t3_in (t := d.pl) (last_get S3 (.lst ((es.map fun e => e.pl).map T3.D)))
      have ht4 := pre_get p4 ht3
      have ln := len_ref ht4
      generalize hS4 : S3 ++ [Ob.lst ((es.map fun e => e.pl).map T3.D)] = S4 at *
      have pm := pls_mem (t := d.pl) (fun e hm => (he.each e hm).pl.1) hd.pl.1
      by_cases c2 : outN d.pl ∈ plsOf es
      · have c2' := pm.mp c2
        rw [decide_eq_true c2'] at mm
        rw [if_pos (Or.inr c2)]
        refine ⟨.tup [.str wRaised, .ref S4.length], S4 ++ [.lst [.bl true, .bl false, .bl false]], ?_, ⟨S4.length, rfl, last_get ..⟩, P3.trans (p4.trans (pre_snoc ..))⟩
        simp only [Dd.D, k] at E1 E2 E5
        simp [runF, Tx.t59, Tx.b59, E1, E2, E5, sm, hS3, nl, c1, k, Dd.D, at_2, mm]
      · have c2' : ¬ d.pl ∈ es.map fun e => e.pl := fun z => c2 (pm.mpr z)
        rw [decide_eq_false c2'] at mm
        rw [if_neg (by rintro (z | z); exact c1 z; exact c2 z)]
        by_cases c3 : 6 < cntE es + d.vs.length
        · have c3' : (6 : Int) - (cntE es : Nat) < (d.vs.length : Nat) := by omega
          rw [if_pos c3]
          refine ⟨.tup [.str wRaised, .ref S4.length], S4 ++ [.lst [.bl false, .bl false, .bl true]], ?_, ⟨S4.length, rfl, last_get ..⟩, P3.trans (p4.trans (pre_snoc ..))⟩
          simp only [Dd.D, k] at E1 E2 E5
          simp [runF, Tx.t59, Tx.b59, E1, E2, E5, sm, hS3, nl, c1, k, Dd.D, at_2, at_3, mm, ln, c3']
        · have c3' : ¬ (6 : Int) - (cntE es : Nat) < (d.vs.length : Nat) := by omega
          rw [if_neg c3]
          refine ⟨.non, S4, ?_, rfl, P3.trans p4⟩
          simp only [Dd.D, k] at E1 E2 E5
          simp [runF, Tx.t59, Tx.b59, E1, E2, E5, sm, hS3, nl, c1, k, Dd.D, at_2, at_3, mm, ln, c3']
  · rw [if_neg k]
    by_cases c1 : d.nm ∈ nmsOf es
    · rw [if_neg (not_not_intro c1)]
      by_cases k2 : d.kd = wChange
      · obtain ⟨e, t, hf⟩ : ∃ e t, fil d.nm es = e :: t := by
          cases q : fil d.nm es with
          | nil => exact absurd c1 (fil_nil.mp q)
          | cons e t => exact ⟨e, t, rfl⟩
        have cc := chgs_cnt (vs := d.vs) (tr := d.tr) he.nd hf
        have me := fm e (by rw [hf]; simp)
        have ix := ixD_ref g3 0
        rw [hf, List.map_cons, atI_0] at ix
        have le := len_ref (h3.tr e me)
        have ln := len_ref ht3
        by_cases c3 : 6 < cntE (chgs d.nm d.vs d.tr es)
        · have c3' : (6 : Int) - (cntE es : Nat) + (e.vs.length : Nat) < (d.vs.length : Nat) := by omega
          rw [if_pos ⟨k2, c3⟩]
          refine ⟨.tup [.str wRaised, .ref S3.length], S3 ++ [.lst [.bl false, .bl false, .bl true]], ?_, ⟨S3.length, rfl, last_get ..⟩, P3.trans (pre_snoc ..)⟩
          simp only [Dd.D, k2] at E1 E2
          simp [runF, Tx.t59, Tx.b59, E1, E2, sm, hS3, nl, c1, k2, Dd.D, at_2, at_3, ix, Ent.L, le, ln, c3']
        · have c3' : ¬ (6 : Int) - (cntE es : Nat) + (e.vs.length : Nat) < (d.vs.length : Nat) := by omega
          rw [if_neg (fun z => c3 z.2)]
          refine ⟨.non, S3, ?_, rfl, P3⟩
          simp only [Dd.D, k2] at E1 E2
          simp [runF, Tx.t59, Tx.b59, E1, E2, sm, hS3, nl, c1, k2, Dd.D, at_2, at_3, ix, Ent.L, le, ln, c3']
      · rw [if_neg (fun z => k2 z.1)]
        refine ⟨.non, S3, ?_, rfl, P3⟩
        simp only [Dd.D] at E1 E2
        simp [runF, Tx.t59, Tx.b59, E1, E2, sm, hS3, nl, c1, k, k2, Dd.D]
    · rw [if_pos c1]
      refine ⟨.tup [.str wRaised, .ref S3.length], S3 ++ [.lst [.bl false, .bl true, .bl false]], ?_, ⟨S3.length, rfl, last_get ..⟩, P3.trans (pre_snoc ..)⟩
      simp only [Dd.D] at E1 E2
      simp [runF, Tx.t59, Tx.b59, E1, E2, sm, hS3, nl, c1, k, Dd.D]
end Pl
end
section
set_option Elab.async false
set_option linter.all false
set_option maxRecDepth 100000
set_option maxHeartbeats 4000000
set_option autoImplicit false
set_option exponentiation.threshold 10000
/-! X8: k84: rows behind a deed, a deed done, what is said of it. -/
namespace Pl
open Ev Gr PySem
theorem bop_refs {S : Sto} {m n : Nat} {x y : List D} (hm : S[m]? = some (.lst x)) (hn : S[n]? = some (.lst y)) (hl : x.length + y.length ≤ 16777216) : binop .add (.ref m) (.ref n) S = .ok (.ref S.length) (S ++ [.lst (x ++ y)]) := by
  simp [binop, hm, hn, hl]
theorem law_behind {n r : Nat} {es : List Ent} {d : Dd} {S : Sto} (h : Rows S r es) (hl : es.length ≤ 6) (hk : d.kd = wPut ∨ d.kd = wChange ∨ d.kd = wStrike) (ht : S[d.tr]? = some (.lst (d.vs.map T3.D))) :
    ∃ (r' : Nat) (S' : Sto), fn (n + 1) 60 [.ref r, d.D] S = .ok (.ref r') S' ∧ Rows S' r' (behind es d) ∧ S <+: S' ∧ S.length ≤ r' := by
  rw [fn_s (fd := Tx.t60.fd) rfl]
  unfold behind
  by_cases k : d.kd = wPut
  · rw [if_pos k]
    have p1 := pre_snoc S (.lst [.tup [.str d.nm, d.pl.D, .ref d.tr]])
    have g1 := pre_get p1 h.at_
    have ad := bop_refs (S := S ++ [.lst [.tup [.str d.nm, d.pl.D, .ref d.tr]]]) (m := r) (n := S.length) g1 (last_get ..) (by simp; omega)
    have e : es.map Ent.L ++ [D.tup [.str d.nm, d.pl.D, .ref d.tr]] = (es ++ [d.ent]).map Ent.L := by rw [List.map_append]; rfl
    rw [e] at ad
    have p2 := pre_snoc (S ++ [Ob.lst [.tup [.str d.nm, d.pl.D, .ref d.tr]]]) (.lst ((es ++ [d.ent]).map Ent.L))
    refine ⟨_, _, ?_, ⟨last_get (S ++ [Ob.lst [.tup [.str d.nm, d.pl.D, .ref d.tr]]]) (.lst ((es ++ [d.ent]).map Ent.L)), ?_⟩, p1.trans p2, by simp⟩
    · generalize hS2 : (S ++ [Ob.lst [.tup [.str d.nm, d.pl.D, .ref d.tr]]]) ++ [Ob.lst ((es ++ [d.ent]).map Ent.L)] = S2 at *
      rw [List.length_append, List.length_singleton] at ad ⊢
      simp [runF, Tx.t60, Tx.b60, Dd.D, k, at_2, at_3, ad]
    · intro x hx
      rcases List.mem_append.mp hx with q | q
      · exact pre_get (p1.trans p2) (h.tr x q)
      · rw [List.mem_singleton.mp q]
        exact pre_get (p1.trans p2) ht
  · rw [if_neg k]
    by_cases k2 : d.kd = wStrike
    · rw [if_pos k2]
      obtain ⟨Sx, e1, rfl⟩ := ev_lc (G := GG n) (en := [some (.ref r), some d.D, none]) (S := S) (own := [("each", 2)]) (elt := .var 2) (p := .nm 2) (it := .seq (.var 0)) (c := .some (.cmp .ne (.ix (.var 2) (.cst (.int 0))) (.ix (.var 1) (.cst (.int 1))))) (s := ⟨es.map Ent.L, [(r, es.map Ent.L)]⟩) (S1 := S) (I := fun S' => S' = S)
        (g := fun x => match x with | .tup (.str a :: _) => if a = d.nm then none else some x | _ => none)
        (by simp [srcSeq, lstOf, h.at_]) rfl (fun _ e => e ▸ ok_one h.at_) (by simp; omega) (by
          intro x hx S' hS
          subst hS
          obtain ⟨e, _, rfl⟩ := List.mem_map.mp hx
          refine ⟨[some (.ref r), some d.D, some e.L], rfl, ?_⟩
          by_cases q : e.nm = d.nm
          · exact Or.inl ⟨S', by simp [Ent.L, Dd.D, q], by simp [Ent.L, q], rfl⟩
          · exact Or.inr ⟨S', e.L, S', by simp [Ent.L, Dd.D, q], by simp, by simp [Ent.L, q], rfl⟩)
      have e1' : (es.map Ent.L).filterMap (fun x => match x with | .tup (.str a :: _) => if a = d.nm then none else some x | _ => none) = (wout d.nm es).map Ent.L := by
        unfold wout
        rw [List.filterMap_map]
        clear hl h e1
        induction es with
        | nil => rfl
        | cons x t ih =>
          by_cases q : x.nm = d.nm
          · rw [List.filterMap_cons_none (by simp [Ent.L, q]), List.filter_cons_of_neg (by simp [q])]
            exact ih
          · rw [List.filterMap_cons_some (b := x.L) (by simp [Ent.L, q]), List.filter_cons_of_pos (by simp [q]), List.map_cons, ih]
      have E1 : ev (GG n) _ _ Sx = .ok (.ref Sx.length) (Sx ++ [.lst ((wout d.nm es).map Ent.L)]) := e1.trans (by rw [e1'])
      refine ⟨_, _, ?_, ⟨last_get Sx (.lst ((wout d.nm es).map Ent.L)), fun x hx => pre_get (pre_snoc ..) (h.tr x (List.mem_filter.mp hx).1)⟩, pre_snoc .., Nat.le_refl _⟩
      simp only [Dd.D, k2] at E1
      simp [runF, Tx.t60, Tx.b60, Dd.D, k2, E1]
    · rw [if_neg k2]
      have k3 : d.kd = wChange := by
        rcases hk with q | q | q
        · exact absurd q k
        · exact q
        · exact absurd q k2
      have e1 := ev_lcp (G := GG n) (en := [some (.ref r), some d.D, none]) (S := S) (own := [("each", 2)]) (elt := .ite (.cmp .eq (.ix (.var 2) (.cst (.int 0))) (.ix (.var 1) (.cst (.int 1)))) (.tup (.cons (.ix (.var 2) (.cst (.int 0))) (.cons (.ix (.var 2) (.cst (.int 1))) (.cons (.ix (.var 1) (.cst (.int 3))) .nil)))) (.var 2)) (p := .nm 2) (it := .seq (.var 0)) (s := ⟨es.map Ent.L, [(r, es.map Ent.L)]⟩) (S1 := S)
        (g := fun x => match x with | .tup [.str a, b, c] => .tup [.str a, b, if a = d.nm then .ref d.tr else c] | _ => .non)
        (by simp [srcSeq, lstOf, h.at_]) (ok_one h.at_) (by simp; omega) (by
          intro x hx
          obtain ⟨e, _, rfl⟩ := List.mem_map.mp hx
          refine ⟨[some (.ref r), some d.D, some e.L], rfl, ?_⟩
          by_cases q : e.nm = d.nm <;> simp [Ent.L, Dd.D, q, at_3])
      have e1' : ((es.map Ent.L).map fun x => match x with | .tup [.str a, b, c] => D.tup [.str a, b, if a = d.nm then .ref d.tr else c] | _ => .non) = (chgs d.nm d.vs d.tr es).map Ent.L := by
        unfold chgs
        rw [List.map_map, List.map_map]
        congr 1
        funext x
        unfold chg
        by_cases q : x.nm = d.nm <;> simp [Ent.L, q]
      have E1 : ev (GG n) _ _ S = .ok (.ref S.length) (S ++ [.lst ((chgs d.nm d.vs d.tr es).map Ent.L)]) := e1.trans (by rw [e1'])
      refine ⟨_, _, ?_, ⟨last_get S (.lst ((chgs d.nm d.vs d.tr es).map Ent.L)), fun x hx => ?_⟩, pre_snoc .., Nat.le_refl _⟩
      · simp only [Dd.D, k3] at E1
        simp [runF, Tx.t60, Tx.b60, Dd.D, k3, E1]
      · obtain ⟨e, he, rfl⟩ := List.mem_map.mp hx
        refine pre_get (pre_snoc ..) ?_
        unfold chg
        split
        · exact ht
        · exact h.tr e he
theorem Act.base {r : R D} {S S1 : Sto} {p q : Nat} {t v : D} {es' : List Ent} {pss' : List (List Ent)} {o : Option Nat} (h : Act r S1 p q t v es' pss' o) (hp : S <+: S1) : Act r S p q t v es' pss' o := by
  cases o with
  | some c =>
    obtain ⟨S', a, b⟩ := h
    exact ⟨S', a, hp.trans b⟩
  | none =>
    obtain ⟨S', a, b, c, d⟩ := h
    exact ⟨S', a, b, (Fr.of_pre hp).tr c, Nat.le_trans hp.length_le d⟩
theorem Act.ret {r r' : R D} {S : Sto} {p q : Nat} {t v : D} {es' : List Ent} {pss' : List (List Ent)} {o : Option Nat} (h : Act r S p q t v es' pss' o) (e : ∀ x, r = x → r' = x) : Act r' S p q t v es' pss' o := by
  cases o with
  | some c =>
    obtain ⟨S', a, b⟩ := h
    exact ⟨S', e _ a, b⟩
  | none =>
    obtain ⟨S', a, b⟩ := h
    exact ⟨S', e _ a, b⟩
theorem toR_then {r : R D} {en : En} : (r.then en O.rt).toR = r := by cases r <;> rfl
theorem then_seq {r : R D} {en : En} {k : En → Sto → O} : (r.then en O.rt).seq k = r.then en O.rt := by cases r <;> rfl
theorem law_act {n p q : Nat} {t : D} {es : List Ent} {pss : List (List Ent)} {d : Dd} {S : Sto} (h : Bk S p q t es pss) (he : OkEs es) (hd : OkDd d) (hp : pss.length ≤ 1000) (hk : d.kd = wPut ∨ d.kd = wChange ∨ d.kd = wStrike) (ht : S[d.tr]? = some (.lst (d.vs.map T3.D))) :
    Act (fn (n + 7) 62 [.ref p, d.D] S) S p q t .non (behind es d) (pss ++ [es]) (refu es d) := by
  rw [fn_s (fd := Tx.t62.fd) rfl]
  have e1 : fnN Tx.F Ex Tx.cs (n + 6) 53 [d.pl.D] S = _ := law_out (n := n + 3) (S := S) hd.pl.1
  have e2 : fnN Tx.F Ex Tx.cs (n + 6) 54 [.ref d.tr] S = _ := law_outs (n := n + 2) (S := S) hd.vs (by have := hd.v3; omega) ht
  have p1 := pre_snoc S (.lst (d.vs.map fun t => (outN t).D))
  have h1 := h.pre p1
  have i1 : isIns 0 "put" (.ref p) S = true := i_of h.at_ rfl
  have i2 : isIns 0 "change" (.ref p) S = true := i_of h.at_ rfl
  have i3 : isIns 0 "strike" (.ref p) S = true := i_of h.at_ rfl
  by_cases k : d.kd = wPut
  · have a := put (n := n) h1 he hd hp k
    refine Act.ret (Act.base a p1) fun x hx => ?_
    have hx : fnN Tx.F Ex Tx.cs (n + 6) 69 [.ref p, .str d.nm, (outN d.pl).D, .tup (d.vs.map fun v => (outN v).D)] (S ++ [.lst (d.vs.map fun t => (outN t).D)]) = x := hx
    simp [runF, Tx.t62, Tx.b62, Dd.D, k, at_2, at_3, i1, e1, e2, hx, toR_then, then_seq]
  · by_cases k2 : d.kd = wChange
    · have a := change (n := n) h1 he hd hp k2
      refine Act.ret (Act.base a p1) fun x hx => ?_
      have hx : fnN Tx.F Ex Tx.cs (n + 6) 70 [.ref p, .str d.nm, .tup (d.vs.map fun v => (outN v).D)] (S ++ [.lst (d.vs.map fun t => (outN t).D)]) = x := hx
      simp [runF, Tx.t62, Tx.b62, Dd.D, k2, at_2, at_3, i2, e2, hx, toR_then, then_seq]
    · have k3 : d.kd = wStrike := by
        rcases hk with q | q | q
        · exact absurd q k
        · exact absurd q k2
        · exact q
      have a := strike (n := n) h he hd hp k3
      refine Act.ret a fun x hx => ?_
      have hx : fnN Tx.F Ex Tx.cs (n + 6) 71 [.ref p, .str d.nm] S = x := hx
      simp [runF, Tx.t62, Tx.b62, Dd.D, k3, at_2, at_3, i3, hx, toR_then, then_seq]
theorem act_undo {n p q : Nat} {t : D} {es : List Ent} {pss : List (List Ent)} {d : Dd} {S : Sto} {x : R D} (h : Bk S p q t es pss) (hk : d.kd = wUndo) (hx : fn (n + 6) 72 [.ref p] S = x) : fn (n + 7) 62 [.ref p, d.D] S = x := by
  rw [fn_s (fd := Tx.t62.fd) rfl]
  have i1 : isIns 0 "undo" (.ref p) S = true := i_of h.at_ rfl
  have hx : fnN Tx.F Ex Tx.cs (n + 6) 72 [.ref p] S = x := hx
  simp [runF, Tx.t62, Tx.b62, Dd.D, hk, i1, hx, toR_then, then_seq]
/-! what is said -/
noncomputable abbrev said (n : Nat) (a : Sto → R D) (S : Sto) : R D := lfF Tx.F Ex Tx.cs (fnN Tx.F Ex Tx.cs n) 58 a S
theorem said_s {n : Nat} {a : Sto → R D} {S : Sto} : said n a S = (runF ⟨fnN Tx.F Ex Tx.cs n, Tx.cs, noLf, a, S.length⟩ Ex Tx.t58.fd [.ref S.length] (S ++ [.act])).dead S.length := by
  unfold said lfF lf0
  rfl
theorem eqD_S {S3 : Sto} {k : Nat} (h : S3[k]? = some (.lst [])) : eqD (S3 ++ [Ob.lst []]) (.ref k) (.ref S3.length) = some true :=
  eqD_nilL (pre_get (pre_snoc ..) h) (last_get ..) (by simp)
theorem said_ok {n : Nat} {a : Sto → R D} {S S3 : Sto} {v : D} (hv : a (S ++ [Ob.act, Ob.lst []]) = .ok v S3) (hk : S3[S.length + 1]? = some (.lst [])) : said n a S = .ok v ((S3 ++ [Ob.lst []]).set S.length .dead) := by
  rw [said_s]
  have q := eqD_S hk
  have am : ∀ en : En, en.getD 0 none = some (.ref S.length) → actM S.length a 0 en (S ++ [Ob.act, Ob.lst []]) = .ok v S3 := fun en he => by
    unfold actM
    rw [he]
    show (if S.length = S.length then a (S ++ [Ob.act, Ob.lst []]) else .stuck) = _
    rw [if_pos rfl, hv]
  have tr : ∀ (b : Ss) (c s t : Nat) (as : List Xa) (en en' : En) (S S' : Sto) (G : Gm), execs G Ex b en S = .nx en' S' → exec G Ex (.tri b c s t as) en S = .nx en' S' := fun b c s t as en en' S S' G h => by
    rw [Ev.exec, h]
  have e1 : execs ⟨fnN Tx.F Ex Tx.cs n, Tx.cs, noLf, a, S.length⟩ Ex (.cons (.acs 1 0) .nil) [some (.ref S.length), some (.str []), some (.ref (S.length + 1)), none] (S ++ [Ob.act, Ob.lst []]) = .nx [some (.ref S.length), some v, some (.ref (S.length + 1)), none] S3 := by
    simp [am]
  have e2 := tr _ 0 3 2 [.isc 6, .isc 5, .isc 7] _ _ _ _ _ e1
  simp [runF, Tx.t58, Tx.b58, e2, q, R.dead, parSet]
theorem said_ex {n c : Nat} {a : Sto → R D} {S S3 : Sto} (hv : a (S ++ [Ob.act, Ob.lst []]) = .ex ⟨c, []⟩ S3) (hc : c = 6 ∨ c = 5 ∨ c = 7) (hl : S.length < S3.length) : ∃ x, said n a S = .ok x ((S3 ++ [Ob.lst [.bl (decide (c = 6)), .bl (decide (c = 5)), .bl (decide (c = 7))], Ob.lst []]).set S.length .dead) ∧ Told x ((S3 ++ [Ob.lst [.bl (decide (c = 6)), .bl (decide (c = 5)), .bl (decide (c = 7))], Ob.lst []]).set S.length .dead) (some c) := by
  refine ⟨.tup [.str wRaised, .ref S3.length], ?_, S3.length, rfl, ?_⟩
  · rw [said_s]
    have am : ∀ en : En, en.getD 0 none = some (.ref S.length) → actM S.length a 0 en (S ++ [Ob.act, Ob.lst []]) = .ex ⟨c, []⟩ S3 := fun en he => by
      unfold actM
      rw [he]
      show (if S.length = S.length then a (S ++ [Ob.act, Ob.lst []]) else .stuck) = _
      rw [if_pos rfl, hv]
    have e1 : execs ⟨fnN Tx.F Ex Tx.cs n, Tx.cs, noLf, a, S.length⟩ Ex (.cons (.acs 1 0) .nil) [some (.ref S.length), some (.str []), some (.ref (S.length + 1)), none] (S ++ [Ob.act, Ob.lst []]) = .ex ⟨c, []⟩ [some (.ref S.length), some (.str []), some (.ref (S.length + 1)), none] S3 := by
      simp [am]
    have tr : ∀ (b : Ss) (s t : Nat) (as : List Xa) (en en' : En) (S S' : Sto) (G : Gm) (x : Xc), execs G Ex b en S = .ex x en' S' → exec G Ex (.tri b 0 s t as) en S = triH Ex 0 s t as x en' S' := fun b s t as en en' S S' G x h => by
      rw [Ev.exec, h]
    have e2 := tr _ 3 2 [.isc 6, .isc 5, .isc 7] _ _ _ _ _ _ e1
    have e3 : triH Ex 0 3 2 [.isc 6, .isc 5, .isc 7] ⟨c, []⟩ [some (.ref S.length), some (.str []), some (.ref (S.length + 1)), none] S3 = .nx [some (.ref S.length), some (.str []), some (.ref S3.length), none] (S3 ++ [Ob.lst [.bl (decide (c = 6)), .bl (decide (c = 5)), .bl (decide (c = 7))]]) := by
      rcases hc with rfl | rfl | rfl <;> rfl
    rw [e3] at e2
    have q := eqD_nilL (pre_get (pre_snoc (S3 ++ [Ob.lst [.bl (decide (c = 6)), .bl (decide (c = 5)), .bl (decide (c = 7))]]) (.lst [])) (last_get ..)) (last_get ..) (by
      intro x hx
      simp only [List.mem_cons, List.not_mem_nil, or_false] at hx
      rcases hx with rfl | rfl | rfl <;> exact okL_bl _)
    rw [List.append_assoc] at q
    simp only [List.length_append, List.length_cons, List.length_nil, Nat.zero_add, List.cons_append, List.nil_append] at q
    generalize decide (c = 6) = b1 at *
    generalize decide (c = 5) = b2 at *
    generalize decide (c = 7) = b3 at *
    simp [runF, Tx.t58, Tx.b58, e2, q, R.dead, parSet]
  · rw [List.getElem?_set_ne (by omega), List.getElem?_append_right (by simp)]
    simp
def tellP : Option Nat → PyData
  | none => .none
  | some c => .tuple [.str ⟨wRaised.toArray⟩, .list [.bool (decide (c = 6)), .bool (decide (c = 5)), .bool (decide (c = 7))]]
theorem told_P {x : D} {S : Sto} {o : Option Nat} (h : Told x S o) : toP S 20 x = some (tellP o) := by
  cases o with
  | none =>
    have : x = .non := h
    subst this
    rfl
  | some c =>
    obtain ⟨q, rfl, hq⟩ := h
    have e2 : toP S 19 (.ref q) = some (.list [.bool (decide (c = 6)), .bool (decide (c = 5)), .bool (decide (c = 7))]) := by
      show (match S[q]? with
        | some (.lst xs) => (mapO (toP S 18) xs).map PyData.list
        | _ => none) = _
      rw [hq]
      rfl
    show ((some (PyData.str ⟨wRaised.toArray⟩)).bind fun b => ((toP S 19 (.ref q)).bind fun b2 => (some []).bind fun bs => some (b2 :: bs)).bind fun bs => some (b :: bs)).map PyData.tuple = _
    rw [e2]
    rfl
theorem told_repr {x : D} {S : Sto} {o : Option Nat} (h : Told x S o) : reprD S x = some (tellP o).shown.cps.toList := by
  refine repr_ok (told_P h) ?_ ?_
  · cases o <;> rfl
  · cases o with
    | none => decide
    | some c => show 6 ≤ 20000; decide
theorem Told.pre {x : D} {S S' : Sto} {o : Option Nat} (h : Told x S o) (p : S <+: S') : Told x S' o := by
  cases o with
  | none => exact h
  | some c =>
    obtain ⟨q, e, g⟩ := h
    exact ⟨q, e, pre_get p g⟩
theorem bl_repr {S : Sto} (b : Bool) : reprD S (.bl b) = some (PyData.shown (.bool b)).cps.toList := repr_ok rfl rfl (by show 1 ≤ 20000; decide)
end Pl
end
section
set_option Elab.async false
set_option linter.all false
set_option maxRecDepth 100000
set_option maxHeartbeats 4000000
set_option autoImplicit false
set_option exponentiation.threshold 10000
/-! X9: k84: what a book shows. -/
namespace Pl
open Ev Gr PySem
theorem N4_plainW {z : N4} (h : z.good) : plainW (pd z.D) = true ∧ nodes (pd z.D) = 7 := by
  obtain ⟨a, b, c, d⟩ := z
  have h1 : a.natAbs.log2 < 1920 := big_log h.1.2.1
  have h2 : b.natAbs.log2 < 1920 := big_log h.1.2.2
  have h3 : c.natAbs.log2 < 1920 := big_log h.2.2.1
  have h4 : d.natAbs.log2 < 1920 := big_log h.2.2.2
  refine ⟨?_, rfl⟩
  show ((decide (a.natAbs.log2 < 1920) && (decide (b.natAbs.log2 < 1920) && true)) && ((decide (c.natAbs.log2 < 1920) && (decide (d.natAbs.log2 < 1920) && true)) && true)) = true
  simp [h1, h2, h3, h4]
theorem N4s_plainW : ∀ {zs : List N4}, (∀ z ∈ zs, z.good) → plainWL (pdL (zs.map N4.D)) = true ∧ nodesL (pdL (zs.map N4.D)) = 7 * zs.length
  | [], _ => ⟨rfl, rfl⟩
  | z :: r, h => by
    obtain ⟨a, b⟩ := N4_plainW (h z (by simp))
    obtain ⟨c, d⟩ := N4s_plainW fun z hz => h z (List.mem_cons_of_mem _ hz)
    refine ⟨?_, ?_⟩
    · show (plainW (pd z.D) && plainWL (pdL (r.map N4.D))) = true
      rw [a, c]; rfl
    · show nodes (pd z.D) + nodesL (pdL (r.map N4.D)) = _
      rw [b, d, List.length_cons]; omega
theorem vs_plain {e : Ent} (h : okE e) : plainWL (pdL (e.vs.map fun v => (outN v).D)) = true ∧ nodesL (pdL (e.vs.map fun v => (outN v).D)) ≤ 21 ∧ plL (e.vs.map fun v => (outN v).D) = true ∧ dptL (e.vs.map fun v => (outN v).D) ≤ 2 := by
  have vv : (e.vs.map fun v => (outN v).D) = (e.vs.map outN).map N4.D := by rw [List.map_map]; rfl
  obtain ⟨a, b⟩ := N4s_plainW (zs := e.vs.map outN) fun z hz => by
    obtain ⟨v, hv, rfl⟩ := List.mem_map.mp hz
    exact outN_good (h.vs v hv)
  obtain ⟨c, d⟩ := plL_nums (e.vs.map outN)
  have := h.v3
  rw [vv]
  exact ⟨a, by rw [b]; simp; omega, c, d⟩
theorem B_plain {e : Ent} (h : okE e) : plainW (pd e.B) = true ∧ nodes (pd e.B) ≤ 40 := by
  obtain ⟨a, b⟩ := N4_plainW (outN_good h.pl.1)
  obtain ⟨c, d, _, _⟩ := vs_plain h
  have s : plainW (pd (.str e.nm)) = true := by
    show (decide (e.nm.toArray.size ≤ 20) && e.nm.toArray.toList.all (· < 0x110000)) = true
    have h1 : e.nm.toArray.size ≤ 20 := by simp; have := h.nm.2.1; omega
    have h2 : e.nm.toArray.toList.all (· < 0x110000) = true := by
      rw [List.all_eq_true]
      intro x hx
      exact decide_eq_true (name_uni h.nm x (by simpa using hx))
    rw [decide_eq_true h1, h2]; rfl
  refine ⟨?_, ?_⟩
  · show (plainW (pd (.str e.nm)) && (plainW (pd (outN e.pl).D) && (plainWL (pdL (e.vs.map fun v => (outN v).D)) && true))) = true
    rw [s, a, c]; rfl
  · show (1 + (nodes (pd (outN e.pl).D) + ((nodesL (pdL (e.vs.map fun v => (outN v).D)) + 1) + 0))) + 1 ≤ 40
    omega
theorem Q_plain {e : Ent} (h : okE e) : plainW (pd e.Q) = true ∧ nodes (pd e.Q) ≤ 40 ∧ pl e.Q = true ∧ dpt e.Q ≤ 4 := by
  obtain ⟨a, b⟩ := N4_plainW (outN_good h.pl.1)
  obtain ⟨c, d, l1, l2⟩ := vs_plain h
  have eq : e.Q = .tup [(outN e.pl).D, .tup (e.vs.map fun v => (outN v).D)] := by simp [Ent.Q, Ent.P, pD, Function.comp_def]
  rw [eq]
  have p1 : pl (outN e.pl).D = true := rfl
  have p2 : dpt (outN e.pl).D = 2 := by simp [N4.D, dpt, dptL]
  refine ⟨?_, ?_, ?_, ?_⟩
  · show (plainW (pd (outN e.pl).D) && (plainWL (pdL (e.vs.map fun v => (outN v).D)) && true)) = true
    rw [a, c]; rfl
  · show (nodes (pd (outN e.pl).D) + ((nodesL (pdL (e.vs.map fun v => (outN v).D)) + 1) + 0)) + 1 ≤ 40
    omega
  · show (pl (outN e.pl).D && (plL (e.vs.map fun v => (outN v).D) && true)) = true
    rw [p1, l1]; rfl
  · have : dpt (D.tup [(outN e.pl).D, .tup (e.vs.map fun v => (outN v).D)]) = 1 + max (dpt (outN e.pl).D) (max (1 + dptL (e.vs.map fun v => (outN v).D)) 0) := by
      simp [dpt, dptL, Nat.add_comm]
    omega
theorem Bs_plain : ∀ {es : List Ent}, (∀ e ∈ es, okE e) → plainWL (pdL (es.map Ent.B)) = true ∧ nodesL (pdL (es.map Ent.B)) ≤ 40 * es.length
  | [], _ => ⟨rfl, Nat.le_refl _⟩
  | e :: r, h => by
    obtain ⟨a, b⟩ := B_plain (h e (by simp))
    obtain ⟨c, d⟩ := Bs_plain fun z hz => h z (List.mem_cons_of_mem _ hz)
    refine ⟨?_, ?_⟩
    · show (plainW (pd e.B) && plainWL (pdL (r.map Ent.B))) = true
      rw [a, c]; rfl
    · show nodes (pd e.B) + nodesL (pdL (r.map Ent.B)) ≤ _
      rw [List.length_cons]; omega
theorem Qs_plain : ∀ {es : List Ent}, (∀ e ∈ es, okE e) → plainWL (pdL (es.map Ent.Q)) = true ∧ nodesL (pdL (es.map Ent.Q)) ≤ 40 * es.length ∧ plL (es.map Ent.Q) = true ∧ dptL (es.map Ent.Q) ≤ 4
  | [], _ => ⟨rfl, Nat.le_refl _, rfl, by decide⟩
  | e :: r, h => by
    obtain ⟨a, b, x, y⟩ := Q_plain (h e (by simp))
    obtain ⟨c, d, u, v⟩ := Qs_plain fun z hz => h z (List.mem_cons_of_mem _ hz)
    refine ⟨?_, ?_, ?_, ?_⟩
    · show (plainW (pd e.Q) && plainWL (pdL (r.map Ent.Q))) = true
      rw [a, c]; rfl
    · show nodes (pd e.Q) + nodesL (pdL (r.map Ent.Q)) ≤ _
      rw [List.length_cons]; omega
    · show (pl e.Q && plL (r.map Ent.Q)) = true
      rw [x, u]; rfl
    · show max (dpt e.Q) (dptL (r.map Ent.Q)) ≤ 4
      omega
theorem toP_ref {S : Sto} {k : Nat} {zs : List D} (hk : S[k]? = some (.lst zs)) (h : plL zs = true) (d : dptL zs < 19) : toP S 20 (.ref k) = some (.list (pdL zs)) := by
  show (match S[k]? with
    | some (.lst xs) => (mapO (toP S 19) xs).map PyData.list
    | _ => none) = _
  rw [hk]
  show (mapO (toP S 19) zs).map PyData.list = _
  rw [toPL_pl S zs 19 h d]
  rfl
abbrev shownD (es : List Ent) (a b : Int) : List D := [tupB es, .tup (es.map Ent.Q), fr a b]
theorem shown_repr {S : Sto} {k : Nat} {es : List Ent} {a b : Int} (hk : S[k]? = some (.lst (shownD es a b))) (he : OkEs es) (hg : good a b) : reprD S (.ref k) = some (PyData.shown (.list (pdL (shownD es a b)))).cps.toList := by
  obtain ⟨b1, b2⟩ := pl_tupB fun e hm => (he.each e hm).nm
  obtain ⟨q1, q2, q3, q4⟩ := Qs_plain he.each
  obtain ⟨c1, c2⟩ := Bs_plain he.each
  have hl := he.len
  have l1 : plL (shownD es a b) = true := by
    show (pl (tupB es) && (plL (es.map Ent.Q) && (true && true))) = true
    rw [b1, q3]; rfl
  have l2 : dptL (shownD es a b) < 19 := by
    have : dptL (shownD es a b) = max (dpt (tupB es)) (max (1 + dptL (es.map Ent.Q)) (max 1 0)) := by simp [shownD, dpt, dptL, Nat.add_comm]
    omega
  refine repr_ok (toP_ref hk l1 l2) ?_ ?_
  · show (plainWL (pdL (es.map Ent.B)) && (plainWL (pdL (es.map Ent.Q)) && ((decide (a.natAbs.log2 < 1920) && (decide (b.natAbs.log2 < 1920) && true)) && true))) = true
    rw [c1, q1, decide_eq_true (big_log hg.2.1), decide_eq_true (big_log hg.2.2)]; rfl
  · show ((nodesL (pdL (es.map Ent.B)) + 1) + ((nodesL (pdL (es.map Ent.Q)) + 1) + (3 + 0))) + 1 ≤ 20000
    omega
def mapsT (S : Sto) (q : Nat) : List D := match S[q]? with
  | some (.lst xs) => xs.map fun d => match d with
    | .tup [.int a, .int b, .int d] => (outN ⟨a, b, d.toNat⟩).D
    | _ => .non
  | _ => []
def mapsL (S : Sto) (x : D) : D := match x with
  | .tup [a, .tup [.int x, .int y, .int z], .ref q] => .tup [a, (outN ⟨x, y, z.toNat⟩).D, .tup (mapsT S q)]
  | _ => .non
theorem mapsL_eq {S : Sto} {e : Ent} (h : S[e.tr]? = some (.lst (e.vs.map T3.D))) : mapsL S e.L = e.B := by
  have : mapsT S e.tr = e.vs.map fun v => (outN v).D := by
    unfold mapsT
    rw [h]
    show (e.vs.map T3.D).map _ = _
    rw [List.map_map]
    rfl
  show D.tup [.str e.nm, (outN ⟨e.pl.a, e.pl.b, (e.pl.d : Int).toNat⟩).D, .tup (mapsT S e.tr)] = e.B
  rw [this]
  rfl
theorem law_shows {n p q r : Nat} {a b : Int} {es : List Ent} {pss : List (List Ent)} {S : Sto} (h : Bk S p q (fr a b) es pss) (hr : Rows S r es) (he : OkEs es) (hg : good a b) :
    ∃ S', fn (n + 5) 63 [.ref p, .ref r, fr a b] S = .ok (.bl true) S' ∧ S <+: S' := by
  rw [fn_s (fd := Tx.t63.fd) rfl]
  have hl := he.len
  obtain ⟨S1, e1, p1⟩ := ev_lcm (G := GG (n + 4)) (en := [some (.ref p), some (.ref r), some (fr a b), none, none, none]) (S := S) (own := [("each", 5)]) (elt := .tup (.cons (.ix (.var 5) (.cst (.int 0))) (.cons (.call 53 (.cons (.ix (.var 5) (.cst (.int 1))) .nil)) (.cons (.call 54 (.cons (.ix (.var 5) (.cst (.int 2))) .nil)) .nil)))) (p := .nm 5) (it := .seq (.var 1)) (s := ⟨es.map Ent.L, [(r, es.map Ent.L)]⟩) (S1 := S) (I := fun S' => S <+: S')
    (g := mapsL S)
    (by simp [srcSeq, lstOf, hr.at_]) List.prefix_rfl (fun S' p => ok_one (pre_get p hr.at_)) (by simp; omega) (by
      intro x hx S' pp
      obtain ⟨e, hm, rfl⟩ := List.mem_map.mp hx
      have o := he.each e hm
      have o1 : fnN Tx.F Ex Tx.cs (n + 4) 53 [e.pl.D] S' = _ := law_out (n := n + 1) (S := S') o.pl.1
      have o2 : fnN Tx.F Ex Tx.cs (n + 4) 54 [.ref e.tr] S' = _ := law_outs (n := n) (S := S') o.vs (by have := o.v3; omega) (pre_get pp (hr.tr e hm))
      rw [mapsL_eq (hr.tr e hm)]
      exact ⟨[some (.ref p), some (.ref r), some (fr a b), none, none, some e.L], S' ++ [.lst (e.vs.map fun t => (outN t).D)], rfl, by simp [Ent.L, Ent.B, at_2, o1, o2], pp.trans (pre_snoc ..)⟩)
  have e1' : (es.map Ent.L).map (mapsL S) = es.map Ent.B := by
    rw [List.map_map]
    exact List.map_congr_left fun e hm => mapsL_eq (hr.tr e hm)
  have E1 : ev (GG (n + 4)) _ _ S = .ok (.ref S1.length) (S1 ++ [.lst (es.map Ent.B)]) := e1.trans (by rw [e1'])
  have p2 := pre_snoc S1 (.lst (es.map Ent.B))
  have g2 := last_get S1 (.lst (es.map Ent.B))
  have h2 := h.pre (p1.trans p2)
  generalize hS2 : S1 ++ [Ob.lst (es.map Ent.B)] = S2 at *
  have i1 : isIns 0 "entries" (.ref p) S2 = true := i_of h2.at_ rfl
  have i2 : isIns 0 "data" (.ref p) S2 = true := i_of h2.at_ rfl
  have e2 : fnN Tx.F Ex Tx.cs (n + 4) 75 [.ref p] S2 = _ := entries (n := n + 3) h2
  have e3 : fnN Tx.F Ex Tx.cs (n + 4) 76 [.ref p] S2 = _ := data (n := n + 2) h2 (by omega)
  have p3 := pre_snoc S2 (.lst (es.map Ent.Q))
  have h3 := h2.pre p3
  have g3 := pre_get p3 g2
  generalize hS3 : S2 ++ [Ob.lst (es.map Ent.Q)] = S3 at *
  have i3 : isIns 0 "bound" (.ref p) S3 = true := i_of h3.at_ rfl
  have e4 : fnN Tx.F Ex Tx.cs (n + 4) 74 [.ref p] S3 = _ := bound (n := n + 3) h3
  have p4 := pre_snoc S3 (.lst (shownD es a b))
  have r4 := shown_repr (last_get S3 (.lst (shownD es a b))) he hg
  have g4 := pre_get p4 g3
  generalize hS4' : S3 ++ [Ob.lst (shownD es a b)] = S4 at *
  have hS4 : S3 ++ [Ob.lst [tupB es, .tup (es.map Ent.Q), fr a b]] = S4 := hS4'
  have t4 := tuple_ref g4
  have e5 := ev_lcp (G := GG (n + 4)) (en := [some (.ref p), some (.ref r), some (fr a b), some (.ref S1.length), some (.ref S3.length), none]) (S := S4) (own := [("each", 5)]) (elt := .sl (.var 5) (.some (.cst (.int 1))) .none) (p := .nm 5) (it := .seq (.var 3)) (s := ⟨es.map Ent.B, [(S1.length, es.map Ent.B)]⟩) (S1 := S4)
    (g := fun x => match x with | .tup (_ :: r) => .tup r | _ => .non)
    (by simp [srcSeq, lstOf, g4]) (ok_one g4) (by simp; omega) (by
      intro x hx
      obtain ⟨e, hm, rfl⟩ := List.mem_map.mp hx
      exact ⟨[some (.ref p), some (.ref r), some (fr a b), some (.ref S1.length), some (.ref S3.length), some e.B], rfl, by simp [Ent.B]⟩)
  have e5' : ((es.map Ent.B).map fun x => match x with | .tup (_ :: r) => D.tup r | _ => .non) = es.map Ent.Q := by
    rw [List.map_map]
    apply List.map_congr_left
    intro e _
    simp [Ent.B, Ent.Q, Ent.P, pD, Function.comp_def]
  have E5 : ev (GG (n + 4)) _ _ S4 = .ok (.ref S4.length) (S4 ++ [.lst (es.map Ent.Q)]) := e5.trans (by rw [e5'])
  have p5 := pre_snoc S4 (.lst (es.map Ent.Q))
  have t5 := tuple_ref (last_get S4 (.lst (es.map Ent.Q)))
  generalize hS5 : S4 ++ [Ob.lst (es.map Ent.Q)] = S5 at *
  have p6 := pre_snoc S5 (.lst (shownD es a b))
  have r6 := shown_repr (last_get S5 (.lst (shownD es a b))) he hg
  have hS6 : S5 ++ [Ob.lst [.tup (es.map Ent.B), .tup (es.map Ent.Q), fr a b]] = S5 ++ [Ob.lst (shownD es a b)] := rfl
  generalize hS6' : S5 ++ [Ob.lst (shownD es a b)] = S6 at *
  generalize (PyData.shown (.list (pdL (shownD es a b)))).cps.toList = txt at *
  have b4 : bi .repr [.ref S3.length] S4 = .ok (.str txt) S4 := by
    show R.of ((reprD S4 (.ref S3.length)).map D.str) S4 = _
    rw [r4]; rfl
  have b6 : bi .repr [.ref S5.length] S6 = .ok (.str txt) S6 := by
    show R.of ((reprD S6 (.ref S5.length)).map D.str) S6 = _
    rw [r6]; rfl
  refine ⟨S6, ?_, p1.trans (p2.trans (p3.trans (p4.trans (p5.trans p6))))⟩
  simp [runF, Tx.t63, Tx.b63, E1, i1, i2, i3, e2, e3, e4, hS4, t4, E5, t5, b4, hS6, b6]
end Pl
end
section
set_option Elab.async false
set_option linter.all false
set_option maxRecDepth 100000
set_option maxHeartbeats 4000000
set_option autoImplicit false
set_option exponentiation.threshold 10000
/-! X10: k84: books beside the law's rows. -/
namespace Pl
open Ev Gr PySem
structure Bw where
  p : Nat
  q : Nat
  pt : Nat
  r : Nat
  es : List Ent
  pss : List (List Ent)
  rs : List Ent
  hs : List (Nat × List Ent)
def Bw.all (b : Bw) : List (Nat × List Ent) := b.hs ++ [(b.r, b.rs)]
structure BI (S : Sto) (own : Nat → Nat) (t : D) (j : Nat) (b : Bw) : Prop where
  bk : Bk S b.p b.q t b.es b.pss
  ps : S[b.pt]? = some (.lst (b.hs.map fun h => .ref h.1))
  rw_ : ∀ h ∈ b.all, Rows S h.1 h.2 ∧ OkEs h.2 ∧ own h.1 = 0 ∧ ∀ e ∈ h.2, own e.tr = 0
  op : own b.p = 5 + 3 * j
  oq : own b.q = 6 + 3 * j
  ot : own b.pt = 7 + 3 * j
  hd : (b.all.map Prod.snd).head? = some []
theorem BI.fr {P : Nat → Prop} {S S' : Sto} {own : Nat → Nat} {t : D} {j : Nat} {b : Bw} (h : BI S own t j b) (f : Fr P S S') (hP : ∀ x, P x → own x ≠ 0 ∧ own x ≠ 5 + 3 * j ∧ own x ≠ 6 + 3 * j ∧ own x ≠ 7 + 3 * j) : BI S' own t j b :=
  ⟨h.bk.fr f (fun z => (hP _ z).2.1 h.op) (fun z => (hP _ z).2.2.1 h.oq), f _ _ (fun z => (hP _ z).2.2.2 h.ot) h.ps, fun x hx => by
    obtain ⟨a, b, c, d⟩ := h.rw_ x hx
    exact ⟨a.fr f (fun z => (hP _ z).1 c) (fun e he z => (hP _ z).1 (d e he)), b, c, d⟩, h.op, h.oq, h.ot, h.hd⟩
abbrev lamQ : Str := "_law_right.<locals>.<lambda>"
structure WI (S : Sto) (own : Nat → Nat) (k wr sr fb fw fp : Nat) (ws : List (List Nat)) (sp : List T3) (t : D) (i : Nat) (bs : List Bw) : Prop where
  tbl : S[0]? = some (.tbl lamQ)
  o0 : own 0 = 0
  ok : own k = 1
  wat : S[wr]? = some (.lst (ws.map .str))
  ow : own wr = 0
  sat : S[sr]? = some (.lst (sp.map T3.D))
  os : own sr = 0
  bat : S[fb]? = some (.lst (bs.map fun b => .ref b.p))
  ob : own fb = 2
  rat : S[fw]? = some (.lst (bs.map fun b => .ref b.r))
  or_ : own fw = 3
  pat : S[fp]? = some (.lst (bs.map fun b => .ref b.pt))
  opp : own fp = 4
  each : ∀ j b, bs[j]? = some b → BI S own t j b
  l1 : 1 ≤ bs.length
  l4 : bs.length ≤ 4
  hl : ∀ b ∈ bs, b.hs.length ≤ i
  new : ∀ x, S.length ≤ x → own x = 0
section
variable {S S' : Sto} {own : Nat → Nat} {k wr sr fb fw fp : Nat} {ws : List (List Nat)} {sp : List T3} {t : D} {i : Nat} {bs : List Bw}
theorem WI.fr {P : Nat → Prop} (h : WI S own k wr sr fb fw fp ws sp t i bs) (f : Fr P S S') (hP : ∀ x, P x → own x = 1) (hl : S.length ≤ S'.length) : WI S' own k wr sr fb fw fp ws sp t i bs where
  tbl := f _ _ (fun z => by have := hP _ z; rw [h.o0] at this; omega) h.tbl
  o0 := h.o0
  ok := h.ok
  wat := f _ _ (fun z => by have := hP _ z; rw [h.ow] at this; omega) h.wat
  ow := h.ow
  sat := f _ _ (fun z => by have := hP _ z; rw [h.os] at this; omega) h.sat
  os := h.os
  bat := f _ _ (fun z => by have := hP _ z; rw [h.ob] at this; omega) h.bat
  ob := h.ob
  rat := f _ _ (fun z => by have := hP _ z; rw [h.or_] at this; omega) h.rat
  or_ := h.or_
  pat := f _ _ (fun z => by have := hP _ z; rw [h.opp] at this; omega) h.pat
  opp := h.opp
  each := fun j b hb => (h.each j b hb).fr f fun x hx => by have := hP _ hx; omega
  l1 := h.l1
  l4 := h.l4
  hl := h.hl
  new := fun x hx => h.new x (Nat.le_trans hl hx)
theorem WI.pre (h : WI S own k wr sr fb fw fp ws sp t i bs) (p : S <+: S') : WI S' own k wr sr fb fw fp ws sp t i bs :=
  h.fr (P := fun _ => False) (Fr.of_pre p) (fun _ z => z.elim) p.length_le
theorem WI.dr (h : WI S own k wr sr fb fw fp ws sp t i bs) (f : Fr (· = k) S S') (hl : S.length ≤ S'.length) : WI S' own k wr sr fb fw fp ws sp t i bs :=
  h.fr f (fun _ z => z ▸ h.ok) hl
theorem WI.mono {i' : Nat} (h : WI S own k wr sr fb fw fp ws sp t i bs) (hi : i ≤ i') : WI S own k wr sr fb fw fp ws sp t i' bs := { h with hl := fun b hb => Nat.le_trans (h.hl b hb) hi }
theorem map_set_same {α β : Type} {f : α → β} {l : List α} {j : Nat} {b b' : α} (h : l[j]? = some b) (e : f b' = f b) : (l.set j b').map f = l.map f := by
  apply List.ext_getElem?
  intro i
  rw [List.getElem?_map, List.getElem?_map, List.getElem?_set]
  by_cases q : j = i
  · subst q
    obtain ⟨hj, hb⟩ := List.getElem?_eq_some_iff.mp h
    rw [if_pos rfl, if_pos hj, h]
    simp [e]
  · rw [if_neg q]
theorem WI.upd {P : Nat → Prop} {i' j : Nat} {b b' : Bw} (h : WI S own k wr sr fb fw fp ws sp t i bs) (hj : bs[j]? = some b) (f : Fr P S S') (hP : ∀ x, P x → own x = 1 ∨ own x = 3 ∨ own x = 5 + 3 * j ∨ own x = 6 + 3 * j ∨ own x = 7 + 3 * j) (hl : S.length ≤ S'.length)
    (hw : S'[fw]? = some (.lst ((bs.set j b').map fun b => .ref b.r))) (e1 : b'.p = b.p) (e2 : b'.pt = b.pt) (hb : BI S' own t j b') (hi : i ≤ i') (hh : b'.hs.length ≤ i') : WI S' own k wr sr fb fw fp ws sp t i' (bs.set j b') where
  tbl := f _ _ (fun z => by have := hP _ z; rw [h.o0] at this; omega) h.tbl
  o0 := h.o0
  ok := h.ok
  wat := f _ _ (fun z => by have := hP _ z; rw [h.ow] at this; omega) h.wat
  ow := h.ow
  sat := f _ _ (fun z => by have := hP _ z; rw [h.os] at this; omega) h.sat
  os := h.os
  bat := by
    rw [map_set_same hj (by simp [e1])]
    exact f _ _ (fun z => by have := hP _ z; rw [h.ob] at this; omega) h.bat
  ob := h.ob
  rat := hw
  or_ := h.or_
  pat := by
    rw [map_set_same hj (by simp [e2])]
    exact f _ _ (fun z => by have := hP _ z; rw [h.opp] at this; omega) h.pat
  opp := h.opp
  each := fun i b2 hb2 => by
    rw [List.getElem?_set] at hb2
    by_cases q : j = i
    · subst q
      rw [if_pos rfl, if_pos (List.getElem?_eq_some_iff.mp hj).1] at hb2
      injection hb2 with hb2
      exact hb2 ▸ hb
    · rw [if_neg q] at hb2
      exact (h.each i b2 hb2).fr f fun x hx => by have := hP _ hx; omega
  l1 := by simpa using h.l1
  l4 := by simpa using h.l4
  hl := fun b2 hb2 => by
    rcases List.mem_or_eq_of_mem_set hb2 with q | q
    · exact Nat.le_trans (h.hl b2 q) hi
    · exact q ▸ hh
  new := fun x hx => h.new x (Nat.le_trans hl hx)
end
theorem setSub_nat {S : Sto} {n j : Nat} {xs : List D} {d : D} (h : S[n]? = some (.lst xs)) (hj : j < xs.length) : setSub (.ref n) (.int (j : Nat)) d S = some (S.set n (.lst (xs.set j d))) := by
  have : Ev.ixN xs.length (j : Int) = some j := by
    unfold Ev.ixN
    rw [if_pos (by omega), if_pos (by omega)]
    simp
  simp [setSub, h, this]
theorem map_ix {S : Sto} {f : Nat} {bs : List Bw} {g : Bw → D} {j : Nat} {b : Bw} (h : S[f]? = some (.lst (bs.map g))) (hj : bs[j]? = some b) : ixD S (.ref f) (.int (j : Nat)) = some (g b) := by
  rw [ixD_ref h, atI_nat, List.getElem?_map, hj]
  rfl
def Due (S : Sto) (x : D) (d : Dd) (es : List Ent) (pss : List (List Ent)) (es' : List Ent) (pss' : List (List Ent)) : Prop :=
  (d.kd = wUndo ∧ pss = [] ∧ x = .bl false ∧ es' = es ∧ pss' = pss) ∨
  (d.kd = wUndo ∧ x = .bl true ∧ pss = pss' ++ [es']) ∨
  (d.kd ≠ wUndo ∧ (∃ c, refu es d = some c ∧ Told x S (some c)) ∧ es' = es ∧ pss' = pss) ∨
  (d.kd ≠ wUndo ∧ refu es d = none ∧ x = .non ∧ es' = behind es d ∧ pss' = pss ++ [es])
def Bw.sync (b : Bw) : Prop := b.es = b.rs ∧ b.pss = b.hs.map Prod.snd
theorem kinds3 {w : List Nat} (h : kinds w) (hu : w ≠ wUndo) : w = wPut ∨ w = wChange ∨ w = wStrike := by
  rcases h with h | h | h | h
  · exact Or.inl h
  · exact Or.inr (Or.inl h)
  · exact Or.inr (Or.inr h)
  · exact absurd h hu
theorem okL_hs {S : Sto} {own : Nat → Nat} {hs : List (Nat × List Ent)} (h : ∀ h ∈ hs, Rows S h.1 h.2 ∧ OkEs h.2 ∧ own h.1 = 0 ∧ ∀ e ∈ h.2, own e.tr = 0) : ∀ x ∈ hs.map (fun h => D.ref h.1), okL S 19 x := by
  intro x hx
  obtain ⟨y, hy, rfl⟩ := List.mem_map.mp hx
  obtain ⟨a, b, _, _⟩ := h y hy
  refine okL_ref a.at_ fun z hz => ?_
  obtain ⟨e, he, rfl⟩ := List.mem_map.mp hz
  exact okL_L (n := 14) (b.each e he).nm (a.tr e he)
abbrev dueS : Sm := .ite (.cmp .eq (.ix (.var 9) (.cst (.int 0))) (.cst (.str [117, 110, 100, 111]))) (.cons (.asg (.nm 10) (.cmp .ne (.ix (.var 7) (.var 8)) (.lst .nil))) (.cons (.asg (.sub (.var 6) (.var 8)) (.ite (.var 10) (.mt .pop (.ix (.var 7) (.var 8)) .nil) (.ix (.var 6) (.var 8)))) .nil)) (.cons (.asg (.nm 10) (.call 59 (.cons (.ix (.var 6) (.var 8)) (.cons (.var 9) .nil)))) (.cons (.ite (.cmp .is (.var 10) (.cst .non)) (.cons (.exp (.mt .append (.ix (.var 7) (.var 8)) (.cons (.ix (.var 6) (.var 8)) .nil))) (.cons (.asg (.sub (.var 6) (.var 8)) (.call 60 (.cons (.ix (.var 6) (.var 8)) (.cons (.var 9) .nil)))) .nil)) .nil) .nil))
theorem turn_due {n j : Nat} {S : Sto} {own : Nat → Nat} {k wr sr fb fw fp : Nat} {ws : List (List Nat)} {sp : List T3} {t : D} {i : Nat} {bs : List Bw} {b : Bw} {d : Dd} {o3 o4 o10 o11 : Option D} (h : WI S own k wr sr fb fw fp ws sp t i bs) (hj : bs[j]? = some b) (hs : b.sync) (hd : OkDd d) (hk : kinds d.kd) (ht : S[d.tr]? = some (.lst (d.vs.map T3.D))) (ot : own d.tr = 0) (hi : i ≤ 900) :
    ∃ (x : D) (S' : Sto) (b' : Bw), exec (GG (n + 7)) Ex dueS [some (.ref k), some (.ref wr), some (.ref sr), o3, o4, some (.ref fb), some (.ref fw), some (.ref fp), some (.int (j : Nat)), some d.D, o10, o11] S = .nx [some (.ref k), some (.ref wr), some (.ref sr), o3, o4, some (.ref fb), some (.ref fw), some (.ref fp), some (.int (j : Nat)), some d.D, some x, o11] S' ∧
      WI S' own k wr sr fb fw fp ws sp t (i + 1) (bs.set j b') ∧ b'.p = b.p ∧ b'.q = b.q ∧ b'.es = b.es ∧ b'.pss = b.pss ∧ Due S' x d b.es b.pss b'.rs (b'.hs.map Prod.snd) ∧ Fr (fun x => own x = 3 ∨ own x = 7 + 3 * j) S S' ∧ S.length ≤ S'.length := by
  obtain ⟨hjl, hjb⟩ := List.getElem?_eq_some_iff.mp hj
  have bi := h.each j b hj
  have rb := bi.rw_ (b.r, b.rs) (by simp [Bw.all])
  have hsl := h.hl b (hjb ▸ List.getElem_mem _)
  have wne : ∀ {x y : Nat}, own x ≠ own y → x ≠ y := fun z e => z (congrArg own e)
  have lw : (bs.map fun b => D.ref b.r).length = bs.length := by simp
  by_cases ku : d.kd = wUndo
  · -- undo
    have pi := map_ix h.pat hj
    have p1 := pre_snoc S (.lst [])
    have h1 := h.pre p1
    have b1 := h1.each j b hj
    have nl := eqD_nilL b1.ps (last_get S (.lst [])) (okL_hs (own := own) fun x hx => b1.rw_ x (List.mem_append_left _ hx))
    rw [List.isEmpty_map] at nl
    have pi1 := map_ix h1.pat hj
    have ri1 := map_ix h1.rat hj
    generalize hS1 : S ++ [Ob.lst []] = S1 at *
    cases hh : b.hs.reverse with
    | nil =>
      have e0 : b.hs = [] := by simpa using hh
      rw [e0] at nl
      have ss := setSub_nat (d := .ref b.r) h1.rat (by rw [lw]; exact hjl)
      have es : (bs.map fun b => D.ref b.r).set j (.ref b.r) = (bs.set j b).map fun b => .ref b.r := by rw [List.map_set]
      rw [es] at ss
      have fS : Fr (fun x => own x = 3 ∨ own x = 7 + 3 * j) S1 (S1.set fw (.lst ((bs.set j b).map fun b => .ref b.r))) := Fr.set (Or.inl h.or_)
      have asg : ∀ en : En, ev (GG (n + 7)) (.var 6) en S1 = .ok (.ref fw) S1 → ev (GG (n + 7)) (.var 8) en S1 = .ok (.int (j : Nat)) S1 → asgT (GG (n + 7)) (.sub (.var 6) (.var 8)) (.ref b.r) en S1 = .ok en (S1.set fw (.lst ((bs.set j b).map fun b => .ref b.r))) := fun en a1 a2 => asgT_sub _ _ _ a1 a2 ss
      refine ⟨.bl false, S1.set fw (.lst ((bs.set j b).map fun b => .ref b.r)), b, ?_, ?_, rfl, rfl, rfl, rfl, Or.inl ⟨ku, ?_, rfl, hs.1.symm, hs.2.symm⟩, ?_, ?_⟩
      · simp [Dd.D, ku, pi, hS1, nl, ri1, asg]
      · exact h1.upd hj fS (fun x hx => by omega) (by simp) (set_get h1.rat) rfl rfl (b1.fr (P := (· = fw)) (Fr.set rfl) (fun x hx => by
          subst hx
          rw [h.or_]
          omega)) (by omega) (by omega)
      · rw [hs.2, e0]; rfl
      · exact (Fr.of_pre p1).tr fS
      · rw [List.length_set]; exact p1.length_le
    | cons y ys =>
      have e0 : b.hs = ys.reverse ++ [y] := by
        have := congrArg List.reverse hh
        simpa using this
      have ne : b.hs.isEmpty = false := by rw [e0]; simp
      rw [ne] at nl
      have ps := b1.ps
      rw [e0, List.map_append, List.map_singleton] at ps
      have mp := mt_pop ps
      have ty : mtTy .pop (.ref b.pt) S1 = true := by simp [mtTy, lstOf, ps]
      have n1 : b.pt ≠ fw := wne (by rw [bi.ot, h.or_]; omega)
      have r2 : (S1.set b.pt (.lst (ys.reverse.map fun h => D.ref h.1)))[fw]? = some (.lst (bs.map fun b => .ref b.r)) := by rw [List.getElem?_set_ne n1]; exact h1.rat
      have ss := setSub_nat (d := .ref y.1) r2 (by rw [lw]; exact hjl)
      have es : (bs.map fun b => D.ref b.r).set j (.ref y.1) = (bs.set j { b with r := y.1, rs := y.2, hs := ys.reverse }).map fun b => .ref b.r := by rw [List.map_set]
      rw [es] at ss
      have fA : Fr (fun x => x = b.pt ∨ x = fw) S1 ((S1.set b.pt (.lst (ys.reverse.map fun h => D.ref h.1))).set fw (.lst ((bs.set j { b with r := y.1, rs := y.2, hs := ys.reverse }).map fun b => .ref b.r))) := (Fr.set (Or.inl rfl)).tr (Fr.set (Or.inr rfl))
      have own2 : ∀ x, x = b.pt ∨ x = fw → own x = 3 ∨ own x = 7 + 3 * j := fun x hx => by
        rcases hx with e | e
        · exact Or.inr (e ▸ bi.ot)
        · exact Or.inl (e ▸ h.or_)
      have fS := fA.mono own2
      have g5 : ((S1.set b.pt (.lst (ys.reverse.map fun h => D.ref h.1))).set fw (.lst ((bs.set j { b with r := y.1, rs := y.2, hs := ys.reverse }).map fun b => .ref b.r)))[b.pt]? = some (.lst (ys.reverse.map fun h => D.ref h.1)) := by
        rw [List.getElem?_set_ne (fun z => n1 z.symm), set_get b1.ps]
      have g6 := set_get (o := .lst ((bs.set j { b with r := y.1, rs := y.2, hs := ys.reverse }).map fun b => D.ref b.r)) r2
      have lS : S1.length ≤ ((S1.set b.pt (.lst (ys.reverse.map fun h => D.ref h.1))).set fw (.lst ((bs.set j { b with r := y.1, rs := y.2, hs := ys.reverse }).map fun b => .ref b.r))).length := by simp
      have asg : ∀ en : En, ev (GG (n + 7)) (.var 6) en (S1.set b.pt (.lst (ys.reverse.map fun h => D.ref h.1))) = .ok (.ref fw) (S1.set b.pt (.lst (ys.reverse.map fun h => D.ref h.1))) → ev (GG (n + 7)) (.var 8) en (S1.set b.pt (.lst (ys.reverse.map fun h => D.ref h.1))) = .ok (.int (j : Nat)) (S1.set b.pt (.lst (ys.reverse.map fun h => D.ref h.1))) → asgT (GG (n + 7)) (.sub (.var 6) (.var 8)) (.ref y.1) en (S1.set b.pt (.lst (ys.reverse.map fun h => D.ref h.1))) = .ok en ((S1.set b.pt (.lst (ys.reverse.map fun h => D.ref h.1))).set fw (.lst ((bs.set j { b with r := y.1, rs := y.2, hs := ys.reverse }).map fun b => .ref b.r))) := fun en a1 a2 => asgT_sub _ _ _ a1 a2 ss
      generalize (S1.set b.pt (.lst (ys.reverse.map fun h => D.ref h.1))) = S2 at *
      generalize hS3 : S2.set fw (.lst ((bs.set j { b with r := y.1, rs := y.2, hs := ys.reverse }).map fun b => .ref b.r)) = S3 at *
      refine ⟨.bl true, S3, { b with r := y.1, rs := y.2, hs := ys.reverse }, ?_, ?_, rfl, rfl, rfl, rfl, Or.inr (Or.inl ⟨ku, rfl, ?_⟩), (Fr.of_pre p1).tr fS, Nat.le_trans p1.length_le lS⟩
      · simp [Dd.D, ku, pi, hS1, nl, pi1, ty, mp, asg]
      · refine h1.upd hj fS (fun x hx => by omega) lS g6 rfl rfl ⟨b1.bk.fr fA ?_ ?_, g5, ?_, b1.op, b1.oq, b1.ot, ?_⟩ (by omega) ?_
        · intro z
          have := own2 _ z
          have := bi.op
          omega
        · intro z
          have := own2 _ z
          have := bi.oq
          omega
        · intro x hx
          have hx' : x ∈ b.all := by
            show x ∈ b.hs ++ [(b.r, b.rs)]
            rw [e0]
            exact List.mem_append_left _ hx
          obtain ⟨u, v, w, z⟩ := b1.rw_ x hx'
          exact ⟨u.fr fA (fun q => by have := own2 _ q; omega) (fun e he q => by have := own2 _ q; have := z e he; omega), v, w, z⟩
        · have := bi.hd
          show ((ys.reverse ++ [(y.1, y.2)]).map Prod.snd).head? = some []
          unfold Bw.all at this
          rw [e0] at this
          show ((ys.reverse ++ [y]).map Prod.snd).head? = some []
          rw [List.map_append, List.head?_append] at this
          cases hq : ((ys.reverse ++ [y]).map Prod.snd).head? with
          | none => simp at hq
          | some v =>
            rw [hq] at this
            simpa using this
        · show ys.reverse.length ≤ i + 1
          have : b.hs.length = ys.reverse.length + 1 := by rw [e0]; simp
          omega
      · rw [hs.2, e0, List.map_append, List.map_singleton]
  · -- a deed
    have k3 := kinds3 hk ku
    have ri := map_ix h.rat hj
    obtain ⟨x, S1, e1, told, p1⟩ := law_refused (n := n + 6) rb.1 rb.2.1 hd ht
    have E1 : fnN Tx.F Ex Tx.cs (n + 7) 59 [.ref b.r, d.D] S = _ := e1
    have h1 := h.pre p1
    have b1 := h1.each j b hj
    have rb1 := b1.rw_ (b.r, b.rs) (by simp [Bw.all])
    rw [← hs.1] at told
    cases hc : refu b.es d with
    | some c =>
      rw [hc] at told
      have sj : bs.set j b = bs := by
        subst hjb
        exact List.set_getElem_self ..
      have isf : isD x .non = some false := by
        obtain ⟨q, rfl, _⟩ := told
        rfl
      refine ⟨x, S1, b, ?_, by rw [sj]; exact h1.mono (by omega), rfl, rfl, rfl, rfl, Or.inr (Or.inr (Or.inl ⟨ku, ⟨c, hc, told⟩, hs.1.symm, hs.2.symm⟩)), Fr.of_pre p1, p1.length_le⟩
      simp only [Dd.D] at E1
      simp [Dd.D, ku, ri, E1, isf]
    | none =>
      rw [hc] at told
      have hx : x = .non := told
      subst hx
      have pi1 := map_ix h1.pat hj
      have ri1 := map_ix h1.rat hj
      have ty := ty_append b1.ps
      have ap := mt_append b1.ps (by simp; omega) (.ref b.r)
      have n1 : b.pt ≠ fw := wne (by rw [bi.ot, h.or_]; omega)
      have f2 : Fr (· = b.pt) S1 (S1.set b.pt (.lst (b.hs.map (fun h => D.ref h.1) ++ [.ref b.r]))) := Fr.set rfl
      have g2 : (S1.set b.pt (.lst (b.hs.map (fun h => D.ref h.1) ++ [.ref b.r])))[b.pt]? = some (.lst ((b.hs ++ [(b.r, b.rs)]).map fun h => .ref h.1)) := by rw [set_get b1.ps]; simp
      have l2 : (S1.set b.pt (.lst (b.hs.map (fun h => D.ref h.1) ++ [.ref b.r]))).length = S1.length := by simp
      generalize hS2 : (S1.set b.pt (.lst (b.hs.map (fun h => D.ref h.1) ++ [.ref b.r]))) = S2 at *
      have rows2 : Rows S2 b.r b.rs := rb1.1.fr f2 (fun z => by have := rb1.2.2.1; rw [show b.r = b.pt from z, bi.ot] at this; omega) (fun e he z => by have := rb1.2.2.2 e he; rw [show e.tr = b.pt from z, bi.ot] at this; omega)
      have ht2 := f2 _ _ (fun z => by rw [show d.tr = b.pt from z, bi.ot] at ot; omega) (pre_get p1 ht)
      have rat2 := f2 _ _ (fun z => n1 (Eq.symm z)) h1.rat
      have ri2 := map_ix rat2 hj
      obtain ⟨r', S3, e3, rows3, p3, nr⟩ := law_behind (n := n + 6) rows2 rb.2.1.len k3 ht2
      have E3 : fnN Tx.F Ex Tx.cs (n + 7) 60 [.ref b.r, d.D] S2 = _ := e3
      have rat3 := pre_get p3 rat2
      have ss := setSub_nat (d := .ref r') rat3 (by rw [lw]; exact hjl)
      have es : (bs.map fun b => D.ref b.r).set j (.ref r') = (bs.set j { b with r := r', rs := behind b.rs d, hs := b.hs ++ [(b.r, b.rs)] }).map fun b => .ref b.r := by rw [List.map_set]
      rw [es] at ss
      have fA : Fr (fun x => x = b.pt ∨ x = fw) S1 (S3.set fw (.lst ((bs.set j { b with r := r', rs := behind b.rs d, hs := b.hs ++ [(b.r, b.rs)] }).map fun b => .ref b.r))) := (f2.mono fun _ z => Or.inl z).tr ((Fr.of_pre p3).tr (Fr.set (Or.inr rfl)))
      have fB : Fr (· = fw) S3 (S3.set fw (.lst ((bs.set j { b with r := r', rs := behind b.rs d, hs := b.hs ++ [(b.r, b.rs)] }).map fun b => .ref b.r))) := Fr.set rfl
      have own2 : ∀ x, x = b.pt ∨ x = fw → own x = 3 ∨ own x = 7 + 3 * j := fun x hx => by
        rcases hx with e | e
        · exact Or.inr (e ▸ bi.ot)
        · exact Or.inl (e ▸ h.or_)
      have fS := fA.mono own2
      have g6 := set_get (o := .lst ((bs.set j { b with r := r', rs := behind b.rs d, hs := b.hs ++ [(b.r, b.rs)] }).map fun b => D.ref b.r)) rat3
      have lS : S1.length ≤ (S3.set fw (.lst ((bs.set j { b with r := r', rs := behind b.rs d, hs := b.hs ++ [(b.r, b.rs)] }).map fun b => .ref b.r))).length := by
        have := p3.length_le
        simp
        omega
      have or' : own r' = 0 := h.new r' (by have := p1.length_le; omega)
      have otr : ∀ e ∈ behind b.rs d, own e.tr = 0 := by
        intro e he
        unfold behind at he
        split at he
        · rcases List.mem_append.mp he with q | q
          · exact rb.2.2.2 e q
          · rw [List.mem_singleton.mp q]; exact ot
        · split at he
          · exact rb.2.2.2 e (List.mem_filter.mp he).1
          · obtain ⟨e', he', rfl⟩ := List.mem_map.mp he
            unfold chg
            split
            · exact ot
            · exact rb.2.2.2 e' he'
      have asg : ∀ en : En, ev (GG (n + 7)) (.var 6) en S3 = .ok (.ref fw) S3 → ev (GG (n + 7)) (.var 8) en S3 = .ok (.int (j : Nat)) S3 → asgT (GG (n + 7)) (.sub (.var 6) (.var 8)) (.ref r') en S3 = .ok en (S3.set fw (.lst ((bs.set j { b with r := r', rs := behind b.rs d, hs := b.hs ++ [(b.r, b.rs)] }).map fun b => .ref b.r))) := fun en a1 a2 => asgT_sub _ _ _ a1 a2 ss
      have g5 : (S3.set fw (.lst ((bs.set j { b with r := r', rs := behind b.rs d, hs := b.hs ++ [(b.r, b.rs)] }).map fun b => .ref b.r)))[b.pt]? = some (.lst ((b.hs ++ [(b.r, b.rs)]).map fun h => .ref h.1)) := fB _ _ n1 (pre_get p3 g2)
      generalize hS4 : S3.set fw (.lst ((bs.set j { b with r := r', rs := behind b.rs d, hs := b.hs ++ [(b.r, b.rs)] }).map fun b => .ref b.r)) = S4 at *
      refine ⟨.non, S4, { b with r := r', rs := behind b.rs d, hs := b.hs ++ [(b.r, b.rs)] }, ?_, ?_, rfl, rfl, rfl, rfl, Or.inr (Or.inr (Or.inr ⟨ku, hc, rfl, by rw [hs.1], by rw [hs.2, hs.1]; simp⟩)), (Fr.of_pre p1).tr fS, Nat.le_trans p1.length_le lS⟩
      · simp only [Dd.D] at E1 E3
        simp [Dd.D, ku, ri, E1, pi1, ty, ri1, ap, hS2, ri2, E3, asg]
      · refine h1.upd hj fS (fun x hx => by omega) lS g6 rfl rfl ⟨b1.bk.fr fA ?_ ?_, g5, ?_, b1.op, b1.oq, b1.ot, ?_⟩ (by omega) ?_
        · intro z
          have := own2 _ z
          have := bi.op
          omega
        · intro z
          have := own2 _ z
          have := bi.oq
          omega
        · intro x hx
          rcases List.mem_append.mp hx with hx' | hx'
          · obtain ⟨u, v, w, z⟩ := b1.rw_ x hx'
            exact ⟨u.fr fA (fun q => by have := own2 _ q; omega) (fun e he q => by have := own2 _ q; have := z e he; omega), v, w, z⟩
          · rw [List.mem_singleton.mp hx']
            refine ⟨rows3.fr fB (fun z => ?_) (fun e he z => ?_), refu_ok rb.2.1 hd k3 (by rw [← hs.1]; exact hc), or', otr⟩
            · have := h.or_
              rw [← show r' = fw from z, or'] at this
              omega
            · have := h.or_
              rw [← show e.tr = fw from z, otr e he] at this
              omega
        · have := bi.hd
          show (((b.hs ++ [(b.r, b.rs)]) ++ [(r', behind b.rs d)]).map Prod.snd).head? = some []
          rw [List.map_append, List.head?_append]
          unfold Bw.all at this
          rw [this]
          rfl
        · show (b.hs ++ [(b.r, b.rs)]).length ≤ i + 1
          simp
          omega
end Pl
end
section
set_option Elab.async false
set_option linter.all false
set_option maxRecDepth 100000
set_option maxHeartbeats 4000000
set_option autoImplicit false
set_option exponentiation.threshold 10000
/-! X11: k84: a turn: what is said. -/
namespace Pl
open Ev Gr PySem
theorem refu_cls {es : List Ent} {d : Dd} {c : Nat} (h : refu es d = some c) : c = 6 ∨ c = 5 ∨ c = 7 := by
  unfold refu at h
  split at h
  · split at h
    · injection h with h; exact Or.inl h.symm
    · split at h
      · injection h with h; exact Or.inr (Or.inr h.symm)
      · cases h
  · split at h
    · injection h with h; exact Or.inr (Or.inl h.symm)
    · split at h
      · injection h with h; exact Or.inr (Or.inr h.symm)
      · cases h
theorem dead_fr {P : Nat → Prop} {S S3 : Sto} {L : List Ob} (f : Fr P (S ++ [Ob.act, Ob.lst []]) S3) : Fr P S ((S3 ++ L).set S.length .dead) := fun i o hi ho => by
  have := get_lt ho
  rw [List.getElem?_set_ne (by omega)]
  exact pre_get ⟨L, rfl⟩ (f i o hi (pre_get ⟨_, rfl⟩ ho))
theorem dead_bk {S S3 : Sto} {L : List Ob} {p q : Nat} {t : D} {es : List Ent} {pss : List (List Ent)} (h : Bk S3 p q t es pss) (hp : p < S.length) (hq : q < S.length) : Bk ((S3 ++ L).set S.length .dead) p q t es pss := by
  have h1 := h.pre (S' := S3 ++ L) ⟨L, rfl⟩
  exact ⟨by rw [List.getElem?_set_ne (by omega)]; exact h1.at_, by rw [List.getElem?_set_ne (by omega)]; exact h1.past⟩
theorem act_len {S S3 : Sto} (h : S ++ [Ob.act, Ob.lst []] <+: S3) : S.length + 2 ≤ S3.length := by
  have := h.length_le
  simpa using this
theorem said_due {n j : Nat} {a : Sto → R D} {S : Sto} {own : Nat → Nat} {t x : D} {b : Bw} {d : Dd} (h : BI S own t j b) (hu : Due S x d b.es b.pss b.rs (b.hs.map Prod.snd)) (hd : OkDd d) (hk : kinds d.kd) (ht : S[d.tr]? = some (.lst (d.vs.map T3.D))) (he : OkEs b.es) (hp : ∀ es ∈ b.pss, OkEs es) (hl : b.pss.length ≤ 1000) (ha : a (S ++ [Ob.act, Ob.lst []]) = fn (n + 7) 62 [.ref b.p, d.D] (S ++ [Ob.act, Ob.lst []])) :
    ∃ (v : D) (S' : Sto) (tx : List Nat), said (n + 7) a S = .ok v S' ∧ reprD S' v = some tx ∧ reprD S' x = some tx ∧ Fr (fun x => x = b.p ∨ x = b.q) S S' ∧ S.length ≤ S'.length ∧ Bk S' b.p b.q t b.rs (b.hs.map Prod.snd) := by
  have pr : S <+: S ++ [Ob.act, Ob.lst []] := ⟨_, rfl⟩
  have b1 := h.bk.pre pr
  have lp := get_lt h.bk.at_
  have lq := get_lt h.bk.past
  have s1 : (S ++ [Ob.act, Ob.lst []])[S.length + 1]? = some (.lst []) := by
    rw [List.getElem?_append_right (by omega)]
    simp
  have np : ¬ (S.length + 1 = b.p ∨ S.length + 1 = b.q) := by omega
  rcases hu with ⟨ku, h0, rfl, e1, e2⟩ | ⟨ku, rfl, e1⟩ | ⟨ku, ⟨c, hc, told⟩, e1, e2⟩ | ⟨ku, hc, rfl, e1, e2⟩
  · rw [h0] at b1
    have u := undo_0 (n := n + 5) b1
    have a0 := act_undo (n := n) b1 ku u
    have p2 := pre_snoc (S ++ [Ob.act, Ob.lst []]) (.lst [])
    have s := said_ok (n := n + 7) (a := a) (ha.trans a0) (pre_get p2 s1)
    refine ⟨.bl false, _, _, s, bl_repr _, bl_repr _, dead_fr (Fr.of_pre p2), ?_, ?_⟩
    · simp
    · have := dead_bk (S := S) (L := [Ob.lst []]) (b1.pre p2) lp lq
      rw [e1, e2, h0]
      exact this
  · rw [e1] at b1
    obtain ⟨S3, u, b3, f3, l3⟩ := undo_1 (n := n + 5) b1 (fun es hes e hm => by
      rw [← e1] at hes
      exact ((hp es hes).each e hm).nm)
    have a0 := act_undo (n := n) b1 ku u
    have s := said_ok (n := n + 7) (a := a) (ha.trans a0) (f3 _ _ np s1)
    refine ⟨.bl true, _, _, s, bl_repr _, bl_repr _, dead_fr f3, ?_, dead_bk b3 lp lq⟩
    simp at l3 ⊢
    omega
  · have k3 := kinds3 hk ku
    have a0 := law_act (n := n) b1 he hd hl k3 (pre_get pr ht)
    rw [hc] at a0
    obtain ⟨S3, a0, p3⟩ := a0
    obtain ⟨v, s, tv⟩ := said_ex (n := n + 7) (a := a) (ha.trans a0) (refu_cls hc) (by have := act_len p3; omega)
    have ff := dead_fr (L := [Ob.lst [.bl (decide (c = 6)), .bl (decide (c = 5)), .bl (decide (c = 7))], Ob.lst []]) (Fr.of_pre (P := fun _ => False) p3)
    refine ⟨v, _, _, s, told_repr tv, told_repr (told.pre ff.pre), ff.mono (fun _ z => z.elim), ?_, ?_⟩
    · have := act_len p3
      simp
      omega
    · rw [e1, e2]
      exact dead_bk (b1.pre p3) lp lq
  · have k3 := kinds3 hk ku
    have a0 := law_act (n := n) b1 he hd hl k3 (pre_get pr ht)
    rw [hc] at a0
    obtain ⟨S3, a0, b3, f3, l3⟩ := a0
    have s := said_ok (n := n + 7) (a := a) (ha.trans a0) (f3 _ _ np s1)
    refine ⟨.non, _, _, s, told_repr (o := none) rfl, told_repr (o := none) rfl, dead_fr f3, ?_, ?_⟩
    · simp at l3 ⊢
      omega
    · rw [e1, e2]
      exact dead_bk b3 lp lq
abbrev saidS : Sm := .ite (.cmp .ne (.bi .repr (.cons (.lam 58 0 "_law_right.<locals>.<lambda>" (.call 62 (.cons (.ix (.var 5) (.var 8)) (.cons (.var 9) .nil)))) .nil)) (.bi .repr (.cons (.var 10) .nil))) (.cons (.ret (.cst (.bl false))) .nil) .nil
theorem turn_said {n j : Nat} {S : Sto} {own : Nat → Nat} {k wr sr fb fw fp : Nat} {ws : List (List Nat)} {sp : List T3} {t x : D} {i : Nat} {bs : List Bw} {b : Bw} {d : Dd} {o3 o4 o11 : Option D} (h : WI S own k wr sr fb fw fp ws sp t i bs) (hj : bs[j]? = some b) (hu : Due S x d b.es b.pss b.rs (b.hs.map Prod.snd)) (hd : OkDd d) (hk : kinds d.kd) (ht : S[d.tr]? = some (.lst (d.vs.map T3.D))) (he : OkEs b.es) (hp : ∀ es ∈ b.pss, OkEs es) (hl : b.pss.length ≤ 1000) :
    ∃ S' : Sto, exec (GG (n + 7)) Ex saidS [some (.ref k), some (.ref wr), some (.ref sr), o3, o4, some (.ref fb), some (.ref fw), some (.ref fp), some (.int (j : Nat)), some d.D, some x, o11] S = .nx [some (.ref k), some (.ref wr), some (.ref sr), o3, o4, some (.ref fb), some (.ref fw), some (.ref fp), some (.int (j : Nat)), some d.D, some x, o11] S' ∧
      WI S' own k wr sr fb fw fp ws sp t i (bs.set j { b with es := b.rs, pss := b.hs.map Prod.snd }) ∧ Fr (fun x => own x = 5 + 3 * j ∨ own x = 6 + 3 * j) S S' ∧ S.length ≤ S'.length := by
  have bI := h.each j b hj
  have bx : ixD (S ++ [Ob.act, Ob.lst []]) (.ref fb) (.int (j : Nat)) = some (.ref b.p) := map_ix (pre_get ⟨_, rfl⟩ h.bat) hj
  obtain ⟨v, S', tx, s, r1, r2, f, l, bk⟩ := said_due (n := n) (a := fun S => ev (GG (n + 7)) (.call 62 (.cons (.ix (.var 5) (.var 8)) (.cons (.var 9) .nil))) [some (.ref k), some (.ref wr), some (.ref sr), o3, o4, some (.ref fb), some (.ref fw), some (.ref fp), some (.int (j : Nat)), some d.D, some x, o11] S) bI hu hd hk ht he hp hl (by simp [bx])
  have tb : isTbl 0 "_law_right.<locals>.<lambda>" S = true := by
    unfold isTbl
    rw [h.tbl]
    exact decide_eq_true rfl
  have own2 : ∀ x, x = b.p ∨ x = b.q → own x = 5 + 3 * j ∨ own x = 6 + 3 * j := fun x hx => by
    rcases hx with e | e
    · exact Or.inl (e ▸ bI.op)
    · exact Or.inr (e ▸ bI.oq)
  refine ⟨S', ?_, ?_, f.mono own2, l⟩
  · have lm : ev (GG (n + 7)) (.lam 58 0 "_law_right.<locals>.<lambda>" (.call 62 (.cons (.ix (.var 5) (.var 8)) (.cons (.var 9) .nil)))) [some (.ref k), some (.ref wr), some (.ref sr), o3, o4, some (.ref fb), some (.ref fw), some (.ref fp), some (.int (j : Nat)), some d.D, some x, o11] S = .ok v S' := by
      rw [ev_lam, if_pos tb]
      exact s
    have b1 : bi .repr [v] S' = .ok (.str tx) S' := by
      show R.of ((reprD S' v).map D.str) S' = _
      rw [r1]; rfl
    have b2 : bi .repr [x] S' = .ok (.str tx) S' := by
      show R.of ((reprD S' x).map D.str) S' = _
      rw [r2]; rfl
    simp [lm, b1, b2]
  · refine h.upd hj f (fun x hx => by have := own2 x hx; omega) l ?_ rfl rfl ⟨bk, ?_, ?_, bI.op, bI.oq, bI.ot, bI.hd⟩ (Nat.le_refl _) (h.hl b (by
      obtain ⟨a, c⟩ := List.getElem?_eq_some_iff.mp hj
      exact c ▸ List.getElem_mem _))
    · rw [map_set_same (b' := { b with es := b.rs, pss := b.hs.map Prod.snd }) hj rfl]
      exact f _ _ (fun z => by have := own2 _ z; rw [h.or_] at this; omega) h.rat
    · exact f _ _ (fun z => by have := own2 _ z; rw [bI.ot] at this; omega) bI.ps
    · intro y hy
      obtain ⟨u, v, w, z⟩ := bI.rw_ y hy
      exact ⟨u.fr f (fun q => by have := own2 _ q; omega) (fun e he q => by have := own2 _ q; have := z e he; omega), v, w, z⟩
end Pl
end
section
set_option Elab.async false
set_option linter.all false
set_option maxRecDepth 100000
set_option maxHeartbeats 4000000
set_option autoImplicit false
set_option exponentiation.threshold 10000
/-! X12: k84: twins, a whole turn. -/
namespace Pl
open Ev Gr PySem
theorem BI.own {S : Sto} {own own' : Nat → Nat} {t : D} {j : Nat} {b : Bw} (h : BI S own t j b) (e : ∀ x, x < S.length → own' x = own x) : BI S own' t j b where
  bk := h.bk
  ps := h.ps
  rw_ := fun x hx => by
    obtain ⟨a, b, c, d⟩ := h.rw_ x hx
    exact ⟨a, b, by rw [e _ (get_lt a.at_)]; exact c, fun y hy => by rw [e _ (get_lt (a.tr y hy))]; exact d y hy⟩
  op := by rw [e _ (get_lt h.bk.at_)]; exact h.op
  oq := by rw [e _ (get_lt h.bk.past)]; exact h.oq
  ot := by rw [e _ (get_lt h.ps)]; exact h.ot
  hd := h.hd
abbrev twinS : Sm := .ite (.and (.cmp .lt (.bi .len (.cons (.var 5) .nil)) (.cst (.int 4))) (.cmp .eq (.call 48 (.cons (.var 0) (.cons (.cst (.int 4)) .nil))) (.cst (.int 0)))) (.cons (.exp (.mt .append (.var 5) (.cons (.mth 73 0 "twin" (.ix (.var 5) (.var 8)) .nil) .nil))) (.cons (.exp (.mt .append (.var 6) (.cons (.ix (.var 6) (.var 8)) .nil))) (.cons (.exp (.mt .append (.var 7) (.cons (.bi .list (.cons (.ix (.var 7) (.var 8)) .nil)) .nil))) .nil))) .nil
theorem turn_twin {n j m : Nat} {S : Sto} {own : Nat → Nat} {k wr sr fb fw fp : Nat} {ws : List (List Nat)} {sp : List T3} {ta tb : Int} {i : Nat} {bs : List Bw} {b : Bw} {o3 o4 o9 o10 o11 : Option D} (h : WI S own k wr sr fb fw fp ws sp (fr ta tb) i bs) (hj : bs[j]? = some b) (hs : ∀ b ∈ bs, b.sync) (w : WellAt S k m) (hm : m < 900000) (hf : isFr ta tb) (hpos : 0 < ta) :
    ∃ (S' : Sto) (own' : Nat → Nat) (bs' : List Bw), exec (GG (n + 7)) Ex twinS [some (.ref k), some (.ref wr), some (.ref sr), o3, o4, some (.ref fb), some (.ref fw), some (.ref fp), some (.int (j : Nat)), o9, o10, o11] S = .nx [some (.ref k), some (.ref wr), some (.ref sr), o3, o4, some (.ref fb), some (.ref fw), some (.ref fp), some (.int (j : Nat)), o9, o10, o11] S' ∧
      WI S' own' k wr sr fb fw fp ws sp (fr ta tb) i bs' ∧ (∀ b ∈ bs', b.sync) ∧ WellAt S' k (m + 1) := by
  have ln := len_ref h.bat
  rw [List.length_map] at ln
  by_cases c4 : bs.length < 4
  · have c4' : ((bs.length : Nat) : Int) < 4 := by omega
    obtain ⟨x, S1, e1, a1, w1, f1, l1⟩ := drawn (n := n + 6) (many := 4) w (by omega) (by decide) (by decide)
    have E1 : fnN Tx.F Ex Tx.cs (n + 7) 48 [.ref k, .int 4] S = _ := e1
    have h1 := h.dr f1 (by omega)
    by_cases x0 : x = 0
    · subst x0
      have bI := h1.each j b hj
      have bx := map_ix h1.bat hj
      have i1 : isIns 0 "twin" (.ref b.p) S1 = true := i_of bI.bk.at_ rfl
      have ty1 := ty_append h1.bat
      obtain ⟨S2, q', e2, k2, p2, lq⟩ := twin (n := n + 1) bI.bk hf hpos
      have E2 : fnN Tx.F Ex Tx.cs (n + 7) 73 [.ref b.p] S1 = _ := e2
      have g1 := pre_get p2 h1.bat
      have gw := pre_get p2 h1.rat
      have gp := pre_get p2 h1.pat
      have ap1 := mt_append g1 (by simp; omega) (.ref S1.length)
      have n12 : fb ≠ fw := fun z => by have := h.ob; rw [z, h.or_] at this; omega
      have n13 : fb ≠ fp := fun z => by have := h.ob; rw [z, h.opp] at this; omega
      have n23 : fw ≠ fp := fun z => by have := h.or_; rw [z, h.opp] at this; omega
      have lb := get_lt h1.bat
      have lw := get_lt h1.rat
      have lp := get_lt h1.pat
      have lq2 := get_lt k2.past
      have g3 := set_get (o := .lst ((bs.map fun b => D.ref b.p) ++ [.ref S1.length])) g1
      have l3 : (S2.set fb (.lst ((bs.map fun b => D.ref b.p) ++ [.ref S1.length]))).length = S2.length := by simp
      have gw3 : (S2.set fb (.lst ((bs.map fun b => D.ref b.p) ++ [.ref S1.length])))[fw]? = _ := (List.getElem?_set_ne n12).trans gw
      have gp3 : (S2.set fb (.lst ((bs.map fun b => D.ref b.p) ++ [.ref S1.length])))[fp]? = _ := (List.getElem?_set_ne n13).trans gp
      have f3 : Fr (fun x => x = fb ∨ x = fw ∨ x = fp) S2 (S2.set fb (.lst ((bs.map fun b => D.ref b.p) ++ [.ref S1.length]))) := Fr.set (Or.inl rfl)
      generalize hS3 : S2.set fb (.lst ((bs.map fun b => D.ref b.p) ++ [.ref S1.length])) = S3 at *
      have rx := map_ix gw3 hj
      have ty2 := ty_append gw3
      have ap2 := mt_append gw3 (by simp; omega) (.ref b.r)
      have g4 := set_get (o := .lst ((bs.map fun b => D.ref b.r) ++ [.ref b.r])) gw3
      have l4 : (S3.set fw (.lst ((bs.map fun b => D.ref b.r) ++ [.ref b.r]))).length = S2.length := by simp [l3]
      have g34 : (S3.set fw (.lst ((bs.map fun b => D.ref b.r) ++ [.ref b.r])))[fb]? = _ := (List.getElem?_set_ne (fun z => n12 z.symm)).trans g3
      have gp4 : (S3.set fw (.lst ((bs.map fun b => D.ref b.r) ++ [.ref b.r])))[fp]? = _ := (List.getElem?_set_ne n23).trans gp3
      have f4 : Fr (fun x => x = fb ∨ x = fw ∨ x = fp) S3 (S3.set fw (.lst ((bs.map fun b => D.ref b.r) ++ [.ref b.r]))) := Fr.set (Or.inr (Or.inl rfl))
      generalize hS4 : S3.set fw (.lst ((bs.map fun b => D.ref b.r) ++ [.ref b.r])) = S4 at *
      have f24 := f3.tr f4
      have f14 := (Fr.of_pre (P := fun x => x = fb ∨ x = fw ∨ x = fp) p2).tr f24
      have px := map_ix gp4 hj
      have npt : ¬ (b.pt = fb ∨ b.pt = fw ∨ b.pt = fp) := by
        rintro (z | z | z)
        · have := bI.ot; rw [z, h.ob] at this; omega
        · have := bI.ot; rw [z, h.or_] at this; omega
        · have := bI.ot; rw [z, h.opp] at this; omega
      have ps4 := f14 _ _ npt bI.ps
      have ls : bi .list [.ref b.pt] S4 = .ok (.ref S4.length) (S4 ++ [.lst (b.hs.map fun h => .ref h.1)]) := by simp [Ev.bi, seqOf_ref ps4]
      have ty3 := ty_append gp4
      have gp5 := pre_get (pre_snoc S4 (.lst (b.hs.map fun h => .ref h.1))) gp4
      have ap3 := mt_append gp5 (by simp; omega) (.ref S4.length)
      have g6 := set_get (o := .lst ((bs.map fun b => D.ref b.pt) ++ [.ref S4.length])) gp5
      have gb6 : ((S4 ++ [Ob.lst (b.hs.map fun h => .ref h.1)]).set fp (.lst ((bs.map fun b => D.ref b.pt) ++ [.ref S4.length])))[fb]? = _ := (List.getElem?_set_ne (fun z => n13 z.symm)).trans (pre_get (pre_snoc ..) g34)
      have gw6 : ((S4 ++ [Ob.lst (b.hs.map fun h => .ref h.1)]).set fp (.lst ((bs.map fun b => D.ref b.pt) ++ [.ref S4.length])))[fw]? = _ := (List.getElem?_set_ne (fun z => n23 z.symm)).trans (pre_get (pre_snoc ..) g4)
      have f6 : Fr (fun x => x = fb ∨ x = fw ∨ x = fp) S4 ((S4 ++ [Ob.lst (b.hs.map fun h => .ref h.1)]).set fp (.lst ((bs.map fun b => D.ref b.pt) ++ [.ref S4.length]))) := (Fr.of_pre (pre_snoc ..)).tr (Fr.set (Or.inr (Or.inr rfl)))
      have gn : ((S4 ++ [Ob.lst (b.hs.map fun h => .ref h.1)]).set fp (.lst ((bs.map fun b => D.ref b.pt) ++ [.ref S4.length])))[S4.length]? = some (.lst (b.hs.map fun h => .ref h.1)) := (List.getElem?_set_ne (by have := p2.length_le; omega)).trans (last_get ..)
      have l6 : ((S4 ++ [Ob.lst (b.hs.map fun h => .ref h.1)]).set fp (.lst ((bs.map fun b => D.ref b.pt) ++ [.ref S4.length]))).length = S2.length + 1 := by simp [l4]
      generalize hS6 : (S4 ++ [Ob.lst (b.hs.map fun h => .ref h.1)]).set fp (.lst ((bs.map fun b => D.ref b.pt) ++ [.ref S4.length])) = S6 at *
      have f16 := f14.tr f6
      have f26 := f24.tr f6
      have own' : ∃ own' : Nat → Nat, (∀ x, x < S1.length → own' x = own x) ∧ own' S1.length = 5 + 3 * bs.length ∧ own' q' = 6 + 3 * bs.length ∧ own' S4.length = 7 + 3 * bs.length ∧ ∀ x, S2.length < x → own' x = 0 := by
        refine ⟨fun x => if x < S1.length then own x else if x = S1.length then 5 + 3 * bs.length else if x = q' then 6 + 3 * bs.length else if x = S4.length then 7 + 3 * bs.length else 0, ?_, ?_, ?_, ?_, ?_⟩
        · intro x hx
          exact if_pos hx
        · simp
        · show (if q' < S1.length then _ else if q' = S1.length then _ else if q' = q' then _ else _) = _
          rw [if_neg (by omega), if_neg (by omega), if_pos rfl]
        · show (if S4.length < S1.length then _ else if S4.length = S1.length then _ else if S4.length = q' then _ else if S4.length = S4.length then _ else _) = _
          rw [if_neg (by omega), if_neg (by omega), if_neg (by omega), if_pos rfl]
        · intro x hx
          show (if x < S1.length then _ else if x = S1.length then _ else if x = q' then _ else if x = S4.length then _ else _) = _
          rw [if_neg (by omega), if_neg (by omega), if_neg (by omega), if_neg (by omega)]
      obtain ⟨own', w1', w2', w3', w4', w5'⟩ := own'
      have nk : ∀ x, (x = fb ∨ x = fw ∨ x = fp) → own' x = 2 ∨ own' x = 3 ∨ own' x = 4 := by
        rintro x (z | z | z)
        · rw [z, w1' _ lb]; exact Or.inl h.ob
        · rw [z, w1' _ lw]; exact Or.inr (Or.inl h.or_)
        · rw [z, w1' _ lp]; exact Or.inr (Or.inr h.opp)
      have lk := w1.lt
      have l0 := get_lt h1.tbl
      have lwr := get_lt h1.wat
      have lsr := get_lt h1.sat
      refine ⟨S6, own', bs ++ [{ b with p := S1.length, q := q', pt := S4.length }], ?_, ?_, ?_, ?_⟩
      · simp [ln, c4', E1, bx, i1, ty1, E2, ap1, hS3, rx, ty2, ap2, hS4, px, ls, ty3, ap3, hS6]
      · have z0 := w1' _ l0
        have zk := w1' _ lk
        have zw := w1' _ lwr
        have zs := w1' _ lsr
        rw [h.o0] at z0
        rw [h.ok] at zk
        rw [h.ow] at zw
        rw [h.os] at zs
        refine
          { tbl := f16 _ _ (fun z => by have := nk _ z; omega) h1.tbl
            o0 := z0
            ok := zk
            wat := f16 _ _ (fun z => by have := nk _ z; omega) h1.wat
            ow := zw
            sat := f16 _ _ (fun z => by have := nk _ z; omega) h1.sat
            os := zs
            bat := by rw [gb6]; simp
            ob := by rw [w1' _ lb]; exact h.ob
            rat := by rw [gw6]; simp
            or_ := by rw [w1' _ lw]; exact h.or_
            pat := by rw [g6]; simp
            opp := by rw [w1' _ lp]; exact h.opp
            each := ?_
            l1 := by simp
            l4 := by simp; omega
            hl := ?_
            new := fun x hx => w5' x (by omega) }
        · intro j2 b2 hb2
          by_cases q : j2 < bs.length
          · rw [List.getElem?_append_left q] at hb2
            exact ((h1.each j2 b2 hb2).own w1').fr f16 fun x hx => by have := nk x hx; omega
          · rw [List.getElem?_append_right (by omega)] at hb2
            have e0 : j2 - bs.length = 0 := by
              cases q2 : j2 - bs.length with
              | zero => rfl
              | succ y => rw [q2] at hb2; simp at hb2
            have e2 : j2 = bs.length := by omega
            rw [e0] at hb2
            injection hb2 with hb2
            subst hb2 e2
            refine ⟨k2.fr f26 ?_ ?_, gn, ?_, w2', w3', w4', bI.hd⟩
            · intro z; have := nk _ z; omega
            · intro z; have := nk _ z; omega
            · intro x hx
              obtain ⟨u, v, c, d⟩ := (bI.own w1').rw_ x hx
              exact ⟨u.fr f16 (fun q => by have := nk _ q; omega) (fun e he q => by have := nk _ q; have := d e he; omega), v, c, d⟩
        · intro b2 hb2
          rcases List.mem_append.mp hb2 with q | q
          · exact h.hl b2 q
          · rw [List.mem_singleton.mp q]
            obtain ⟨a, c⟩ := List.getElem?_eq_some_iff.mp hj
            exact h.hl b (c ▸ List.getElem_mem _)
      · intro b2 hb2
        rcases List.mem_append.mp hb2 with q | q
        · exact hs b2 q
        · rw [List.mem_singleton.mp q]
          obtain ⟨a, c⟩ := List.getElem?_eq_some_iff.mp hj
          exact hs b (c ▸ List.getElem_mem _)
      · exact w1.fr f16 fun z => by
          have := nk _ z
          rw [w1' _ lk, h.ok] at this
          omega
    · have x0' : ¬ (x : Int) = 0 := by omega
      exact ⟨S1, own, bs, by simp [ln, c4', E1, x0, x0'], h1, hs, w1⟩
  · have c4' : ¬ ((bs.length : Nat) : Int) < 4 := by omega
    exact ⟨S, own, bs, by simp [ln, c4'], h, hs, w.mono (by omega)⟩
abbrev showS : Sm := .ite (.not (.bi .all (.cons (.lc [("k", 11)] (.call 63 (.cons (.ix (.var 5) (.var 11)) (.cons (.ix (.var 6) (.var 11)) (.cons (.var 4) .nil)))) (.nm 11) (.rng1 (.bi .len (.cons (.var 5) .nil))) .none) .nil))) (.cons (.ret (.cst (.bl false))) .nil) .nil
theorem shows_at {n j : Nat} {S S' : Sto} {own : Nat → Nat} {k wr sr fb fw fp : Nat} {ws : List (List Nat)} {sp : List T3} {ta tb : Int} {i : Nat} {bs : List Bw} {b : Bw} (h : WI S own k wr sr fb fw fp ws sp (fr ta tb) i bs) (hj : bs[j]? = some b) (hs : b.sync) (hg : good ta tb) : ∃ S', fn (n + 5) 63 [.ref b.p, .ref b.r, fr ta tb] S = .ok (.bl true) S' ∧ S <+: S' := by
  have bI := h.each j b hj
  have rb := bI.rw_ (b.r, b.rs) (by simp [Bw.all])
  exact law_shows bI.bk (by rw [hs.1]; exact rb.1) (by rw [hs.1]; exact rb.2.1) hg
theorem turn_shows {n : Nat} {S : Sto} {own : Nat → Nat} {k wr sr fb fw fp : Nat} {ws : List (List Nat)} {sp : List T3} {ta tb : Int} {i : Nat} {bs : List Bw} {o3 o8 o9 o10 o11 : Option D} (h : WI S own k wr sr fb fw fp ws sp (fr ta tb) i bs) (hs : ∀ b ∈ bs, b.sync) (hg : good ta tb) :
    ∃ S' : Sto, exec (GG (n + 7)) Ex showS [some (.ref k), some (.ref wr), some (.ref sr), o3, some (fr ta tb), some (.ref fb), some (.ref fw), some (.ref fp), o8, o9, o10, o11] S = .nx [some (.ref k), some (.ref wr), some (.ref sr), o3, some (fr ta tb), some (.ref fb), some (.ref fw), some (.ref fp), o8, o9, o10, o11] S' ∧ S <+: S' := by
  have ln := len_ref h.bat
  rw [List.length_map] at ln
  have h4 := h.l4
  obtain ⟨S', e, p⟩ := ev_lcm (G := GG (n + 7)) (en := [some (.ref k), some (.ref wr), some (.ref sr), o3, some (fr ta tb), some (.ref fb), some (.ref fw), some (.ref fp), o8, o9, o10, o11]) (S := S) (own := [("k", 11)]) (elt := .call 63 (.cons (.ix (.var 5) (.var 11)) (.cons (.ix (.var 6) (.var 11)) (.cons (.var 4) .nil)))) (p := .nm 11) (it := .rng1 (.bi .len (.cons (.var 5) .nil))) (s := ⟨rngD 0 (bs.length : Nat), []⟩) (S1 := S) (I := fun S' => S <+: S') (g := fun _ => .bl true)
    (evi_rng1 _ _ _ (by simp [ln]) (by unfold small; omega)) List.prefix_rfl (fun _ _ => ok_nil _ _) (by rw [rngD_N]; simp [rngN]; omega) (by
      intro d hd S1 p1
      have hd' : d ∈ rngN 0 bs.length := by rw [← rngD_N]; exact hd
      obtain ⟨j, hj, rfl⟩ := List.mem_map.mp hd'
      have hj' := List.mem_range'.mp hj
      have hjl : j < bs.length := by obtain ⟨i, hi, rfl⟩ := hj'; omega
      have hb : bs[j]? = some bs[j] := List.getElem?_eq_getElem hjl
      have h1 := h.pre p1
      obtain ⟨S2, e2, p2⟩ := shows_at (S' := S) (n := n + 2) h1 hb (hs _ (List.getElem_mem _)) hg
      have E2 : fnN Tx.F Ex Tx.cs (n + 7) 63 [.ref bs[j].p, .ref bs[j].r, fr ta tb] S1 = _ := e2
      have bx := map_ix h1.bat hb
      have rx := map_ix h1.rat hb
      exact ⟨[some (.ref k), some (.ref wr), some (.ref sr), o3, some (fr ta tb), some (.ref fb), some (.ref fw), some (.ref fp), o8, o9, o10, some (.int (j : Nat))], S2, rfl, by simp [bx, rx, E2], p1.trans p2⟩)
  have e' : ev (GG (n + 7)) _ _ S = R.ok _ (S' ++ [.lst ((rngD 0 (bs.length : Nat)).map fun _ => .bl true)]) := e
  have al := all_ok (last_get S' (.lst ((rngD 0 (bs.length : Nat)).map fun _ => D.bl true))) (by
    intro d hd
    obtain ⟨_, _, rfl⟩ := List.mem_map.mp hd
    rfl)
  have p3 := pre_snoc S' (.lst ((rngD 0 (bs.length : Nat)).map fun _ => D.bl true))
  generalize S' ++ [Ob.lst ((rngD 0 (bs.length : Nat)).map fun _ => D.bl true)] = S3 at *
  exact ⟨S3, by simp [e', al], p.trans p3⟩
end Pl
end
section
set_option Elab.async false
set_option linter.all false
set_option maxRecDepth 100000
set_option maxHeartbeats 4000000
set_option autoImplicit false
set_option exponentiation.threshold 10000
/-! X13: k84: all turns. -/
namespace Pl
open Ev Gr PySem
abbrev drawS : Sm := .asg (.tup [.nm 8, .nm 9]) (.tup (.cons (.call 48 (.cons (.var 0) (.cons (.bi .len (.cons (.var 5) .nil)) .nil))) (.cons (.call 61 (.cons (.var 0) (.cons (.var 1) (.cons (.var 2) .nil)))) .nil)))
abbrev turnB : Ss := .cons drawS (.cons dueS (.cons saidS (.cons twinS (.cons showS .nil))))
theorem one_turn {n m : Nat} {S : Sto} {own : Nat → Nat} {k wr sr fb fw fp : Nat} {ws : List (List Nat)} {sp : List T3} {ta tb : Int} {i : Nat} {bs : List Bw} {o3 o8 o9 o10 o11 : Option D} (h : WI S own k wr sr fb fw fp ws sp (fr ta tb) i bs) (hs : ∀ b ∈ bs, b.sync) (w : WellAt S k m) (hm : m < 700000) (hi : i ≤ 100) (hg : good ta tb) (hpos : 0 < ta) (hn : ∀ x ∈ ws, nameOk x) (hp : ∀ t ∈ sp, okPl t) (n1 : ws ≠ []) (n2 : sp ≠ []) (l1 : ws.length ≤ 20) (l2 : sp.length ≤ 20) :
    ∃ (S' : Sto) (own' : Nat → Nat) (bs' : List Bw) (p8 p9 p10 : Option D), execs (GG (n + 7)) Ex turnB [some (.ref k), some (.ref wr), some (.ref sr), o3, some (fr ta tb), some (.ref fb), some (.ref fw), some (.ref fp), o8, o9, o10, o11] S = .nx [some (.ref k), some (.ref wr), some (.ref sr), o3, some (fr ta tb), some (.ref fb), some (.ref fw), some (.ref fp), p8, p9, p10, o11] S' ∧
      WI S' own' k wr sr fb fw fp ws sp (fr ta tb) (i + 1) bs' ∧ (∀ b ∈ bs', b.sync) ∧ WellAt S' k (m + 22) := by
  have ln := len_ref h.bat
  rw [List.length_map] at ln
  have h4 := h.l4
  have h1l := h.l1
  obtain ⟨j, S1, e1, a1, w1, f1, g1⟩ := drawn (n := n + 6) (many := (bs.length : Nat)) w (by omega) (by omega) (by omega)
  have E1 : fnN Tx.F Ex Tx.cs (n + 7) 48 [.ref k, .int (bs.length : Nat)] S = _ := e1
  have h1 := h.dr f1 (by omega)
  have nk : ∀ {x}, own x = 0 → x ≠ k := fun hx e => by rw [e, h.ok] at hx; omega
  obtain ⟨d, S2, e2, od, kd, td, w2, f2, nt, g2⟩ := law_deed (n := n + 4) w1 (by omega) h1.wat h1.sat (nk h.ow) (nk h.os) hn hp n1 n2 l1 l2
  have E2 : fnN Tx.F Ex Tx.cs (n + 7) 61 [.ref k, .ref wr, .ref sr] S1 = _ := e2
  have h2 := h1.dr f2 g2
  have ot : own d.tr = 0 := h.new _ (by omega)
  have hjl : j < bs.length := by omega
  have hj : bs[j]? = some bs[j] := List.getElem?_eq_getElem hjl
  have sb := hs _ (List.getElem_mem hjl)
  have bI := h2.each j _ hj
  have rb := bI.rw_ (bs[j].r, bs[j].rs) (by simp [Bw.all])
  obtain ⟨x, S3, b', e3, h3, q1, q2, q3, q4, due, f3, g3⟩ := turn_due (n := n) (o3 := o3) (o4 := some (fr ta tb)) (o10 := o10) (o11 := o11) h2 hj sb od kd td ot (by omega)
  have hj3 : (bs.set j b')[j]? = some b' := by rw [List.getElem?_set_self hjl]
  have td3 := f3 _ _ (fun z => by omega) td
  rw [← q3, ← q4] at due
  obtain ⟨S4, e4, h4', f4, g4⟩ := turn_said (n := n) (o3 := o3) (o4 := some (fr ta tb)) (o11 := o11) h3 hj3 due od kd td3 (by rw [q3, sb.1]; exact rb.2.1) (by
    rw [q4, sb.2]
    intro es hes
    obtain ⟨y, hy, rfl⟩ := List.mem_map.mp hes
    exact (bI.rw_ y (List.mem_append_left _ hy)).2.1) (by
    rw [q4, sb.2, List.length_map]
    have := h2.hl _ (List.getElem_mem hjl)
    omega)
  rw [List.set_set] at h4'
  have w4 := (w2.fr f3 (fun z => by have := h.ok; omega)).fr f4 (fun z => by have := h.ok; omega)
  have hj4 : (bs.set j { b' with es := b'.rs, pss := b'.hs.map Prod.snd })[j]? = some { b' with es := b'.rs, pss := b'.hs.map Prod.snd } := by rw [List.getElem?_set_self hjl]
  have s4 : ∀ b ∈ bs.set j { b' with es := b'.rs, pss := b'.hs.map Prod.snd }, b.sync := by
    intro b hb
    rcases List.mem_or_eq_of_mem_set hb with q | q
    · exact hs b q
    · rw [q]; exact ⟨rfl, rfl⟩
  obtain ⟨S5, own', bs', e5, h5, s5, w5⟩ := turn_twin (n := n) (o3 := o3) (o4 := some (fr ta tb)) (o9 := some d.D) (o10 := some x) (o11 := o11) h4' hj4 s4 w4 (by omega) hg.1 hpos
  obtain ⟨S6, e6, p6⟩ := turn_shows (n := n) (o3 := o3) (o8 := some (.int (j : Nat))) (o9 := some d.D) (o10 := some x) (o11 := o11) h5 s5 hg
  refine ⟨S6, own', bs', some (.int (j : Nat)), some d.D, some x, ?_, h5.pre p6, s5, (w5.pre p6).mono (by omega)⟩
  have e0 : exec (GG (n + 7)) Ex drawS [some (.ref k), some (.ref wr), some (.ref sr), o3, some (fr ta tb), some (.ref fb), some (.ref fw), some (.ref fp), o8, o9, o10, o11] S = .nx [some (.ref k), some (.ref wr), some (.ref sr), o3, some (fr ta tb), some (.ref fb), some (.ref fw), some (.ref fp), some (.int (j : Nat)), some d.D, o10, o11] S2 := by
    simp [ln, E1, E2]
  rw [Ev.execs_cons, e0, O.seq_nx, Ev.execs_cons, e3, O.seq_nx, Ev.execs_cons, e4, O.seq_nx, Ev.execs_cons, e5, O.seq_nx, Ev.execs_cons, e6, O.seq_nx, Ev.execs_nil]
theorem turns {n : Nat} {k wr sr fb fw fp : Nat} {ws : List (List Nat)} {sp : List T3} {ta tb : Int} {o11 : Option D} {L : List D} (hg : good ta tb) (hpos : 0 < ta) (hn : ∀ x ∈ ws, nameOk x) (hp : ∀ t ∈ sp, okPl t) (n1 : ws ≠ []) (n2 : sp ≠ []) (l1 : ws.length ≤ 20) (l2 : sp.length ≤ 20) :
    ∀ (j i m : Nat) (S : Sto) (own : Nat → Nat) (bs : List Bw) (o3 o8 o9 o10 : Option D), WI S own k wr sr fb fw fp ws sp (fr ta tb) i bs → (∀ b ∈ bs, b.sync) → WellAt S k m → m + 22 * j < 700000 → i + j ≤ 100 →
      ∃ (S' : Sto) (own' : Nat → Nat) (bs' : List Bw) (p3 p8 p9 p10 : Option D), forL ⟨L, []⟩ (lpF (GG (n + 7)) Ex (.nm 3) turnB) (rngN i j) [some (.ref k), some (.ref wr), some (.ref sr), o3, some (fr ta tb), some (.ref fb), some (.ref fw), some (.ref fp), o8, o9, o10, o11] S = .nx [some (.ref k), some (.ref wr), some (.ref sr), p3, some (fr ta tb), some (.ref fb), some (.ref fw), some (.ref fp), p8, p9, p10, o11] S' ∧
        WI S' own' k wr sr fb fw fp ws sp (fr ta tb) (i + j) bs' ∧ (∀ b ∈ bs', b.sync) := by
  intro j
  induction j with
  | zero =>
    intro i m S own bs o3 o8 o9 o10 h hs _ _ _
    exact ⟨S, own, bs, o3, o8, o9, o10, forL_nil (ok_nil _ _), h, hs⟩
  | succ j ih =>
    intro i m S own bs o3 o8 o9 o10 h hs w hm hi
    obtain ⟨S1, own1, bs1, q8, q9, q10, e1, h1, s1, w1⟩ := one_turn (n := n) (o3 := some (.int (i : Nat))) (o8 := o8) (o9 := o9) (o10 := o10) (o11 := o11) h hs w (by omega) (by omega) hg hpos hn hp n1 n2 l1 l2
    obtain ⟨S2, own2, bs2, p3, p8, p9, p10, e2, h2, s2⟩ := ih (i + 1) (m + 22) S1 own1 bs1 (some (.int (i : Nat))) q8 q9 q10 h1 s1 w1 (by omega) (by omega)
    refine ⟨S2, own2, bs2, p3, p8, p9, p10, ?_, by rw [show i + (j + 1) = i + 1 + j by omega]; exact h2, s2⟩
    rw [rngN_succ]
    simp only [forL_cons (ok_nil _ _)]
    rw [← e2]
    have st : lpF (GG (n + 7)) Ex (.nm 3) turnB (.int (i : Nat)) [some (.ref k), some (.ref wr), some (.ref sr), o3, some (fr ta tb), some (.ref fb), some (.ref fw), some (.ref fp), o8, o9, o10, o11] S = .nx [some (.ref k), some (.ref wr), some (.ref sr), some (.int (i : Nat)), some (fr ta tb), some (.ref fb), some (.ref fw), some (.ref fp), q8, q9, q10, o11] S1 := by
      rw [lpF_eq, asgT_nm, R.noex_ok, R.then_ok]
      exact e1
    rw [st, O.turn_nx]
/-! all is undone -/
abbrev undoB : Ss := .cons (.asg (.sub (.var 6) (.var 11)) (.mt .pop (.ix (.var 7) (.var 11)) .nil)) (.cons (.ite (.or (.cmp .isnot (.mth 72 0 "undo" (.ix (.var 5) (.var 11)) .nil) (.cst (.bl true))) (.not (.call 63 (.cons (.ix (.var 5) (.var 11)) (.cons (.ix (.var 6) (.var 11)) (.cons (.var 4) .nil)))))) (.cons (.ret (.cst (.bl false))) .nil) .nil) .nil)
theorem one_undo {n j : Nat} {S : Sto} {own : Nat → Nat} {k wr sr fb fw fp : Nat} {ws : List (List Nat)} {sp : List T3} {ta tb : Int} {i : Nat} {bs : List Bw} {b : Bw} {hs' : List (Nat × List Ent)} {y : Nat × List Ent} {o3 o8 o9 o10 : Option D} (h : WI S own k wr sr fb fw fp ws sp (fr ta tb) i bs) (hs : ∀ b ∈ bs, b.sync) (hj : bs[j]? = some b) (hh : b.hs = hs' ++ [y]) (hg : good ta tb) :
    ∃ (S' : Sto), execs (GG (n + 7)) Ex undoB [some (.ref k), some (.ref wr), some (.ref sr), o3, some (fr ta tb), some (.ref fb), some (.ref fw), some (.ref fp), o8, o9, o10, some (.int (j : Nat))] S = .nx [some (.ref k), some (.ref wr), some (.ref sr), o3, some (fr ta tb), some (.ref fb), some (.ref fw), some (.ref fp), o8, o9, o10, some (.int (j : Nat))] S' ∧
      WI S' own k wr sr fb fw fp ws sp (fr ta tb) i (bs.set j { b with r := y.1, rs := y.2, hs := hs', es := y.2, pss := hs'.map Prod.snd }) ∧ (∀ b2 ∈ bs.set j { b with r := y.1, rs := y.2, hs := hs', es := y.2, pss := hs'.map Prod.snd }, b2.sync) := by
  obtain ⟨hjl, hjb⟩ := List.getElem?_eq_some_iff.mp hj
  have sb := hs b (hjb ▸ List.getElem_mem _)
  have bI := h.each j b hj
  have pi := map_ix h.pat hj
  have ps := bI.ps
  rw [hh, List.map_append, List.map_singleton] at ps
  have mp := mt_pop ps
  have ty : mtTy .pop (.ref b.pt) S = true := by simp [mtTy, lstOf, ps]
  have n1 : b.pt ≠ fw := fun z => by have := bI.ot; rw [z, h.or_] at this; omega
  have lw : (bs.map fun b => D.ref b.r).length = bs.length := by simp
  have r2 : (S.set b.pt (.lst (hs'.map fun h => D.ref h.1)))[fw]? = some (.lst (bs.map fun b => .ref b.r)) := by rw [List.getElem?_set_ne n1]; exact h.rat
  have ss := setSub_nat (d := .ref y.1) r2 (by rw [lw]; exact hjl)
  have es : (bs.map fun b => D.ref b.r).set j (.ref y.1) = (bs.set j { b with r := y.1, rs := y.2, hs := hs' }).map fun b => .ref b.r := by rw [List.map_set]
  rw [es] at ss
  have fA : Fr (fun x => x = b.pt ∨ x = fw) S ((S.set b.pt (.lst (hs'.map fun h => D.ref h.1))).set fw (.lst ((bs.set j { b with r := y.1, rs := y.2, hs := hs' }).map fun b => .ref b.r))) := (Fr.set (Or.inl rfl)).tr (Fr.set (Or.inr rfl))
  have own2 : ∀ x, x = b.pt ∨ x = fw → own x = 3 ∨ own x = 7 + 3 * j := fun x hx => by
    rcases hx with e | e
    · exact Or.inr (e ▸ bI.ot)
    · exact Or.inl (e ▸ h.or_)
  have g5 : ((S.set b.pt (.lst (hs'.map fun h => D.ref h.1))).set fw (.lst ((bs.set j { b with r := y.1, rs := y.2, hs := hs' }).map fun b => .ref b.r)))[b.pt]? = some (.lst (hs'.map fun h => D.ref h.1)) := by
    rw [List.getElem?_set_ne (fun z => n1 z.symm), set_get bI.ps]
  have g6 := set_get (o := .lst ((bs.set j { b with r := y.1, rs := y.2, hs := hs' }).map fun b => D.ref b.r)) r2
  have lS : S.length ≤ ((S.set b.pt (.lst (hs'.map fun h => D.ref h.1))).set fw (.lst ((bs.set j { b with r := y.1, rs := y.2, hs := hs' }).map fun b => .ref b.r))).length := by simp
  have asg : ∀ en : En, ev (GG (n + 7)) (.var 6) en (S.set b.pt (.lst (hs'.map fun h => D.ref h.1))) = .ok (.ref fw) (S.set b.pt (.lst (hs'.map fun h => D.ref h.1))) → ev (GG (n + 7)) (.var 11) en (S.set b.pt (.lst (hs'.map fun h => D.ref h.1))) = .ok (.int (j : Nat)) (S.set b.pt (.lst (hs'.map fun h => D.ref h.1))) → asgT (GG (n + 7)) (.sub (.var 6) (.var 11)) (.ref y.1) en (S.set b.pt (.lst (hs'.map fun h => D.ref h.1))) = .ok en ((S.set b.pt (.lst (hs'.map fun h => D.ref h.1))).set fw (.lst ((bs.set j { b with r := y.1, rs := y.2, hs := hs' }).map fun b => .ref b.r))) := fun en a1 a2 => asgT_sub _ _ _ a1 a2 ss
  generalize (S.set b.pt (.lst (hs'.map fun h => D.ref h.1))) = S2 at *
  generalize S2.set fw (.lst ((bs.set j { b with r := y.1, rs := y.2, hs := hs' }).map fun b => .ref b.r)) = S3 at *
  have hbl := h.hl b (hjb ▸ List.getElem_mem _)
  have lh : b.hs.length = hs'.length + 1 := by rw [hh]; simp
  have B3 : BI S3 own (fr ta tb) j { b with r := y.1, rs := y.2, hs := hs' } := by
    refine ⟨bI.bk.fr fA ?_ ?_, g5, ?_, bI.op, bI.oq, bI.ot, ?_⟩
    · intro z
      have := own2 _ z
      have := bI.op
      omega
    · intro z
      have := own2 _ z
      have := bI.oq
      omega
    · intro x hx
      have hx' : x ∈ b.all := by
        show x ∈ b.hs ++ [(b.r, b.rs)]
        rw [hh]
        exact List.mem_append_left _ hx
      obtain ⟨u, v, w, z⟩ := bI.rw_ x hx'
      exact ⟨u.fr fA (fun q => by have := own2 _ q; omega) (fun e he q => by have := own2 _ q; have := z e he; omega), v, w, z⟩
    · have := bI.hd
      show ((hs' ++ [(y.1, y.2)]).map Prod.snd).head? = some []
      unfold Bw.all at this
      rw [hh] at this
      show ((hs' ++ [y]).map Prod.snd).head? = some []
      rw [List.map_append, List.head?_append] at this
      cases hq : ((hs' ++ [y]).map Prod.snd).head? with
      | none => simp at hq
      | some v =>
        rw [hq] at this
        simpa using this
  have h3 := h.upd hj (fA.mono own2) (fun x hx => by omega) lS g6 rfl rfl B3 (Nat.le_refl i) (by show hs'.length ≤ i; omega)
  have hj3 : (bs.set j { b with r := y.1, rs := y.2, hs := hs' })[j]? = some { b with r := y.1, rs := y.2, hs := hs' } := by rw [List.getElem?_set_self hjl]
  -- the book's own undo
  have bk3 := B3.bk
  have pe : b.pss = hs'.map Prod.snd ++ [y.2] := by rw [sb.2, hh]; simp
  have bk3' : Bk S3 b.p b.q (fr ta tb) b.es (hs'.map Prod.snd ++ [y.2]) := pe ▸ bk3
  obtain ⟨S4, u4, k4, f4, l4⟩ := undo_1 (n := n + 6) bk3' (by
    intro es hes e he
    rw [← pe, sb.2] at hes
    obtain ⟨z, hz, rfl⟩ := List.mem_map.mp hes
    exact ((bI.rw_ z (List.mem_append_left _ hz)).2.1.each e he).nm)
  have U4 : fnN Tx.F Ex Tx.cs (n + 7) 72 [.ref b.p] S3 = _ := u4
  have own3 : ∀ x, x = b.p ∨ x = b.q → own x = 5 + 3 * j ∨ own x = 6 + 3 * j := fun x hx => by
    rcases hx with e | e
    · exact Or.inl (e ▸ bI.op)
    · exact Or.inr (e ▸ bI.oq)
  have h4 := h3.upd (b' := { b with r := y.1, rs := y.2, hs := hs', es := y.2, pss := hs'.map Prod.snd }) hj3 f4 (fun x hx => by have := own3 x hx; omega) l4 (by
    rw [map_set_same (b' := { b with r := y.1, rs := y.2, hs := hs', es := y.2, pss := hs'.map Prod.snd }) hj3 rfl]
    exact f4 _ _ (fun z => by have := own3 _ z; have := h.or_; omega) h3.rat) rfl rfl ⟨k4, f4 b.pt _ (fun z => by have := own3 _ z; have := bI.ot; omega) g5, by
      intro x hx
      obtain ⟨u, v, w, z⟩ := B3.rw_ x hx
      exact ⟨u.fr f4 (fun q => by have := own3 _ q; omega) (fun e he q => by have := own3 _ q; have := z e he; omega), v, w, z⟩, bI.op, bI.oq, bI.ot, B3.hd⟩ (Nat.le_refl i) (by show hs'.length ≤ i; omega)
  rw [List.set_set] at h4
  have hj4 : (bs.set j { b with r := y.1, rs := y.2, hs := hs', es := y.2, pss := hs'.map Prod.snd })[j]? = some { b with r := y.1, rs := y.2, hs := hs', es := y.2, pss := hs'.map Prod.snd } := by rw [List.getElem?_set_self hjl]
  have s4 : ∀ b2 ∈ bs.set j { b with r := y.1, rs := y.2, hs := hs', es := y.2, pss := hs'.map Prod.snd }, b2.sync := by
    intro b2 hb
    rcases List.mem_or_eq_of_mem_set hb with q | q
    · exact hs b2 q
    · rw [q]; exact ⟨rfl, rfl⟩
  obtain ⟨S5, e5, p5⟩ := shows_at (S' := S) (n := n + 2) h4 hj4 ⟨rfl, rfl⟩ hg
  have E5 : fnN Tx.F Ex Tx.cs (n + 7) 63 [.ref b.p, .ref y.1, fr ta tb] S4 = _ := e5
  have bx3 := map_ix h3.bat hj3
  have bx4 := map_ix h4.bat hj4
  have rx4 := map_ix h4.rat hj4
  have i3 : isIns 0 "undo" (.ref b.p) S3 = true := i_of bk3.at_ rfl
  have isb : isD (.bl true) (.bl true) = some true := rfl
  refine ⟨S5, ?_, h4.pre p5, s4⟩
  simp [pi, ty, mp, asg, bx3, i3, U4, isb, bx4, rx4, E5]
end Pl
end
section
set_option Elab.async false
set_option linter.all false
set_option maxRecDepth 100000
set_option maxHeartbeats 4000000
set_option autoImplicit false
set_option exponentiation.threshold 10000
/-! X14: k84: all undone. -/
namespace Pl
open Ev Gr PySem
theorem undo_loop {n j : Nat} {own : Nat → Nat} {k wr sr fb fw fp : Nat} {ws : List (List Nat)} {sp : List T3} {ta tb : Int} {i : Nat} {o8 o9 o10 : Option D} {L : List D} (hg : good ta tb) :
    ∀ (c i0 : Nat) (S : Sto) (bs : List Bw) (b : Bw) (o3 : Option D), WI S own k wr sr fb fw fp ws sp (fr ta tb) i bs → (∀ b ∈ bs, b.sync) → bs[j]? = some b → b.hs.length = c →
      ∃ (S' : Sto) (bs' : List Bw) (b' : Bw) (p3 : Option D), forL ⟨L, []⟩ (lpF (GG (n + 7)) Ex (.nm 3) undoB) (rngN i0 c) [some (.ref k), some (.ref wr), some (.ref sr), o3, some (fr ta tb), some (.ref fb), some (.ref fw), some (.ref fp), o8, o9, o10, some (.int (j : Nat))] S = .nx [some (.ref k), some (.ref wr), some (.ref sr), p3, some (fr ta tb), some (.ref fb), some (.ref fw), some (.ref fp), o8, o9, o10, some (.int (j : Nat))] S' ∧
        WI S' own k wr sr fb fw fp ws sp (fr ta tb) i bs' ∧ (∀ b ∈ bs', b.sync) ∧ bs'[j]? = some b' ∧ b'.hs = [] ∧ bs'.length = bs.length := by
  intro c
  induction c with
  | zero =>
    intro i0 S bs b o3 h hs hj hc
    exact ⟨S, bs, b, o3, forL_nil (ok_nil _ _), h, hs, hj, List.length_eq_zero_iff.mp hc, rfl⟩
  | succ c ih =>
    intro i0 S bs b o3 h hs hj hc
    obtain ⟨hs', y, hh⟩ : ∃ hs' y, b.hs = hs' ++ [y] := by
      cases q : b.hs.reverse with
      | nil =>
        have : b.hs = [] := by simpa using q
        rw [this] at hc
        simp at hc
      | cons y ys =>
        refine ⟨ys.reverse, y, ?_⟩
        have := congrArg List.reverse q
        simpa using this
    obtain ⟨S1, e1, h1, s1⟩ := one_undo (n := n) (o3 := some (.int (i0 : Nat))) (o8 := o8) (o9 := o9) (o10 := o10) h hs hj hh hg
    have hjl := (List.getElem?_eq_some_iff.mp hj).1
    obtain ⟨S2, bs2, b2, p3, e2, h2, s2, j2, z2, l2⟩ := ih (i0 + 1) S1 _ { b with r := y.1, rs := y.2, hs := hs', es := y.2, pss := hs'.map Prod.snd } (some (.int (i0 : Nat))) h1 s1 (by rw [List.getElem?_set_self hjl]) (by
      show hs'.length = c
      rw [hh] at hc
      simpa using hc)
    refine ⟨S2, bs2, b2, p3, ?_, h2, s2, j2, z2, by rw [l2]; simp⟩
    rw [rngN_succ]
    simp only [forL_cons (ok_nil _ _)]
    rw [← e2]
    have st : lpF (GG (n + 7)) Ex (.nm 3) undoB (.int (i0 : Nat)) [some (.ref k), some (.ref wr), some (.ref sr), o3, some (fr ta tb), some (.ref fb), some (.ref fw), some (.ref fp), o8, o9, o10, some (.int (j : Nat))] S = .nx [some (.ref k), some (.ref wr), some (.ref sr), some (.int (i0 : Nat)), some (fr ta tb), some (.ref fb), some (.ref fw), some (.ref fp), o8, o9, o10, some (.int (j : Nat))] S1 := by
      rw [lpF_eq, asgT_nm, R.noex_ok, R.then_ok]
      exact e1
    rw [st, O.turn_nx]
abbrev endS : Sm := .ite (.or (.cmp .isnot (.mth 72 0 "undo" (.ix (.var 5) (.var 11)) .nil) (.cst (.bl false))) (.not (.call 63 (.cons (.ix (.var 5) (.var 11)) (.cons (.lst .nil) (.cons (.var 4) .nil)))))) (.cons (.ret (.cst (.bl false))) .nil) .nil
abbrev endB : Ss := .cons (.for (.nm 3) (.rng1 (.bi .len (.cons (.ix (.var 7) (.var 11)) .nil))) undoB) (.cons endS .nil)
theorem one_end {n j : Nat} {S : Sto} {own : Nat → Nat} {k wr sr fb fw fp : Nat} {ws : List (List Nat)} {sp : List T3} {ta tb : Int} {i : Nat} {bs : List Bw} {b : Bw} {o3 o8 o9 o10 : Option D} (h : WI S own k wr sr fb fw fp ws sp (fr ta tb) i bs) (hs : ∀ b ∈ bs, b.sync) (hj : bs[j]? = some b) (hi : i ≤ 1000) (hg : good ta tb) :
    ∃ (S' : Sto) (bs' : List Bw) (p3 : Option D), execs (GG (n + 7)) Ex endB [some (.ref k), some (.ref wr), some (.ref sr), o3, some (fr ta tb), some (.ref fb), some (.ref fw), some (.ref fp), o8, o9, o10, some (.int (j : Nat))] S = .nx [some (.ref k), some (.ref wr), some (.ref sr), p3, some (fr ta tb), some (.ref fb), some (.ref fw), some (.ref fp), o8, o9, o10, some (.int (j : Nat))] S' ∧
      WI S' own k wr sr fb fw fp ws sp (fr ta tb) i bs' ∧ (∀ b ∈ bs', b.sync) ∧ bs'.length = bs.length := by
  have bI := h.each j b hj
  have px := map_ix h.pat hj
  have ln := len_ref bI.ps
  rw [List.length_map] at ln
  have hbl : b.hs.length ≤ i := by
    obtain ⟨a, c⟩ := List.getElem?_eq_some_iff.mp hj
    exact h.hl b (c ▸ List.getElem_mem _)
  obtain ⟨S1, bs1, b1, p3, e1, h1, s1, j1, z1, l1⟩ := undo_loop (n := n) (o8 := o8) (o9 := o9) (o10 := o10) (L := rngD 0 (b.hs.length : Nat)) hg b.hs.length 0 S bs b o3 h hs hj rfl
  have f := exec_for (GG (n + 7)) [some (.ref k), some (.ref wr), some (.ref sr), o3, some (fr ta tb), some (.ref fb), some (.ref fw), some (.ref fp), o8, o9, o10, some (.int (j : Nat))] S Ex (.nm 3) (.rng1 (.bi .len (.cons (.ix (.var 7) (.var 11)) .nil))) undoB
  rw [evi_rng1 (j := (b.hs.length : Nat)) (S1 := S) _ _ _ (by simp [px, ln]) (by unfold small; omega), R.then_ok] at f
  have hx : (Src.mk (rngD 0 (b.hs.length : Nat)) []).its = rngN 0 b.hs.length := rngD_N _
  rw [hx, e1] at f
  have sb : b1.sync := by
    obtain ⟨a, c⟩ := List.getElem?_eq_some_iff.mp j1
    exact s1 b1 (c ▸ List.getElem_mem _)
  have b1I := h1.each j b1 j1
  have rs0 : b1.rs = [] := by
    have := b1I.hd
    unfold Bw.all at this
    rw [z1] at this
    simpa using this
  have es0 : b1.es = [] := sb.1.trans rs0
  have ps0 : b1.pss = [] := by rw [sb.2, z1]; rfl
  have bk := b1I.bk
  rw [ps0] at bk
  have u := undo_0 (n := n + 6) bk
  have U : fnN Tx.F Ex Tx.cs (n + 7) 72 [.ref b1.p] S1 = _ := u
  have p2 := pre_snoc S1 (.lst [])
  have bk2 := bk.pre p2
  have bx1 := map_ix h1.bat j1
  have bx2 := map_ix (pre_get p2 h1.bat) j1
  have i1 : isIns 0 "undo" (.ref b1.p) S1 = true := i_of bk.at_ rfl
  generalize hS2 : S1 ++ [Ob.lst []] = S2 at *
  have p3' := pre_snoc S2 (.lst [])
  have bk3 := bk2.pre p3'
  rw [es0] at bk3
  obtain ⟨S4, e4, p4⟩ := law_shows (n := n + 2) (es := []) bk3 ⟨last_get S2 (.lst []), by simp⟩ OkEs.nil hg
  have E4 : fnN Tx.F Ex Tx.cs (n + 7) 63 [.ref b1.p, .ref S2.length, fr ta tb] (S2 ++ [.lst []]) = _ := e4
  have isb : isD (.bl false) (.bl false) = some true := rfl
  refine ⟨S4, bs1, p3, ?_, h1.pre (p2.trans (p3'.trans p4)), s1, l1⟩
  rw [Ev.execs_cons, f, O.seq_nx]
  simp [bx1, i1, U, isb, bx2, E4]
theorem end_loop {n : Nat} {own : Nat → Nat} {k wr sr fb fw fp : Nat} {ws : List (List Nat)} {sp : List T3} {ta tb : Int} {i : Nat} {o8 o9 o10 : Option D} {L : List D} (hg : good ta tb) (hi : i ≤ 1000) :
    ∀ (c j : Nat) (S : Sto) (bs : List Bw) (o3 o11 : Option D), WI S own k wr sr fb fw fp ws sp (fr ta tb) i bs → (∀ b ∈ bs, b.sync) → j + c = bs.length →
      ∃ (S' : Sto) (bs' : List Bw) (p3 p11 : Option D), forL ⟨L, []⟩ (lpF (GG (n + 7)) Ex (.nm 11) endB) (rngN j c) [some (.ref k), some (.ref wr), some (.ref sr), o3, some (fr ta tb), some (.ref fb), some (.ref fw), some (.ref fp), o8, o9, o10, o11] S = .nx [some (.ref k), some (.ref wr), some (.ref sr), p3, some (fr ta tb), some (.ref fb), some (.ref fw), some (.ref fp), o8, o9, o10, p11] S' ∧
        WI S' own k wr sr fb fw fp ws sp (fr ta tb) i bs' := by
  intro c
  induction c with
  | zero =>
    intro j S bs o3 o11 h hs _
    exact ⟨S, bs, o3, o11, forL_nil (ok_nil _ _), h⟩
  | succ c ih =>
    intro j S bs o3 o11 h hs hc
    have hjl : j < bs.length := by omega
    obtain ⟨S1, bs1, q3, e1, h1, s1, l1⟩ := one_end (n := n) (o3 := o3) (o8 := o8) (o9 := o9) (o10 := o10) h hs (List.getElem?_eq_getElem hjl) hi hg
    obtain ⟨S2, bs2, p3, p11, e2, h2⟩ := ih (j + 1) S1 bs1 q3 (some (.int (j : Nat))) h1 s1 (by omega)
    refine ⟨S2, bs2, p3, p11, ?_, h2⟩
    rw [rngN_succ]
    simp only [forL_cons (ok_nil _ _)]
    rw [← e2]
    have st : lpF (GG (n + 7)) Ex (.nm 11) endB (.int (j : Nat)) [some (.ref k), some (.ref wr), some (.ref sr), o3, some (fr ta tb), some (.ref fb), some (.ref fw), some (.ref fp), o8, o9, o10, o11] S = .nx [some (.ref k), some (.ref wr), some (.ref sr), q3, some (fr ta tb), some (.ref fb), some (.ref fw), some (.ref fp), o8, o9, o10, some (.int (j : Nat))] S1 := by
      rw [lpF_eq, asgT_nm, R.noex_ok, R.then_ok]
      exact e1
    rw [st, O.turn_nx]
theorem words_loop {n k wr : Nat} {o2 o4 o5 o6 o7 o8 o9 o10 o11 : Option D} {L : List D} (hk : wr ≠ k) :
    ∀ (j i m : Nat) (ws : List (List Nat)) (o3 : Option D) (S : Sto), WellAt S k m → m + 10 * j < 700000 → S[wr]? = some (.lst (ws.map .str)) → ws.length + j ≤ 20 → (∀ x ∈ ws, nameOk x) →
      ∃ (ws' : List (List Nat)) (p3 : Option D) (S' : Sto), forL ⟨L, []⟩ (lpF (GG (n + 7)) Ex (.nm 3) (.cons (.exp (.mt .append (.var 1) (.cons (.call 57 (.cons (.var 0) (.cons (.var 1) .nil))) .nil))) .nil)) (rngN i j) [some (.ref k), some (.ref wr), o2, o3, o4, o5, o6, o7, o8, o9, o10, o11] S = .nx [some (.ref k), some (.ref wr), o2, p3, o4, o5, o6, o7, o8, o9, o10, o11] S' ∧
        S'[wr]? = some (.lst (ws'.map .str)) ∧ ws'.length = ws.length + j ∧ (∀ x ∈ ws', nameOk x) ∧ WellAt S' k (m + 10 * j) ∧ Fr (fun x => x = k ∨ x = wr) S S' ∧ S.length ≤ S'.length := by
  intro j
  induction j with
  | zero =>
    intro i m ws o3 S w _ h _ hw
    exact ⟨ws, o3, S, forL_nil (ok_nil _ _), h, rfl, hw, w, Fr.rfl', Nat.le_refl _⟩
  | succ j ih =>
    intro i m ws o3 S w hm h hl hw
    obtain ⟨x, S1, a1, a2, a3, a4, a5⟩ := law_name (n := n + 4) w (by omega) h hk hw (by omega)
    have A1 : fnN Tx.F Ex Tx.cs (n + 7) 57 [.ref k, .ref wr] S = _ := a1
    have h1 := a4 _ _ hk h
    have ap := mt_append h1 (by simp; omega) (.str x)
    have ty := ty_append h
    have h2 : (S1.set wr (.lst (ws.map D.str ++ [.str x])))[wr]? = some (.lst ((ws ++ [x]).map .str)) := by rw [set_get h1]; simp
    have w2 : WellAt (S1.set wr (.lst (ws.map D.str ++ [.str x]))) k (m + 10) := a3.fr (Fr.set (P := (· = wr)) rfl) (fun e => hk e.symm)
    obtain ⟨ws', p3, S', b1, b2, b3, b4, b5, b6, b7⟩ := ih (i + 1) (m + 10) (ws ++ [x]) (some (.int (i : Nat))) _ w2 (by omega) h2 (by simp; omega) (fun w hw' => by
      rcases List.mem_append.mp hw' with q | q
      · exact hw w q
      · rw [List.mem_singleton.mp q]; exact a2)
    refine ⟨ws', p3, S', ?_, b2, by rw [b3]; simp; omega, b4, b5.mono (by omega), ((a4.mono (Q := fun x => x = k ∨ x = wr) (fun _ h => Or.inl h)).tr (Fr.set (P := fun x => x = k ∨ x = wr) (Or.inr rfl))).tr b6, by simp at b7; omega⟩
    rw [rngN_succ]
    simp only [forL_cons (ok_nil _ _)]
    rw [← b1]
    simp [A1, ap, ty]
end Pl
end
section
set_option Elab.async false
set_option linter.all false
set_option maxRecDepth 100000
set_option maxHeartbeats 4000000
set_option autoImplicit false
set_option exponentiation.threshold 10000
/-! X15: k84: one well. -/
namespace Pl
open Ev Gr PySem
abbrev wordsB : Ss := .cons (.exp (.mt .append (.var 1) (.cons (.call 57 (.cons (.var 0) (.cons (.var 1) .nil))) .nil))) .nil
abbrev parS : Sm := .par [1, 2] (.cons (.lst .nil) (.cons (.call 56 (.cons (.var 0) (.cons (.cst (.int 6)) .nil))) .nil))
abbrev tS : Sm := .asg (.nm 4) (.call 52 (.cons (.bin .add (.cst (.int 1)) (.call 48 (.cons (.var 0) (.cons (.cst (.int 9)) .nil)))) (.cons (.bin .add (.cst (.int 1)) (.call 48 (.cons (.var 0) (.cons (.cst (.int 9)) .nil)))) .nil)))
abbrev mkS : Sm := .asg (.tup [.nm 5, .nm 6, .nm 7]) (.tup (.cons (.lst (.cons (.mk 0 66 (.cons (.var 4) .nil)) .nil)) (.cons (.lst (.cons (.lst .nil) .nil)) (.cons (.lst (.cons (.lst .nil) .nil)) .nil))))
theorem body_right : Tx.b64 = .cons parS (.cons (.for (.nm 3) (.rng1 (.cst (.int 6))) wordsB) (.cons tS (.cons mkS (.cons (.for (.nm 3) (.rng1 (.bin .add (.cst (.int 12)) (.call 48 (.cons (.var 0) (.cons (.cst (.int 4)) .nil))))) turnB) (.cons (.for (.nm 11) (.rng1 (.bi .len (.cons (.var 5) .nil))) endB) (.cons (.ret (.cst (.bl true))) .nil)))))) := rfl
theorem law_right {n k : Nat} {S : Sto} (w : WellAt S k 0) (hT : S[0]? = some (.tbl lamQ)) : ∃ S', fn (n + 8) 64 [.ref k] S = .ok (.bl true) S' ∧ S'[0]? = some (.tbl lamQ) := by
  rw [fn_s (fd := Tx.t64.fd) rfl]
  have k0 : 0 ≠ k := by
    rintro rfl
    obtain ⟨a, b, c, e, _⟩ := w
    rw [hT] at e
    cases e
  have kS := w.lt
  -- the lots
  obtain ⟨sr, sp, S1, e1, g1, spl, oksp, w1, f1, nsr, l1⟩ := law_spots (n := n + 3) (w.pre (pre_snoc S (.lst []))) (by omega)
  have E1 : fnN Tx.F Ex Tx.cs (n + 7) 56 [.ref k, .int 6] (S ++ [.lst []]) = _ := e1
  have kw : S.length ≠ k := by omega
  have s1 : exec (GG (n + 7)) Ex parS [some (.ref k), none, none, none, none, none, none, none, none, none, none, none] S = .nx [some (.ref k), some (.ref S.length), some (.ref sr), none, none, none, none, none, none, none, none, none] S1 := by
    simp [E1, parSet]
  have gw1 := f1 _ _ kw (last_get S (.lst []))
  have nsr' : S.length + 1 ≤ sr := by simpa using nsr
  have T1 := f1 _ _ k0 (pre_get (pre_snoc S (.lst [])) hT)
  obtain ⟨ws, p3, S2, e2, g2, wsl, okws, w2, f2, l2⟩ := words_loop (n := n) (o2 := some (.ref sr)) (o4 := none) (o5 := none) (o6 := none) (o7 := none) (o8 := none) (o9 := none) (o10 := none) (o11 := none) (L := rngD 0 (6 : Nat)) kw 6 0 _ [] none S1 w1 (by omega) gw1 (by decide) (by simp)
  have s2 := exec_for (GG (n + 7)) [some (.ref k), some (.ref S.length), some (.ref sr), none, none, none, none, none, none, none, none, none] S1 Ex (.nm 3) (.rng1 (.cst (.int 6))) wordsB
  rw [evi_rng1 (j := 6) (S1 := S1) _ _ _ (by simp) (by decide), R.then_ok] at s2
  have hx : (Src.mk (rngD 0 6) []).its = rngN 0 6 := rngD_N 6
  have hy : rngD 0 ((6 : Nat) : Int) = rngD 0 6 := rfl
  rw [hy] at e2
  rw [hx, e2] at s2
  have ksr : sr ≠ k := by omega
  have g1' := f2 _ _ (show ¬ (sr = k ∨ sr = S.length) by omega) g1
  have T2 := f2 _ _ (show ¬ (0 = k ∨ 0 = S.length) by omega) T1
  -- the bound
  obtain ⟨d1, S3, e3, a3, w3, f3, l3⟩ := drawn (n := n + 6) (many := 9) w2 (by omega) (by decide) (by decide)
  obtain ⟨d2, S4, e4, a4, w4, f4, l4⟩ := drawn (n := n + 6) (many := 9) w3 (by omega) (by decide) (by decide)
  have E3 : fnN Tx.F Ex Tx.cs (n + 7) 48 [.ref k, .int 9] S2 = _ := e3
  have E4 : fnN Tx.F Ex Tx.cs (n + 7) 48 [.ref k, .int 9] S3 = _ := e4
  have e5 := part (n := n + 5) (p := 1 + (d1 : Int)) (q := 1 + d2) (S := S4) (by omega) (Nat.lt_of_le_of_lt (show 1 + d2 ≤ 10 by omega) (by decide))
  have hg : good ((1 + (d1 : Int)) / (Nat.gcd (1 + (d1 : Int)).natAbs (1 + d2) : Nat)) (((1 + d2 : Nat) : Int) / (Nat.gcd (1 + (d1 : Int)).natAbs (1 + d2) : Nat)) :=
    good_red (a := 1 + (d1 : Int)) (b := 1 + d2) (by omega) (Nat.lt_of_le_of_lt (show (1 + (d1 : Int)).natAbs ≤ 10 by omega) (by decide)) (Nat.lt_of_le_of_lt (show 1 + d2 ≤ 10 by omega) (by decide))
  have hpos : 0 < (1 + (d1 : Int)) / (Nat.gcd (1 + (d1 : Int)).natAbs (1 + d2) : Nat) := by
    have gp : 0 < Nat.gcd (1 + (d1 : Int)).natAbs (1 + d2) := Nat.gcd_pos_of_pos_right _ (by omega)
    have gd : ((Nat.gcd (1 + (d1 : Int)).natAbs (1 + d2) : Nat) : Int) ∣ (1 + (d1 : Int)) := Int.ofNat_dvd_left.mpr (Nat.gcd_dvd_left ..)
    exact Int.ediv_pos_of_pos_of_dvd (by omega) (by omega) gd
  rw [show (((1 + d2 : Nat)) : Int) = 1 + (d2 : Int) by omega] at e5 hg
  generalize (1 + (d1 : Int)) / (Nat.gcd (1 + (d1 : Int)).natAbs (1 + d2) : Nat) = ta at *
  generalize (1 + (d2 : Int)) / (Nat.gcd (1 + (d1 : Int)).natAbs (1 + d2) : Nat) = tb at *
  have E5 : fnN Tx.F Ex Tx.cs (n + 7) 52 [.int (1 + (d1 : Int)), .int (1 + (d2 : Int))] S4 = .ok (fr ta tb) S4 := e5
  have s3 : exec (GG (n + 7)) Ex tS [some (.ref k), some (.ref S.length), some (.ref sr), p3, none, none, none, none, none, none, none, none] S2 = .nx [some (.ref k), some (.ref S.length), some (.ref sr), p3, some (fr ta tb), none, none, none, none, none, none, none] S4 := by
    simp [E3, E4, E5]
  have f34 : Fr (· = k) S2 S4 := f3.tr f4
  have g24 := f34 _ _ kw g2
  have g14 := f34 _ _ ksr g1'
  have T4 := f34 _ _ k0 T2
  -- the book
  have p0 : (S4 ++ [Ob.ins 0 []])[S4.length]? = some (.ins 0 []) := last_get ..
  obtain ⟨S5, e6, k6, f6, l6⟩ := init (n := n + 2) hg.1 hpos p0
  have E6 : fnN Tx.F Ex Tx.cs (n + 7) 66 [.ref S4.length, fr ta tb] (S4 ++ [.ins 0 []]) = _ := e6
  have f6' : Fr Nope S4 S5 := fun i o _ hi => f6 i o (fun e => by have := get_lt hi; omega) (pre_get (pre_snoc ..) hi)
  have p6 := f6'.pre
  have q6 : (S4 ++ [Ob.ins 0 []]).length = S4.length + 1 := by simp
  rw [q6] at k6 l6
  have p7 : S5 <+: S5 ++ [Ob.lst [.ref S4.length], .lst [], .lst [.ref (S4.length + 3)], .lst [], .lst [.ref (S4.length + 5)]] := ⟨_, rfl⟩
  have s4 : exec (GG (n + 7)) Ex mkS [some (.ref k), some (.ref S.length), some (.ref sr), p3, some (fr ta tb), none, none, none, none, none, none, none] S4 = .nx [some (.ref k), some (.ref S.length), some (.ref sr), p3, some (fr ta tb), some (.ref (S4.length + 2)), some (.ref (S4.length + 4)), some (.ref (S4.length + 6)), none, none, none, none] (S5 ++ [Ob.lst [.ref S4.length], .lst [], .lst [.ref (S4.length + 3)], .lst [], .lst [.ref (S4.length + 5)]]) := by
    simp [E6, l6, Nat.add_assoc]
  have G0 : (S5 ++ [Ob.lst [.ref S4.length], .lst [], .lst [.ref (S4.length + 3)], .lst [], .lst [.ref (S4.length + 5)]])[S4.length + 2]? = some (.lst [.ref S4.length]) := by
    rw [List.getElem?_append_right (by omega), show S4.length + 2 - S5.length = 0 by omega]; rfl
  have G1 : (S5 ++ [Ob.lst [.ref S4.length], .lst [], .lst [.ref (S4.length + 3)], .lst [], .lst [.ref (S4.length + 5)]])[S4.length + 3]? = some (.lst []) := by
    rw [List.getElem?_append_right (by omega), show S4.length + 3 - S5.length = 1 by omega]; rfl
  have G2 : (S5 ++ [Ob.lst [.ref S4.length], .lst [], .lst [.ref (S4.length + 3)], .lst [], .lst [.ref (S4.length + 5)]])[S4.length + 4]? = some (.lst [.ref (S4.length + 3)]) := by
    rw [List.getElem?_append_right (by omega), show S4.length + 4 - S5.length = 2 by omega]; rfl
  have G3 : (S5 ++ [Ob.lst [.ref S4.length], .lst [], .lst [.ref (S4.length + 3)], .lst [], .lst [.ref (S4.length + 5)]])[S4.length + 5]? = some (.lst []) := by
    rw [List.getElem?_append_right (by omega), show S4.length + 5 - S5.length = 3 by omega]; rfl
  have G4 : (S5 ++ [Ob.lst [.ref S4.length], .lst [], .lst [.ref (S4.length + 3)], .lst [], .lst [.ref (S4.length + 5)]])[S4.length + 6]? = some (.lst [.ref (S4.length + 5)]) := by
    rw [List.getElem?_append_right (by omega), show S4.length + 6 - S5.length = 4 by omega]; rfl
  have L7 : (S5 ++ [Ob.lst [.ref S4.length], .lst [], .lst [.ref (S4.length + 3)], .lst [], .lst [.ref (S4.length + 5)]]).length = S4.length + 7 := by simp [l6]
  have k7 := k6.pre p7
  have w7 := (w4.pre p6).pre p7
  have g27 := pre_get p7 (pre_get p6 g24)
  have g17 := pre_get p7 (pre_get p6 g14)
  have T7 := pre_get p7 (pre_get p6 T4)
  have kS4 := w4.lt
  have srS4 := get_lt g14
  have wrS4 := get_lt g24
  generalize (S5 ++ [Ob.lst [.ref S4.length], .lst [], .lst [.ref (S4.length + 3)], .lst [], .lst [.ref (S4.length + 5)]]) = S7 at *
  generalize S4.length = N at *
  have ow : ∃ own : Nat → Nat, own k = 1 ∧ own N = 5 ∧ own (N + 1) = 6 ∧ own (N + 2) = 2 ∧ own (N + 4) = 3 ∧ own (N + 5) = 7 ∧ own (N + 6) = 4 ∧ (∀ x, x ≠ k → x < N → own x = 0) ∧ own (N + 3) = 0 ∧ ∀ x, N + 7 ≤ x → own x = 0 := by
    refine ⟨fun x => if x = k then 1 else if x = N then 5 else if x = N + 1 then 6 else if x = N + 2 then 2 else if x = N + 4 then 3 else if x = N + 5 then 7 else if x = N + 6 then 4 else 0, ?_, ?_, ?_, ?_, ?_, ?_, ?_, ?_, ?_, ?_⟩
    · simp
    · show (if N = k then _ else _) = _
      rw [if_neg (by omega)]; simp
    · show (if N + 1 = k then _ else _) = _
      rw [if_neg (by omega)]; simp
    · show (if N + 2 = k then _ else _) = _
      rw [if_neg (by omega)]; simp
    · show (if N + 4 = k then _ else _) = _
      rw [if_neg (by omega)]; simp
    · show (if N + 5 = k then _ else _) = _
      rw [if_neg (by omega)]; simp
    · show (if N + 6 = k then _ else _) = _
      rw [if_neg (by omega)]; simp
    · intro x h1 h2
      show (if x = k then _ else if x = N then _ else if x = N + 1 then _ else if x = N + 2 then _ else if x = N + 4 then _ else if x = N + 5 then _ else if x = N + 6 then _ else _) = _
      rw [if_neg (by omega), if_neg (by omega), if_neg (by omega), if_neg (by omega), if_neg (by omega), if_neg (by omega), if_neg (by omega)]
    · show (if N + 3 = k then _ else _) = _
      rw [if_neg (by omega)]; simp
    · intro x h1
      show (if x = k then _ else if x = N then _ else if x = N + 1 then _ else if x = N + 2 then _ else if x = N + 4 then _ else if x = N + 5 then _ else if x = N + 6 then _ else _) = _
      rw [if_neg (by omega), if_neg (by omega), if_neg (by omega), if_neg (by omega), if_neg (by omega), if_neg (by omega), if_neg (by omega)]
  obtain ⟨own, o1, o2, o3, o4, o5, o6, o7, o8, o9, o10⟩ := ow
  have W : WI S7 own k S.length sr (N + 2) (N + 4) (N + 6) ws sp (fr ta tb) 0 [⟨N, N + 1, N + 5, N + 3, [], [], [], []⟩] :=
    { tbl := T7
      o0 := o8 0 k0 (by omega)
      ok := o1
      wat := g27
      ow := o8 _ kw (by omega)
      sat := g17
      os := o8 _ ksr (by omega)
      bat := G0
      ob := o4
      rat := G2
      or_ := o5
      pat := G4
      opp := o7
      each := by
        intro j b hb
        cases j with
        | succ j => simp at hb
        | zero =>
          injection hb with hb
          subst hb
          refine ⟨k7, G3, ?_, o2, o3, o6, rfl⟩
          intro x hx
          have : x = (N + 3, []) := by simpa [Bw.all] using hx
          subst this
          exact ⟨⟨G1, by simp⟩, OkEs.nil, o9, by simp⟩
      l1 := by simp
      l4 := by simp
      hl := by
        intro b hb
        rw [List.mem_singleton.mp hb]
        exact Nat.le_refl _
      new := fun x hx => o10 x (by omega) }
  -- the turns
  obtain ⟨d8, S8, e8, a8, w8, f8, l8⟩ := drawn (n := n + 6) (many := 4) w7 (by omega) (by decide) (by decide)
  have E8 : fnN Tx.F Ex Tx.cs (n + 7) 48 [.ref k, .int 4] S7 = _ := e8
  have W8 := W.dr f8 (by omega)
  obtain ⟨S9, own9, bs9, q3, q8, q9, q10, e9, W9, s9⟩ := turns (n := n) (o11 := none) (L := rngD 0 ((12 + d8 : Nat) : Int)) hg hpos okws oksp (by intro z; rw [z] at wsl; simp at wsl) (by intro z; rw [z] at spl; simp at spl) (by rw [wsl]; decide) (by omega) (12 + d8) 0 _ S8 own _ p3 none none none W8 (by
    intro b hb
    rw [List.mem_singleton.mp hb]
    exact ⟨rfl, rfl⟩) w8 (by omega) (by omega)
  have s5 := exec_for (GG (n + 7)) [some (.ref k), some (.ref S.length), some (.ref sr), p3, some (fr ta tb), some (.ref (N + 2)), some (.ref (N + 4)), some (.ref (N + 6)), none, none, none, none] S7 Ex (.nm 3) (.rng1 (.bin .add (.cst (.int 12)) (.call 48 (.cons (.var 0) (.cons (.cst (.int 4)) .nil))))) turnB
  rw [evi_rng1 (j := ((12 + d8 : Nat) : Int)) (S1 := S8) _ _ _ (by simp [E8]) (by unfold small; omega), R.then_ok] at s5
  have hx5 : (Src.mk (rngD 0 ((12 + d8 : Nat) : Int)) []).its = rngN 0 (12 + d8) := rngD_N _
  rw [hx5, e9] at s5
  -- the end
  have ln := len_ref W9.bat
  rw [List.length_map] at ln
  have h94 := W9.l4
  obtain ⟨S10, bs10, r3, r11, e10, W10⟩ := end_loop (n := n) (o8 := q8) (o9 := q9) (o10 := q10) (L := rngD 0 (bs9.length : Nat)) hg (by omega) bs9.length 0 S9 bs9 q3 none W9 s9 (by omega)
  have s6 := exec_for (GG (n + 7)) [some (.ref k), some (.ref S.length), some (.ref sr), q3, some (fr ta tb), some (.ref (N + 2)), some (.ref (N + 4)), some (.ref (N + 6)), q8, q9, q10, none] S9 Ex (.nm 11) (.rng1 (.bi .len (.cons (.var 5) .nil))) endB
  rw [evi_rng1 (j := (bs9.length : Nat)) (S1 := S9) _ _ _ (by simp [ln]) (by unfold small; omega), R.then_ok] at s6
  have hx6 : (Src.mk (rngD 0 (bs9.length : Nat)) []).its = rngN 0 bs9.length := rngD_N _
  rw [hx6, e10] at s6
  refine ⟨S10, ?_, W10.tbl⟩
  have rf : runF (GG (n + 7)) Ex Tx.t64.fd [.ref k] S = (execs (GG (n + 7)) Ex Tx.b64 [some (.ref k), none, none, none, none, none, none, none, none, none, none, none] S).toR := rfl
  rw [rf, body_right, Ev.execs_cons, s1, O.seq_nx, Ev.execs_cons, s2, O.seq_nx, Ev.execs_cons, s3, O.seq_nx, Ev.execs_cons, s4, O.seq_nx, Ev.execs_cons, s5, O.seq_nx, Ev.execs_cons, s6, O.seq_nx]
  simp
end Pl
end
section
set_option Elab.async false
set_option linter.all false
set_option maxRecDepth 100000
set_option maxHeartbeats 4000000
set_option autoImplicit false
set_option exponentiation.threshold 10000
/-! X16: k84: the law. -/
namespace Pl
open Ev Gr
theorem stir_loop {n : Nat} {L : List D} {r : Nat} {o0 o1 o2 : Option D} {all : List D} : ∀ (cs : List Int) (b : Int) (o4 : Option D) (S : Sto), S[r]? = some (.lst all) → 0 ≤ b → b < 2147483629 → ∃ (b' : Int) (p4 : Option D), forL ⟨L, [(r, all)]⟩ (lpF (GG n) Ex (.nm 4) (.cons (.asg (.nm 3) (.bin .mod (.bi .int (.cons (.bin .add (.bin .add (.bin .mul (.var 3) (.cst (.int 69621))) (.bin .mul (.bin .mod (.bi .int (.cons (.var 4) .nil)) (.cst (.int 1000000009))) (.cst (.int 31)))) (.cst (.int 12347))) .nil)) (.cst (.int 2147483629)))) .nil)) (cs.map .int) [o0, o1, o2, some (.int b), o4] S = .nx [o0, o1, o2, some (.int b'), p4] S ∧ 0 ≤ b' ∧ b' < 2147483629 := by
  intro cs
  induction cs with
  | nil => intro b o4 S h h0 h1; exact ⟨b, o4, forL_nil (ok_one h), h0, h1⟩
  | cons c r ih =>
    intro b o4 S h h0 h1
    have m1 : ∀ S, binop .mul (.int b) (.int 69621) S = .ok (.int (b * 69621)) S := fun S => mul_ok (k := 40) (m := 40) (by unfold bt; omega) (by unfold bt; omega) (by decide) (by decide) (by decide)
    have m2 : ∀ S, binop .mod (.int c) (.int 1000000009) S = .ok (.int (c % 1000000009)) S := fun S => by rw [bop_mod S (by decide), Int.fmod_eq_emod_of_nonneg _ (by decide)]
    have m3 : ∀ S, binop .mul (.int (c % 1000000009)) (.int 31) S = .ok (.int (c % 1000000009 * 31)) S := fun S => mul_ok (k := 40) (m := 40) (by unfold bt; omega) (by unfold bt; omega) (by decide) (by decide) (by decide)
    have m4 : ∀ (x : Int) S, binop .mod (.int x) (.int 2147483629) S = .ok (.int (x % 2147483629)) S := fun x S => by rw [bop_mod S (by decide), Int.fmod_eq_emod_of_nonneg _ (by decide)]
    have bi1 : ∀ (x : Int) S, bi .int [.int x] S = .ok (.int x) S := fun _ _ => rfl
    obtain ⟨b', p4, e, h0', h1'⟩ := ih ((b * 69621 + c % 1000000009 * 31 + 12347) % 2147483629) (some (.int c)) S h (Int.emod_nonneg _ (by decide)) (Int.emod_lt_of_pos _ (by decide))
    refine ⟨b', p4, ?_, h0', h1'⟩
    rw [List.map_cons]
    simp only [forL_cons (ok_one h)]
    rw [← e]
    simp [m1, m2, m3, m4, bi1]
theorem law_well {n : Nat} {ns : List Int} {t : Nat} {S : Sto} (hl : ns.length ≤ 63) (ht : t ≤ 10) : ∃ (k : Nat) (S' : Sto), fn (n + 1) 47 [.fl (ns.map .int), .int (t : Nat)] S = .ok (.ref k) S' ∧ WellAt S' k 0 ∧ S <+: S' := by
  rw [fn_s (fd := Tx.t47.fd) rfl]
  obtain ⟨own, ho⟩ : ∃ own : Int, ∀ S o2 o3 o4, ev (GG n) (.ite (.cmp .lt (.var 1) (.bi .len (.cons (.var 0) .nil))) (.bi .int (.cons (.ix (.var 0) (.var 1)) .nil)) (.cst (.int 0))) [some (.fl (ns.map .int)), some (.int (t : Nat)), o2, o3, o4] S = .ok (.int own) S := by
    by_cases h : t < ns.length
    · refine ⟨ns[t], fun S o2 o3 o4 => ?_⟩
      have h' : (t : Int) < (ns.length : Nat) := by omega
      have ix : L2.atI (ns.map D.int) (t : Nat) = some (.int ns[t]) := by rw [atI_nat]; simp [h]
      have bi1 : ∀ (x : Int) S, bi .int [.int x] S = .ok (.int x) S := fun _ _ => rfl
      simp [h, h', ix, bi1]
    · have h' : ¬ (t : Int) < (ns.length : Nat) := by omega
      exact ⟨0, fun S o2 o3 o4 => by simp [h, h']⟩
  have m1 : ∀ S, binop .mul (.int 7211) (.int (t : Nat)) S = .ok (.int (7211 * (t : Int))) S := fun S => mul_ok (k := 40) (m := 40) (by unfold bt; omega) (by unfold bt; omega) (by decide) (by decide) (by decide)
  have sl : slD (.fl (ns.map .int)) none (some 9) S = .ok (.ref S.length) (S ++ [.lst ((ns.take 9).map .int)]) := by
    have : cut (ns.map D.int) none (some 9) = (ns.take 9).map .int := by rw [show (9 : Int) = ((9 : Nat) : Int) from rfl, cut_to, List.map_take]
    rw [← this]
    rfl
  have ad : binop .add (.ref S.length) (.ref (S.length + 1)) (S ++ [.lst ((ns.take 9).map .int), .lst [.int own]]) = .ok (.ref (S.length + 2)) (S ++ [.lst ((ns.take 9).map .int), .lst [.int own], .lst ((ns.take 9 ++ [own]).map .int)]) := by
    have := bop_refs (S := S ++ [.lst ((ns.take 9).map .int), .lst [.int own]]) (m := S.length) (n := S.length + 1) (x := (ns.take 9).map .int) (y := [.int own]) (by simp) (by simp) (by simp; omega)
    rw [this]
    simp
  have g : (S ++ [Ob.lst ((ns.take 9).map D.int), .lst [.int own], .lst ((ns.take 9 ++ [own]).map .int)])[S.length + 2]? = some (.lst ((ns.take 9 ++ [own]).map .int)) := by simp
  obtain ⟨b', p4, e, h0, h1⟩ := stir_loop (n := n) (L := (ns.take 9 ++ [own]).map .int) (r := S.length + 2) (o0 := some (.fl (ns.map .int))) (o1 := some (.int (t : Nat))) (o2 := some (.int own)) (all := (ns.take 9 ++ [own]).map .int) (ns.take 9 ++ [own]) (90001 + 7211 * (t : Int)) none _ g (by omega) (by omega)
  have ff : exec (GG n) Ex (.for (.nm 4) (.seq (.bin .add (.sl (.var 0) .none (.some (.cst (.int 9)))) (.lst (.cons (.var 2) .nil)))) (.cons (.asg (.nm 3) (.bin .mod (.bi .int (.cons (.bin .add (.bin .add (.bin .mul (.var 3) (.cst (.int 69621))) (.bin .mul (.bin .mod (.bi .int (.cons (.var 4) .nil)) (.cst (.int 1000000009))) (.cst (.int 31)))) (.cst (.int 12347))) .nil)) (.cst (.int 2147483629)))) .nil)) [some (.fl (ns.map .int)), some (.int (t : Nat)), some (.int own), some (.int (90001 + 7211 * (t : Int))), none] S = .nx [some (.fl (ns.map .int)), some (.int (t : Nat)), some (.int own), some (.int b'), p4] (S ++ [Ob.lst ((ns.take 9).map D.int), .lst [.int own], .lst ((ns.take 9 ++ [own]).map .int)]) := by
    rw [exec_for]
    have ev0 : evi (GG n) (.seq (.bin .add (.sl (.var 0) .none (.some (.cst (.int 9)))) (.lst (.cons (.var 2) .nil)))) [some (.fl (ns.map .int)), some (.int (t : Nat)), some (.int own), some (.int (90001 + 7211 * (t : Int))), none] S = .ok ⟨(ns.take 9 ++ [own]).map .int, [(S.length + 2, (ns.take 9 ++ [own]).map .int)]⟩ (S ++ [Ob.lst ((ns.take 9).map D.int), .lst [.int own], .lst ((ns.take 9 ++ [own]).map .int)]) := by
      have ss : srcSeq (.ref (S.length + 2)) (S ++ [Ob.lst ((ns.take 9).map D.int), .lst [.int own], .lst ((ns.take 9 ++ [own]).map .int)]) = some ⟨(ns.take 9 ++ [own]).map .int, [(S.length + 2, (ns.take 9 ++ [own]).map .int)]⟩ := by
        show (lstOf _ (.ref (S.length + 2))).map _ = _
        rw [lstOf_ref g]
        rfl
      generalize hS3 : (S ++ [Ob.lst ((ns.take 9).map D.int), .lst [.int own], .lst ((ns.take 9 ++ [own]).map .int)]) = S3 at *
      simp only [evi_seq, ev_bin, ev_sl, ev_var, List.getD_cons_zero, List.getD_cons_succ, R.of_some, R.bind_ok, evo_none, evo_some, ev_cst, intR_int, sl, ev_lst, evs_cons, evs_nil, List.length_cons, List.length_nil, List.length_append, List.append_assoc, List.cons_append, List.nil_append, Nat.zero_add, if_true, Nat.reduceLeDiff, ad, ss, kBin_eq, kAnd_eq, kOr_eq, kIte_eq, kCmp_eq, kCmp2_eq, kTup_eq, kLst_eq, kIx_eq, kIx2_eq, kSl_eq, kSl2_eq, kMt_eq, kCons_eq, kCons2_eq, kSeq_eq, kEnum_eq, kSet_eq, kIf_eq, kExp_eq]
    rw [ev0, R.then_ok]
    exact e
  have ab : ∀ S, bi .abs [.int own] S = .ok (.int (own.natAbs : Nat)) S := fun S => by
    show R.ok (D.int (if own < 0 then -own else own)) S = _
    congr 2
    split <;> omega
  have pw : ∀ S, binop .pow (.int 10) (.int 18) S = .ok (.int (10 ^ 18)) S := fun S => rfl
  have key : ∀ a : Int, 0 ≤ a → (∀ S, ev (GG n) (.ite (.cmp .ge (.bi .abs (.cons (.var 2) .nil)) (.bin .pow (.cst (.int 10)) (.cst (.int 18)))) (.bi .abs (.cons (.var 2) .nil)) (.cst (.int 0))) [some (.fl (ns.map .int)), some (.int (t : Nat)), some (.int own), some (.int b'), p4] S = .ok (.int a) S) → ∃ (k : Nat) (S' : Sto), runF (GG n) Ex Tx.t47.fd [.fl (ns.map .int), .int (t : Nat)] S = .ok (.ref k) S' ∧ WellAt S' k 0 ∧ S <+: S' := by
    intro a ha hx
    refine ⟨_, (S ++ [Ob.lst ((ns.take 9).map D.int), .lst [.int own], .lst ((ns.take 9 ++ [own]).map .int)]) ++ [.lst [.int a, .int b', .int 0]], ?_, ⟨a, b', 0, last_get .., ha, h0, h1, by omega, by omega⟩, by rw [List.append_assoc]; exact ⟨_, rfl⟩⟩
    generalize (S ++ [Ob.lst ((ns.take 9).map D.int), .lst [.int own], .lst ((ns.take 9 ++ [own]).map .int)]) = S3 at *
    simp [runF, Tx.t47, Tx.b47, ho, m1, ff, hx]
  by_cases hb : (10 : Int) ^ 18 ≤ (own.natAbs : Nat)
  · exact key (own.natAbs : Nat) (by omega) (fun S => by simp only [ev_ite, ev_cmp, ev_bi, evs_cons, ev_var, List.getD_cons_zero, List.getD_cons_succ, R.of_some, R.bind_ok, evs_nil, ab, ev_bin, ev_cst, pw, cmp_ge, decide_eq_true hb, Option.map_some, condR_bl, if_true, kBin_eq, kAnd_eq, kOr_eq, kIte_eq, kCmp_eq, kCmp2_eq, kTup_eq, kLst_eq, kIx_eq, kIx2_eq, kSl_eq, kSl2_eq, kMt_eq, kCons_eq, kCons2_eq, kSeq_eq, kEnum_eq, kSet_eq, kIf_eq, kExp_eq])
  · exact key 0 (by omega) (fun S => by simp only [ev_ite, ev_cmp, ev_bi, evs_cons, ev_var, List.getD_cons_zero, List.getD_cons_succ, R.of_some, R.bind_ok, evs_nil, ab, ev_bin, ev_cst, pw, cmp_ge, decide_eq_false hb, Option.map_some, condR_bl, Bool.false_eq_true, if_false, kBin_eq, kAnd_eq, kOr_eq, kIte_eq, kCmp_eq, kCmp2_eq, kTup_eq, kLst_eq, kIx_eq, kIx2_eq, kSl_eq, kSl2_eq, kMt_eq, kCons_eq, kCons2_eq, kSeq_eq, kEnum_eq, kSet_eq, kIf_eq, kExp_eq])
theorem law {n : Nat} {ns : List Int} {S : Sto} (hl : ns.length ≤ 63) (hT : S[0]? = some (.tbl lamQ)) : ∃ S', fn (n + 10) 65 [.fl (ns.map .int)] S = .ok (.bl true) S' := by
  rw [fn_s (fd := Tx.t65.fd) rfl]
  obtain ⟨c, hc, hv⟩ : ∃ c : Nat, c ≤ 6 ∧ ∀ o1 S, ev (GG (n + 9)) (.bi .max (.cons (.cst (.int 2)) (.cons (.bi .min (.cons (.bi .len (.cons (.var 0) .nil)) (.cons (.cst (.int 3)) .nil))) .nil))) [some (.fl (ns.map .int)), o1] S = .ok (.int (c : Nat)) S := by
    have mn : ∀ (i j : Int) S, bi .min [.int i, .int j] S = .ok (.int (if j < i then j else i)) S := fun _ _ _ => rfl
    have mx : ∀ (i j : Int) S, bi .max [.int i, .int j] S = .ok (.int (if j > i then j else i)) S := fun _ _ _ => rfl
    have fin : ∀ c : Nat, (if (if (3 : Int) < (ns.length : Nat) then (3 : Int) else (ns.length : Nat)) > 2 then (if (3 : Int) < (ns.length : Nat) then (3 : Int) else (ns.length : Nat)) else 2) = (c : Int) → ∀ o1 S, ev (GG (n + 9)) (.bi .max (.cons (.cst (.int 2)) (.cons (.bi .min (.cons (.bi .len (.cons (.var 0) .nil)) (.cons (.cst (.int 3)) .nil))) .nil))) [some (.fl (ns.map .int)), o1] S = .ok (.int (c : Nat)) S := fun c h o1 S => by
      simp only [ev_bi, evs_cons, ev_cst, R.bind_ok, ev_var, List.getD_cons_zero, R.of_some, evs_nil, len_fl, List.length_map, mn, mx, h, kBin_eq, kAnd_eq, kOr_eq, kIte_eq, kCmp_eq, kCmp2_eq, kTup_eq, kLst_eq, kIx_eq, kIx2_eq, kSl_eq, kSl2_eq, kMt_eq, kCons_eq, kCons2_eq, kSeq_eq, kEnum_eq, kSet_eq, kIf_eq, kExp_eq]
    by_cases h6 : 3 < ns.length
    · exact ⟨3, by omega, fin 3 (by split <;> split <;> omega)⟩
    · by_cases h3 : 2 < ns.length
      · exact ⟨ns.length, by omega, fin ns.length (by split <;> split <;> omega)⟩
      · exact ⟨2, by omega, fin 2 (by split <;> split <;> omega)⟩
  obtain ⟨S', e, _⟩ := ev_lcm (G := GG (n + 9)) (en := [some (.fl (ns.map .int)), none]) (S := S) (own := [("turn", 1)]) (elt := .call 64 (.cons (.call 47 (.cons (.var 0) (.cons (.var 1) .nil))) .nil)) (p := .nm 1) (it := .rng1 (.bi .max (.cons (.cst (.int 2)) (.cons (.bi .min (.cons (.bi .len (.cons (.var 0) .nil)) (.cons (.cst (.int 3)) .nil))) .nil)))) (s := ⟨rngD 0 (c : Nat), []⟩) (S1 := S) (I := fun S' => S'[0]? = some (.tbl lamQ)) (g := fun _ => .bl true)
    (evi_rng1 _ _ _ (hv _ _) (by unfold small; omega)) hT (fun _ _ => ok_nil _ _) (by rw [rngD_N]; simp [rngN]; omega) (by
      intro d hd S1 hT1
      have hd' : d ∈ rngN 0 c := by rw [← rngD_N]; exact hd
      obtain ⟨t, ht, rfl⟩ := List.mem_map.mp hd'
      have ht' := List.mem_range'.mp ht
      obtain ⟨k, S2, e2, w2, p2⟩ := law_well (n := n + 8) (S := S1) hl (show t ≤ 10 by obtain ⟨i, hi, rfl⟩ := ht'; omega)
      obtain ⟨S3, e3, hT3⟩ := law_right (n := n + 1) w2 (pre_get p2 hT1)
      have E2 : fnN Tx.F Ex Tx.cs (n + 9) 47 [.fl (ns.map .int), .int (t : Nat)] S1 = _ := e2
      have E3 : fnN Tx.F Ex Tx.cs (n + 9) 64 [.ref k] S2 = _ := e3
      exact ⟨[some (.fl (ns.map .int)), some (.int (t : Nat))], S3, rfl, by simp [E2, E3], hT3⟩)
  have al : bi .all [.ref S'.length] (S' ++ [.lst ((rngD 0 (c : Nat)).map fun _ => .bl true)]) = .ok (.bl true) (S' ++ [.lst ((rngD 0 (c : Nat)).map fun _ => .bl true)]) := by
    have := blsOf_true ((rngD 0 (c : Nat)).map fun _ => D.bl true) (fun d hd => by obtain ⟨_, _, rfl⟩ := List.mem_map.mp hd; rfl)
    unfold bi
    simp only [lstOf_ref (last_get ..), Option.bind_some, this]
    simp
  refine ⟨S' ++ [.lst ((rngD 0 (c : Nat)).map fun _ => .bl true)], ?_⟩
  · have e' : ev (GG (n + 9)) _ _ S = R.ok _ (S' ++ [.lst ((rngD 0 (c : Nat)).map fun _ => .bl true)]) := e
    generalize (S' ++ [Ob.lst ((rngD 0 (c : Nat)).map fun _ => D.bl true)]) = S1 at *
    simp [runF, Tx.t65, Tx.b65, e', al]
theorem sto0_tbl : (sto0 Tx.T)[0]? = some (.tbl lamQ) := rfl
theorem plain : ∀ ns : List Int, ns.length ≤ 63 → ∃ S, fnN Tx.F (Tx.T.ecs.map Prod.snd) Tx.cs 41 65 [.fl (ns.map .int)] (sto0 Tx.T) = .ok (.bl true) S := fun ns h => law (n := 31) h sto0_tbl
end Pl
end
section
set_option Elab.async false
set_option linter.all false
set_option maxRecDepth 100000
set_option maxHeartbeats 0
open PySem PySem.W PySem.Calls PyProof.Rows
theorem PySem.Challenge.cw_rimseries_k84_undo_refused_deeds_and_twi_holds : PySem.Challenge.rw_rimseries_k84_undo_refused_deeds_and_twi.Holds := by
  w_on; o_law
  refine HandSHeadRun.head_imp (r := Tx.R) (q := view Tx.R.prog [0, 94]) (H := Tx.hk) (ob := Tx.ob) (M := 20000) (loose := Tx.loose) (d := HandSHeadRun.topDef Tx.R.prog 94) (kwd := []) Tx.ob_eq
    Tx.run (by kernel_rfl) (by kernel_rfl) (by kernel_rfl) (by rfl) (by first | assumption | decide +kernel) (by decide +kernel) ⟨rfl, rfl, rfl, rfl, rfl, by decide +kernel⟩ ?hw ?hc
  case hw => w_witness2
  case hc =>
    exact Ev.law_end (l := PySem.Challenge.rw_rimseries_k84_undo_refused_deeds_and_twi) (lv := 40) (i := 65) (p := (Tx.t65, Tx.d65)) rfl (by decide) (by kernel_rfl) (by kernel_rfl) ⟨rfl, by decide, by decide⟩ rfl rfl (by kernel_rfl) (by kernel_rfl)
      (fun kin G c => Ev.told_of kin G c rfl Tx.ok Tx.hat Tx.hkw Tx.hini rfl Tx.mok Tx.lmd) Pl.plain
end
