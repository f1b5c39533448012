import PyProof.Rows.All
import Wide.All
import OpenK.AllK
import Wide.FinOn
import KE.KStateDown
import HandS.ForMost
import HandS.ForExc
import HandS.Wide
import HandS.TupAny
import HandS.Deep
import HandS.Style
import HandS.Codes
import HandS.IsInst
import HandS.Gcd
import HandS.StrMore
import PyProof.MaxThree
import PyProof.ReprRoads
import HandS.Star
import HandS.CallSlots
import HandS.Defaults
import HandS.ExcInit
import HandS.ExcIs
import HandS.ExcField
import HandS.Zip
import KE.GoesEnum
import HandS.Ends
import HandS.HeadEnd
import HandS.Head0
import HandS.Head1
import HandS.Head2
import HandS.HeadHook1
import HandS.HeadHook2
import HandS.HeadHook3
import PySem.Challenge.RW_rimseries_k80_texts_there_and_back
import HandS.Head3
section
set_option Elab.async false
set_option linter.all false
set_option maxRecDepth 100000
set_option maxHeartbeats 4000000
/-! Ev1: a small evaluator over plain data: values D, a store of lists and instances, own syntax, own big-step meaning. -/
namespace Ev
open PySem

/-- plain data: a tuple is a value (so is a list that nobody can write: fl), a list or an instance is a place of the store -/
inductive D where
  | non | bl (b : Bool) | int (i : Int) | str (l : List Nat) | tup (xs : List D) | ref (n : Nat) | fl (xs : List D)

inductive Ob where
  | lst (xs : List D)
  | ins (c : Nat) (fs : List (Str × D))

abbrev Sto := List Ob
abbrev En := List (Option D)

/-- an exception: its class's index, its fields -/
structure Xc where
  c : Nat
  fs : List (Str × D)

inductive R (α : Type) where
  | stuck
  | ok (a : α) (S : Sto)
  | ex (x : Xc) (S : Sto)

def R.bind {α β : Type} : R α → (α → Sto → R β) → R β
  | .stuck, _ => .stuck
  | .ok a S, k => k a S
  | .ex x S, _ => .ex x S

@[simp] theorem R.bind_ok {α β : Type} (a : α) (S : Sto) (k : α → Sto → R β) : (R.ok a S).bind k = k a S := rfl
@[simp] theorem R.bind_ex {α β : Type} (x : Xc) (S : Sto) (k : α → Sto → R β) : (R.ex x S : R α).bind k = .ex x S := rfl
@[simp] theorem R.bind_stuck {α β : Type} (k : α → Sto → R β) : (R.stuck : R α).bind k = .stuck := rfl

/-- within a comprehension's block nothing may be raised -/
def R.noex {α : Type} : R α → R α
  | .ex _ _ => .stuck
  | r => r
@[simp] theorem R.noex_ok {α : Type} (a : α) (S : Sto) : (R.ok a S).noex = .ok a S := rfl
@[simp] theorem R.noex_stuck {α : Type} : (R.stuck : R α).noex = .stuck := rfl
@[simp] theorem R.noex_ex {α : Type} (x : Xc) (S : Sto) : (R.ex x S : R α).noex = .stuck := rfl

/-- an answer or nothing -/
def R.of {α : Type} (o : Option α) (S : Sto) : R α := match o with
  | some a => .ok a S
  | none => .stuck
@[simp] theorem R.of_some {α : Type} (a : α) (S : Sto) : R.of (some a) S = .ok a S := rfl
@[simp] theorem R.of_none {α : Type} (S : Sto) : (R.of none S : R α) = .stuck := rfl

def mapO {α β : Type} (f : α → Option β) : List α → Option (List β)
  | [] => some []
  | a :: r => (f a).bind fun b => (mapO f r).bind fun bs => some (b :: bs)

/-- data as the library's data, at most n deep -/
def toP (S : Sto) : Nat → D → Option PyData
  | 0, _ => none
  | _ + 1, .non => some .none
  | _ + 1, .bl b => some (.bool b)
  | _ + 1, .int i => some (.int i)
  | _ + 1, .str l => some (.str ⟨l.toArray⟩)
  | n + 1, .tup xs => (mapO (toP S n) xs).map .tuple
  | n + 1, .ref r => match S[r]? with
    | some (.lst xs) => (mapO (toP S n) xs).map .list
    | _ => none
  | n + 1, .fl xs => (mapO (toP S n) xs).map .list

/-- == of data; two texts alone want nothing of their signs -/
def eqD (S : Sto) (a b : D) : Option Bool := match a, b with
  | .str x, .str y => some (decide (x = y))
  | a, b => (toP S 20 a).bind fun p => (toP S 20 b).bind fun q => if p.canLay0 = true ∧ q.canLay0 = true then some (PyData.eqv p q) else none
def inD (S : Sto) (a : D) (bs : List D) : Option Bool := (toP S 20 a).bind fun p => (mapO (toP S 19) bs).bind fun qs => if p.canLay0 = true ∧ PyData.canLayAll0 qs = true then some (qs.any fun z => PyData.eqv z p) else none
def reprD (S : Sto) (a : D) : Option (List Nat) := (toP S 20 a).bind fun p => if p.showable = true ∧ p.shown.length ≤ 16777216 then some p.shown.cps.toList else none

inductive Op2 where
  | add | sub | mul | fdiv | mod | pow
  deriving DecidableEq
inductive Cm where
  | eq | ne | lt | le | gt | ge | isin | notin | is | isnot
  deriving DecidableEq
inductive Ty where
  | int | bool | str | tuple | list
  deriving DecidableEq
/-- built-ins by name -/
inductive Bi where
  | len | abs | int | str | isin (t : Ty) | tuple | list | max | min | divmod | gcd | sum | all | any | repr
  deriving DecidableEq
/-- methods of built-in types -/
inductive Mt where
  | append | pop | join | split | rfind | find
  deriving DecidableEq

def sz : Nat := 16777216

def binop (o : Op2) (a b : D) (S : Sto) : R D := match o, a, b with
  | .add, .int i, .int j => .ok (.int (i + j)) S
  | .add, .str x, .str y => if x.length + y.length ≤ 16777216 then .ok (.str (x ++ y)) S else .stuck
  | .add, .tup x, .tup y => if x.length + y.length ≤ 16777216 then .ok (.tup (x ++ y)) S else .stuck
  | .add, .ref m, .ref n => match S[m]?, S[n]? with
    | some (.lst x), some (.lst y) => if x.length + y.length ≤ 16777216 then .ok (.ref S.length) (S ++ [.lst (x ++ y)]) else .stuck
    | _, _ => .stuck
  | .sub, .int i, .int j => .ok (.int (i - j)) S
  | .mul, .int i, .int j => if i.natAbs.log2 + j.natAbs.log2 < 100000000 then .ok (.int (i * j)) S else .stuck
  | .mul, .ref m, .int k => match S[m]? with
    | some (.lst x) => if -(2 ^ 63) ≤ k ∧ k < 2 ^ 63 ∧ x.length * k.toNat ≤ 16777216 then .ok (.ref S.length) (S ++ [.lst (List.replicate k.toNat x).flatten]) else .stuck
    | _ => .stuck
  | .fdiv, .int i, .int j => if j ≠ 0 then .ok (.int (i.fdiv j)) S else .stuck
  | .mod, .int i, .int j => if j ≠ 0 then .ok (.int (i.fmod j)) S else .stuck
  | .pow, .int i, .int j => if 0 ≤ j ∧ j ≤ 1000000 ∧ i.natAbs < 2 ^ 64 then .ok (.int (i ^ j.toNat)) S else .stuck
  | _, _, _ => .stuck

/-- the items of a list place -/
def lstOf (S : Sto) : D → Option (List D)
  | .fl xs => some xs
  | .ref n => match S[n]? with
    | some (.lst xs) => some xs
    | _ => none
  | _ => none

/-- the items of a list or a tuple -/
def seqOf (S : Sto) : D → Option (List D)
  | .tup xs => some xs
  | .fl xs => some xs
  | .ref n => match S[n]? with
    | some (.lst xs) => some xs
    | _ => none
  | _ => none

def cmpI (o : Cm) (i j : Int) : Option Bool := match o with
  | .lt => some (decide (i < j))
  | .le => some (decide (i ≤ j))
  | .gt => some (decide (j < i))
  | .ge => some (decide (j ≤ i))
  | _ => none

def memS (S : Sto) (a b : D) : Option Bool := match b with
  | .str l => (match a with
    | .str [c] => some (decide (c ∈ l))
    | _ => none)
  | b => (seqOf S b).bind fun xs => inD S a xs
def isD (a b : D) : Option Bool := match b with
  | .non => (match a with
    | .non => some true
    | _ => some false)
  | .bl k => (match a with
    | .bl j => some (decide (j = k))
    | _ => none)
  | _ => none

def cmpop (o : Cm) (a b : D) (S : Sto) : Option Bool := match o with
  | .eq => eqD S a b
  | .ne => (eqD S a b).map (!·)
  | .isin => memS S a b
  | .notin => (memS S a b).map (!·)
  | .is => isD a b
  | .isnot => (isD a b).map (!·)
  | o => match a, b with
    | .int i, .int j => cmpI o i j
    | _, _ => none

def ixN (n : Nat) (i : Int) : Option Nat := if 0 ≤ i then (if i < n then some i.toNat else none) else if -(n : Int) ≤ i then some (i + n).toNat else none
def ixD (S : Sto) (a b : D) : Option D := match b with
  | .int i => (match a with
    | .str l => if l.length ≤ 16777216 then (L2.atI l i).map fun c => .str [c] else none
    | a => (seqOf S a).bind fun xs => L2.atI xs i)
  | _ => none
def cut {α : Type} (xs : List α) (lo hi : Option Int) : List α := (xs.drop (HT.sIx xs.length 0 lo)).take (HT.sIx xs.length xs.length hi - HT.sIx xs.length 0 lo)
def slD (a : D) (lo hi : Option Int) (S : Sto) : R D := match a with
  | .str l => if l.length ≤ 16777216 then .ok (.str (cut l lo hi)) S else .stuck
  | .tup xs => .ok (.tup (cut xs lo hi)) S
  | a => (match lstOf S a with
    | some xs => .ok (.ref S.length) (S ++ [.lst (cut xs lo hi)])
    | none => .stuck)

def isTy : Ty → D → Sto → Option Bool
  | t, .non, _ => some false
  | t, .bl _, _ => some (decide (t = .bool ∨ t = .int))
  | t, .int _, _ => some (decide (t = .int))
  | t, .str _, _ => some (decide (t = .str))
  | t, .tup _, _ => some (decide (t = .tuple))
  | t, .fl _, _ => some (decide (t = .list))
  | t, .ref n, S => match S[n]? with
    | some (.lst _) => some (decide (t = .list))
    | _ => none

def intsOf : List D → Option (List Int)
  | [] => some []
  | .int i :: r => (intsOf r).map (i :: ·)
  | _ => none
def blsOf : List D → Option (List Bool)
  | [] => some []
  | .bl i :: r => (blsOf r).map (i :: ·)
  | _ => none
def strsOf : List D → Option (List (List Nat))
  | [] => some []
  | .str i :: r => (strsOf r).map (i :: ·)
  | _ => none

def maxI : Int → List Int → Int
  | m, [] => m
  | m, i :: r => maxI (if i > m then i else m) r

def bi (b : Bi) (as : List D) (S : Sto) : R D := match b, as with
  | .len, [.str l] => if l.length ≤ 16777216 then .ok (.int l.length) S else .stuck
  | .len, [a] => R.of ((seqOf S a).map fun xs => .int xs.length) S
  | .abs, [.int i] => .ok (.int (if i < 0 then -i else i)) S
  | .int, [.int i] => .ok (.int i) S
  | .int, [.str l] => if l.length ≤ 640 then R.of ((PySem.intText? ⟨l.toArray⟩).map .int) S else .stuck
  | .str, [.int i] => if i.natAbs.log2 < 1920 then .ok (.str (Str.ofString (toString i)).cps.toList) S else .stuck
  | .isin t, [a] => R.of ((isTy t a S).map .bl) S
  | .tuple, [.tup xs] => .ok (.tup xs) S
  | .tuple, [a] => R.of ((lstOf S a).map .tup) S
  | .list, [a] => (match seqOf S a with
    | some xs => .ok (.ref S.length) (S ++ [.lst xs])
    | none => .stuck)
  | .max, [.int i, .int j] => .ok (.int (if j > i then j else i)) S
  | .max, [.int i, .int j, .int k] => .ok (.int (maxI i [j, k])) S
  | .min, [.int i, .int j] => .ok (.int (if j < i then j else i)) S
  | .divmod, [.int i, .int j] => if 0 < j ∧ j < 1073741824 then .ok (.tup [.int (i / j), .int (i % j)]) S else .stuck
  | .gcd, [.int i, .int j] => .ok (.int (Nat.gcd i.natAbs j.natAbs : Nat)) S
  | .sum, [a] => R.of (((lstOf S a).bind intsOf).map fun is => .int is.sum) S
  | .all, [a] => R.of (((lstOf S a).bind blsOf).map fun is => .bl (is.all id)) S
  | .any, [a] => R.of (((lstOf S a).bind blsOf).map fun is => .bl (is.any id)) S
  | .repr, [a] => R.of ((reprD S a).map .str) S
  | _, _ => .stuck

def joinN (sep : List Nat) (ys : List (List Nat)) : List Nat := TL.joinL sep ys

def mt (m : Mt) (a : D) (as : List D) (S : Sto) : R D := match m, a, as with
  | .append, .ref n, [x] => (match S[n]? with
    | some (.lst xs) => if xs.length < 16777216 then .ok .non (S.set n (.lst (xs ++ [x]))) else .stuck
    | _ => .stuck)
  | .pop, .ref n, [] => (match S[n]? with
    | some (.lst xs) => (match xs[xs.length - 1]? with
      | some x => .ok x (S.set n (.lst xs.dropLast))
      | none => .stuck)
    | _ => .stuck)
  | .join, .str l, [b] => (match (seqOf S b).bind strsOf with
    | some ys => if (ys.map List.length).sum + ys.length * l.length ≤ 16777216 then .ok (.str (joinN l ys)) S else .stuck
    | none => .stuck)
  | .split, .str l, [.str m] => if m ≠ [] ∧ l.length + 2 ≤ 16777216 ∧ m.all (· < 256) = true then .ok (.ref S.length) (S ++ [.lst ((TL.spl m 0 [] l).map .str)]) else .stuck
  | .find, .str l, [.str m] => .ok (.int (Txt.find ⟨l.toArray⟩ ⟨m.toArray⟩)) S
  | .rfind, .str l, [.str m] => .ok (.int (Txt.rfind ⟨l.toArray⟩ ⟨m.toArray⟩)) S
  | _, _, _ => .stuck
end Ev
end
section
set_option Elab.async false
set_option linter.all false
set_option maxRecDepth 100000
set_option maxHeartbeats 4000000
/-! Ev2: own syntax and its meaning. -/
namespace Ev
open PySem

/-- a pattern of names -/
inductive Pt where
  | nm (i : Nat)
  | tup (ps : List Pt)

mutual
inductive E where
  | var (i : Nat) | cst (d : D) | glb (i : Nat)
  | bin (o : Op2) (a b : E) | neg (a : E) | not (a : E)
  | and (a b : E) | or (a b : E) | ite (c a b : E)
  | cmp (o : Cm) (a b : E) | chain (o p : Cm) (a b c : E)
  | tup (es : Es) | lst (es : Es)
  | ix (a b : E) | sl (a : E) (lo hi : Oe) | rev (a : E)
  | call (f : Nat) (es : Es) | callk (f : Nat) (es ks : Es) (pm : List Nat)
  | bi (b : Bi) (es : Es) | mt (m : Mt) (a : E) (es : Es)
  | lc (own : List (Str × Nat)) (elt : E) (p : Pt) (it : It) (c : Oe)
  | lc2 (own : List (Str × Nat)) (own1 : List Nat) (elt : E) (p : Pt) (it : It) (p1 : Pt) (it1 : It)
inductive Es where
  | nil | cons (a : E) (r : Es) | star (a : E) (r : Es)
inductive Oe where
  | none | some (a : E)
inductive It where
  | seq (a : E) | rng1 (a : E) | rng2 (a b : E) | rng3 (a b c : E) | enum (a : E) | zip (a b : E)
end

/-- what is walked: its items, the list places that must stand as they are -/
structure Src where
  its : List D
  live : List (Nat × List D)

def Src.ok (s : Src) (S : Sto) : Prop := ∀ p ∈ s.live, lstOf S (.ref p.1) = some p.2

mutual
def Pt.set : Pt → D → En → Option En
  | .nm i, d, en => some (en.set i (some d))
  | .tup ps, .tup xs, en => Pt.sets ps xs en
  | .tup _, _, _ => none
def Pt.sets : List Pt → List D → En → Option En
  | [], [], en => some en
  | p :: ps, d :: ds, en => (Pt.set p d en).bind fun en' => Pt.sets ps ds en'
  | _, _, _ => none
end

abbrev slots (own : List (Str × Nat)) : List Nat := own.map fun q => q.2
def wipeE (en : En) : List Nat → En
  | [] => en
  | v :: vs => (wipeE en vs).set v none

open Classical in
/-- the loop of a comprehension -/
noncomputable def lcL (s : Src) (f : D → Sto → R (Option D)) : List D → List D → Sto → R (List D)
  | [], acc, S => if s.ok S then .ok acc S else .stuck
  | d :: r, acc, S => if s.ok S then (f d S).bind fun o S => match o with
      | none => lcL s f r acc S
      | some y => if acc.length < 16777216 then lcL s f r (acc ++ [y]) S else .stuck
    else .stuck
open Classical in
/-- the inner loop of two: the list made so far goes through -/
noncomputable def lcL1 (s : Src) (f : D → Sto → R D) : List D → List D → Sto → R (List D)
  | [], acc, S => if s.ok S then .ok acc S else .stuck
  | d :: r, acc, S => if s.ok S then (f d S).bind fun y S => if acc.length < 16777216 then lcL1 s f r (acc ++ [y]) S else .stuck
    else .stuck
open Classical in
noncomputable def lcL2 (s : Src) (f : D → List D → Sto → R (List D)) : List D → List D → Sto → R (List D)
  | [], acc, S => if s.ok S then .ok acc S else .stuck
  | d :: r, acc, S => if s.ok S then (f d acc S).bind fun acc S => lcL2 s f r acc S else .stuck

/-- the receiver's type is looked at ahead of the arguments -/
def mtTy (m : Mt) (x : D) (S : Sto) : Bool := match m with
  | .append => (lstOf S x).isSome
  | .pop => (lstOf S x).isSome
  | _ => match x with
    | .str _ => true
    | _ => false

/-- what the program's text says: its defs' meanings, its constants -/
structure Gm where
  fn : Nat → List D → Sto → R D
  cs : List D

def small (i : Int) : Prop := -(2 ^ 62) ≤ i ∧ i < 2 ^ 62
instance (i : Int) : Decidable (small i) := by unfold small; infer_instance

def rngD (i j : Int) : List D := (List.range (j - i).toNat).map fun (k : Nat) => .int (i + k)
/-- range(i, j, -1) -/
def rngDn (i j : Int) : List D := (List.range (i - j).toNat).map fun (k : Nat) => .int (i + k * (-1))

def srcSeq (a : D) (S : Sto) : Option Src := match a with
  | .str l => some ⟨l.map fun c => .str [c], []⟩
  | .tup xs => some ⟨xs, []⟩
  | .fl xs => some ⟨xs, []⟩
  | .ref n => (lstOf S (.ref n)).map fun xs => ⟨xs, [(n, xs)]⟩
  | _ => none
def enumD (xs : List D) : List D := xs.zipIdx.map fun p => .tup [.int (p.2 : Nat), p.1]
def srcEnum (a : D) (S : Sto) : Option Src := match a with
  | .tup xs => some ⟨enumD xs, []⟩
  | .fl xs => some ⟨enumD xs, []⟩
  | .ref n => (lstOf S (.ref n)).map fun xs => ⟨enumD xs, [(n, xs)]⟩
  | _ => none
def zipD (xs ys : List D) : List D := (xs.zip ys).map fun p => .tup [p.1, p.2]
def liveOf (a : D) (S : Sto) : Option (List D × List (Nat × List D)) := match a with
  | .fl xs => some (xs, [])
  | .ref n => (lstOf S (.ref n)).map fun xs => (xs, [(n, xs)])
  | _ => none
def srcZip (a b : D) (S : Sto) : Option Src := match a, b with
  | .tup xs, .tup ys => some ⟨zipD xs ys, []⟩
  | a, b => (liveOf a S).bind fun p => (liveOf b S).map fun q => ⟨zipD p.1 q.1, p.2 ++ q.2⟩

section
variable (G : Gm)
mutual
noncomputable def ev : E → En → Sto → R D
  | .var i, en, S => R.of (en.getD i none) S
  | .cst d, _, S => .ok d S
  | .glb i, _, S => R.of (G.cs[i]?) S
  | .bin o a b, en, S => (ev a en S).bind fun x S => (ev b en S).bind fun y S => binop o x y S
  | .neg a, en, S => (ev a en S).bind fun x S => match x with
    | .int i => .ok (.int (-i)) S
    | _ => .stuck
  | .not a, en, S => (ev a en S).bind fun x S => match x with
    | .bl k => .ok (.bl (!k)) S
    | _ => .stuck
  | .and a b, en, S => (ev a en S).bind fun x S => match x with
    | .bl true => ev b en S
    | .bl false => .ok (.bl false) S
    | _ => .stuck
  | .or a b, en, S => (ev a en S).bind fun x S => match x with
    | .bl true => .ok (.bl true) S
    | .bl false => ev b en S
    | _ => .stuck
  | .ite c a b, en, S => (ev c en S).bind fun x S => match x with
    | .bl true => ev a en S
    | .bl false => ev b en S
    | _ => .stuck
  | .cmp o a b, en, S => (ev a en S).bind fun x S => (ev b en S).bind fun y S => R.of ((cmpop o x y S).map .bl) S
  | .chain o p a b c, en, S => (ev a en S).bind fun x S => (ev b en S).bind fun y S => match cmpop o x y S with
    | some true => (ev c en S).bind fun z S => R.of ((cmpop p y z S).map .bl) S
    | some false => .ok (.bl false) S
    | none => .stuck
  | .tup es, en, S => (evs es en S).bind fun xs S => if xs.length ≤ 16777216 then .ok (.tup xs) S else .stuck
  | .lst es, en, S => (evs es en S).bind fun xs S => if xs.length ≤ 16777216 then .ok (.ref S.length) (S ++ [.lst xs]) else .stuck
  | .ix a b, en, S => (ev a en S).bind fun x S => (ev b en S).bind fun y S => R.of (ixD S x y) S
  | .sl a lo hi, en, S => (ev a en S).bind fun x S => (evo lo en S).bind fun l S => (evo hi en S).bind fun h S => slD x l h S
  | .rev a, en, S => (ev a en S).bind fun x S => match lstOf S x with
    | some xs => .ok (.ref S.length) (S ++ [.lst xs.reverse])
    | none => .stuck
  | .call f es, en, S => (evs es en S).bind fun xs S => G.fn f xs S
  | .callk f es ks pm, en, S => (evs es en S).bind fun xs S => (evs ks en S).bind fun zs S => G.fn f (pm.filterMap fun i => (xs ++ zs)[i]?) S
  | .bi b es, en, S => (evs es en S).bind fun xs S => bi b xs S
  | .mt m a es, en, S => (ev a en S).bind fun x S => if mtTy m x S = true then (evs es en S).bind fun xs S => mt m x xs S else .stuck
  | .lc own elt p it c, en, S => (evi it en S).bind fun s S =>
      (lcL s (fun d S => (match p.set d (wipeE en (slots own)) with
        | some en' => (evc c en' S).bind fun b S => if b = true then (ev elt en' S).bind fun y S => .ok (some y) S else .ok none S
        | none => .stuck).noex) s.its [] S).bind fun acc S => .ok (.ref S.length) (S ++ [.lst acc])
  | .lc2 own own1 elt p it p1 it1, en, S => (evi it en S).bind fun s S =>
      (lcL2 s (fun d acc S => (match p.set d (wipeE en (slots own)) with
        | some en' => (evi it1 en' S).bind fun s1 S =>
            lcL1 s1 (fun d1 S => match p1.set d1 (wipeE en' own1) with
              | some en'' => ev elt en'' S
              | none => .stuck) s1.its acc S
        | none => .stuck).noex) s.its [] S).bind fun acc S => .ok (.ref S.length) (S ++ [.lst acc])
noncomputable def evs : Es → En → Sto → R (List D)
  | .nil, _, S => .ok [] S
  | .cons a r, en, S => (ev a en S).bind fun x S => (evs r en S).bind fun xs S => .ok (x :: xs) S
  | .star a r, en, S => (ev a en S).bind fun x S => match seqOf S x with
    | some ys => (evs r en S).bind fun xs S => .ok (ys ++ xs) S
    | none => .stuck
/-- a part of a slice -/
noncomputable def evo : Oe → En → Sto → R (Option Int)
  | .none, _, S => .ok none S
  | .some a, en, S => (ev a en S).bind fun x S => match x with
    | .int i => .ok (some i) S
    | _ => .stuck
/-- a comprehension's test -/
noncomputable def evc : Oe → En → Sto → R Bool
  | .none, _, S => .ok true S
  | .some a, en, S => (ev a en S).bind fun x S => match x with
    | .bl k => .ok k S
    | _ => .stuck
noncomputable def evi : It → En → Sto → R Src
  | .seq a, en, S => (ev a en S).bind fun x S => R.of (srcSeq x S) S
  | .rng1 a, en, S => (ev a en S).bind fun x S => match x with
    | .int j => if small j then .ok ⟨rngD 0 j, []⟩ S else .stuck
    | _ => .stuck
  | .rng2 a b, en, S => (ev a en S).bind fun x S => (ev b en S).bind fun y S => match x, y with
    | .int i, .int j => if small i ∧ small j then .ok ⟨rngD i j, []⟩ S else .stuck
    | _, _ => .stuck
  | .rng3 a b c, en, S => (ev a en S).bind fun x S => (ev b en S).bind fun y S => (ev c en S).bind fun z S => match x, y, z with
    | .int i, .int j, .int k => if small i ∧ small j ∧ k = -1 then .ok ⟨rngDn i j, []⟩ S else .stuck
    | _, _, _ => .stuck
  | .enum a, en, S => (ev a en S).bind fun x S => R.of (srcEnum x S) S
  | .zip a b, en, S => (ev a en S).bind fun x S => (ev b en S).bind fun y S => R.of (srcZip x y S) S
end
end

/-! ### statements -/
/-- a target -/
inductive Tg where
  | nm (i : Nat)
  | tup (ts : List Tg)
  | sub (a i : E)
/-- what an except suite reads of its exception: a field, whether it is of a class -/
inductive Xa where
  | fld (f : Str)
  | isc (c : Nat)
  | isb (n : String)

mutual
inductive Sm where
  | asg (t : Tg) (e : E)
  | par (is : List Nat) (es : Es)
  | aug (i : Nat) (o : Op2) (e : E)
  | augs (a i : E) (o : Op2) (e : E)
  | exp (e : E)
  | ret (e : E)
  | retn
  | ite (c : E) (a b : Ss)
  | for (t : Tg) (it : It) (b : Ss)
  | whl (c : E) (b : Ss)
  | brk | cnt | pas | bad
  | rai (c : Nat) (es : Es)
  | tri (b : Ss) (c : Nat) (slot to : Nat) (as : List Xa)
inductive Ss where
  | nil | cons (s : Sm) (r : Ss)
end

inductive O where
  | stuck
  | nx (en : En) (S : Sto)
  | rt (d : D) (S : Sto)
  | bk (en : En) (S : Sto)
  | ct (en : En) (S : Sto)
  | ex (x : Xc) (en : En) (S : Sto)

/-- an expression's end goes on, in a statement -/
def R.then {α : Type} (r : R α) (en : En) (k : α → Sto → O) : O := match r with
  | .stuck => .stuck
  | .ok a S => k a S
  | .ex x S => .ex x en S
@[simp] theorem R.then_ok {α : Type} (a : α) (S : Sto) (en : En) (k : α → Sto → O) : (R.ok a S).then en k = k a S := rfl
@[simp] theorem R.then_ex {α : Type} (x : Xc) (S : Sto) (en : En) (k : α → Sto → O) : (R.ex x S : R α).then en k = .ex x en S := rfl
@[simp] theorem R.then_stuck {α : Type} (en : En) (k : α → Sto → O) : (R.stuck : R α).then en k = .stuck := rfl

def O.seq (o : O) (k : En → Sto → O) : O := match o with
  | .nx en S => k en S
  | o => o
@[simp] theorem O.seq_nx (en : En) (S : Sto) (k : En → Sto → O) : (O.nx en S).seq k = k en S := rfl
@[simp] theorem O.seq_rt (d : D) (S : Sto) (k : En → Sto → O) : (O.rt d S).seq k = .rt d S := rfl
@[simp] theorem O.seq_bk (en : En) (S : Sto) (k : En → Sto → O) : (O.bk en S).seq k = .bk en S := rfl
@[simp] theorem O.seq_ct (en : En) (S : Sto) (k : En → Sto → O) : (O.ct en S).seq k = .ct en S := rfl
@[simp] theorem O.seq_ex (x : Xc) (en : En) (S : Sto) (k : En → Sto → O) : (O.ex x en S).seq k = .ex x en S := rfl
@[simp] theorem O.seq_stuck (k : En → Sto → O) : O.stuck.seq k = .stuck := rfl

/-- a loop's turn: what goes on with k -/
def O.turn (o : O) (k : En → Sto → O) : O := match o with
  | .nx en S => k en S
  | .ct en S => k en S
  | .bk en S => .nx en S
  | o => o
@[simp] theorem O.turn_nx (en : En) (S : Sto) (k : En → Sto → O) : (O.nx en S).turn k = k en S := rfl
@[simp] theorem O.turn_ct (en : En) (S : Sto) (k : En → Sto → O) : (O.ct en S).turn k = k en S := rfl
@[simp] theorem O.turn_bk (en : En) (S : Sto) (k : En → Sto → O) : (O.bk en S).turn k = .nx en S := rfl
@[simp] theorem O.turn_rt (d : D) (S : Sto) (k : En → Sto → O) : (O.rt d S).turn k = .rt d S := rfl
@[simp] theorem O.turn_ex (x : Xc) (en : En) (S : Sto) (k : En → Sto → O) : (O.ex x en S).turn k = .ex x en S := rfl
@[simp] theorem O.turn_stuck (k : En → Sto → O) : O.stuck.turn k = .stuck := rfl

open Classical in
noncomputable def forL (s : Src) (f : D → En → Sto → O) : List D → En → Sto → O
  | [], en, S => if s.ok S then .nx en S else .stuck
  | d :: r, en, S => if s.ok S then (f d en S).turn fun en S => forL s f r en S else .stuck

def wIt (c : En → Sto → R Bool) (b : En → Sto → O) : Nat → En → Sto → O
  | 0, _, _ => .stuck
  | n + 1, en, S => (c en S).then en fun k S => if k = true then (b en S).turn fun en S => wIt c b n en S else .nx en S

open Classical in
noncomputable def whlL (c : En → Sto → R Bool) (b : En → Sto → O) (en : En) (S : Sto) : O :=
  if h : ∃ n, wIt c b n en S ≠ .stuck then wIt c b (Classical.choose h) en S else .stuck

theorem wIt_mono {c : En → Sto → R Bool} {b : En → Sto → O} : ∀ {n : Nat} {en : En} {S : Sto}, wIt c b n en S ≠ .stuck → wIt c b (n + 1) en S = wIt c b n en S := by
  intro n
  induction n with
  | zero => intro en S h; exact absurd rfl h
  | succ n ih =>
    intro en S h
    rw [wIt] at h ⊢
    rw [wIt]
    cases hc : c en S with
    | stuck => rfl
    | ex x S' => rfl
    | ok k S' =>
      rw [hc] at h
      cases k with
      | false => rfl
      | true =>
        simp only [R.then_ok, if_true] at h ⊢
        cases hb : b en S' with
        | nx en' S'' => rw [hb] at h; exact ih h
        | ct en' S'' => rw [hb] at h; exact ih h
        | _ => rfl
theorem wIt_le {c : En → Sto → R Bool} {b : En → Sto → O} {n m : Nat} {en : En} {S : Sto} (h : wIt c b n en S ≠ .stuck) (hm : n ≤ m) : wIt c b m en S = wIt c b n en S := by
  induction m with
  | zero => have : n = 0 := by omega
            subst this; rfl
  | succ m ih =>
    by_cases e : n = m + 1
    · subst e; rfl
    · have q := ih (by omega)
      rw [wIt_mono (by rw [q]; exact h), q]
theorem whlL_of {c : En → Sto → R Bool} {b : En → Sto → O} {n : Nat} {en : En} {S : Sto} (h : wIt c b n en S ≠ .stuck) : whlL c b en S = wIt c b n en S := by
  unfold whlL
  have hx : ∃ n, wIt c b n en S ≠ .stuck := ⟨n, h⟩
  rw [dif_pos hx]
  have h2 := Classical.choose_spec hx
  rcases Nat.le_total n (Classical.choose hx) with q | q
  · exact wIt_le h q
  · exact (wIt_le h2 q).symm
theorem whlL_eq (c : En → Sto → R Bool) (b : En → Sto → O) (en : En) (S : Sto) :
    whlL c b en S = (c en S).then en fun k S => if k = true then (b en S).turn fun en S => whlL c b en S else .nx en S := by
  cases hc : c en S with
  | stuck =>
    unfold whlL
    rw [dif_neg]
    · rfl
    · rintro ⟨n, h⟩
      cases n with
      | zero => exact h rfl
      | succ n => rw [wIt, hc] at h; exact h rfl
  | ex x S' => rw [whlL_of (n := 1) (by rw [wIt, hc]; simp), wIt, hc]; rfl
  | ok k S' =>
    cases k with
    | false => rw [whlL_of (n := 1) (by rw [wIt, hc]; simp), wIt, hc]; rfl
    | true =>
      simp only [R.then_ok, if_true]
      have step : ∀ n, wIt c b (n + 1) en S = (b en S').turn fun en S => wIt c b n en S := fun n => by rw [wIt, hc]; rfl
      have go : ∀ en' S'', (∀ k, (b en S').turn k = k en' S'') → whlL c b en S = whlL c b en' S'' := fun en' S'' hk => by
        by_cases hx : ∃ n, wIt c b n en' S'' ≠ .stuck
        · obtain ⟨n, hn⟩ := hx
          rw [whlL_of hn, whlL_of (n := n + 1) (by rw [step, hk]; exact hn), step, hk]
        · rw [whlL, whlL, dif_neg hx, dif_neg]
          rintro ⟨n, h⟩
          cases n with
          | zero => exact h rfl
          | succ n => rw [step, hk] at h; exact hx ⟨n, h⟩
      have one : ∀ o : O, (∀ k, (b en S').turn k = o) → whlL c b en S = o := fun o hk => by
        by_cases ho : o = .stuck
        · subst ho
          unfold whlL
          rw [dif_neg]
          rintro ⟨n, h⟩
          cases n with
          | zero => exact h rfl
          | succ n => rw [step, hk] at h; exact h rfl
        · rw [whlL_of (n := 1) (by rw [step, hk]; exact ho), step, hk]
      cases hb : b en S' with
      | nx en' S'' => rw [hb] at go; exact go en' S'' fun _ => rfl
      | ct en' S'' => rw [hb] at go; exact go en' S'' fun _ => rfl
      | bk en' S'' => rw [hb] at one; exact one _ fun _ => rfl
      | rt d S'' => rw [hb] at one; exact one _ fun _ => rfl
      | ex x en' S'' => rw [hb] at one; exact one _ fun _ => rfl
      | stuck => rw [hb] at one; exact one _ fun _ => rfl

/-- the text's classes of errors: fields, which is under which (also under a built-in one) -/
structure Cls where
  fs : List Str
  up : List Nat
  bup : List String

section
variable (G : Gm) (C : List Cls)
def augI (o : Op2) (x y : D) : Option D := match o, x, y with
  | .add, .int i, .int j => some (.int (i + j))
  | .sub, .int i, .int j => some (.int (i - j))
  | _, _, _ => none
/-- an item of a list -/
def ixL (S : Sto) (a b : D) : Option D := match b with
  | .int i => (lstOf S a).bind fun xs => L2.atI xs i
  | _ => none
def setSub (a i d : D) (S : Sto) : Option Sto := match a, i with
  | .ref n, .int k => (match S[n]? with
    | some (.lst xs) => (ixN xs.length k).map fun j => S.set n (.lst (xs.set j d))
    | _ => none)
  | _, _ => none
mutual
noncomputable def asgT : Tg → D → En → Sto → R En
  | .nm i, d, en, S => .ok (en.set i (some d)) S
  | .tup ts, d, en, S => match d with
    | .tup xs => asgTs ts xs en S
    | _ => .stuck
  | .sub a i, d, en, S => (ev G a en S).noex.bind fun x S => (ev G i en S).noex.bind fun y S => match setSub x y d S with
    | some S' => .ok en S'
    | none => .stuck
noncomputable def asgTs : List Tg → List D → En → Sto → R En
  | [], [], en, S => .ok en S
  | t :: ts, d :: ds, en, S => (asgT t d en S).bind fun en S => asgTs ts ds en S
  | _, _, _, _ => .stuck
end
def parSet : List Nat → List D → En → Option En
  | [], [], en => some en
  | i :: is, d :: ds, en => parSet is ds (en.set i (some d))
  | _, _, _ => none
/-- what an except suite reads -/
def xaD (k : Cls) (x : Xc) : Xa → Option D
  | .fld f => if k.fs.contains f = true then x.fs.lookup f else none
  | .isc c => some (.bl (decide (c = x.c) || k.up.contains c))
  | .isb n => some (.bl (k.bup.contains n))
/-- what is done with an error of a try's body -/
def triH (c slot to : Nat) (as : List Xa) (x : Xc) (en : En) (S : Sto) : O := if slot < en.length then (match C[x.c]? with
  | some k => if (decide (c = x.c) || k.up.contains c) = true then
      (match mapO (xaD k x) as with
      | some ds => .nx (((en.set slot none).set to (some (.ref S.length))).set slot none) (S ++ [.lst ds])
      | none => .stuck)
    else .ex x en S
  | none => .stuck) else .stuck
mutual
noncomputable def exec : Sm → En → Sto → O
  | .asg t e, en, S => (ev G e en S).then en fun d S => (asgT G t d en S).noex.then en fun en S => .nx en S
  | .par is es, en, S => (evs G es en S).then en fun ds S => match parSet is ds en with
    | some en => .nx en S
    | none => .stuck
  | .aug i o e, en, S => match en.getD i none with
    | some x => (ev G e en S).then en fun y S => match augI o x y with
      | some z => .nx (en.set i (some z)) S
      | none => .stuck
    | none => .stuck
  | .augs a i o e, en, S => (ev G a en S).then en fun x S => (ev G i en S).then en fun y S => match ixL S x y with
    | some old => (ev G e en S).then en fun z S => (match augI o old z with
      | some d => (match setSub x y d S with
        | some S => .nx en S
        | none => .stuck)
      | none => .stuck)
    | none => .stuck
  | .exp e, en, S => (ev G e en S).then en fun _ S => .nx en S
  | .ret e, en, S => (ev G e en S).then en fun d S => .rt d S
  | .retn, _, S => .rt .non S
  | .ite c a b, en, S => (ev G c en S).then en fun x S => match x with
    | .bl true => execs a en S
    | .bl false => execs b en S
    | _ => .stuck
  | .for t it b, en, S => (evi G it en S).then en fun s S => forL s (fun d en S => (asgT G t d en S).noex.then en fun en S => execs b en S) s.its en S
  | .whl c b, en, S => whlL (fun en S => (ev G c en S).bind fun x S => match x with
      | .bl k => .ok k S
      | _ => .stuck) (fun en S => execs b en S) en S
  | .brk, en, S => .bk en S
  | .cnt, en, S => .ct en S
  | .pas, en, S => .nx en S
  | .bad, _, _ => .stuck
  | .rai c es, en, S => (evs G es en S).then en fun ds S => match C[c]? with
    | some k => if ds.length = k.fs.length then .ex ⟨c, k.fs.zip ds⟩ en S else .stuck
    | none => .stuck
  | .tri b c slot to as, en, S => match execs b en S with
    | .ex x en S => triH C c slot to as x en S
    | o => o
noncomputable def execs : Ss → En → Sto → O
  | .nil, en, S => .nx en S
  | .cons s r, en, S => (exec s en S).seq fun en S => execs r en S
end

/-- a def of the text: how many parameters, how many names, its body -/
structure Fd where
  np : Nat
  nn : Nat
  body : Ss

def O.toR : O → R D
  | .nx _ S => .ok .non S
  | .rt d S => .ok d S
  | .ex x _ S => .ex x S
  | _ => .stuck

noncomputable def runF (f : Fd) (ds : List D) (S : Sto) : R D :=
  if ds.length = f.np then (execs G C f.body (ds.map some ++ List.replicate (f.nn - ds.length) none) S).toR else .stuck
end

/-- the defs' meanings, calls n deep -/
noncomputable def fnN (F : List Fd) (C : List Cls) (cs : List D) : Nat → Nat → List D → Sto → R D
  | 0, _, _, _ => .stuck
  | n + 1, f, ds, S => match F[f]? with
    | some fd => runF ⟨fnN F C cs n, cs⟩ C fd ds S
    | none => .stuck
end Ev
end
section
set_option Elab.async false
set_option linter.all false
set_option maxRecDepth 100000
set_option maxHeartbeats 4000000
set_option autoImplicit false
/-! Ev3: how plain data and the store lie in the hand layer's heap. -/
namespace Ev
open PySem PySem.Spec PyProof.Rows L2

/-! ### representation -/
/-- a list that nobody can write: locked, or the written part's -/
def SqF (K : PySem.W.Frag) (H : Hp) (a : Addr) (vs : List V) : Prop := (∃ o, H a = some (.frz o (.lst vs))) ∨
  ∃ (o : Obj) (its : Array Value) (n : Nat), K.lookup a = some o ∧ o.cls = .type "list" ∧ o.dict = none ∧ o.data = .seq its n ∧ its.size ≤ sizeLine ∧ Vals vs its.toList
theorem SqF.l {K : PySem.W.Frag} {H : Hp} {a : Addr} {vs : List V} (h : SqF K H a vs) : SqL K H a vs := by
  rcases h with ⟨o, h⟩ | h
  · exact .inl (.inr ⟨o, h⟩)
  · exact .inr h
mutual
inductive Rep (K : PySem.W.Frag) (ρ : List Addr) (H : Hp) : D → V → Prop where
  | non : Rep K ρ H .non .non
  | bl (b : Bool) : Rep K ρ H (.bl b) (.bl b)
  | int (i : Int) : Rep K ρ H (.int i) (.int i)
  | str (l : List Nat) : Rep K ρ H (.str l) (.str ⟨l.toArray⟩)
  | tup {xs : List D} {a : Addr} {vs : List V} : SqT K H a vs → RepL K ρ H xs vs → Rep K ρ H (.tup xs) (.ref a)
  | ref {n : Nat} {a : Addr} : ρ[n]? = some a → Rep K ρ H (.ref n) (.ref a)
  | fl {xs : List D} {a : Addr} {vs : List V} : SqF K H a vs → RepL K ρ H xs vs → Rep K ρ H (.fl xs) (.ref a)
inductive RepL (K : PySem.W.Frag) (ρ : List Addr) (H : Hp) : List D → List V → Prop where
  | nil : RepL K ρ H [] []
  | cons {d : D} {ds : List D} {v : V} {vs : List V} : Rep K ρ H d v → RepL K ρ H ds vs → RepL K ρ H (d :: ds) (v :: vs)
end

/-- what changes at most: writable places of the store; new places are new -/
structure Ext (ρ : List Addr) (H : Hp) (ρ' : List Addr) (H' : Hp) : Prop where
  pre : ∃ more, ρ' = ρ ++ more
  new : ∀ b ∈ ρ', b ∈ ρ ∨ H b = none
  keep : ∀ b o, H b = some o → (b ∈ ρ → ¬ Mut (some o)) → H' b = some o
theorem Ext.refl (ρ : List Addr) (H : Hp) : Ext ρ H ρ H := ⟨⟨[], (List.append_nil _).symm⟩, fun _ h => .inl h, fun _ _ h _ => h⟩
theorem Ext.trans {ρ ρ1 ρ2 : List Addr} {H H1 H2 : Hp} (a : Ext ρ H ρ1 H1) (b : Ext ρ1 H1 ρ2 H2) : Ext ρ H ρ2 H2 := by
  obtain ⟨m1, e1⟩ := a.pre
  obtain ⟨m2, e2⟩ := b.pre
  have key : ∀ c o, H c = some o → c ∈ ρ1 → c ∈ ρ := fun c o h hc => by
    rcases a.new c hc with z | z
    · exact z
    · rw [z] at h; cases h
  refine ⟨⟨m1 ++ m2, by rw [e2, e1, List.append_assoc]⟩, fun c hc => ?_, fun c o h hn => b.keep c o (a.keep c o h hn) fun hc => hn (key c o h hc)⟩
  rcases b.new c hc with z | z
  · exact a.new c z
  · cases q : H c with
    | none => exact .inr rfl
    | some o =>
      by_cases hc' : c ∈ ρ
      · exact .inl hc'
      · have := a.keep c o q fun y => absurd y hc'
        rw [z] at this; cases this
theorem Ext.get {ρ ρ1 : List Addr} {H H1 : Hp} (a : Ext ρ H ρ1 H1) {n : Nat} {b : Addr} (h : ρ[n]? = some b) : ρ1[n]? = some b := by
  obtain ⟨m, e⟩ := a.pre
  have hl : n < ρ.length := (List.getElem?_eq_some_iff.mp h).1
  rw [e, List.getElem?_append_left hl, h]
theorem Ext.sqF {K : PySem.W.Frag} {ρ ρ1 : List Addr} {H H1 : Hp} (x : Ext ρ H ρ1 H1) {a : Addr} {vs : List V} (h : SqF K H a vs) : SqF K H1 a vs := by
  rcases h with ⟨o, h⟩ | h
  · exact .inl ⟨o, x.keep _ _ h fun _ z => z⟩
  · exact .inr h
theorem Ext.sqT {K : PySem.W.Frag} {ρ ρ1 : List Addr} {H H1 : Hp} (x : Ext ρ H ρ1 H1) {a : Addr} {vs : List V} (h : SqT K H a vs) : SqT K H1 a vs := by
  rcases h with (h | ⟨o, h⟩) | h
  · exact .inl (.inl (x.keep _ _ h fun _ z => z))
  · exact .inl (.inr ⟨o, x.keep _ _ h fun _ z => z⟩)
  · exact .inr h

section
variable {K : PySem.W.Frag} {ρ ρ1 : List Addr} {H H1 : Hp}
/-- what a datum's place leans on -/
structure Kp (K : PySem.W.Frag) (ρ : List Addr) (H : Hp) (ρ1 : List Addr) (H1 : Hp) : Prop where
  get : ∀ (n : Nat) (b : Addr), ρ[n]? = some b → ρ1[n]? = some b
  sqT : ∀ (a : Addr) (vs : List V), SqT K H a vs → SqT K H1 a vs
  sqF : ∀ (a : Addr) (vs : List V), SqF K H a vs → SqF K H1 a vs
theorem Ext.kp (x : Ext ρ H ρ1 H1) : Kp K ρ H ρ1 H1 := ⟨fun _ _ h => x.get h, fun _ _ h => x.sqT h, fun _ _ h => x.sqF h⟩
theorem Kp.trans {ρ2 : List Addr} {H2 : Hp} (a : Kp K ρ H ρ1 H1) (b : Kp K ρ1 H1 ρ2 H2) : Kp K ρ H ρ2 H2 := ⟨fun n c h => b.get n c (a.get n c h), fun c vs h => b.sqT c vs (a.sqT c vs h), fun c vs h => b.sqF c vs (a.sqF c vs h)⟩
theorem Kp.refl : Kp K ρ H ρ H := ⟨fun _ _ h => h, fun _ _ h => h, fun _ _ h => h⟩
mutual
theorem Rep.mono (x : Kp K ρ H ρ1 H1) : ∀ {d : D} {v : V}, Rep K ρ H d v → Rep K ρ1 H1 d v
  | .non, _, h => by cases h; exact .non
  | .bl b, _, h => by cases h; exact .bl b
  | .int i, _, h => by cases h; exact .int i
  | .str l, _, h => by cases h; exact .str l
  | .tup xs, _, h => by
    cases h with
    | tup h1 h2 => exact .tup (x.sqT _ _ h1) (RepL.mono x h2)
  | .ref n, _, h => by
    cases h with
    | ref h1 => exact .ref (x.get _ _ h1)
  | .fl xs, _, h => by
    cases h with
    | fl h1 h2 => exact .fl (x.sqF _ _ h1) (RepL.mono x h2)
theorem RepL.mono (x : Kp K ρ H ρ1 H1) : ∀ {ds : List D} {vs : List V}, RepL K ρ H ds vs → RepL K ρ1 H1 ds vs
  | [], _, h => by cases h; exact .nil
  | d :: ds, _, h => by
    cases h with
    | cons h1 h2 => exact .cons (Rep.mono x h1) (RepL.mono x h2)
end
theorem Rep.ext (x : Ext ρ H ρ1 H1) {d : D} {v : V} (h : Rep K ρ H d v) : Rep K ρ1 H1 d v := h.mono x.kp
theorem RepL.ext (x : Ext ρ H ρ1 H1) {ds : List D} {vs : List V} (h : RepL K ρ H ds vs) : RepL K ρ1 H1 ds vs := h.mono x.kp
/-- a list of nobody's written -/
theorem Kp.other {D : Addr} {vs ws : List V} (h : H D = some (.lst vs)) : Kp K ρ H ρ (upd H D (.lst ws)) := by
  have ne : ∀ {b : Addr} {o : HO}, H b = some o → (∀ xs, o ≠ .lst xs) → b ≠ D := fun {b o} e hn z => by subst z; rw [h] at e; exact hn vs (Option.some.inj e).symm
  refine ⟨fun _ _ h => h, fun a xs q => ?_, fun a xs q => ?_⟩
  · rcases q with (q | ⟨o, q⟩) | q
    · exact .inl (.inl (by rw [upd_ne (ne q fun _ z => by cases z)]; exact q))
    · exact .inl (.inr ⟨o, by rw [upd_ne (ne q fun _ z => by cases z)]; exact q⟩)
    · exact .inr q
  · rcases q with ⟨o, q⟩ | q
    · exact .inl ⟨o, by rw [upd_ne (ne q fun _ z => by cases z)]; exact q⟩
    · exact .inr q
theorem Kp.pre {more : List Addr} : Kp K ρ H (ρ ++ more) H := ⟨fun n b h => by
  have hl : n < ρ.length := (List.getElem?_eq_some_iff.mp h).1
  rw [List.getElem?_append_left hl, h], fun _ _ h => h, fun _ _ h => h⟩
theorem RepL.length : ∀ {ds : List D} {vs : List V}, RepL K ρ H ds vs → ds.length = vs.length
  | [], _, h => by cases h; rfl
  | d :: ds, _, h => by
    cases h with
    | cons h1 h2 => exact congrArg Nat.succ h2.length
theorem RepL.get : ∀ {ds : List D} {vs : List V} {i : Nat} {d : D}, RepL K ρ H ds vs → ds[i]? = some d → ∃ v, vs[i]? = some v ∧ Rep K ρ H d v
  | [], _, _, _, _, e => by simp at e
  | d :: ds, _, 0, _, h, e => by
    cases h with
    | cons h1 h2 =>
      simp at e; subst e
      exact ⟨_, rfl, h1⟩
  | d :: ds, _, i + 1, _, h, e => by
    cases h with
    | cons h1 h2 =>
      obtain ⟨v, q, r⟩ := h2.get (i := i) (by simpa using e)
      exact ⟨v, by simpa using q, r⟩
theorem RepL.append : ∀ {ds es : List D} {vs ws : List V}, RepL K ρ H ds vs → RepL K ρ H es ws → RepL K ρ H (ds ++ es) (vs ++ ws)
  | [], _, _, _, h, g => by cases h; exact g
  | d :: ds, _, _, _, h, g => by
    cases h with
    | cons h1 h2 => exact .cons h1 (h2.append g)
theorem RepL.take : ∀ {ds : List D} {vs : List V} (n : Nat), RepL K ρ H ds vs → RepL K ρ H (ds.take n) (vs.take n)
  | _, _, 0, _ => .nil
  | [], _, _ + 1, h => by cases h; exact .nil
  | d :: ds, _, n + 1, h => by
    cases h with
    | cons h1 h2 => exact .cons h1 (h2.take n)
theorem RepL.drop : ∀ {ds : List D} {vs : List V} (n : Nat), RepL K ρ H ds vs → RepL K ρ H (ds.drop n) (vs.drop n)
  | _, _, 0, h => h
  | [], _, _ + 1, h => by cases h; exact .nil
  | d :: ds, _, n + 1, h => by
    cases h with
    | cons h1 h2 => exact h2.drop n
theorem RepL.set {d : D} {v : V} (r : Rep K ρ H d v) : ∀ {ds : List D} {vs : List V} (n : Nat), RepL K ρ H ds vs → RepL K ρ H (ds.set n d) (vs.set n v)
  | [], _, _, h => by cases h; exact .nil
  | e :: ds, _, 0, h => by
    cases h with
    | cons h1 h2 => exact .cons r h2
  | e :: ds, _, n + 1, h => by
    cases h with
    | cons h1 h2 => exact .cons h1 (h2.set r n)
theorem RepL.reverse : ∀ {ds : List D} {vs : List V}, RepL K ρ H ds vs → RepL K ρ H ds.reverse vs.reverse
  | [], _, h => by cases h; exact .nil
  | d :: ds, _, h => by
    cases h with
    | cons h1 h2 => simp only [List.reverse_cons]; exact h2.reverse.append (.cons h1 .nil)
theorem RepL.dropLast : ∀ {ds : List D} {vs : List V}, RepL K ρ H ds vs → RepL K ρ H ds.dropLast vs.dropLast := fun {ds vs} h => by
  have e := h.length
  rw [List.dropLast_eq_take, List.dropLast_eq_take, e]
  exact h.take _
theorem RepL.flatten (k : Nat) : ∀ {ds : List D} {vs : List V}, RepL K ρ H ds vs → RepL K ρ H (List.replicate k ds).flatten (List.replicate k vs).flatten := fun {ds vs} h => by
  induction k with
  | zero => exact .nil
  | succ k ih => simp only [List.replicate_succ, List.flatten_cons]; exact h.append ih

/-- an object of the store -/
def ObR (K : PySem.W.Frag) (cl : Nat → Addr) (ρ : List Addr) (H : Hp) (a : Addr) : Ob → Prop
  | .lst xs => ∃ vs, H a = some (.lst vs) ∧ RepL K ρ H xs vs
  | .ins c fs => ∃ dx ws, H a = some (.ins (cl c) dx ws) ∧ ws.map (·.1) = fs.map (·.1) ∧ RepL K ρ H (fs.map (·.2)) (ws.map (·.2))
structure RelS (K : PySem.W.Frag) (cl : Nat → Addr) (ρ : List Addr) (H : Hp) (S : Sto) : Prop where
  len : ρ.length = S.length
  inj : ρ.Nodup
  obs : ∀ (n : Nat) (o : Ob), S[n]? = some o → ∃ a : Addr, ρ[n]? = some a ∧ ObR K cl ρ H a o
structure RelE (K : PySem.W.Frag) (ρ : List Addr) (H : Hp) (en : En) (σ : L2.St) : Prop where
  len : en.length = σ.length
  get : ∀ (i : Nat) (d : D), en[i]? = some (some d) → ∃ v : V, σ[i]? = some (some v) ∧ Rep K ρ H d v
theorem RelE.mono (x : Kp K ρ H ρ1 H1) {en : En} {σ : L2.St} (h : RelE K ρ H en σ) : RelE K ρ1 H1 en σ :=
  ⟨h.len, fun i d e => let ⟨v, q, r⟩ := h.get i d e; ⟨v, q, r.mono x⟩⟩
theorem RelE.ext (x : Ext ρ H ρ1 H1) {en : En} {σ : L2.St} (h : RelE K ρ H en σ) : RelE K ρ1 H1 en σ :=
  ⟨h.len, fun i d e => let ⟨v, q, r⟩ := h.get i d e; ⟨v, q, r.ext x⟩⟩
theorem RelE.set {en : En} {σ : L2.St} (h : RelE K ρ H en σ) {d : D} {v : V} (r : Rep K ρ H d v) (i : Nat) : RelE K ρ H (en.set i (some d)) (σ.set i (some v)) := by
  refine ⟨by simp [h.len], fun j e hj => ?_⟩
  by_cases q : i = j
  · subst q
    by_cases hi : i < en.length
    · rw [List.getElem?_set_self hi] at hj
      cases hj
      exact ⟨v, List.getElem?_set_self (by rw [← h.len]; exact hi), r⟩
    · rw [List.getElem?_eq_none (by simpa using hi)] at hj; cases hj
  · rw [List.getElem?_set_ne q] at hj
    rw [List.getElem?_set_ne q]
    exact h.get j e hj
theorem RelE.unset {en : En} {σ : L2.St} (h : RelE K ρ H en σ) (i : Nat) (o : Option V) : RelE K ρ H (en.set i none) (σ.set i o) := by
  refine ⟨by simp [h.len], fun j e hj => ?_⟩
  by_cases q : i = j
  · subst q
    by_cases hi : i < en.length
    · rw [List.getElem?_set_self hi] at hj; cases hj
    · rw [List.getElem?_eq_none (by simpa using hi)] at hj; cases hj
  · rw [List.getElem?_set_ne q] at hj
    rw [List.getElem?_set_ne q]
    exact h.get j e hj
theorem RelE.wipe {en : En} {σ : L2.St} (h : RelE K ρ H en σ) : ∀ vs : List Nat, RelE K ρ H (wipeE en vs) (wipe σ vs)
  | [] => h
  | v :: vs => (h.wipe vs).unset v none

/-! ### the store's places -/
section
variable {cl : Nat → Addr} {S : Sto}
theorem ObR.keep {a : Addr} {o : Ob} (h : ObR K cl ρ H a o) (hr : ∀ {xs : List D} {vs : List V}, RepL K ρ H xs vs → RepL K ρ1 H1 xs vs) (hk : ∀ u, H a = some u → H1 a = some u) : ObR K cl ρ1 H1 a o := by
  cases o with
  | lst xs => obtain ⟨vs, e, r⟩ := h; exact ⟨vs, hk _ e, hr r⟩
  | ins c fs => obtain ⟨dx, ws, e, m, r⟩ := h; exact ⟨dx, ws, hk _ e, m, hr r⟩
theorem ObR.there {a : Addr} {o : Ob} (h : ObR K cl ρ H a o) : H a ≠ none := by
  cases o with
  | lst xs => obtain ⟨vs, e, r⟩ := h; rw [e]; simp
  | ins c fs => obtain ⟨dx, ws, e, m, r⟩ := h; rw [e]; simp
theorem RelS.there (h : RelS K cl ρ H S) {b : Addr} (hb : b ∈ ρ) : H b ≠ none := by
  obtain ⟨n, hn, e⟩ := List.getElem_of_mem hb
  have e1 : ρ[n]? = some b := by rw [List.getElem?_eq_getElem hn, e]
  have hs : n < S.length := by rw [← h.len]; exact hn
  obtain ⟨a, e2, q⟩ := h.obs n S[n] (List.getElem?_eq_getElem hs)
  rw [e1] at e2; cases e2
  exact q.there
/-- a new place -/
theorem RelS.alloc (h : RelS K cl ρ H S) {p : Addr} {u : HO} {o : Ob} (hp : H p = none) (ho : ObR K cl (ρ ++ [p]) (upd H p u) p o) : Ext ρ H (ρ ++ [p]) (upd H p u) ∧ RelS K cl (ρ ++ [p]) (upd H p u) (S ++ [o]) := by
  have x : Ext ρ H (ρ ++ [p]) (upd H p u) := ⟨⟨[p], rfl⟩, fun b hb => by
    rcases List.mem_append.mp hb with z | z
    · exact .inl z
    · rw [List.mem_singleton.mp z]; exact .inr hp, fun b v e _ => by rw [upd_ne (ne_of_none e hp)]; exact e⟩
  have hlen := h.len
  refine ⟨x, ⟨by simp [hlen], ?_, fun n v e => ?_⟩⟩
  · rw [List.nodup_append]
    refine ⟨h.inj, by simp, fun a ha b hb z => ?_⟩
    rw [List.mem_singleton] at hb
    subst hb
    subst z
    exact h.there ha hp
  · by_cases hn : n < S.length
    · rw [List.getElem?_append_left hn] at e
      obtain ⟨b, e1, q⟩ := h.obs n v e
      exact ⟨b, x.get e1, q.keep (fun r => r.ext x) fun w hw => by rw [upd_ne (ne_of_none hw hp)]; exact hw⟩
    · have h1 := (List.getElem?_eq_some_iff.mp e).1
      have h2 : n = S.length := by simp at h1; omega
      subst h2
      rw [List.getElem?_append_right (Nat.le_refl _)] at e
      simp at e
      subst e
      exact ⟨p, by rw [← hlen]; simp, ho⟩
/-- a new untracked-by-the-store object (a tuple, an iterator's pair) -/
theorem RelS.laid (h : RelS K cl ρ H S) {p : Addr} {u : HO} (hp : H p = none) : Ext ρ H ρ (upd H p u) ∧ RelS K cl ρ (upd H p u) S := by
  have x : Ext ρ H ρ (upd H p u) := ⟨⟨[], (List.append_nil _).symm⟩, fun b hb => .inl hb, fun b v e _ => by rw [upd_ne (ne_of_none e hp)]; exact e⟩
  refine ⟨x, ⟨h.len, h.inj, fun n v e => ?_⟩⟩
  obtain ⟨b, e1, q⟩ := h.obs n v e
  exact ⟨b, e1, q.keep (fun r => r.ext x) fun w hw => by rw [upd_ne (ne_of_none hw hp)]; exact hw⟩
theorem nodup_get : ∀ {l : List Addr} {i j : Nat} {a : Addr}, l.Nodup → l[i]? = some a → l[j]? = some a → i = j := fun {l i j a} nd h1 h2 => by
  obtain ⟨p1, q1⟩ := List.getElem?_eq_some_iff.mp h1
  obtain ⟨p2, q2⟩ := List.getElem?_eq_some_iff.mp h2
  have pw := List.pairwise_iff_getElem.mp nd
  rcases Nat.lt_trichotomy i j with z | z | z
  · exact absurd (q1.trans q2.symm) (pw i j p1 p2 z)
  · exact z
  · exact absurd (q2.trans q1.symm) (pw j i p2 p1 z)
/-- a place written -/
theorem RelS.write (h : RelS K cl ρ H S) {n : Nat} {a : Addr} {o o' : Ob} {u : HO} (hn : ρ[n]? = some a) (ho : S[n]? = some o) (hm : Mut (H a))
    (new : Ext ρ H ρ (upd H a u) → ObR K cl ρ (upd H a u) a o') : Ext ρ H ρ (upd H a u) ∧ RelS K cl ρ (upd H a u) (S.set n o') := by
  have hmem : a ∈ ρ := List.mem_of_getElem? hn
  have x : Ext ρ H ρ (upd H a u) := ⟨⟨[], (List.append_nil _).symm⟩, fun b hb => .inl hb, fun b v e hb => by
    by_cases q : b = a
    · subst q
      have := hb hmem
      rw [e] at hm
      exact absurd hm this
    · rw [upd_ne q]; exact e⟩
  have hlt : n < S.length := (List.getElem?_eq_some_iff.mp ho).1
  refine ⟨x, ⟨by simp [h.len], h.inj, fun m v e => ?_⟩⟩
  by_cases q : n = m
  · subst q
    rw [List.getElem?_set_self hlt] at e
    cases e
    exact ⟨a, hn, new x⟩
  · rw [List.getElem?_set_ne q] at e
    obtain ⟨b, e1, r⟩ := h.obs m v e
    have hb : b ≠ a := fun z => by subst z; exact q (nodup_get h.inj hn e1)
    exact ⟨b, e1, r.keep (fun r => r.ext x) fun w hw => by rw [upd_ne hb]; exact hw⟩
/-- a list of nobody's written -/
theorem RelS.other (h : RelS K cl ρ H S) {D : Addr} {vs ws : List V} (hd : H D = some (.lst vs)) (hn : D ∉ ρ) : RelS K cl ρ (upd H D (.lst ws)) S := by
  refine ⟨h.len, h.inj, fun n o e => ?_⟩
  obtain ⟨a, e1, q⟩ := h.obs n o e
  have ha : a ≠ D := fun z => hn (z ▸ List.mem_of_getElem? e1)
  cases o with
  | lst xs => obtain ⟨vs', e2, r⟩ := q; exact ⟨a, e1, vs', by rw [upd_ne ha]; exact e2, r.mono (Kp.other hd)⟩
  | ins c fs => obtain ⟨dx, us, e2, m, r⟩ := q; exact ⟨a, e1, dx, us, by rw [upd_ne ha]; exact e2, m, r.mono (Kp.other hd)⟩
/-- a list that stands becomes a place -/
theorem RelS.adopt (h : RelS K cl ρ H S) {D : Addr} {vs : List V} {xs : List Ev.D} (hd : H D = some (.lst vs)) (hn : D ∉ ρ) (r : RepL K ρ H xs vs) : RelS K cl (ρ ++ [D]) H (S ++ [.lst xs]) := by
  have hlen := h.len
  refine ⟨by simp [hlen], ?_, fun n o e => ?_⟩
  · rw [List.nodup_append]
    refine ⟨h.inj, by simp, fun a ha b hb z => ?_⟩
    rw [List.mem_singleton] at hb
    subst hb
    subst z
    exact hn ha
  · by_cases hl : n < S.length
    · rw [List.getElem?_append_left hl] at e
      obtain ⟨a, e1, q⟩ := h.obs n o e
      refine ⟨a, (Kp.pre (K := K) (H := H)).get _ _ e1, ?_⟩
      cases o with
      | lst xs => obtain ⟨vs', e2, r⟩ := q; exact ⟨vs', e2, r.mono Kp.pre⟩
      | ins c fs => obtain ⟨dx, us, e2, m, r⟩ := q; exact ⟨dx, us, e2, m, r.mono Kp.pre⟩
    · have h1 := (List.getElem?_eq_some_iff.mp e).1
      have h2 : n = S.length := by simp at h1; omega
      subst h2
      rw [List.getElem?_append_right (Nat.le_refl _)] at e
      simp at e
      subst e
      exact ⟨D, by rw [← hlen]; simp, vs, hd, r.mono Kp.pre⟩
/-- a list as the layer's list -/
theorem lstOf_rep (s : RelS K cl ρ H S) {a : D} {v : V} {xs : List D} (e : lstOf S a = some xs) (r : Rep K ρ H a v) : ∃ p vs, v = .ref p ∧ SqL K H p vs ∧ RepL K ρ H xs vs := by
  cases a with
  | ref n =>
    unfold lstOf at e
    cases q : S[n]? with
    | none => simp [q] at e
    | some o =>
      cases o with
      | lst ys =>
        simp [q] at e; subst e
        obtain ⟨a, h1, vs, h2, h3⟩ := s.obs n _ q
        cases r with
        | ref h4 =>
          rw [h1] at h4; cases h4
          exact ⟨a, vs, rfl, SqL.of h2, h3⟩
      | ins c fs => simp [q] at e
  | fl ys =>
    cases e
    cases r with
    | fl h1 h2 => exact ⟨_, _, rfl, h1.l, h2⟩
  | _ => cases e
theorem RelS.lst (h : RelS K cl ρ H S) {n : Nat} {xs : List D} {v : V} (e : S[n]? = some (.lst xs)) (r : Rep K ρ H (.ref n) v) : ∃ a vs, v = .ref a ∧ ρ[n]? = some a ∧ H a = some (.lst vs) ∧ RepL K ρ H xs vs := by
  obtain ⟨a, h1, vs, h2, h3⟩ := h.obs n _ e
  cases r with
  | ref h4 =>
    rw [h1] at h4; cases h4
    exact ⟨a, vs, rfl, h1, h2, h3⟩
theorem seqOf_cases {d : D} {xs : List D} (e : seqOf S d = some xs) : d = .tup xs ∨ lstOf S d = some xs := by
  cases d with
  | tup ys => simp [seqOf] at e; subst e; exact .inl rfl
  | fl ys => exact .inr e
  | ref n => exact .inr e
  | _ => cases e
theorem seqOf_rep (h : RelS K cl ρ H S) {d : D} {xs : List D} {v : V} (e : seqOf S d = some xs) (r : Rep K ρ H d v) : ∃ a vs, v = .ref a ∧ (SqL K H a vs ∨ SqT K H a vs) ∧ RepL K ρ H xs vs := by
  rcases seqOf_cases e with q | q
  · subst q
    cases r with
    | tup h1 h2 => exact ⟨_, _, rfl, .inr h1, h2⟩
  · obtain ⟨a, vs, h1, h2, h3⟩ := lstOf_rep h q r
    exact ⟨a, vs, h1, .inl h2, h3⟩
end
end

/-! ### answers -/
def Aft (K : PySem.W.Frag) (cl : Nat → Addr) {α : Type} (ρ : List Addr) (H : Hp) (r : R α) (P : List Addr → Hp → Sto → α → Prop) (PX : Xc → List Addr → Hp → Sto → Prop) : Prop :=
  match r with
  | .stuck => False
  | .ok a S => ∀ ρ' H', Ext ρ H ρ' H' → RelS K cl ρ' H' S → P ρ' H' S a
  | .ex x S => ∀ ρ' H', Ext ρ H ρ' H' → RelS K cl ρ' H' S → PX x ρ' H' S
section
variable {K : PySem.W.Frag} {cl : Nat → Addr} {α β : Type} {ρ : List Addr} {H : Hp} {r : R α} {P P' : List Addr → Hp → Sto → α → Prop} {PX PX' : Xc → List Addr → Hp → Sto → Prop}
theorem Aft.imp (h : Aft K cl ρ H r P PX) (f : ∀ ρ' H' S a, Ext ρ H ρ' H' → RelS K cl ρ' H' S → P ρ' H' S a → P' ρ' H' S a) (g : ∀ x ρ' H' S, Ext ρ H ρ' H' → PX x ρ' H' S → PX' x ρ' H' S) : Aft K cl ρ H r P' PX' := by
  cases r with
  | stuck => exact h
  | ok a S => exact fun ρ' H' x s => f ρ' H' S a x s (h ρ' H' x s)
  | ex x S => exact fun ρ' H' y s => g x ρ' H' S y (h ρ' H' y s)
theorem Aft.ext {ρ0 : List Addr} {H0 : Hp} (h : Aft K cl ρ0 H0 r P PX) (x : Ext ρ0 H0 ρ H) : Aft K cl ρ H r P PX := by
  cases r with
  | stuck => exact h
  | ok a S => exact fun ρ' H' y s => h ρ' H' (x.trans y) s
  | ex z S => exact fun ρ' H' y s => h ρ' H' (x.trans y) s
theorem Aft.bind {k : α → Sto → R β} {P : List Addr → Hp → Sto → β → Prop} (h : Aft K cl ρ H (r.bind k) P PX) : Aft K cl ρ H r (fun ρ' H' S a => Aft K cl ρ' H' (k a S) P PX) PX := by
  cases r with
  | stuck => exact h
  | ok a S => exact fun ρ' H' x s => Aft.ext h x
  | ex x S => exact h
theorem Aft.noex (h : Aft K cl ρ H r.noex P PX) : Aft K cl ρ H r P fun _ _ _ _ => False := by
  cases r with
  | stuck => exact h
  | ok a S => exact h
  | ex x S => exact False.elim h
theorem Aft.bind0 {k : α → Sto → R β} {P : List Addr → Hp → Sto → β → Prop} (h : Aft K cl ρ H (r.bind k) P PX) : Aft K cl ρ H r (fun _ _ S a => Aft K cl ρ H (k a S) P PX) PX := by
  cases r with
  | stuck => exact h
  | ok a S => exact fun _ _ _ _ => h
  | ex x S => exact h
theorem R.bind_assoc {γ : Type} (r : R α) (k : α → Sto → R β) (f : β → Sto → R γ) : (r.bind k).bind f = r.bind fun a S => (k a S).bind f := by cases r <;> rfl
theorem Aft.here {a : α} {S : Sto} (h : Aft K cl ρ H (.ok a S) P PX) (s : RelS K cl ρ H S) : P ρ H S a := h ρ H (Ext.refl _ _) s
theorem Aft.of {o : Option α} {S : Sto} (h : Aft K cl ρ H (R.of o S) P PX) (s : RelS K cl ρ H S) : ∃ a, o = some a ∧ P ρ H S a := by
  cases o with
  | none => exact h.elim
  | some a => exact ⟨a, rfl, Aft.here (a := a) h s⟩
/-- a new list -/
theorem Aft.newL {S : Sto} {xs : List D} {vs : List V} {P : List Addr → Hp → Sto → D → Prop} (h : Aft K cl ρ H (.ok (.ref S.length) (S ++ [.lst xs])) P PX) (s : RelS K cl ρ H S) (r : RepL K ρ H xs vs) (p : Addr) (hp : H p = none) :
    P (ρ ++ [p]) (upd H p (.lst vs)) (S ++ [.lst xs]) (.ref S.length) ∧ Rep K (ρ ++ [p]) (upd H p (.lst vs)) (.ref S.length) (.ref p) := by
  have xx : Ext ρ H (ρ ++ [p]) (upd H p (.lst vs)) := ⟨⟨[p], rfl⟩, fun b hb => by
    rcases List.mem_append.mp hb with z | z
    · exact .inl z
    · rw [List.mem_singleton.mp z]; exact .inr hp, fun b v e _ => by rw [upd_ne (ne_of_none e hp)]; exact e⟩
  obtain ⟨x, s'⟩ := s.alloc (o := .lst xs) (u := .lst vs) hp ⟨vs, upd_same, r.ext xx⟩
  exact ⟨h _ _ x s', .ref (by rw [← s.len]; simp)⟩
/-- a new tuple -/
theorem Aft.newT {S : Sto} {xs : List D} {vs : List V} {P : List Addr → Hp → Sto → D → Prop} (h : Aft K cl ρ H (.ok (.tup xs) S) P PX) (s : RelS K cl ρ H S) (r : RepL K ρ H xs vs) (p : Addr) (hp : H p = none) :
    P ρ (upd H p (.tup vs)) S (.tup xs) ∧ Rep K ρ (upd H p (.tup vs)) (.tup xs) (.ref p) := by
  obtain ⟨x, s'⟩ := s.laid (u := .tup vs) hp
  exact ⟨h _ _ x s', .tup (SqT.of upd_same) (r.ext x)⟩
end

/-- how an exception of the text lies: its class's object, its own dict -/
def XR (K : PySem.W.Frag) (cl : Nat → Addr) (ρ : List Addr) (H : Hp) (x : Xc) (cls : Value) (d : Option Addr) : Prop :=
  cls = .ref (cl x.c) ∧ ∃ (a : Addr) (ws : List (Str × V)), d = some a ∧ H a = some (.xd ws) ∧ ∀ (f : Str) (dd : D), x.fs.lookup f = some dd → ∃ v, ws.lookup f = some v ∧ Rep K ρ H dd v

/-- an expression's reading by a meaning -/
def tE (K : PySem.W.Frag) (cl : Nat → Addr) (W : WX) (m : En → Sto → R D) : TE := fun σ H Q => ∃ ρ en S, RelE K ρ H en σ ∧ RelS K cl ρ H S ∧
  Aft K cl ρ H (m en S) (fun ρ' H' _ d => ∀ v, Rep K ρ' H' d v → Q v H') fun x ρ' H' _ => ∀ cls d, XR K cl ρ' H' x cls d → W cls d σ H'
def tA (K : PySem.W.Frag) (cl : Nat → Addr) (W : WX) (m : En → Sto → R (List D)) : TA := fun σ H Q => ∃ ρ en S, RelE K ρ H en σ ∧ RelS K cl ρ H S ∧
  Aft K cl ρ H (m en S) (fun ρ' H' _ ds => ∀ vs, RepL K ρ' H' ds vs → Q vs H') fun x ρ' H' _ => ∀ cls d, XR K cl ρ' H' x cls d → W cls d σ H'
def tB (K : PySem.W.Frag) (cl : Nat → Addr) (W : WX) (m : En → Sto → R Bool) : TT := fun σ H Q => ∃ ρ en S, RelE K ρ H en σ ∧ RelS K cl ρ H S ∧
  Aft K cl ρ H (m en S) (fun ρ' H' _ b => Q b H') fun x ρ' H' _ => ∀ cls d, XR K cl ρ' H' x cls d → W cls d σ H'
theorem _root_.L2.PE.weak {X : Cx} {e : Expr} {t t' : TE} (h : PE X e t') (f : ∀ σ H Q, t σ H Q → t' σ H Q) : PE X e t := ⟨fun pins s σ H Q I q => h.run pins s σ H Q I (f _ _ _ q)⟩
theorem _root_.L2.PA.weak {X : Cx} {e : List Expr} {t t' : TA} (h : PA X e t') (f : ∀ σ H Q, t σ H Q → t' σ H Q) : PA X e t := ⟨fun pos pins s σ H Q I q => h.run pos pins s σ H Q I (f _ _ _ q)⟩
theorem _root_.L2.PT.weak {X : Cx} {e : Expr} {t t' : TT} (h : PT X e t') (f : ∀ σ H Q, t σ H Q → t' σ H Q) : PT X e t := ⟨fun pins s σ H Q I q => h.run pins s σ H Q I (f _ _ _ q)⟩
end Ev
end
section
set_option Elab.async false
set_option linter.all false
set_option maxRecDepth 100000
set_option maxHeartbeats 4000000
set_option autoImplicit false
/-! Ev4: operators, built-ins, methods over plain data keep their meaning. -/
namespace Ev
open PySem PySem.Spec PyProof.Rows L2

section
variable {K : PySem.W.Frag} {cl : Nat → Addr} {ρ : List Addr} {H : Hp} {S : Sto}

/-! ### data -/
theorem mapO_spec {α β : Type} {f : α → Option β} : ∀ {l : List α} {bs : List β}, mapO f l = some bs → ∀ a ∈ l, ∃ b, f a = some b
  | [], _, _, a, h => by cases h
  | x :: r, bs, e, a, h => by
    unfold mapO at e
    cases q : f x with
    | none => rw [q] at e; cases e
    | some b =>
      rw [q] at e
      simp only [Option.bind_some] at e
      cases q2 : mapO f r with
      | none => rw [q2] at e; cases e
      | some cs =>
        rcases List.mem_cons.mp h with z | z
        · subst z; exact ⟨b, q⟩
        · exact mapO_spec q2 a z
theorem mapO_cons {α β : Type} {f : α → Option β} {x : α} {r : List α} {bs : List β} (e : mapO f (x :: r) = some bs) : ∃ b cs, f x = some b ∧ mapO f r = some cs ∧ bs = b :: cs := by
  unfold mapO at e
  cases q : f x with
  | none => rw [q] at e; cases e
  | some b =>
    rw [q] at e
    simp only [Option.bind_some] at e
    cases q2 : mapO f r with
    | none => rw [q2] at e; cases e
    | some cs =>
      rw [q2] at e
      simp only [Option.bind_some, Option.some.injEq] at e
      exact ⟨b, cs, rfl, rfl, e.symm⟩
theorem dpAll_of {n : Nat} (ih : ∀ {d : D} {v : V} {p : PyData}, toP S n d = some p → Rep K ρ H d v → Dp K H v p ∧ p.depth ≤ n) : ∀ {ds : List D} {vs : List V} {ps : List PyData}, mapO (toP S n) ds = some ps → RepL K ρ H ds vs →
    DpAll K H vs ps ∧ PyData.depthAll ps ≤ n
  | [], _, _, e, r => by
    cases r
    cases e
    exact ⟨.nil, Nat.zero_le _⟩
  | d :: ds, _, _, e, r => by
    obtain ⟨b, cs, h1, h2, rfl⟩ := mapO_cons e
    cases r with
    | cons r1 r2 =>
      obtain ⟨a1, a2⟩ := ih h1 r1
      obtain ⟨b1, b2⟩ := dpAll_of ih h2 r2
      exact ⟨.cons a1 b1, by simp only [PyData.depthAll]; omega⟩
theorem dp_of (s : RelS K cl ρ H S) : ∀ {n : Nat} {d : D} {v : V} {p : PyData}, toP S n d = some p → Rep K ρ H d v → Dp K H v p ∧ p.depth ≤ n
  | 0, d, _, _, e, _ => by cases d <;> cases e
  | n + 1, .non, _, _, e, r => by cases e; cases r; exact ⟨.non, by simp [PyData.depth]⟩
  | n + 1, .bl b, _, _, e, r => by cases e; cases r; exact ⟨.bl b, by simp [PyData.depth]⟩
  | n + 1, .int i, _, _, e, r => by cases e; cases r; exact ⟨.int i, by simp [PyData.depth]⟩
  | n + 1, .str l, _, _, e, r => by cases e; cases r; exact ⟨.str _, by simp [PyData.depth]⟩
  | n + 1, .tup xs, _, _, e, r => by
    simp only [toP] at e
    cases q : mapO (toP S n) xs with
    | none => rw [q] at e; cases e
    | some ps =>
      rw [q] at e
      simp only [Option.map_some, Option.some.injEq] at e
      subst e
      cases r with
      | tup h1 h2 =>
        obtain ⟨a, b⟩ := dpAll_of (fun e r => dp_of s e r) q h2
        exact ⟨.tup h1 a, by simp only [PyData.depth]; omega⟩
  | n + 1, .ref m, v, p, e, r => by
    have key : ∀ xs, lstOf S (.ref m) = some xs → (mapO (toP S n) xs).map PyData.list = some p → Dp K H v p ∧ p.depth ≤ n + 1 := fun xs hx e => by
      cases q : mapO (toP S n) xs with
      | none => rw [q] at e; cases e
      | some ps =>
        rw [q] at e
        simp only [Option.map_some, Option.some.injEq] at e
        subst e
        obtain ⟨a, vs, rfl, h2, h3⟩ := lstOf_rep s hx r
        obtain ⟨a, b⟩ := dpAll_of (fun e r => dp_of s e r) q h3
        exact ⟨.lst h2 a, by simp only [PyData.depth]; omega⟩
    simp only [toP] at e
    cases q : S[m]? with
    | none => rw [q] at e; cases e
    | some o =>
      rw [q] at e
      cases o with
      | lst xs => exact key xs (by simp [lstOf, q]) e
      | ins c fs => cases e
  | n + 1, .fl xs, v, p, e, r => by
    simp only [toP] at e
    cases q : mapO (toP S n) xs with
    | none => rw [q] at e; cases e
    | some ps =>
      rw [q] at e
      simp only [Option.map_some, Option.some.injEq] at e
      subst e
      obtain ⟨a, vs, rfl, h2, h3⟩ := lstOf_rep s (xs := xs) rfl r
      obtain ⟨a, b⟩ := dpAll_of (fun e r => dp_of s e r) q h3
      exact ⟨.lst h2 a, by simp only [PyData.depth]; omega⟩
theorem shaped_of {p : PyData} {n : Nat} (h : p.canLay0 = true) (hd : p.depth ≤ n) (hn : n ≤ 64) : SeqAt.shaped p = true := by
  unfold SeqAt.shaped
  rw [h, Bool.true_and]
  exact decide_eq_true (by omega)
end

/-! ### two values -/
/-- an operator's meaning is served by the layer's reading -/
def Val2 (K : PySem.W.Frag) (cl : Nat → Addr) (f : D → D → Sto → R D) (r : R2) : Prop :=
  ∀ (ρ : List Addr) (H : Hp) (S : Sto) (x y : D) (v w : V) (Q : VK) (PX : Xc → List Addr → Hp → Sto → Prop), RelS K cl ρ H S → Rep K ρ H x v → Rep K ρ H y w →
    Aft K cl ρ H (f x y S) (fun ρ' H' _ d => ∀ v, Rep K ρ' H' d v → Q v H') PX → r v w H Q
theorem lift2 {K : PySem.W.Frag} {cl : Nat → Addr} {W : WX} {f : D → D → Sto → R D} {r : R2} (hv : Val2 K cl f r) {ma mb : En → Sto → R D} {σ : L2.St} {H : Hp} {Q : VK}
    (h : tE K cl W (fun en S => (ma en S).bind fun x S => (mb en S).bind fun y S => f x y S) σ H Q) : tOp r (tE K cl W ma) (tE K cl W mb) σ H Q := by
  obtain ⟨ρ, en, S, he, hs, h⟩ := h
  refine ⟨ρ, en, S, he, hs, h.bind.imp (fun ρ1 H1 S1 x e1 s1 h1 v rv => ?_) fun x ρ1 H1 S1 _ p => p⟩
  refine ⟨ρ1, en, S1, he.ext e1, s1, h1.bind.imp (fun ρ2 H2 S2 y e2 s2 h2 w rw => ?_) fun x ρ1 H1 S1 _ p => p⟩
  exact hv ρ2 H2 S2 x y v w Q _ s2 (rv.ext e2) rw h2

section
variable {X : Cx}
theorem OpR.or3 {f : Value → Value → Sem Value} {r r' r'' : R2} (h : OpR X f r) (h' : OpR X f r') (h'' : OpR X f r'') : OpR X f (fun x y H Q => r x y H Q ∨ r' x y H Q ∨ r'' x y H Q) := h.or (h'.or h'')

/-! ### operators -/
abbrev rStr2 : R2 := fun x y H Q => ∃ i j, x = .str i ∧ y = .str j ∧ i.length + j.length ≤ sizeLine ∧ Q (.str (i ++ j)) H
def rAddD (K : PySem.W.Frag) : R2 := fun x y H Q => (rI0 fun i j => .int (i + j)) x y H Q ∨ rStr2 x y H Q ∨ rCatA K x y H Q ∨ rCat x y H Q
theorem or_add : OpR X (binaryOp .Add) (rAddD X.K) := op_add.or (op_add_str.or (op_catA.or op_cat))
theorem aft_stuck {K : PySem.W.Frag} {cl : Nat → Addr} {α : Type} {ρ : List Addr} {H : Hp} {P : List Addr → Hp → Sto → α → Prop} {PX : Xc → List Addr → Hp → Sto → Prop} {C : Prop} (h : Aft K cl ρ H (.stuck : R α) P PX) : C := False.elim h
theorem sl_eq : (16777216 : Nat) = sizeLine := sizeLine_eq.symm
theorem str_len (l : List Nat) : (⟨l.toArray⟩ : Str).length = l.length := by simp [Str.length]
theorem v_add {K : PySem.W.Frag} {cl : Nat → Addr} : Val2 K cl (binop .add) (rAddD K) := by
  intro ρ H S x y v w Q PX s rx ry h
  cases x with
  | int i => cases y with
    | int j => cases rx; cases ry; exact .inl ⟨i, j, rfl, rfl, h.here s _ (.int _)⟩
    | _ => exact aft_stuck h
  | str l => cases y with
    | str m =>
      simp only [binop] at h
      split at h
      · rename_i hz
        cases rx; cases ry
        refine .inr (.inl ⟨_, _, rfl, rfl, by rw [str_len, str_len, ← sl_eq]; exact hz, ?_⟩)
        rw [SX.S_cat]
        exact h.here s _ (.str _)
      · exact aft_stuck h
    | _ => exact aft_stuck h
  | tup xs => cases y with
    | tup ys =>
      simp only [binop] at h
      split at h
      · rename_i hz
        cases rx with
        | @tup _ a vs h1 h2 =>
        cases ry with
        | @tup _ b ws h3 h4 =>
        have l1 := h2.length
        have l2 := h4.length
        refine .inr (.inr (.inl ⟨_, _, _, _, rfl, rfl, h1, h3, by rw [← sl_eq]; omega, fun e => ?_, fun _ e => ?_, fun _ _ p hp => ?_⟩))
        · subst e
          cases h2
          exact h.here s _ (by simpa using Rep.tup h3 h4)
        · subst e
          cases h4
          exact h.here s _ (by simpa using Rep.tup h1 h2)
        · obtain ⟨q, r⟩ := h.newT s (h2.append h4) p hp
          exact q _ r
      · exact aft_stuck h
    | _ => exact aft_stuck h
  | ref m => cases y with
    | ref n =>
      simp only [binop] at h
      split at h
      · rename_i xs ys e1 e2
        split at h
        · rename_i hz
          obtain ⟨a, vs, rfl, _, g1, r1⟩ := s.lst e1 rx
          obtain ⟨b, ws, rfl, _, g2, r2⟩ := s.lst e2 ry
          refine .inr (.inr (.inr ⟨_, _, _, _, rfl, rfl, g1, g2, by rw [← sl_eq, ← r1.length, ← r2.length]; exact hz, fun p hp => ?_⟩))
          obtain ⟨q, r⟩ := h.newL s (r1.append r2) p hp
          exact q _ r
        · exact aft_stuck h
      · exact aft_stuck h
    | _ => exact aft_stuck h
  | _ => exact aft_stuck h
theorem v_sub {K : PySem.W.Frag} {cl : Nat → Addr} : Val2 K cl (binop .sub) (rI0 fun i j => .int (i - j)) := by
  intro ρ H S x y v w Q PX s rx ry h
  cases x with
  | int i => cases y with
    | int j => cases rx; cases ry; exact ⟨i, j, rfl, rfl, h.here s _ (.int _)⟩
    | _ => exact aft_stuck h
  | _ => exact aft_stuck h
/-- products of less than a hundred million bits -/
def CMulX (i j : Int) : Prop := i.natAbs.log2 + j.natAbs.log2 < 100000000
theorem CMulX.ok {i j : Int} (h : CMulX i j) : IntMulOk i j := by
  have few (y : Int) : Builtin.Int.intBits y ≤ y.natAbs.log2 + 1 := by
    unfold Builtin.Int.intBits; split <;> omega
  have few1 := few i
  have few2 := few j
  unfold CMulX at h
  have line : bitsLine = 134217728 := by decide
  intro z
  have z2 := (Bool.and_eq_true_iff.mp z).2
  have z3 : ((Builtin.Int.intBits i : Int) + (Builtin.Int.intBits j : Int)) > bitsLine := by simpa [Builtin.Int.intTooBig] using z2
  rw [line] at z3
  omega
theorem op_mulX : OpR X (binaryOp .Mult) (rI CMulX fun i j => .int (i * j)) := opI fun _ _ _ _ _ _ _ hc q => mul_int q hc.ok
def rMulD : R2 := fun x y H Q => (rI CMulX fun i j => .int (i * j)) x y H Q ∨ rRep x y H Q
theorem or_mul : OpR X (binaryOp .Mult) rMulD := op_mulX.or op_rep
theorem v_mul {K : PySem.W.Frag} {cl : Nat → Addr} : Val2 K cl (binop .mul) rMulD := by
  intro ρ H S x y v w Q PX s rx ry h
  cases x with
  | int i => cases y with
    | int j =>
      simp only [binop] at h
      split at h
      · rename_i hz
        cases rx; cases ry; exact .inl ⟨i, j, rfl, rfl, hz, h.here s _ (.int _)⟩
      · exact aft_stuck h
    | _ => exact aft_stuck h
  | ref m => cases y with
    | int k =>
      simp only [binop] at h
      split at h
      · rename_i xs e1
        split at h
        · rename_i hz
          obtain ⟨a, vs, rfl, _, g1, r1⟩ := s.lst e1 rx
          cases ry
          refine .inr ⟨_, _, _, rfl, rfl, g1, hz.1, hz.2.1, by rw [← sl_eq, ← r1.length]; exact hz.2.2, fun p hp => ?_⟩
          obtain ⟨q, r⟩ := h.newL s (r1.flatten k.toNat) p hp
          exact q _ r
        · exact aft_stuck h
      · exact aft_stuck h
    | _ => exact aft_stuck h
  | _ => exact aft_stuck h
/-- great divisions have their frames -/
def PyRoom (X : Cx) : Prop := ∀ (pins : List (Addr × Obj)) (s : Shared) (σ : L2.St) (H : Hp), Inv X pins σ H s → PySem.PylongRoom (model X.prog X.w) X.A s
def CDivX (_ j : Int) : Prop := j ≠ 0
theorem or_fdiv (hp : PyRoom X) : OpR X (binaryOp .FloorDiv) (rI CDivX fun i j => .int (i.fdiv j)) := by
  intro pins s σ H x y v u Q I rx ry h
  obtain ⟨i, j, rfl, rfl, hc, q⟩ := h
  obtain ⟨t, rfl⟩ := rx
  obtain ⟨t', rfl⟩ := ry
  exact floordiv_int hc ⟨.int (i.fdiv j), H, I.tok _, ⟨_, rfl⟩, q⟩ (.inr (hp pins s σ H I))
theorem v_fdiv {K : PySem.W.Frag} {cl : Nat → Addr} : Val2 K cl (binop .fdiv) (rI CDivX fun i j => .int (i.fdiv j)) := by
  intro ρ H S x y v w Q PX s rx ry h
  cases x with
  | int i => cases y with
    | int j =>
      simp only [binop] at h
      split at h
      · rename_i hz
        cases rx; cases ry; exact ⟨i, j, rfl, rfl, hz, h.here s _ (.int _)⟩
      · exact aft_stuck h
    | _ => exact aft_stuck h
  | _ => exact aft_stuck h
theorem v_mod {K : PySem.W.Frag} {cl : Nat → Addr} : Val2 K cl (binop .mod) (rI (fun _ j => j ≠ 0) fun i j => .int (i.fmod j)) := by
  intro ρ H S x y v w Q PX s rx ry h
  cases x with
  | int i => cases y with
    | int j =>
      simp only [binop] at h
      split at h
      · rename_i hz
        cases rx; cases ry; exact ⟨i, j, rfl, rfl, hz, h.here s _ (.int _)⟩
      · exact aft_stuck h
    | _ => exact aft_stuck h
  | _ => exact aft_stuck h
theorem v_pow {K : PySem.W.Frag} {cl : Nat → Addr} : Val2 K cl (binop .pow) (rI CPow fun i j => .int (i ^ j.toNat)) := by
  intro ρ H S x y v w Q PX s rx ry h
  cases x with
  | int i => cases y with
    | int j =>
      simp only [binop] at h
      split at h
      · rename_i hz
        cases rx; cases ry; exact ⟨i, j, rfl, rfl, hz, h.here s _ (.int _)⟩
      · exact aft_stuck h
    | _ => exact aft_stuck h
  | _ => exact aft_stuck h
/-- the syntax's operators -/
def op2 : Op2 → Operator
  | .add => .Add | .sub => .Sub | .mul => .Mult | .fdiv => .FloorDiv | .mod => .Mod | .pow => .Pow
theorem or_bin {K : PySem.W.Frag} {cl : Nat → Addr} (hp : PyRoom X) (hK : X.K = K) : ∀ o : Op2, ∃ r, OpR X (binaryOp (op2 o)) r ∧ Val2 K cl (binop o) r
  | .add => ⟨_, or_add, hK ▸ v_add⟩
  | .sub => ⟨_, op_sub, v_sub⟩
  | .mul => ⟨_, or_mul, v_mul⟩
  | .fdiv => ⟨_, or_fdiv hp, v_fdiv⟩
  | .mod => ⟨_, op_modN, v_mod⟩
  | .pow => ⟨_, op_pow, v_pow⟩

/-! ### comparisons -/
def VCmp (K : PySem.W.Frag) (cl : Nat → Addr) (f : D → D → Sto → Option Bool) (r : R2) : Prop :=
  ∀ (ρ : List Addr) (H : Hp) (S : Sto) (x y : D) (v w : V) (Q : VK) (b : Bool), RelS K cl ρ H S → Rep K ρ H x v → Rep K ρ H y w → f x y S = some b → Q (.bl b) H → r v w H Q
theorem VCmp.val {K : PySem.W.Frag} {cl : Nat → Addr} {f : D → D → Sto → Option Bool} {r : R2} (h : VCmp K cl f r) : Val2 K cl (fun x y S => R.of ((f x y S).map .bl) S) r := by
  intro ρ H S x y v w Q PX s rx ry q
  obtain ⟨a, e, p⟩ := q.of s
  cases z : f x y S with
  | none => rw [z] at e; cases e
  | some b =>
    rw [z] at e
    cases e
    exact h ρ H S x y v w Q b s rx ry z (p _ (.bl b))
def rEqX (K : PySem.W.Frag) : R2 := fun x y H Q => (∃ i j, x = .str i ∧ y = .str j ∧ Q (.bl (decide (i = j))) H) ∨ rEqD K x y H Q
theorem or_eq (hu : X.A.units + 64 < cLine) : OpR X (compareOp .Eq) (rEqX X.K) := by
  intro pins s σ H x y v u Q I rx ry h
  rcases h with ⟨i, j, rfl, rfl, q⟩ | h
  · refine op_eq pins s σ H _ _ v u Q I rx ry ⟨rfl, ?_⟩
    have e : decide (V.str i = V.str j) = decide (i = j) := decide_eq_decide.mpr ⟨fun z => V.str.inj z, fun z => by rw [z]⟩
    rw [e]; exact q
  · exact op_eqD hu pins s σ H x y v u Q I rx ry h
theorem toArr_eq {l m : List Nat} : decide ((⟨l.toArray⟩ : Str) = ⟨m.toArray⟩) = decide (l = m) := decide_eq_decide.mpr ⟨fun z => by simpa using z, fun z => by rw [z]⟩
theorem eqD_str (S : Sto) (l m : List Nat) : eqD S (.str l) (.str m) = some (decide (l = m)) := rfl
theorem v_eq {K : PySem.W.Frag} {cl : Nat → Addr} : VCmp K cl (cmpop .eq) (rEqX K) := by
  intro ρ H S x y v w Q b s rx ry e q
  have gen : ((toP S 20 x).bind fun p => (toP S 20 y).bind fun q => if p.canLay0 = true ∧ q.canLay0 = true then some (PyData.eqv p q) else none) = some b → rEqX K v w H Q := fun e => by
    cases e1 : toP S 20 x with
    | none => rw [e1] at e; cases e
    | some p =>
      cases e2 : toP S 20 y with
      | none => rw [e1, e2] at e; cases e
      | some p2 =>
        rw [e1, e2] at e
        simp only [Option.bind_some] at e
        split at e
        · rename_i hz
          cases e
          obtain ⟨a1, a2⟩ := dp_of s e1 rx
          obtain ⟨b1, b2⟩ := dp_of s e2 ry
          exact .inr ⟨p, p2, a1, b1, shaped_of hz.1 a2 (by decide), shaped_of hz.2 b2 (by decide), q⟩
        · cases e
  cases x with
  | str l => cases y with
    | str m =>
      cases rx; cases ry
      have e' : some (decide (l = m)) = some b := e
      cases e'
      refine .inl ⟨_, _, rfl, rfl, ?_⟩
      rw [toArr_eq]; exact q
    | _ => exact gen e
  | _ => exact gen e
def rNeX (K : PySem.W.Frag) : R2 := fun x y H Q => (∃ i j, x = .str i ∧ y = .str j ∧ Q (.bl (!decide (i = j))) H) ∨ rNeD K x y H Q
theorem or_ne (hu : X.A.units + 64 < cLine) : OpR X (compareOp .NotEq) (rNeX X.K) := by
  intro pins s σ H x y v u Q I rx ry h
  rcases h with ⟨i, j, rfl, rfl, q⟩ | h
  · refine op_ne pins s σ H _ _ v u Q I rx ry ⟨rfl, ?_⟩
    have e : decide (V.str i = V.str j) = decide (i = j) := decide_eq_decide.mpr ⟨fun z => V.str.inj z, fun z => by rw [z]⟩
    rw [e]; exact q
  · exact op_neD hu pins s σ H x y v u Q I rx ry h
theorem v_ne {K : PySem.W.Frag} {cl : Nat → Addr} : VCmp K cl (cmpop .ne) (rNeX K) := by
  intro ρ H S x y v w Q b s rx ry e q
  cases e0 : eqD S x y with
  | none =>
    have : (eqD S x y).map (!·) = some b := e
    rw [e0] at this; cases this
  | some c =>
    have : (eqD S x y).map (!·) = some b := e
    rw [e0] at this; cases this
    have h := v_eq ρ H S x y v w (fun z _ => z = .bl c) c s rx ry e0 rfl
    rcases h with ⟨i, j, h1, h2, h3⟩ | ⟨p, p2, h1, h2, h3, h4, h5⟩
    · refine .inl ⟨i, j, h1, h2, ?_⟩
      rw [show decide (i = j) = c from V.bl.inj h3]
      exact q
    · refine .inr ⟨p, p2, h1, h2, h3, h4, ?_⟩
      rw [show PyData.eqv p p2 = c from V.bl.inj h5]
      exact q
theorem v_lt {K : PySem.W.Frag} {cl : Nat → Addr} : VCmp K cl (cmpop .lt) (rI0 fun i j => .bl (decide (i < j))) := by
  intro ρ H S x y v w Q b s rx ry e q
  cases x <;> cases y <;> first | (cases e; done) | (cases rx; cases ry; cases e; exact ⟨_, _, rfl, rfl, q⟩)
theorem v_le {K : PySem.W.Frag} {cl : Nat → Addr} : VCmp K cl (cmpop .le) (rI0 fun i j => .bl (decide (i ≤ j))) := by
  intro ρ H S x y v w Q b s rx ry e q
  cases x <;> cases y <;> first | (cases e; done) | (cases rx; cases ry; cases e; exact ⟨_, _, rfl, rfl, q⟩)
theorem v_gt {K : PySem.W.Frag} {cl : Nat → Addr} : VCmp K cl (cmpop .gt) (rI0 fun i j => .bl (decide (j < i))) := by
  intro ρ H S x y v w Q b s rx ry e q
  cases x <;> cases y <;> first | (cases e; done) | (cases rx; cases ry; cases e; exact ⟨_, _, rfl, rfl, q⟩)
theorem v_ge {K : PySem.W.Frag} {cl : Nat → Addr} : VCmp K cl (cmpop .ge) (rI0 fun i j => .bl (decide (j ≤ i))) := by
  intro ρ H S x y v w Q b s rx ry e q
  cases x <;> cases y <;> first | (cases e; done) | (cases rx; cases ry; cases e; exact ⟨_, _, rfl, rfl, q⟩)
/-- x in a tuple -/
def rInT (K : PySem.W.Frag) : R2 := fun x y H Q => ∃ d ds, Dp K H x d ∧ Dp K H y (.tuple ds) ∧ SeqAt.shaped d = true ∧ SeqAt.shaped (.tuple ds) = true ∧ Q (.bl (ds.any fun z => PyData.eqv z d)) H
def rNotInT (K : PySem.W.Frag) : R2 := fun x y H Q => ∃ d ds, Dp K H x d ∧ Dp K H y (.tuple ds) ∧ SeqAt.shaped d = true ∧ SeqAt.shaped (.tuple ds) = true ∧ Q (.bl (!ds.any fun z => PyData.eqv z d)) H
theorem op_inT (hu : X.A.units + 65 < cLine) : OpR X (compareOp .In) (rInT X.K) := by
  intro pins s σ H x y v u Q I rx ry h
  obtain ⟨d, ds, hd, he, sd, se, q⟩ := h
  obtain ⟨as, r1⟩ := Dp.reads I d x v hd rx
  obtain ⟨bs, r2⟩ := Dp.reads I (.tuple ds) y u he ry
  exact SeqAt.in_tuple_reads r2 r1 (SeqAt.canLay_of_shaped se) (SeqAt.canLay_of_shaped sd) (room_in_shaped sd hu) ⟨.bl _, H, I, rfl, q⟩
theorem op_notInT (hu : X.A.units + 65 < cLine) : OpR X (compareOp .NotIn) (rNotInT X.K) := by
  intro pins s σ H x y v u Q I rx ry h
  obtain ⟨d, ds, hd, he, sd, se, q⟩ := h
  obtain ⟨as, r1⟩ := Dp.reads I d x v hd rx
  obtain ⟨bs, r2⟩ := Dp.reads I (.tuple ds) y u he ry
  exact SeqAt.notIn_tuple_reads r2 r1 (SeqAt.canLay_of_shaped se) (SeqAt.canLay_of_shaped sd) (room_in_shaped sd hu) ⟨.bl _, H, I, rfl, q⟩
def rInS : R2 := fun x y H Q => ∃ i j, x = .str i ∧ y = .str j ∧ Q (.bl (!(Builtin.Str.occurrences j i 0 j.length 1).isEmpty)) H
def rNotInS : R2 := fun x y H Q => ∃ i j, x = .str i ∧ y = .str j ∧ Q (.bl (!(!(Builtin.Str.occurrences j i 0 j.length 1).isEmpty))) H
def rInX (K : PySem.W.Frag) : R2 := fun x y H Q => rInS x y H Q ∨ rInD K x y H Q ∨ rInT K x y H Q
def rNotInX (K : PySem.W.Frag) : R2 := fun x y H Q => rNotInS x y H Q ∨ rNotInD K x y H Q ∨ rNotInT K x y H Q
theorem or_in (hu : X.A.units + 65 < cLine) : OpR X (compareOp .In) (rInX X.K) := op_in_str.or ((op_inD hu).or (op_inT hu))
theorem or_notin (hu : X.A.units + 65 < cLine) : OpR X (compareOp .NotIn) (rNotInX X.K) := op_notin_str.or ((op_notInD hu).or (op_notInT hu))
theorem inD_spec {S : Sto} {x : D} {xs : List D} {b : Bool} (e : inD S x xs = some b) : ∃ p qs, toP S 20 x = some p ∧ mapO (toP S 19) xs = some qs ∧ p.canLay0 = true ∧ PyData.canLayAll0 qs = true ∧ b = qs.any fun z => PyData.eqv z p := by
  unfold inD at e
  cases e1 : toP S 20 x with
  | none => rw [e1] at e; cases e
  | some p =>
    cases e2 : mapO (toP S 19) xs with
    | none => rw [e1, e2] at e; cases e
    | some qs =>
      rw [e1, e2] at e
      simp only [Option.bind_some] at e
      split at e
      · rename_i hz
        cases e
        exact ⟨p, qs, rfl, rfl, hz.1, hz.2, rfl⟩
      · cases e
theorem v_in {K : PySem.W.Frag} {cl : Nat → Addr} : VCmp K cl (cmpop .isin) (rInX K) := by
  intro ρ H S x y v w Q b s rx ry e q
  have e' : memS S x y = some b := e
  have gen : (seqOf S y).bind (fun xs => inD S x xs) = some b → rInX K v w H Q := fun e' => by
    cases e0 : seqOf S y with
    | none => rw [e0] at e'; cases e'
    | some xs =>
      rw [e0] at e'
      obtain ⟨p, qs, h1, h2, h3, h4, rfl⟩ := inD_spec (show inD S x xs = some b from e')
      obtain ⟨a1, a2⟩ := dp_of s h1 rx
      rcases seqOf_cases e0 with z | z
      · subst z
        cases ry with
        | tup g1 g2 =>
          obtain ⟨b1, b2⟩ := dpAll_of (fun e r => dp_of s e r) h2 g2
          exact .inr (.inr ⟨p, qs, a1, .tup g1 b1, shaped_of h3 a2 (by decide), shaped_of (n := 20) h4 (by simp only [PyData.depth]; omega) (by decide), q⟩)
      · obtain ⟨a, vs, rfl, g1, g2⟩ := lstOf_rep s z ry
        obtain ⟨b1, b2⟩ := dpAll_of (fun e r => dp_of s e r) h2 g2
        exact .inr (.inl ⟨p, qs, a1, .lst g1 b1, shaped_of h3 a2 (by decide), shaped_of (n := 20) h4 (by simp only [PyData.depth]; omega) (by decide), q⟩)
  cases y with
  | str l =>
    cases x with
    | str m =>
      match m, rx, e' with
      | [c], rx, e' =>
        cases rx; cases ry
        have e2 : some (decide (c ∈ l)) = some b := e'
        cases e2
        refine .inl ⟨_, _, rfl, rfl, ?_⟩
        rw [SX.in_one l c]
        exact q
    | _ => cases e'
  | _ => exact gen e'
theorem v_notin {K : PySem.W.Frag} {cl : Nat → Addr} : VCmp K cl (cmpop .notin) (rNotInX K) := by
  intro ρ H S x y v w Q b s rx ry e q
  have e1 : (memS S x y).map (!·) = some b := e
  cases e0 : memS S x y with
  | none => rw [e0] at e1; cases e1
  | some c =>
    rw [e0] at e1
    cases e1
    have h := v_in ρ H S x y v w (fun z _ => z = .bl c) c s rx ry e0 rfl
    rcases h with ⟨i, j, h1, h2, h3⟩ | ⟨p, p2, h1, h2, h3, h4, h5⟩ | ⟨p, p2, h1, h2, h3, h4, h5⟩
    · exact .inl ⟨i, j, h1, h2, by rw [show (!(Builtin.Str.occurrences j i 0 j.length 1).isEmpty) = c from V.bl.inj h3]; exact q⟩
    · exact .inr (.inl ⟨p, p2, h1, h2, h3, h4, by rw [show (p2.any fun z => PyData.eqv z p) = c from V.bl.inj h5]; exact q⟩)
    · exact .inr (.inr ⟨p, p2, h1, h2, h3, h4, by rw [show (p2.any fun z => PyData.eqv z p) = c from V.bl.inj h5]; exact q⟩)
def rIsX : R2 := fun x y H Q => (y = .non ∧ Q (.bl (decide (x = .non))) H) ∨ rIsB x y H Q
def rNotX : R2 := fun x y H Q => (y = .non ∧ Q (.bl (!decide (x = .non))) H) ∨ rNotB x y H Q
theorem or_is : OpR X (compareOp .Is) rIsX := op_isN.or op_isBl
theorem or_isnot : OpR X (compareOp .IsNot) rNotX := op_notN.or op_notBl
def isNon : D → Bool
  | .non => true
  | _ => false
theorem rep_non {K : PySem.W.Frag} {ρ : List Addr} {H : Hp} {d : D} {v : V} (r : Rep K ρ H d v) : isNon d = decide (v = .non) := by
  cases r <;> simp [isNon]
theorem isD_non (d : D) : isD d .non = some (isNon d) := by cases d <;> rfl
theorem v_is {K : PySem.W.Frag} {cl : Nat → Addr} : VCmp K cl (cmpop .is) rIsX := by
  intro ρ H S x y v w Q b s rx ry e q
  have e' : isD x y = some b := e
  cases y with
  | non =>
    rw [isD_non, rep_non rx] at e'
    cases e'
    cases ry
    exact .inl ⟨rfl, q⟩
  | bl k => cases x <;> first | (cases e'; done) | (cases rx; cases ry; cases e'; exact .inr ⟨_, _, rfl, rfl, q⟩)
  | _ => cases e'
theorem v_isnot {K : PySem.W.Frag} {cl : Nat → Addr} : VCmp K cl (cmpop .isnot) rNotX := by
  intro ρ H S x y v w Q b s rx ry e q
  have e' : (isD x y).map (!·) = some b := e
  cases y with
  | non =>
    rw [isD_non, rep_non rx] at e'
    cases e'
    cases ry
    exact .inl ⟨rfl, q⟩
  | bl k => cases x <;> first | (cases e'; done) | (cases rx; cases ry; cases e'; exact .inr ⟨_, _, rfl, rfl, q⟩)
  | _ => cases e'
def cmO : Cm → CmpOp
  | .eq => .Eq | .ne => .NotEq | .lt => .Lt | .le => .LtE | .gt => .Gt | .ge => .GtE | .isin => .In | .notin => .NotIn | .is => .Is | .isnot => .IsNot
theorem or_cmp {K : PySem.W.Frag} {cl : Nat → Addr} (hK : X.K = K) (hu : X.A.units + 65 < cLine) : ∀ o : Cm, ∃ r, OpR X (compareOp (cmO o)) r ∧ VCmp K cl (cmpop o) r
  | .eq => ⟨_, or_eq (by omega), hK ▸ v_eq⟩
  | .ne => ⟨_, or_ne (by omega), hK ▸ v_ne⟩
  | .lt => ⟨_, op_lt, v_lt⟩
  | .le => ⟨_, op_le, v_le⟩
  | .gt => ⟨_, op_gt, v_gt⟩
  | .ge => ⟨_, op_ge, v_ge⟩
  | .isin => ⟨_, or_in hu, hK ▸ v_in⟩
  | .notin => ⟨_, or_notin hu, hK ▸ v_notin⟩
  | .is => ⟨_, or_is, v_is⟩
  | .isnot => ⟨_, or_isnot, v_isnot⟩

/-! ### places, slices -/
theorem atI_rep {K : PySem.W.Frag} {ρ : List Addr} {H : Hp} {ds : List D} {vs : List V} {i : Int} {d : D} (r : RepL K ρ H ds vs) (e : atI ds i = some d) : ∃ v, atI vs i = some v ∧ Rep K ρ H d v := by
  unfold atI at e ⊢
  rw [r.length] at e
  cases q : L2.ixN vs.length i with
  | none => rw [q] at e; cases e
  | some j =>
    rw [q] at e
    exact r.get (by simpa using e)
theorem v_ix {K : PySem.W.Frag} {cl : Nat → Addr} : Val2 K cl (fun x y S => R.of (ixD S x y) S) (rIx K) := by
  intro ρ H S x y v w Q PX s rx ry h
  obtain ⟨d, e, p⟩ := h.of s
  cases y with
  | int i =>
    cases ry
    have gen : ∀ x, ((seqOf S x).bind fun xs => atI xs i) = some d → Rep K ρ H x v → rIx K v (.int i) H Q := fun x e rx => by
      cases e0 : seqOf S x with
      | none => rw [e0] at e; cases e
      | some xs =>
        rw [e0] at e
        obtain ⟨a, vs, rfl, g, r⟩ := seqOf_rep s e0 rx
        obtain ⟨u, h1, h2⟩ := atI_rep r (show atI xs i = some d from e)
        rcases g with g | g
        · exact .inl ⟨a, vs, i, u, rfl, rfl, g, h1, p _ h2⟩
        · exact .inr (.inl ⟨a, vs, i, u, rfl, rfl, g, h1, p _ h2⟩)
    cases x with
    | str l =>
      cases rx
      have e' : (if l.length ≤ 16777216 then (atI l i).map (fun c => D.str [c]) else none) = some d := e
      split at e'
      · rename_i hz
        cases e0 : atI l i with
        | none => rw [e0] at e'; cases e'
        | some c =>
          rw [e0] at e'
          cases e'
          exact .inr (.inr ⟨_, i, c, rfl, rfl, by rw [str_len, ← sl_eq]; exact hz, e0, p _ (.str [c])⟩)
      · cases e'
    | _ =>
      refine gen _ ?_ rx
      exact e
  | _ => cases e
def VSl (K : PySem.W.Frag) (cl : Nat → Addr) (f : D → Option Int → Option Int → Sto → R D) (r : V → Option Int → Option Int → Hp → VK → Prop) : Prop :=
  ∀ (ρ : List Addr) (H : Hp) (S : Sto) (x : D) (v : V) (lo hi : Option Int) (Q : VK) (PX : Xc → List Addr → Hp → Sto → Prop), RelS K cl ρ H S → Rep K ρ H x v →
    Aft K cl ρ H (f x lo hi S) (fun ρ' H' _ d => ∀ v, Rep K ρ' H' d v → Q v H') PX → r v lo hi H Q
theorem SlR.or {r r' : V → Option Int → Option Int → Hp → VK → Prop} (h : SlR X r) (h' : SlR X r') : SlR X (fun x lo hi H Q => r x lo hi H Q ∨ r' x lo hi H Q) := by
  intro pins s σ H x v vl vu lo hi sl Q I rx hs pl pu q
  rcases q with q | q
  · exact h pins s σ H x v vl vu lo hi sl Q I rx hs pl pu q
  · exact h' pins s σ H x v vl vu lo hi sl Q I rx hs pl pu q
def rSlS : V → Option Int → Option Int → Hp → VK → Prop := fun x lo hi H Q => ∃ z, x = .str z ∧ z.length ≤ sizeLine ∧ Q (.str (cutS z lo hi)) H
theorem sl_s : SlR X rSlS := sl_str
def rSlX' (K : PySem.W.Frag) : V → Option Int → Option Int → Hp → VK → Prop := fun x lo hi H Q => rSlS x lo hi H Q ∨ rSlA K x lo hi H Q ∨ rSlL K x lo hi H Q
theorem sr_sl : SlR X (rSlX' X.K) := SlR.or sl_s (SlR.or sl_tupA sl_list)
theorem RepL.cut {K : PySem.W.Frag} {ρ : List Addr} {H : Hp} {ds : List D} {vs : List V} (r : RepL K ρ H ds vs) (lo hi : Option Int) : RepL K ρ H (cut ds lo hi) (cutV vs lo hi) := by
  unfold Ev.cut cutV
  rw [r.length]
  exact (r.drop _).take _
theorem v_sl {K : PySem.W.Frag} {cl : Nat → Addr} : VSl K cl slD (rSlX' K) := by
  intro ρ H S x v lo hi Q PX s rx h
  cases x with
  | str l =>
    simp only [slD] at h
    split at h
    · rename_i hz
      cases rx
      refine .inl ⟨_, rfl, by rw [str_len, ← sl_eq]; exact hz, ?_⟩
      have q := h.here s _ (.str _)
      have e : (⟨(cut l lo hi).toArray⟩ : Str) = cutS ⟨l.toArray⟩ lo hi := by
        unfold cutS cut
        rw [str_len]
      rw [e] at q
      exact q
    · exact aft_stuck h
  | tup xs =>
    cases rx with
    | @tup _ a vs h1 h2 =>
    refine .inr (.inl ⟨a, vs, rfl, h1, fun e => ?_, fun _ p hp => ?_⟩)
    · have hc : cut xs lo hi = xs := by
        unfold cut
        rw [h2.length, e.1, e.2, ← h2.length]
        simp
      have q := h.here s _ (Rep.tup h1 (hc.symm ▸ h2))
      exact q
    · obtain ⟨q, r⟩ := Aft.newT (xs := cut xs lo hi) h s (h2.cut lo hi) p hp
      exact q _ r
  | _ =>
    simp only [slD] at h
    split at h
    · rename_i xs e0
      obtain ⟨a, vs, rfl, g1, g2⟩ := lstOf_rep s e0 rx
      refine .inr (.inr ⟨a, vs, rfl, g1, fun p hp => ?_⟩)
      obtain ⟨q, r⟩ := h.newL s (g2.cut lo hi) p hp
      exact q _ r
    · exact aft_stuck h
end
end Ev
end
section
set_option Elab.async false
set_option linter.all false
set_option maxRecDepth 100000
set_option maxHeartbeats 4000000
set_option autoImplicit false
/-! Ev5: built-ins and methods keep their meaning. -/
namespace Ev
open PySem PySem.Spec PyProof.Rows L2

def ValL (K : PySem.W.Frag) (cl : Nat → Addr) (f : List D → Sto → R D) (r : List V → Hp → VK → Prop) : Prop :=
  ∀ (ρ : List Addr) (H : Hp) (S : Sto) (xs : List D) (vs : List V) (Q : VK) (PX : Xc → List Addr → Hp → Sto → Prop), RelS K cl ρ H S → RepL K ρ H xs vs →
    Aft K cl ρ H (f xs S) (fun ρ' H' _ d => ∀ v, Rep K ρ' H' d v → Q v H') PX → r vs H Q

section
variable {X : Cx}
theorem CallR.or {f : Value} {r r' : List V → Hp → VK → Prop} (h : CallR X f r) (h' : CallR X f r') : CallR X f (fun xs H Q => r xs H Q ∨ r' xs H Q) := by
  intro pins s σ H xs us Q I r q
  rcases q with q | q
  · exact h pins s σ H xs us Q I r q
  · exact h' pins s σ H xs us Q I r q
section
variable {K : PySem.W.Frag} {ρ : List Addr} {H : Hp}
theorem repL1 {d : D} {vs : List V} (r : RepL K ρ H [d] vs) : ∃ v, vs = [v] ∧ Rep K ρ H d v := by
  cases r with
  | cons a b => cases b; exact ⟨_, rfl, a⟩
theorem repL2 {d e : D} {vs : List V} (r : RepL K ρ H [d, e] vs) : ∃ v w, vs = [v, w] ∧ Rep K ρ H d v ∧ Rep K ρ H e w := by
  cases r with
  | cons a b =>
    obtain ⟨w, rfl, c⟩ := repL1 b
    exact ⟨_, w, rfl, a, c⟩
theorem repL3 {d e f : D} {vs : List V} (r : RepL K ρ H [d, e, f] vs) : ∃ v w u, vs = [v, w, u] ∧ Rep K ρ H d v ∧ Rep K ρ H e w ∧ Rep K ρ H f u := by
  cases r with
  | cons a b =>
    obtain ⟨w, u, rfl, c, g⟩ := repL2 b
    exact ⟨_, w, u, rfl, a, c, g⟩
end
variable {K : PySem.W.Frag} {cl : Nat → Addr}

/-! ### len -/
theorem v_len : ValL K cl (bi .len) (fun xs H Q => (∃ z, xs = [.str z] ∧ z.length ≤ sizeLine ∧ Q (.int z.length) H) ∨ ∃ p ys, xs = [.ref p] ∧ (SqL K H p ys ∨ SqT K H p ys) ∧ Q (.int ys.length) H) := by
  intro ρ H S xs vs Q PX s r h
  unfold bi at h; split at h <;> first | exact aft_stuck h | contradiction | skip
  · obtain ⟨v, rfl, rv⟩ := repL1 r
    split at h
    · rename_i hz
      cases rv
      exact .inl ⟨_, rfl, by rw [str_len, ← sl_eq]; exact hz, by rw [str_len]; exact h.here s _ (.int _)⟩
    · exact aft_stuck h
  · rename_i a _ _
    obtain ⟨v, rfl, rv⟩ := repL1 r
    obtain ⟨d, e, q⟩ := h.of s
    cases e0 : seqOf S a with
    | none => rw [e0] at e; cases e
    | some xs =>
      rw [e0] at e
      cases e
      obtain ⟨p, ys, rfl, g, rr⟩ := seqOf_rep s e0 rv
      exact .inr ⟨p, ys, rfl, g, by rw [← rr.length]; exact q _ (.int _)⟩
/-! ### numbers -/
theorem v_abs : ValL K cl (bi .abs) (fun xs H Q => ∃ i, xs = [.int i] ∧ Q (.int (if i < 0 then -i else i)) H) := by
  intro ρ H S xs vs Q PX s r h
  unfold bi at h; split at h <;> first | exact aft_stuck h | contradiction | skip
  obtain ⟨v, rfl, rv⟩ := repL1 r
  cases rv
  exact ⟨_, rfl, h.here s _ (.int _)⟩
theorem v_int : ValL K cl (bi .int) (fun xs H Q => ((∃ i, xs = [.int i] ∧ Q (.int i) H) ∨ ∃ k, xs = [.bl k] ∧ Q (.int (if k then 1 else 0)) H) ∨ ∃ a n, xs = [.str a] ∧ PySem.intText? a = some n ∧ a.length ≤ 640 ∧ Q (.int n) H) := by
  intro ρ H S xs vs Q PX s r h
  unfold bi at h; split at h <;> first | exact aft_stuck h | contradiction | skip
  · obtain ⟨v, rfl, rv⟩ := repL1 r
    cases rv
    exact .inl (.inl ⟨_, rfl, h.here s _ (.int _)⟩)
  · rename_i l _
    obtain ⟨v, rfl, rv⟩ := repL1 r
    cases rv
    split at h
    · rename_i hz
      obtain ⟨d, e, q⟩ := h.of s
      cases e0 : PySem.intText? ⟨l.toArray⟩ with
      | none => rw [e0] at e; cases e
      | some n =>
        rw [e0] at e
        cases e
        exact .inr ⟨_, n, rfl, e0, by rw [str_len]; exact hz, q _ (.int _)⟩
    · exact aft_stuck h
theorem v_str : ValL K cl (bi .str) (fun xs H Q => ∃ i, xs = [.int i] ∧ i.natAbs.log2 < 1920 ∧ Q (.str (toString i)) H) := by
  intro ρ H S xs vs Q PX s r h
  unfold bi at h; split at h <;> first | exact aft_stuck h | contradiction | skip
  rename_i i _
  obtain ⟨v, rfl, rv⟩ := repL1 r
  cases rv
  split at h
  · rename_i hz
    refine ⟨i, rfl, hz, ?_⟩
    have q := h.here s _ (.str _)
    have e : (⟨(Str.ofString (toString i)).cps.toList.toArray⟩ : Str) = Str.ofString (toString i) := TL.mk_tl _
    rw [e] at q
    exact q
  · exact aft_stuck h
theorem call_max3 (hc : X.calm = true) : CallR X (.builtin "max") (fun xs H Q => ∃ i j k, xs = [.int i, .int j, .int k] ∧ Q (.int (maxI i [j, k])) H) := by
  intro pins s σ H xs us Q I r h
  obtain ⟨i, j, k, rfl, q⟩ := h
  cases r with
  | cons r1 r =>
    obtain ⟨u, w', rfl, ⟨t2, rfl⟩, ⟨t3, rfl⟩⟩ := vals2 r
    obtain ⟨t1, rfl⟩ := r1
    refine max_three_ints (I.ok.hd hc) fun h' tk kp => ⟨_, H, I.kept kp, ?_, q⟩
    simp only [maxI]
    by_cases h1 : j > i <;> by_cases h2 : k > j <;> by_cases h3 : k > i <;> simp only [h1, h2, h3, if_true, if_false] <;> exact ⟨_, rfl⟩
theorem v_max : ValL K cl (bi .max) (fun xs H Q => (∃ i j, xs = [.int i, .int j] ∧ Q (.int (if j > i then j else i)) H) ∨ ∃ i j k, xs = [.int i, .int j, .int k] ∧ Q (.int (maxI i [j, k])) H) := by
  intro ρ H S xs vs Q PX s r h
  unfold bi at h; split at h <;> first | exact aft_stuck h | contradiction | skip
  · obtain ⟨v, w, rfl, rv, rw⟩ := repL2 r
    cases rv; cases rw
    exact .inl ⟨_, _, rfl, h.here s _ (.int _)⟩
  · obtain ⟨v, w, u, rfl, rv, rw, ru⟩ := repL3 r
    cases rv; cases rw; cases ru
    exact .inr ⟨_, _, _, rfl, h.here s _ (.int _)⟩
theorem v_min : ValL K cl (bi .min) (fun xs H Q => ∃ i j, xs = [.int i, .int j] ∧ Q (.int (if j < i then j else i)) H) := by
  intro ρ H S xs vs Q PX s r h
  unfold bi at h; split at h <;> first | exact aft_stuck h | contradiction | skip
  obtain ⟨v, w, rfl, rv, rw⟩ := repL2 r
  cases rv; cases rw
  exact ⟨_, _, rfl, h.here s _ (.int _)⟩
theorem v_divmod : ValL K cl (bi .divmod) (fun xs H Q => ∃ i j, xs = [.int i, .int j] ∧ CDiv i j ∧ ∀ p, H p = none → Q (.ref p) (upd H p (.tup [.int (i / j), .int (i % j)]))) := by
  intro ρ H S xs vs Q PX s r h
  unfold bi at h; split at h <;> first | exact aft_stuck h | contradiction | skip
  obtain ⟨v, w, rfl, rv, rw⟩ := repL2 r
  cases rv; cases rw
  split at h
  · rename_i hz
    refine ⟨_, _, rfl, hz, fun p hp => ?_⟩
    obtain ⟨q, r⟩ := h.newT s (.cons (.int _) (.cons (.int _) .nil)) p hp
    exact q _ r
  · exact aft_stuck h
theorem v_gcd : ValL K cl (bi .gcd) rGcd := by
  intro ρ H S xs vs Q PX s r h
  unfold bi at h; split at h <;> first | exact aft_stuck h | contradiction | skip
  obtain ⟨v, w, rfl, rv, rw⟩ := repL2 r
  cases rv; cases rw
  exact ⟨_, _, rfl, h.here s _ (.int _)⟩
/-! ### tuple, list -/
theorem v_tuple : ValL K cl (bi .tuple) (fun xs H Q => ∃ p ys, xs = [.ref p] ∧ ((SqL K H p ys ∧ ∀ l, H l = none → Q (.ref l) (upd H l (.tup ys))) ∨ (SqT K H p ys ∧ Q (.ref p) H))) := by
  intro ρ H S xs vs Q PX s r h
  unfold bi at h; split at h <;> first | exact aft_stuck h | contradiction | skip
  · obtain ⟨v, rfl, rv⟩ := repL1 r
    cases rv with
    | tup h1 h2 => exact ⟨_, _, rfl, .inr ⟨h1, h.here s _ (.tup h1 h2)⟩⟩
  · rename_i a _ _
    obtain ⟨v, rfl, rv⟩ := repL1 r
    obtain ⟨d, e, _⟩ := h.of s
    cases e0 : lstOf S a with
    | none => rw [e0] at e; cases e
    | some xs =>
      rw [e0] at h
      obtain ⟨a, vs, rfl, h2, h3⟩ := lstOf_rep s e0 rv
      refine ⟨a, vs, rfl, .inl ⟨h2, fun p hp => ?_⟩⟩
      obtain ⟨q, r⟩ := Aft.newT (xs := xs) h s h3 p hp
      exact q _ r
theorem v_list : ValL K cl (bi .list) (fun xs H Q => ∃ p ys, xs = [.ref p] ∧ (SqL K H p ys ∨ SqT K H p ys) ∧ ∀ l, H l = none → Q (.ref l) (upd H l (.lst ys))) := by
  intro ρ H S xs vs Q PX s r h
  unfold bi at h; split at h <;> first | exact aft_stuck h | contradiction | skip
  obtain ⟨v, rfl, rv⟩ := repL1 r
  split at h
  · rename_i e0
    obtain ⟨a, vs, rfl, h2, h3⟩ := seqOf_rep s e0 rv
    refine ⟨a, vs, rfl, h2, fun p hp => ?_⟩
    obtain ⟨q, r⟩ := h.newL s h3 p hp
    exact q _ r
  · exact aft_stuck h
/-! ### sums -/
section
variable {ρ : List Addr} {H : Hp}
theorem ints_rep : ∀ {xs : List D} {vs : List V} {is : List Int}, RepL K ρ H xs vs → intsOf xs = some is → vs = is.map V.int
  | [], _, _, r, e => by cases r; cases e; rfl
  | d :: ds, _, _, r, e => by
    cases r with
    | cons r1 r2 =>
      cases d with
      | int i =>
        simp only [intsOf] at e
        cases q : intsOf ds with
        | none => rw [q] at e; cases e
        | some is =>
          rw [q] at e
          cases e
          cases r1
          rw [ints_rep r2 q]
          rfl
      | _ => cases e
theorem bls_rep : ∀ {xs : List D} {vs : List V} {is : List Bool}, RepL K ρ H xs vs → blsOf xs = some is → vs = is.map V.bl
  | [], _, _, r, e => by cases r; cases e; rfl
  | d :: ds, _, _, r, e => by
    cases r with
    | cons r1 r2 =>
      cases d with
      | bl i =>
        simp only [blsOf] at e
        cases q : blsOf ds with
        | none => rw [q] at e; cases e
        | some is =>
          rw [q] at e
          cases e
          cases r1
          rw [bls_rep r2 q]
          rfl
      | _ => cases e
theorem strs_rep : ∀ {xs : List D} {vs : List V} {is : List (List Nat)}, RepL K ρ H xs vs → strsOf xs = some is → vs = (is.map SX.S).map V.str
  | [], _, _, r, e => by cases r; cases e; rfl
  | d :: ds, _, _, r, e => by
    cases r with
    | cons r1 r2 =>
      cases d with
      | str i =>
        simp only [strsOf] at e
        cases q : strsOf ds with
        | none => rw [q] at e; cases e
        | some is =>
          rw [q] at e
          cases e
          cases r1
          rw [strs_rep r2 q]
          rfl
      | _ => cases e
theorem RepL.strs : ∀ (ls : List (List Nat)), RepL K ρ H (ls.map D.str) ((ls.map SX.S).map V.str)
  | [] => .nil
  | l :: ls => .cons (.str l) (RepL.strs ls)
end
theorem v_sum : ValL K cl (bi .sum) (rSum K) := by
  intro ρ H S xs vs Q PX s r h
  unfold bi at h; split at h <;> first | exact aft_stuck h | contradiction | skip
  rename_i a _
  obtain ⟨v, rfl, rv⟩ := repL1 r
  obtain ⟨d, e, q⟩ := h.of s
  cases e0 : lstOf S a with
  | none => rw [e0] at e; cases e
  | some xs =>
    cases e1 : intsOf xs with
    | none =>
      rw [e0] at e
      simp only [Option.bind_some] at e
      rw [e1] at e; cases e
    | some is =>
      rw [e0] at e
      simp only [Option.bind_some] at e
      rw [e1] at e
      cases e
      obtain ⟨p, ws, rfl, h2, h3⟩ := lstOf_rep s e0 rv
      rw [ints_rep h3 e1] at h2
      exact ⟨p, is, rfl, h2, q _ (.int _)⟩
theorem v_all : ValL K cl (bi .all) (rAll K) := by
  intro ρ H S xs vs Q PX s r h
  unfold bi at h; split at h <;> first | exact aft_stuck h | contradiction | skip
  rename_i a _
  obtain ⟨v, rfl, rv⟩ := repL1 r
  obtain ⟨d, e, q⟩ := h.of s
  cases e0 : lstOf S a with
  | none => rw [e0] at e; cases e
  | some xs =>
    cases e1 : blsOf xs with
    | none =>
      rw [e0] at e
      simp only [Option.bind_some] at e
      rw [e1] at e; cases e
    | some is =>
      rw [e0] at e
      simp only [Option.bind_some] at e
      rw [e1] at e
      cases e
      obtain ⟨p, ws, rfl, h2, h3⟩ := lstOf_rep s e0 rv
      rw [bls_rep h3 e1] at h2
      exact ⟨p, is, rfl, h2, q _ (.bl _)⟩
theorem v_any : ValL K cl (bi .any) (rAny K) := by
  intro ρ H S xs vs Q PX s r h
  unfold bi at h; split at h <;> first | exact aft_stuck h | contradiction | skip
  rename_i a _
  obtain ⟨v, rfl, rv⟩ := repL1 r
  obtain ⟨d, e, q⟩ := h.of s
  cases e0 : lstOf S a with
  | none => rw [e0] at e; cases e
  | some xs =>
    cases e1 : blsOf xs with
    | none =>
      rw [e0] at e
      simp only [Option.bind_some] at e
      rw [e1] at e; cases e
    | some is =>
      rw [e0] at e
      simp only [Option.bind_some] at e
      rw [e1] at e
      cases e
      obtain ⟨p, ws, rfl, h2, h3⟩ := lstOf_rep s e0 rv
      rw [bls_rep h3 e1] at h2
      exact ⟨p, is, rfl, h2, q _ (.bl _)⟩
/-! ### repr -/
theorem noDict_all {S : Sto} {n : Nat} (ih : ∀ (d : D) (p : PyData), toP S n d = some p → p.hasDict = false) : ∀ (ds : List D) (ps : List PyData), mapO (toP S n) ds = some ps → PyData.hasDictAll ps = false
  | [], _, e => by cases e; rfl
  | d :: ds, _, e => by
    obtain ⟨b, cs, h1, h2, rfl⟩ := mapO_cons e
    simp only [PyData.hasDictAll, ih d b h1, noDict_all ih ds cs h2, Bool.or_self]
theorem noDict_toP (S : Sto) : ∀ (n : Nat) (d : D) (p : PyData), toP S n d = some p → p.hasDict = false
  | 0, d, _, e => by cases d <;> cases e
  | n + 1, .non, _, e => by cases e; rfl
  | n + 1, .bl b, _, e => by cases e; rfl
  | n + 1, .int i, _, e => by cases e; rfl
  | n + 1, .str l, _, e => by cases e; rfl
  | n + 1, .tup xs, _, e => by
    simp only [toP] at e
    cases q : mapO (toP S n) xs with
    | none => rw [q] at e; cases e
    | some ps =>
      rw [q] at e
      cases e
      exact noDict_all (noDict_toP S n) xs ps q
  | n + 1, .ref m, p, e => by
    have key : ∀ xs, (mapO (toP S n) xs).map PyData.list = some p → p.hasDict = false := fun xs e => by
      cases q : mapO (toP S n) xs with
      | none => rw [q] at e; cases e
      | some ps =>
        rw [q] at e
        cases e
        exact noDict_all (noDict_toP S n) xs ps q
    simp only [toP] at e
    cases q : S[m]? with
    | none => rw [q] at e; cases e
    | some o =>
      rw [q] at e
      cases o with
      | lst xs => exact key xs e
      | ins c fs => cases e
  | n + 1, .fl xs, p, e => by
    simp only [toP] at e
    cases q : mapO (toP S n) xs with
    | none => rw [q] at e; cases e
    | some ps =>
      rw [q] at e
      cases e
      exact noDict_all (noDict_toP S n) xs ps q
def rRepr (K : PySem.W.Frag) : List V → Hp → VK → Prop := fun vs H Q => ∃ x p, vs = [x] ∧ Dp K H x p ∧ p.showable = true ∧ p.hasDict = false ∧ p.depth ≤ 20 ∧ p.shown.length ≤ sizeLine ∧ Q (.str p.shown) H
theorem call_repr (hg : X.A.guards = some []) (hu : X.A.units + 64 < cLine) : CallR X (.builtin "repr") (rRepr X.K) := by
  intro pins s σ H xs us Q I r h
  obtain ⟨x, p, rfl, hd, hs, hn, hdp, hz, q⟩ := h
  obtain ⟨u, rfl, ru⟩ := vals1 r
  obtain ⟨as, hr⟩ := Dp.reads I p x u hd ru
  cases x with
  | ref a =>
    cases ru
    exact repr_of_reads' hr hs (PyData.noDict_hsm hn) hg (by omega) (fun _ _ e => e) (fun h' t tk hk => ⟨.str _, H, I.kept hk, ⟨t, rfl⟩, q⟩) hz
  | non => cases hd; cases ru; exact PySem.P.repr_of_none ⟨.str _, H, I.tok _, ⟨_, rfl⟩, q⟩
  | bl b => cases hd; cases ru; exact PySem.P.repr_of_bool ⟨.str _, H, I.tok _, ⟨_, rfl⟩, q⟩
  | int i =>
    cases hd
    obtain ⟨t, rfl⟩ := ru
    exact PySem.P.repr_of_int (of_decide_eq_true hs) ⟨.str _, H, I.tok _, ⟨_, rfl⟩, q⟩
  | str z =>
    cases hd
    obtain ⟨t, rfl⟩ := ru
    exact PySem.P.repr_of_str ⟨.str _, H, I.tok _, ⟨_, rfl⟩, q⟩ hz
  | _ => cases hd
theorem v_repr : ValL K cl (bi .repr) (rRepr K) := by
  intro ρ H S xs vs Q PX s r h
  unfold bi at h; split at h <;> first | exact aft_stuck h | contradiction | skip
  rename_i a _
  obtain ⟨v, rfl, rv⟩ := repL1 r
  obtain ⟨d, e, q⟩ := h.of s
  unfold reprD at e
  cases e0 : toP S 20 a with
  | none => rw [e0] at e; cases e
  | some p =>
    rw [e0] at e
    simp only [Option.bind_some] at e
    split at e
    · rename_i hz
      cases e
      obtain ⟨a1, a2⟩ := dp_of s e0 rv
      refine ⟨v, p, rfl, a1, hz.1, noDict_toP S 20 a p e0, a2, by rw [← sl_eq]; exact hz.2, ?_⟩
      have q2 := q _ (.str _)
      have e : (⟨p.shown.cps.toList.toArray⟩ : Str) = p.shown := TL.mk_tl _
      rw [e] at q2
      exact q2
    · cases e
/-! ### isinstance -/
def tyN : Ty → String
  | .int => "int" | .bool => "bool" | .str => "str" | .tuple => "tuple" | .list => "list"
theorem v_isin (t : Ty) : ∀ (ρ : List Addr) (H : Hp) (S : Sto) (x : D) (v : V) (b : Bool), RelS K cl ρ H S → Rep K ρ H x v → isTy t x S = some b → ∃ T, TyX K H v T ∧ PySem.W.kitOne K T (.type (tyN t)) = some b := by
  intro ρ H S x v b s r e
  cases x with
  | non => cases r; cases e; exact ⟨_, .base .non, kit_ty (by cases t <;> decide +kernel)⟩
  | bl k => cases r; cases e; exact ⟨_, .base (.bl k), kit_ty (by cases t <;> decide +kernel)⟩
  | int k => cases r; cases e; exact ⟨_, .base (.int k), kit_ty (by cases t <;> decide +kernel)⟩
  | str k => cases r; cases e; exact ⟨_, .base (.str _), kit_ty (by cases t <;> decide +kernel)⟩
  | tup xs =>
    cases r with
    | tup h1 h2 =>
      cases e
      refine ⟨.type "tuple", ?_, kit_ty (by cases t <;> decide +kernel)⟩
      rcases h1 with (h1 | ⟨o, h1⟩) | ⟨o, its, n, h1, h2, _⟩
      · exact .base (.tup h1)
      · exact .fTuple h1
      · exact .kTuple h1 h2
  | ref n =>
    unfold isTy at e
    cases q : S[n]? with
    | none => simp [q] at e
    | some o =>
      cases o with
      | lst xs =>
        simp [q] at e
        obtain ⟨a, vs, rfl, h2, h3⟩ := lstOf_rep (xs := xs) s (by simp [lstOf, q]) r
        subst e
        refine ⟨.type "list", ?_, kit_ty (by cases t <;> decide +kernel)⟩
        rcases h2 with (h2 | ⟨o, h2⟩) | ⟨o, its, n, h2, h4, _⟩
        · exact .base (.lst h2)
        · exact .base (.frz h2)
        · exact .kList h2 h4
      | ins c fs => simp [q] at e
  | fl xs =>
    cases e
    cases r with
    | fl h2 h3 =>
      refine ⟨.type "list", ?_, kit_ty (by cases t <;> decide +kernel)⟩
      rcases h2 with ⟨o, h2⟩ | ⟨o, its, n, h2, h4, _⟩
      · exact .base (.frz h2)
      · exact .kList h2 h4
/-! ### the built-ins in one -/
def biN : Bi → String
  | .len => "len" | .abs => "abs" | .int => "int" | .str => "str" | .isin _ => "isinstance" | .tuple => "tuple" | .list => "list" | .max => "max" | .min => "min" | .divmod => "divmod" | .gcd => "gcd" | .sum => "sum" | .all => "all" | .any => "any" | .repr => "repr"
/-- a plain built-in: a function, or a type -/
inductive BiV where
  | fn (id : String) | ty (T : String)
def BiV.v : BiV → Value
  | .fn id => .builtin id
  | .ty T => .type T
def biV : Bi → BiV
  | .len => .fn "len" | .abs => .fn "abs" | .int => .ty "int" | .str => .ty "str" | .isin _ => .fn "isinstance" | .tuple => .ty "tuple" | .list => .ty "list" | .max => .fn "max" | .min => .fn "min" | .divmod => .fn "divmod" | .gcd => .fn "math.gcd" | .sum => .fn "sum" | .all => .fn "all" | .any => .fn "any" | .repr => .fn "repr"
def isIsin : Bi → Bool
  | .isin _ => true
  | _ => false
theorem or_bi (hK : X.K = K) (hc : X.calm = true) (hg : X.A.guards = some []) (hu : X.A.units + 64 < cLine) : ∀ b : Bi, isIsin b = false → ∃ r, CallR X (biV b).v r ∧ ValL K cl (bi b) r
  | .len, _ => ⟨_, CallR.or call_len_str call_len_seq, hK ▸ v_len⟩
  | .abs, _ => ⟨_, call_abs, v_abs⟩
  | .int, _ => ⟨_, CallR.or call_int1 call_int_str, v_int⟩
  | .str, _ => ⟨_, call_str_int, v_str⟩
  | .isin _, h => nomatch h
  | .tuple, _ => ⟨_, call_tuple_of, hK ▸ v_tuple⟩
  | .list, _ => ⟨_, call_list_of, hK ▸ v_list⟩
  | .max, _ => ⟨_, CallR.or (call_max2 hc) (call_max3 hc), v_max⟩
  | .min, _ => ⟨_, call_min2 hc, v_min⟩
  | .divmod, _ => ⟨_, call_divmod, v_divmod⟩
  | .gcd, _ => ⟨_, cr_gcd, v_gcd⟩
  | .sum, _ => ⟨_, cr_sum hc, hK ▸ v_sum⟩
  | .all, _ => ⟨_, cr_all hc, hK ▸ v_all⟩
  | .any, _ => ⟨_, cr_any hc, hK ▸ v_any⟩
  | .repr, _ => ⟨_, call_repr hg hu, hK ▸ v_repr⟩
/-! ### methods -/
def mtN : Mt → String
  | .append => "append" | .pop => "pop" | .join => "join" | .split => "split" | .rfind => "rfind" | .find => "find"
def mtT : Mt → String
  | .append => "list" | .pop => "list" | _ => "str"
def ValM (K : PySem.W.Frag) (cl : Nat → Addr) (f : D → List D → Sto → R D) (r : V → List V → Hp → VK → Prop) : Prop :=
  ∀ (ρ : List Addr) (H : Hp) (S : Sto) (x : D) (v : V) (xs : List D) (vs : List V) (Q : VK) (PX : Xc → List Addr → Hp → Sto → Prop), RelS K cl ρ H S → Rep K ρ H x v → RepL K ρ H xs vs →
    Aft K cl ρ H (f x xs S) (fun ρ' H' _ d => ∀ v, Rep K ρ' H' d v → Q v H') PX → r v vs H Q
theorem v_mtTy {ρ : List Addr} {H : Hp} {S : Sto} {x : D} {v : V} (m : Mt) (s : RelS K cl ρ H S) (r : Rep K ρ H x v) (h : mtTy m x S = true) : tyV K (mtT m) v H := by
  have ls : (lstOf S x).isSome = true → tyV K "list" v H := fun h => by
    obtain ⟨xs, e⟩ := Option.isSome_iff_exists.mp h
    obtain ⟨p, ws, rfl, h2, _⟩ := lstOf_rep s e r
    exact .inl ⟨rfl, ws, h2⟩
  have st : mtTy .join x S = true → tyV K "str" v H := fun h => by
    cases x with
    | str l => cases r; rfl
    | _ => cases h
  cases m with
  | append => exact ls h
  | pop => exact ls h
  | join => exact st h
  | split => exact st h
  | rfind => exact st h
  | find => exact st h
theorem v_append : ValM K cl (mt .append) rAppend := by
  intro ρ H S x v xs vs Q PX s rx r h
  unfold mt at h; split at h <;> first | exact aft_stuck h | contradiction | skip
  split at h
  · rename_i n y _ _ ys e1
    split at h
    · rename_i hz
      obtain ⟨a, ws, rfl, g0, g1, g2⟩ := s.lst e1 rx
      obtain ⟨w, rfl, ry⟩ := repL1 r
      have hw := s.write (o' := .lst (ys ++ [y])) (u := .lst (ws ++ [w])) g0 e1 (by rw [g1]; trivial) fun x => ⟨_, upd_same, (g2.append (.cons ry .nil)).ext x⟩
      refine ⟨a, ws, w, rfl, rfl, g1, by rw [← sl_eq, ← g2.length]; exact hz, ?_⟩
      exact h _ _ hw.1 hw.2 _ .non
    · exact aft_stuck h
  · exact aft_stuck h
theorem v_pop : ValM K cl (mt .pop) rPop := by
  intro ρ H S x v xs vs Q PX s rx r h
  unfold mt at h; split at h <;> first | exact aft_stuck h | contradiction | skip
  split at h
  · rename_i n _ _ ys e1
    split at h
    · rename_i z e2
      obtain ⟨a, ws, rfl, g0, g1, g2⟩ := s.lst e1 rx
      cases r
      obtain ⟨w, q1, q2⟩ := g2.get e2
      have hw := s.write (o' := .lst ys.dropLast) (u := .lst ws.dropLast) g0 e1 (by rw [g1]; trivial) fun x => ⟨_, upd_same, g2.dropLast.ext x⟩
      refine ⟨a, ws, w, rfl, rfl, g1, by rw [← g2.length]; exact q1, ?_⟩
      exact h _ _ hw.1 hw.2 _ (q2.ext hw.1)
    · exact aft_stuck h
  · exact aft_stuck h
theorem v_join : ValM K cl (mt .join) (fun x xs H Q => ∃ a p, ∃ ys : List Str, x = .str a ∧ xs = [.ref p] ∧ (SqL K H p (ys.map V.str) ∨ SqT K H p (ys.map V.str)) ∧
    (ys.map (·.length)).sum + ys.length * a.length ≤ 16777216 ∧ Q (.str (Txt.join a ys)) H) := by
  intro ρ H S x v xs vs Q PX s rx r h
  unfold mt at h; split at h <;> first | exact aft_stuck h | contradiction | skip
  rename_i l b _
  split at h
  · rename_i ys e1
    split at h
    · rename_i hz
      cases e0 : seqOf S b with
      | none => rw [e0] at e1; cases e1
      | some ds =>
        rw [e0] at e1
        have e1' : strsOf ds = some ys := e1
        obtain ⟨w, rfl, rw⟩ := repL1 r
        obtain ⟨p, ws, rfl, g, gr⟩ := seqOf_rep s e0 rw
        rw [strs_rep gr e1'] at g
        cases rx
        refine ⟨_, p, ys.map SX.S, rfl, rfl, g, ?_, ?_⟩
        · rw [SX.lens, List.length_map, str_len]
          exact hz
        · have q := h.here s _ (.str _)
          have e : Txt.join (SX.S l) (ys.map SX.S) = SX.S (TL.joinL l ys) := SX.join_S l ys
          show Q (.str (Txt.join (SX.S l) (ys.map SX.S))) H
          rw [e]
          exact q
    · exact aft_stuck h
  · exact aft_stuck h
theorem v_split : ValM K cl (mt .split) (fun x xs H Q => ∃ a b, x = .str a ∧ xs = [.str b] ∧ (b.length == 0) = false ∧ a.length + 2 ≤ sizeLine ∧ rNewStrs (Txt.split a b) H Q) := by
  intro ρ H S x v xs vs Q PX s rx r h
  unfold mt at h; split at h <;> first | exact aft_stuck h | contradiction | skip
  rename_i l m _
  split at h
  · rename_i hz
    obtain ⟨w, rfl, rw⟩ := repL1 r
    cases rx
    cases rw
    refine ⟨_, _, rfl, rfl, ?_, by rw [← sl_eq, str_len]; exact hz.2.1, fun p hp => ?_⟩
    · rw [str_len]
      cases m with
      | nil => exact absurd rfl hz.1
      | cons _ _ => rfl
    · have e : Txt.split (SX.S l) (SX.S m) = (TL.spl m 0 [] l).map SX.S := SX.split_S hz.1 hz.2.2
      show Q (.ref p) (upd H p (.lst ((Txt.split (SX.S l) (SX.S m)).map V.str)))
      rw [e]
      obtain ⟨q, r⟩ := h.newL s (RepL.strs _) p hp
      exact q _ r
  · exact aft_stuck h
theorem v_rfind : ValM K cl (mt .rfind) (fun x xs H Q => ∃ a b, x = .str a ∧ xs = [.str b] ∧ Q (.int (Txt.rfind a b)) H) := by
  intro ρ H S x v xs vs Q PX s rx r h
  unfold mt at h; split at h <;> first | exact aft_stuck h | contradiction | skip
  obtain ⟨w, rfl, rw⟩ := repL1 r
  cases rx
  cases rw
  exact ⟨_, _, rfl, rfl, h.here s _ (.int _)⟩
theorem v_find : ValM K cl (mt .find) (fun x xs H Q => ∃ a b, x = .str a ∧ xs = [.str b] ∧ Q (.int (Txt.find a b)) H) := by
  intro ρ H S x v xs vs Q PX s rx r h
  unfold mt at h; split at h <;> first | exact aft_stuck h | contradiction | skip
  obtain ⟨w, rfl, rw⟩ := repL1 r
  cases rx
  cases rw
  exact ⟨_, _, rfl, rfl, h.here s _ (.int _)⟩
theorem or_mt (hK : X.K = K) : ∀ m : Mt, ∃ id r, PlainAttrs (mtT m) ∧ Slot (mtT m) (mtN m) id ∧ typeOf (.builtin id) = pure (.type "method_descriptor") ∧ MtR X id r ∧ ValM K cl (mt m) r
  | .append => ⟨_, _, PySem.F.plainAttrs_list, PySem.F.slot_list_append, PySem.F.type_list_append, mt_append, v_append⟩
  | .pop => ⟨_, _, PySem.F.plainAttrs_list, PySem.F.slot_list_pop, PySem.F.type_list_pop, mt_pop, v_pop⟩
  | .join => ⟨_, _, PySem.F.plainAttrs_str, PySem.F.slot_str_join, PySem.F.type_str_join, mt_join, hK ▸ v_join⟩
  | .split => ⟨_, _, PySem.F.plainAttrs_str, PySem.F.slot_str_split, PySem.F.type_str_split, mt_split, v_split⟩
  | .rfind => ⟨_, _, PySem.F.plainAttrs_str, PySem.F.slot_str_rfind, PySem.F.type_str_rfind, mt_rfind, v_rfind⟩
  | .find => ⟨_, _, PySem.F.plainAttrs_str, PySem.F.slot_str_find, PySem.F.type_str_find, mt_find, v_find⟩
end
end Ev
end
section
set_option Elab.async false
set_option linter.all false
set_option maxRecDepth 100000
set_option maxHeartbeats 4000000
set_option autoImplicit false
/-! Ev6: own syntax against the row's syntax: the checker. -/
namespace Ev
open PySem PySem.Spec PyProof.Rows L2

/-- the names of the text: its defs with their parameters, its constants, the forms of calls with keywords: def, positional values, keywords, the order -/
structure Tbl where
  fns : List (Str × List Str)
  cns : List Str
  kws : List (Nat × Nat × List Str × List Nat)
  ecs : List (Str × Cls) := []

def visB (sc : Scope) (x : Str) : Bool := match sc.names.lookup x with
  | some .local => true
  | some .cell => true
  | some .free => true
  | _ => false
def locB (sc : Scope) (x : Str) : Bool := match sc.names.lookup x with
  | some .local => true
  | some .cell => true
  | _ => false
def glB (sc : Scope) (x : Str) : Bool := match sc.names.lookup x with
  | some .globalImplicit => true
  | _ => false
def plN (x : Str) : Bool := !(x == ("__debug__" : Str)) && (!(x == ("__classdict__" : Str)) && !(x == ("__name__" : Str)))
theorem vis_of {sc : Scope} {x : Str} (h : visB sc x = true) : Vis sc x := by
  unfold visB at h
  unfold Vis
  split at h
  · exact .inl (by assumption)
  · exact .inr (.inl (by assumption))
  · exact .inr (.inr (by assumption))
  · cases h
theorem loc_of {sc : Scope} {x : Str} (h : locB sc x = true) : L2.Loc sc x := by
  unfold locB at h
  unfold L2.Loc
  split at h
  · exact .inl (by assumption)
  · exact .inr (by assumption)
  · cases h
theorem gl_of {sc : Scope} {x : Str} (h : glB sc x = true) : sc.names.lookup x = some .globalImplicit := by
  unfold glB at h
  split at h
  · assumption
  · cases h
theorem pl_of {x : Str} (h : plN x = true) : (x == ("__debug__" : Str)) = false ∧ (x == ("__classdict__" : Str)) = false ∧ x ≠ "__name__" := by
  unfold plN at h
  simp only [Bool.and_eq_true, Bool.not_eq_true'] at h
  exact ⟨h.1, h.2.1, by
    have := h.2.2
    simpa using this⟩
theorem ba {a b : Bool} (h : (a && b) = true) : a = true ∧ b = true := Bool.and_eq_true_iff.mp h

def notStar : PySem.Expr → Bool
  | .Starred .. => false
  | _ => true
def notSlice : PySem.Expr → Bool
  | .Slice .. => false
  | _ => true
def notSet : PySem.Expr → Bool
  | .Set .. => false
  | _ => true
def notCall0 : PySem.Expr → Bool
  | .Call (.Name _ _) [] [] _ => false
  | _ => true
def notComp : PySem.Expr → Bool
  | .ListComp .. => false
  | .SetComp .. => false
  | .DictComp .. => false
  | _ => true
def isTup : PySem.Expr → Bool
  | .Tuple .. => true
  | _ => false
def opB : Op2 → Operator → Bool
  | .add, .Add => true | .sub, .Sub => true | .mul, .Mult => true | .fdiv, .FloorDiv => true | .mod, .Mod => true | .pow, .Pow => true
  | _, _ => false
def cmB : Cm → CmpOp → Bool
  | .eq, .Eq => true | .ne, .NotEq => true | .lt, .Lt => true | .le, .LtE => true | .gt, .Gt => true | .ge, .GtE => true | .isin, .In => true | .notin, .NotIn => true | .is, .Is => true | .isnot, .IsNot => true
  | _, _ => false
theorem opB_of {o : Op2} {p : Operator} (h : opB o p = true) : p = op2 o := by cases o <;> cases p <;> first | rfl | cases h
theorem cmB_of {o : Cm} {p : CmpOp} (h : cmB o p = true) : p = cmO o := by cases o <;> cases p <;> first | rfl | cases h
def cstB : D → Const → Bool
  | .non, .none => true
  | .bl b, .bool c => b == c
  | .int i, .int j => decide (i = j)
  | .str l, .str x => decide (l = x.cps.toList)
  | _, _ => false
/-- a block's scope as it stands within a def's -/
def relB (scope sc : Scope) : Scope := { scope with names := scope.names.map fun (n, k) => if (k == NameKind.free && sc.kind == .function && sc.names.lookup n == some .cell) then (n, NameKind.cell) else (n, k) }
theorem rel_eq (scope : Scope) (env : Env) : relabel scope env = relB scope env.scope := rfl
def cellB (sc : Scope) (x : Str) : Bool := sc.names.lookup x == some .cell
def loclB (sc : Scope) (x : Str) : Bool := match sc.names.lookup x with
  | some .local => true
  | _ => false
theorem locl_of {sc : Scope} {x : Str} (h : loclB sc x = true) : sc.names.lookup x = some .local := by
  unfold loclB at h
  split at h
  · assumption
  · cases h
mutual
/-- a comprehension's target, its names own ones (sc: the block's scope as written, rs: as it stands) -/
def chkP (N : List Str) (sc rs : Scope) (own : List (Str × Nat)) : Pt → PySem.Expr → Bool
  | .nm i, .Name x _ => decide (N[i]? = some x) && (locB rs x && ((cellB sc x || loclB rs x) && own.contains (x, i)))
  | .tup ps, .Tuple es _ _ => chkPs N sc rs own ps es
  | _, _ => false
def chkPs (N : List Str) (sc rs : Scope) (own : List (Str × Nat)) : List Pt → List PySem.Expr → Bool
  | [], [] => true
  | p :: ps, e :: es => notStar e && (chkP N sc rs own p e && chkPs N sc rs own ps es)
  | _, _ => false
end
def Es.len : Es → Nat
  | .nil => 0
  | .cons _ r => r.len + 1
  | .star _ r => r.len + 1
def Es.plain : Es → Bool
  | .nil => true
  | .cons _ r => r.plain
  | .star _ _ => false
/-- the keywords' names -/
def kwN : List Keyword → List (Option Str)
  | [] => []
  | ⟨n, _, _⟩ :: r => n :: kwN r
def kwV : List Keyword → List PySem.Expr
  | [] => []
  | ⟨_, v, _⟩ :: r => v :: kwV r

section
variable (T : Tbl) (N : List Str)
mutual
def chkE (sc : Scope) : E → PySem.Expr → Bool
  | .var i, .Name x _ => decide (N[i]? = some x) && (visB sc x && plN x)
  | .cst d, .Constant c _ _ => cstB d c
  | .glb i, .Name x _ => decide (T.cns[i]? = some x) && (glB sc x && plN x)
  | .bin o a b, .BinOp pa op pb _ => opB o op && (chkE sc a pa && chkE sc b pb)
  | .neg a, .UnaryOp .USub pa _ => chkE sc a pa
  | .not a, .UnaryOp .Not pa _ => chkE sc a pa
  | .and a b, .BoolOp .And (pa :: r) pos => chkE sc a pa && (match r with
    | [] => false
    | [pb] => chkE sc b pb
    | r => chkE sc b (.BoolOp .And r pos))
  | .or a b, .BoolOp .Or (pa :: r) pos => chkE sc a pa && (match r with
    | [] => false
    | [pb] => chkE sc b pb
    | r => chkE sc b (.BoolOp .Or r pos))
  | .ite c a b, .IfExp pc pa pb _ => chkE sc c pc && (chkE sc a pa && chkE sc b pb)
  | .cmp o a b, .Compare pa [op] [pb] _ => cmB o op && (notSet pb && (chkE sc a pa && chkE sc b pb))
  | .chain o p a b c, .Compare pa [op, op'] [pb, pc] _ => (cmB o op && cmB p op') && (notSet pc && (chkE sc a pa && (chkE sc b pb && chkE sc c pc)))
  | .tup es, .Tuple ps _ _ => chkEs sc es ps
  | .lst es, .List ps _ => chkEs sc es ps
  | .ix a b, .Subscript pa pb _ => notSlice pb && (chkE sc a pa && chkE sc b pb)
  | .sl a lo hi, .Subscript pa (.Slice plo phi none _) _ => chkE sc a pa && (chkO sc lo plo && chkO sc hi phi)
  | .rev a, .Subscript pa (.Slice none none (some (.UnaryOp .USub (.Constant (.int i) _ _) _)) _) _ => decide (i = 1) && chkE sc a pa
  | .call f es, .Call (.Name x _) ps [] _ => (match T.fns[f]? with
      | some (y, qs) => decide (x = y) && decide (es.len = qs.length)
      | none => false) && ((glB sc x && plN x) && (es.plain && chkEs sc es ps))
  | .callk f es ks pm, .Call (.Name x _) ps kws _ => (match T.fns[f]? with
      | some (y, qs) => decide (x = y) && ((decide (pm.length = qs.length) && pm.all fun j => decide (j < es.len + ks.len)) && (T.kws.any fun t => decide (t.1 = f) && (decide (t.2.1 = es.len) && (decide (t.2.2.1.map some = kwN kws) && decide (t.2.2.2 = pm)))))
      | none => false) && ((glB sc x && plN x) && ((es.plain && chkEs sc es ps) && (ks.plain && chkEs sc ks (kwV kws))))
  | .bi (.isin t) (.cons a .nil), .Call (.Name x _) [pa, .Name y _] [] _ => decide (x = ("isinstance" : Str)) && (decide (y = (tyN t : Str)) && ((glB sc x && glB sc y) && (plN y && (notStar pa && chkE sc a pa))))
  | .bi b es, .Call (.Name x _) ps [] _ => !isIsin b && (decide (x = (biN b : Str)) && (glB sc x && (decide (es.len ≠ 0) && (es.plain && chkEs sc es ps))))
  | .mt m a es, .Call (.Attribute pa y apos) ps [] pos => decide (y = (mtN m : Str)) && ((apos.endLine == pos.line) && (notCall0 pa && (decide (ps.length < 20) && (chkE sc a pa && (es.plain && chkEs sc es ps)))))
  | .lc own elt p it c, .ListComp pelt [⟨ptg, pit, pifs, 0⟩] scope _ => blkC N sc scope own && (chkP N scope (relB scope sc) own p ptg && (chkI sc it pit ptg && (chkC (relB scope sc) c pifs && chkE (relB scope sc) elt pelt)))
  | .lc2 own own1 elt p it p1 it1, .ListComp pelt [⟨ptg, pit, [], 0⟩, ⟨ptg1, pit1, [], 0⟩] scope _ => (blkC N sc scope own && own1.all fun i => (own.map (·.2)).contains i) &&
      ((chkP N scope (relB scope sc) own p ptg && chkP N scope (relB scope sc) (own.filter fun q => own1.contains q.2) p1 ptg1) && ((chkI sc it pit ptg && chkI (relB scope sc) it1 pit1 ptg1) && chkE (relB scope sc) elt pelt))
  | _, _ => false
def chkEs (sc : Scope) : Es → List PySem.Expr → Bool
  | .nil, [] => true
  | .cons a r, p :: ps => notStar p && (chkE sc a p && chkEs sc r ps)
  | .star a r, .Starred p _ :: ps => chkE sc a p && chkEs sc r ps
  | _, _ => false
def chkO (sc : Scope) : Oe → Option PySem.Expr → Bool
  | .none, none => true
  | .some a, some p => chkE sc a p
  | _, _ => false
/-- a comprehension's tests: none or one -/
def chkC (sc : Scope) : Oe → List PySem.Expr → Bool
  | .none, [] => true
  | .some a, [p] => chkE sc a p
  | _, _ => false
def chkI (sc : Scope) : It → PySem.Expr → PySem.Expr → Bool
  | .rng1 a, .Call (.Name x _) [pa] [] _, _ => decide (x = ("range" : Str)) && (glB sc x && (notStar pa && chkE sc a pa))
  | .rng2 a b, .Call (.Name x _) [pa, pb] [] _, _ => decide (x = ("range" : Str)) && (glB sc x && ((notStar pa && notStar pb) && (chkE sc a pa && chkE sc b pb)))
  | .rng3 a b c, .Call (.Name x _) [pa, pb, pc] [] _, _ => decide (x = ("range" : Str)) && (glB sc x && ((notStar pa && (notStar pb && notStar pc)) && (chkE sc a pa && (chkE sc b pb && chkE sc c pc))))
  | .enum a, .Call (.Name x _) [pa] [] _, tg => decide (x = ("enumerate" : Str)) && (glB sc x && ((notStar pa && isTup tg) && chkE sc a pa))
  | .zip a b, .Call (.Name x _) [pa, pb] [] _, tg => decide (x = ("zip" : Str)) && (glB sc x && ((notStar pa && (notStar pb && isTup tg)) && (chkE sc a pa && chkE sc b pb)))
  | .seq a, p, _ => notSet p && chkE sc a p
  | _, _, _ => false
end
end
end Ev
end
section
set_option Elab.async false
set_option linter.all false
set_option maxRecDepth 100000
set_option maxHeartbeats 4000000
set_option autoImplicit false
/-! Ev7: expressions: what the checker takes keeps its meaning. -/
namespace Ev
open PySem PySem.Spec PyProof.Rows L2

/-! ### side conditions -/
theorem starEach_cons {e : PySem.Expr} {es : List PySem.Expr} {env : Env} (h : notStar e = true) : starEach (e :: es) env = (false, eval e env) :: starEach es env := by
  cases e <;> first | rfl | cases h
theorem fold_set {e : PySem.Expr} {env : Env} (h : notSet e = true) : ∀ x, foldedSetIterable e env x = pure x := by
  intro x
  cases e <;> first | rfl | cases h
theorem marks_of {op : CmpOp} {e : PySem.Expr} (h : notSet e = true) : behindInMarks op e = false := by
  cases e <;> first | rfl | cases h
theorem ix_of {e : PySem.Expr} (h : notSlice e = true) : PlainIx e := by
  intro o i
  cases e <;> first | rfl | cases h
theorem base_of {o : PySem.Expr} {n : Str} {env : Env} {whole : Sem Value} (h : notCall0 o = true) : attributeBase o n env whole = whole := by
  cases o with
  | Call f as ks pos =>
    cases f with
    | Name id p =>
      cases as with
      | nil =>
        cases ks with
        | nil => cases h
        | cons _ _ => rfl
      | cons _ _ => rfl
    | _ => rfl
  | _ => rfl
section
variable {T : Tbl} {N : List Str}
theorem plain_len : ∀ {es : Es} {ps : List PySem.Expr} {sc : Scope}, chkEs T N sc es ps = true → ps.length = es.len
  | .nil, [], _, _ => rfl
  | .nil, _ :: _, _, h => by cases h
  | .cons a r, [], _, h => by cases h
  | .cons a r, p :: ps, sc, h => by
    obtain ⟨_, h2⟩ := ba h
    obtain ⟨_, h3⟩ := ba h2
    exact congrArg Nat.succ (plain_len h3)
  | .star a r, [], _, h => by cases h
  | .star a r, p :: ps, sc, h => by
    cases p with
    | Starred e pos =>
      obtain ⟨_, h3⟩ := ba (show (chkE T N sc a e && chkEs T N sc r ps) = true from h)
      exact congrArg Nat.succ (plain_len h3)
    | _ => cases h
theorem plain_star : ∀ {es : Es} {ps : List PySem.Expr} {sc : Scope} {env : Env}, es.plain = true → chkEs T N sc es ps = true → ∀ q ∈ starEach ps env, q.1 = false
  | .nil, [], _, _, _, _, q, hq => by cases hq
  | .nil, _ :: _, _, _, _, h, _, _ => by cases h
  | .cons a r, [], _, _, _, h, _, _ => by cases h
  | .cons a r, p :: ps, sc, env, hp, h, q, hq => by
    obtain ⟨h1, h2⟩ := ba h
    obtain ⟨_, h3⟩ := ba h2
    rw [starEach_cons h1] at hq
    rcases List.mem_cons.mp hq with e | hq
    · rw [e]
    · exact plain_star (es := r) hp h3 q hq
  | .star a r, _, _, _, hp, _, _, _ => by cases hp
theorem plain_any {es : Es} {ps : List PySem.Expr} {sc : Scope} {env : Env} {pos : Pos} (hp : es.plain = true) (h : chkEs T N sc es ps = true) : (backTo pos (starEach ps env)).any (·.1) = false := by
  rw [List.any_eq_false]
  intro q hq
  unfold backTo at hq
  obtain ⟨r, hr, rfl⟩ := List.mem_map.mp hq
  have := plain_star hp h r hr
  simp [this]
theorem plain_all {es : Es} {ps : List PySem.Expr} {sc : Scope} {env : Env} {pos : Pos} (hp : es.plain = true) (h : chkEs T N sc es ps = true) : (backTo pos (starEach ps env)).all (fun x => !x.1) = true := by
  rw [List.all_eq_true]
  intro q hq
  unfold backTo at hq
  obtain ⟨r, hr, rfl⟩ := List.mem_map.mp hq
  have := plain_star hp h r hr
  simp [this]
/-- a plain, non-empty list's first one is no star -/
theorem plain_head {es : Es} {ps : List PySem.Expr} {sc : Scope} (hp : es.plain = true) (h : chkEs T N sc es ps = true) {p : PySem.Expr} {r : List PySem.Expr} (e : ps = p :: r) : notStar p = true ∧ ∃ a s, es = .cons a s ∧ chkE T N sc a p = true ∧ s.plain = true ∧ chkEs T N sc s r = true := by
  subst e
  cases es with
  | nil => cases h
  | cons a s =>
    obtain ⟨h1, h2⟩ := ba h
    obtain ⟨h3, h4⟩ := ba h2
    exact ⟨h1, a, s, rfl, h3, hp, h4⟩
  | star a s => cases hp
end

/-! ### a def, called where nothing is being shown -/
structure FnG (P : Program) (w : World) (K : PySem.W.Frag) (mg : Str → Option Value) (base : Heap) (k : Nat) (f : Addr) (fd : FuncData) (ps : List Str) (sp : Sp) : Prop where
  len : ∀ vs H Q E, sp vs H Q E → vs.length = ps.length
  run : ∀ (A : Around) (outer : List Env) (s : Shared) (H : Hp) (args : Args) (us : List Value) (vs : List V) (Q : VK) (E : XK), Room k A → A.guards = some [] → Env0 P w K mg base A outer s H → BindsTo s fd args (ps.zip us) → Vals vs us → sp vs H Q E →
    codeAny (model P w) A (.call (.ref f) args) (CR (L2.CX P w) outer P w H s Q E) s
/-- a def's promise by its meaning -/
def spOf (K : PySem.W.Frag) (cl : Nat → Addr) (np : Nat) (F : List D → Sto → R D) : Sp := fun vs H Q E => vs.length = np ∧ ∃ ρ ds S, RepL K ρ H ds vs ∧ RelS K cl ρ H S ∧
  Aft K cl ρ H (F ds S) (fun ρ' H' _ d => ∀ v, Rep K ρ' H' d v → Q v H') fun x ρ' H' _ => ∀ cls d, XR K cl ρ' H' x cls d → E cls d H'

/-- what an __init__ of the text does: self.f = f, one by one -/
def iniB : List Str → List PySem.Stmt → Bool
  | [], [] => true
  | f :: fs, .Assign [.Attribute (.Name o _) g _] (.Name y _) _ :: r => (decide (o = ("self" : Str)) && (decide (g = f) && (decide (y = f) && (plN f && decide (f ≠ ("self" : Str)))))) && iniB fs r
  | _, _ => false
/-- a class of errors -/
structure ClsOk (K : PySem.W.Frag) (mg : Str → Option Value) (cl : Nat → Addr) (T : Tbl) (c : Nat) (x : Str) (k : Cls) : Prop where
  gl : mg x = some (.ref (cl c))
  oex : OexC K (cl c)
  xf : XfC K (cl c)
  exc : ExcC K (cl c)
  no : ∀ f ∈ k.fs, PySem.W.findIn K (.ref (cl c)) f = some none
  nd : k.fs.Nodup
  init : k.fs ≠ [] → ∃ (fI : Addr) (fd : FuncData) (q : Str) (prs : Arguments) (body : List PySem.Stmt) (sc : Scope), PySem.W.findIn K (.ref (cl c)) "__init__" = some (some (.ref fI)) ∧ PySem.W.typeIn K (.ref fI) = some (.type "function") ∧
    FunD K "__init__" q prs body sc [] [] fI fd ∧ FnScope ("self" :: k.fs) ("self" :: k.fs) sc ∧ (∀ y ∈ ("self" :: k.fs : List Str), sc.names.lookup y = some .local) ∧ iniB k.fs body = true ∧ Binds K fd ("self" :: k.fs) []
  exm : ∀ c' : Nat, c' < T.ecs.length → PySem.W.exmOne K (.ref (cl c)) (.ref (cl c')) = some (decide (c' = c) || k.up.contains c')
  kit : ∀ c' : Nat, c' < T.ecs.length → PySem.W.kitOne K (.ref (cl c)) (.ref (cl c')) = some (decide (c' = c) || k.up.contains c')
  kitb : PySem.W.kitOne K (.ref (cl c)) (.type "ValueError") = some (k.bup.contains "ValueError")
/-- what the written part says of the text -/
structure FTab (P : Program) (w : World) (K : PySem.W.Frag) (mg : Str → Option Value) (base : Heap) (cl : Nat → Addr) (T : Tbl) (G : Gm) (n : Nat) : Prop where
  fns : ∀ (i : Nat) (x : Str) (ps : List Str), T.fns[i]? = some (x, ps) → ∃ f fd, mg x = some (.ref f) ∧ PySem.W.keepIn K (.ref f) = true ∧ FnG P w K mg base (n + 34) f fd ps (spOf K cl ps.length (G.fn i)) ∧ Binds K fd ps [] ∧
    ∀ (m : Nat) (ks : List Str) (pm : List Nat), (i, m, ks, pm) ∈ T.kws → KBn K fd ps m ks (fun us ws => pm.filterMap fun j => (us ++ ws)[j]?) fun vs zs => pm.filterMap fun j => (vs ++ zs)[j]?
  cst : ∀ (i : Nat) (x : Str) (d : D), T.cns[i]? = some x → G.cs[i]? = some d → ∃ u v, mg x = some u ∧ RelV v u ∧ ∀ ρ H, Rep K ρ H d v
  gcd : mg "gcd" = some (.builtin "math.gcd")
  bins : ∀ b : Bi, b ≠ .gcd → mg (biN b : Str) = none
  tys : ∀ t : Ty, mg (tyN t : Str) = none
  range : mg "range" = none
  enum : mg "enumerate" = none
  zip : mg "zip" = none
  isin : mg "isinstance" = none
  ve : mg "ValueError" = none
  ecs : ∀ (c : Nat) (x : Str) (k : Cls), T.ecs[c]? = some (x, k) → ClsOk K mg cl T c x k

structure Cxt (T : Tbl) (G : Gm) (cl : Nat → Addr) (N : List Str) (n : Nat) (sc : Scope) (W : WX) (X : Cx) : Prop where
  nN : X.N = N
  nd : N.Nodup
  sc : X.env.scope = sc
  calm : X.calm = true
  gd : X.A.guards = some []
  room : Room (n + 34) X.A
  seer : X.base.NoSeer
  tree : X.prog.given.tree = none
  top : ∃ env l, X.stack = env :: l ∧ env.scope.isGenerator = false ∧ env.scope.isCoroutine = false ∧ env.builtins = builtinsNs ∧ env.globals = mainGlobals
  tab : FTab X.prog X.w X.K X.mg X.base cl T G n
  tk : Takes X W

section
variable {T : Tbl} {G : Gm} {cl : Nat → Addr} {N : List Str} {n : Nat} {sc : Scope} {W : WX} {X : Cx}
/-- great divisions have their frames -/
theorem Cxt.py (C : Cxt T G cl N n sc W X) : PyRoom X := fun pins s σ H I => by
  obtain ⟨env, l, e1, e2, e3, e4, e5⟩ := C.top
  refine PySem.PylongRoom.of I.nolimit ?_ (PySem.SeerAt.of (C.seer.keeps I.bk) C.tree (by rw [I.ok.frames, e1]) e2 e3 e4 e5)
  have := C.room.dp
  have e : recursionLimit = 1000 := by decide
  show X.A.depth + 100 < recursionLimit
  omega
theorem Cxt.hu (C : Cxt T G cl N n sc W X) : X.A.units + 65 < cLine := by have := C.room.un; omega
theorem Cxt.gl (C : Cxt T G cl N n sc W X) {x : Str} (h : glB sc x = true) : Gl X x := by
  have := gl_of h
  rw [← C.sc] at this
  exact this

/-! ### a call by values -/
theorem run_call (C : Cxt T G cl N n sc W X) {i : Nat} {x : Str} {ps : List Str} (e : T.fns[i]? = some (x, ps)) : ∃ f, X.mg x = some (.ref f) ∧ PySem.W.keepIn X.K (.ref f) = true ∧
    ∀ (pins : List (Addr × Obj)) (σ : L2.St) (H : Hp) (s : Shared) (Q : VK) (us : List Value) (vs : List V), Inv X pins σ H s → Vals vs us → spOf X.K cl ps.length (G.fn i) vs H Q (fun cls d H' => W cls d σ H') →
      wpAny (model X.prog X.w) X.A (call (.ref f) us) (EP X pins σ Q) X.xe s := by
  obtain ⟨f, fd, hm, hk, F, hb, _⟩ := C.tab.fns i x ps e
  refine ⟨f, hm, hk, fun pins σ H s Q us vs I r h => ?_⟩
  have hl : (us ++ ([] : List Value)).length = ps.length := by rw [List.append_nil, ← r.length]; exact F.len _ _ _ _ h
  have hb2 := hb s us I.kIn hl
  rw [List.append_nil] at hb2
  refine wpAny_call (codeAny_mono (F.run X.A X.stack s H ⟨us, []⟩ us vs Q _ C.room C.gd I.env0 hb2 r h) fun r s' hq => ?_)
  cases r with
  | error e => exact C.tk e s' (XE.of_call I (fun _ _ _ z => z) hq)
  | ok fl =>
    cases fl with
    | ret u => exact I.after hq
    | next => exact False.elim hq
    | brk => exact False.elim hq
    | cont => exact False.elim hq
theorem run_callk (C : Cxt T G cl N n sc W X) {i : Nat} {x : Str} {ps : List Str} (e : T.fns[i]? = some (x, ps)) {m : Nat} {ks : List Str} {pm : List Nat} (hk : (i, m, ks, pm) ∈ T.kws) : ∃ f, X.mg x = some (.ref f) ∧ PySem.W.keepIn X.K (.ref f) = true ∧
    ∀ (pins : List (Addr × Obj)) (σ : L2.St) (H : Hp) (s : Shared) (Q : VK) (us ws : List Value) (vs zs : List V), Inv X pins σ H s → Vals vs us → Vals zs ws → vs.length = m → zs.length = ks.length →
      spOf X.K cl ps.length (G.fn i) (pm.filterMap fun j => (vs ++ zs)[j]?) H Q (fun cls d H' => W cls d σ H') →
      wpAny (model X.prog X.w) X.A (call (.ref f) us (ks.zip ws)) (EP X pins σ Q) X.xe s := by
  obtain ⟨f, fd, hm, hkp, F, _, hb⟩ := C.tab.fns i x ps e
  refine ⟨f, hm, hkp, fun pins σ H s Q us ws vs zs I r rz l1 l2 h => ?_⟩
  have B := hb m ks pm hk
  refine wpAny_call (codeAny_mono (F.run X.A X.stack s H ⟨us, ks.zip ws⟩ _ _ Q _ C.room C.gd I.env0 (B.to s us ws I.kIn (r.length.symm.trans l1) (rz.length.symm.trans l2)) (B.rel r rz) h) fun r s' hq => ?_)
  cases r with
  | error e => exact C.tk e s' (XE.of_call I (fun _ _ _ z => z) hq)
  | ok fl =>
    cases fl with
    | ret u => exact I.after hq
    | next => exact False.elim hq
    | brk => exact False.elim hq
    | cont => exact False.elim hq
/-- the context of a comprehension's block -/
theorem Cxt.blk (C : Cxt T G cl N n sc W X) {scope : Scope} {s : Shared} {H : Hp} {Cc : Addr} {l : List (Str × Addr)} {fp : List Addr} :
    Cxt T G cl N n (relB scope sc) (fun _ _ _ _ => False) (X.blk s H scope (compEnvC scope l Cc X.env) fp) :=
  ⟨C.nN, C.nd, by rw [← C.sc]; rfl, C.calm, C.gd, C.room, C.seer, C.tree, C.top, C.tab, fun _ _ ⟨_, _, _, _, _, _, _, _, _, _, _, _, _, _, _, _, w⟩ => w.elim⟩
end
end Ev
end
section
set_option Elab.async false
set_option linter.all false
set_option maxRecDepth 100000
set_option maxHeartbeats 4000000
set_option autoImplicit false
/-! Ev8: lifting rules. -/
namespace Ev
open PySem PySem.Spec PyProof.Rows L2

section
variable {K : PySem.W.Frag} {cl : Nat → Addr} {W : WX} {σ : L2.St} {H : Hp}

/-- one value, then the rest -/
theorem lift1 {ma : En → Sto → R D} {k : En → D → Sto → R D} {Q : VK} {r : V → Hp → Prop}
    (h : tE K cl W (fun en S => (ma en S).bind (k en)) σ H Q)
    (f : ∀ ρ H1 S en x v, RelE K ρ H1 en σ → RelS K cl ρ H1 S → Rep K ρ H1 x v → Aft K cl ρ H1 (k en x S) (fun ρ' H' _ d => ∀ v, Rep K ρ' H' d v → Q v H') (fun x ρ' H' _ => ∀ cls d, XR K cl ρ' H' x cls d → W cls d σ H') → r v H1) :
    tE K cl W ma σ H r := by
  obtain ⟨ρ, en, S, he, hs, h⟩ := h
  exact ⟨ρ, en, S, he, hs, h.bind.imp (fun ρ1 H1 S1 x e1 s1 h1 v rv => f ρ1 H1 S1 en x v (he.ext e1) s1 rv h1) fun x ρ1 H1 S1 _ p => p⟩
/-- an argument list, then the rest -/
theorem liftA {ma : En → Sto → R (List D)} {k : En → List D → Sto → R D} {Q : VK} {r : List V → Hp → Prop}
    (h : tE K cl W (fun en S => (ma en S).bind (k en)) σ H Q)
    (f : ∀ ρ H1 S en x v, RelE K ρ H1 en σ → RelS K cl ρ H1 S → RepL K ρ H1 x v → Aft K cl ρ H1 (k en x S) (fun ρ' H' _ d => ∀ v, Rep K ρ' H' d v → Q v H') (fun x ρ' H' _ => ∀ cls d, XR K cl ρ' H' x cls d → W cls d σ H') → r v H1) :
    tA K cl W ma σ H r := by
  obtain ⟨ρ, en, S, he, hs, h⟩ := h
  exact ⟨ρ, en, S, he, hs, h.bind.imp (fun ρ1 H1 S1 x e1 s1 h1 v rv => f ρ1 H1 S1 en x v (he.ext e1) s1 rv h1) fun x ρ1 H1 S1 _ p => p⟩
theorem liftAA {ma mb : En → Sto → R (List D)} {k : En → List D → List D → Sto → R D} {Q : VK} {r : List V → List V → Hp → Prop}
    (h : tE K cl W (fun en S => (ma en S).bind fun x S => (mb en S).bind fun y S => k en x y S) σ H Q)
    (f : ∀ ρ H1 S en x v y w, RelE K ρ H1 en σ → RelS K cl ρ H1 S → RepL K ρ H1 x v → RepL K ρ H1 y w → Aft K cl ρ H1 (k en x y S) (fun ρ' H' _ d => ∀ v, Rep K ρ' H' d v → Q v H') (fun x ρ' H' _ => ∀ cls d, XR K cl ρ' H' x cls d → W cls d σ H') → r v w H1) :
    tA K cl W ma σ H fun v H1 => tA K cl W mb σ H1 (r v) := by
  obtain ⟨ρ, en, S, he, hs, h⟩ := h
  refine ⟨ρ, en, S, he, hs, h.bind.imp (fun ρ1 H1 S1 x e1 s1 h1 v rv => ?_) fun x ρ1 H1 S1 _ p => p⟩
  refine ⟨ρ1, en, S1, he.ext e1, s1, h1.bind.imp (fun ρ2 H2 S2 y e2 s2 h2 w rw => ?_) fun x ρ1 H1 S1 _ p => p⟩
  exact f ρ2 H2 S2 en x v y w ((he.ext e1).ext e2) s2 (rv.ext e2) rw h2
/-- go on with a meaning where one stands -/
theorem tE.mk {ρ : List Addr} {en : En} {S : Sto} {m : En → Sto → R D} {Q : VK} (he : RelE K ρ H en σ) (hs : RelS K cl ρ H S)
    (h : Aft K cl ρ H (m en S) (fun ρ' H' _ d => ∀ v, Rep K ρ' H' d v → Q v H') fun x ρ' H' _ => ∀ cls d, XR K cl ρ' H' x cls d → W cls d σ H') : tE K cl W m σ H Q := ⟨ρ, en, S, he, hs, h⟩
end

/-! ### a part of a slice, a test -/
def tO (K : PySem.W.Frag) (cl : Nat → Addr) (W : WX) (m : En → Sto → R (Option Int)) : TO := fun σ H Q => ∃ ρ en S, RelE K ρ H en σ ∧ RelS K cl ρ H S ∧
  Aft K cl ρ H (m en S) (fun ρ' H' _ b => Q b H') fun x ρ' H' _ => ∀ cls d, XR K cl ρ' H' x cls d → W cls d σ H'
theorem _root_.L2.PO.weak {X : Cx} {e : Option PySem.Expr} {t t' : TO} (h : PO X e t') (f : ∀ σ H Q, t σ H Q → t' σ H Q) : PO X e t := ⟨fun pins s σ H Q I q => h.run pins s σ H Q I (f _ _ _ q)⟩
theorem _root_.L2.PTs.weak {X : Cx} {e : List PySem.Expr} {t t' : TT} (h : PTs X e t') (f : ∀ σ H Q, t σ H Q → t' σ H Q) : PTs X e t := ⟨fun pins s σ H Q I q => h.run pins s σ H Q I (f _ _ _ q)⟩

/-! ### what is walked -/
/-- J walks the items of src as long as its places stand -/
def ItOk (K : PySem.W.Frag) (cl : Nat → Addr) (ρ : List Addr) (H : Hp) (J : L2.It) (src : Src) : Prop :=
  ∀ ρ1 H1 S1, Kp K ρ H ρ1 H1 → RelS K cl ρ1 H1 S1 → src.ok S1 → ∀ i : Nat,
    (∀ d, src.its[i]? = some d → J.go i H1 ∧ ∀ x H2, J.yld i H1 x H2 → Ext ρ1 H1 ρ1 H2 ∧ RelS K cl ρ1 H2 S1 ∧ Rep K ρ1 H2 d x) ∧ (src.its.length ≤ i → J.stop i H1)
def tI (K : PySem.W.Frag) (cl : Nat → Addr) (W : WX) (m : En → Sto → R Src) : TI := fun σ H R => ∃ ρ en S, RelE K ρ H en σ ∧ RelS K cl ρ H S ∧
  Aft K cl ρ H (m en S) (fun ρ' H' _ src => ∀ J, ItOk K cl ρ' H' J src → R J H') fun x ρ' H' _ => ∀ cls d, XR K cl ρ' H' x cls d → W cls d σ H'
theorem _root_.L2.PI.weak {X : Cx} {tg e : PySem.Expr} {t t' : TI} (h : PI X tg e t') (f : ∀ σ H Q, t σ H Q → t' σ H Q) : PI X tg e t := ⟨fun pins s σ H Q I q => h.run pins s σ H Q I (f _ _ _ q)⟩
section
variable {K : PySem.W.Frag} {cl : Nat → Addr} {ρ : List Addr} {H : Hp} {S : Sto}
theorem ItOk.list {n : Nat} {a : Addr} {xs : List D} (s : RelS K cl ρ H S) (hn : ρ[n]? = some a) : ItOk K cl ρ H (Itl K a) ⟨xs, [(n, xs)]⟩ := by
  intro ρ1 H1 S1 x1 s1 ok i
  have e0 := ok (n, xs) (List.mem_cons_self ..)
  obtain ⟨p, vs, e1, h2, h3⟩ := lstOf_rep s1 e0 (.ref (x1.get _ _ hn))
  cases e1
  refine ⟨fun d hd => ?_, fun hl => ⟨vs, h2, by rw [← h3.length]; exact hl⟩⟩
  obtain ⟨v, g1, g2⟩ := h3.get hd
  refine ⟨⟨vs, v, h2, g1⟩, fun x H2 ⟨e, y⟩ => ?_⟩
  subst e
  have := y vs h2
  rw [g1] at this
  cases this
  exact ⟨Ext.refl _ _, s1, g2⟩
theorem ItOk.listF {a : Addr} {xs : List D} {vs : List V} (h : SqF K H a vs) (r : RepL K ρ H xs vs) : ItOk K cl ρ H (Itl K a) ⟨xs, []⟩ := by
  intro ρ1 H1 S1 x1 s1 ok i
  have h2 := (x1.sqF _ _ h).l
  have h3 := r.mono x1
  refine ⟨fun d hd => ?_, fun hl => ⟨vs, h2, by rw [← h3.length]; exact hl⟩⟩
  obtain ⟨v, g1, g2⟩ := h3.get hd
  refine ⟨⟨vs, v, h2, g1⟩, fun x H2 ⟨e, y⟩ => ?_⟩
  subst e
  have := y vs h2
  rw [g1] at this
  cases this
  exact ⟨Ext.refl _ _, s1, g2⟩
theorem ItOk.tup {a : Addr} {xs : List D} {vs : List V} (h : SqT K H a vs) (r : RepL K ρ H xs vs) : ItOk K cl ρ H (Itt K a) ⟨xs, []⟩ := by
  intro ρ1 H1 S1 x1 s1 ok i
  have h2 := x1.sqT _ _ h
  have h3 := r.mono x1
  refine ⟨fun d hd => ?_, fun hl => ⟨vs, h2, by rw [← h3.length]; exact hl⟩⟩
  obtain ⟨v, g1, g2⟩ := h3.get hd
  refine ⟨⟨vs, v, h2, g1⟩, fun x H2 ⟨e, y⟩ => ?_⟩
  subst e
  have := y vs h2
  rw [g1] at this
  cases this
  exact ⟨Ext.refl _ _, s1, g2⟩
theorem ItOk.str {l : List Nat} : ItOk K cl ρ H (Its ⟨l.toArray⟩) ⟨l.map fun c => .str [c], []⟩ := by
  intro ρ1 H1 S1 x1 s1 ok i
  refine ⟨fun d hd => ?_, fun hl => ?_⟩
  · rw [List.getElem?_map] at hd
    cases q : l[i]? with
    | none => rw [q] at hd; cases hd
    | some c =>
      rw [q] at hd
      cases hd
      have hi := (List.getElem?_eq_some_iff.mp q).1
      refine ⟨by show i < l.toArray.size; simpa using hi, fun x H2 ⟨e, c', e2, e3⟩ => ?_⟩
      subst e
      have e4 : l.toArray[i]? = some c' := e2
      have e5 : l[i]? = some c' := by simpa using e4
      rw [q] at e5
      cases e5
      subst e3
      exact ⟨Ext.refl _ _, s1, .str [c]⟩
  · show l.toArray.size ≤ i
    simpa using hl
theorem ItOk.rng {i j : Int} : ItOk K cl ρ H (Itr i (j - i).toNat) ⟨rngD i j, []⟩ := by
  intro ρ1 H1 S1 x1 s1 ok k
  refine ⟨fun d hd => ?_, fun hl => ?_⟩
  · unfold rngD at hd
    rw [List.getElem?_map] at hd
    cases q : (List.range (j - i).toNat)[k]? with
    | none => simp only [q] at hd; cases hd
    | some c =>
      simp only [q] at hd
      cases hd
      obtain ⟨hi, e⟩ := List.getElem?_eq_some_iff.mp q
      rw [List.getElem_range] at e
      subst e
      rw [List.length_range] at hi
      refine ⟨hi, fun x H2 ⟨e, e3⟩ => ?_⟩
      subst e
      subst e3
      exact ⟨Ext.refl _ _, s1, .int _⟩
  · show (j - i).toNat ≤ k
    simpa [rngD] using hl
theorem ItOk.dn {i j : Int} : ItOk K cl ρ H (Itc i (-1) (i - j).toNat) ⟨rngDn i j, []⟩ := by
  intro ρ1 H1 S1 x1 s1 ok k
  refine ⟨fun d hd => ?_, fun hl => ?_⟩
  · unfold rngDn at hd
    rw [List.getElem?_map] at hd
    cases q : (List.range (i - j).toNat)[k]? with
    | none => simp only [q] at hd; cases hd
    | some c =>
      simp only [q] at hd
      cases hd
      obtain ⟨hi, e⟩ := List.getElem?_eq_some_iff.mp q
      rw [List.getElem_range] at e
      subst e
      rw [List.length_range] at hi
      refine ⟨hi, fun x H2 ⟨e, e3⟩ => ?_⟩
      subst e
      subst e3
      exact ⟨Ext.refl _ _, s1, .int _⟩
  · show (i - j).toNat ≤ k
    simpa [rngDn] using hl
end
end Ev
end
section
set_option Elab.async false
set_option linter.all false
set_option maxRecDepth 100000
set_option maxHeartbeats 4000000
set_option autoImplicit false
/-! Ev9: patterns, comprehensions' loops. -/
namespace Ev
open PySem PySem.Spec PyProof.Rows L2

/-! ### patterns -/
mutual
def gPt (K : PySem.W.Frag) : Pt → TG
  | .nm i => gName i
  | .tup ps => gTup K ps.length (gPts K ps)
def gPts (K : PySem.W.Frag) : List Pt → TGs
  | [] => gNil
  | p :: ps => gCons (gPt K p) (gPts K ps)
end
theorem assignEach_cons {e : PySem.Expr} {es : List PySem.Expr} {env : Env} (h : notStar e = true) : assignEach (e :: es) env = (false, assign e env) :: assignEach es env := by
  cases e <;> first | rfl | cases h
section
variable {X : Cx} {N : List Str} {sc rs : Scope} {own : List (Str × Nat)}
theorem chkPs_len : ∀ {ps : List Pt} {es : List PySem.Expr}, chkPs N sc rs own ps es = true → (assignEach es X.env).length = ps.length ∧ (assignEach es X.env).findIdx? (·.1) = none
  | [], [], _ => ⟨rfl, rfl⟩
  | [], _ :: _, h => by cases h
  | _ :: _, [], h => by cases h
  | p :: ps, e :: es, h => by
    obtain ⟨h1, h2⟩ := ba h
    obtain ⟨h3, h4⟩ := ba h2
    obtain ⟨q1, q2⟩ := chkPs_len h4
    rw [assignEach_cons h1]
    refine ⟨by simp [q1], ?_⟩
    rw [List.findIdx?_cons]
    simp [q2]
mutual
theorem pg_pt (hN : X.N = N) (hd : N.Nodup) (hs : X.env.scope = rs) (hf : ∀ x, cellB sc x = true → X.fn x = true) (hc : X.calm = true) : ∀ {p : Pt} {e : PySem.Expr}, chkP N sc rs own p e = true → PG X e (gPt X.K p)
  | .nm i, e, h => by
    cases e with
    | Name x pos =>
      obtain ⟨h1, h2⟩ := ba (show (decide (N[i]? = some x) && (locB rs x && ((cellB sc x || loclB rs x) && own.contains (x, i)))) = true from h)
      obtain ⟨h3, h4⟩ := ba h2
      obtain ⟨h5, _⟩ := ba h4
      refine pg_name (by rw [hN]; exact hd) (by rw [hN]; exact of_decide_eq_true h1) (by rw [hs]; exact loc_of h3) ?_
      rcases Bool.or_eq_true_iff.mp h5 with q | q
      · exact .inl (hf x q)
      · exact .inr (by rw [hs]; exact locl_of q)
    | _ => cases h
  | .tup ps, e, h => by
    cases e with
    | Tuple es k pos =>
      have h' : chkPs N sc rs own ps es = true := h
      obtain ⟨q1, q2⟩ := chkPs_len (X := X) h'
      exact pg_tup hc (pgs_pt hN hd hs hf hc h') q1 q2
    | _ => cases h
theorem pgs_pt (hN : X.N = N) (hd : N.Nodup) (hs : X.env.scope = rs) (hf : ∀ x, cellB sc x = true → X.fn x = true) (hc : X.calm = true) : ∀ {ps : List Pt} {es : List PySem.Expr}, chkPs N sc rs own ps es = true → PGs X es (gPts X.K ps)
  | [], [], _ => pgs_nil
  | [], _ :: _, h => by cases h
  | _ :: _, [], h => by cases h
  | p :: ps, e :: es, h => by
    obtain ⟨h1, h2⟩ := ba h
    obtain ⟨h3, h4⟩ := ba h2
    exact pgs_cons (pg_pt hN hd hs hf hc h3) (pgs_pt hN hd hs hf hc h4) (by rw [assignEach_cons h1]; rfl)
end
end

theorem wipe_get (σ : L2.St) : ∀ (vs : List Nat) (j : Nat), (wipe σ vs)[j]? = if j ∈ vs then σ[j]?.map (fun _ => none) else σ[j]?
  | [], j => by simp [wipe]
  | v :: vs, j => by
    unfold wipe
    by_cases e : v = j
    · subst e
      rw [if_pos (List.mem_cons_self ..), List.getElem?_set_self', wipe_get σ vs v]
      by_cases h : v ∈ vs
      · rw [if_pos h]; cases σ[v]? <;> rfl
      · rw [if_neg h]; cases σ[v]? <;> rfl
    · rw [List.getElem?_set_ne e, wipe_get σ vs j]
      by_cases h : j ∈ vs
      · rw [if_pos h, if_pos (List.mem_cons_of_mem _ h)]
      · rw [if_neg h, if_neg fun z => (List.mem_cons.mp z).elim (fun q => e q.symm) h]
theorem wipe_set {σ : L2.St} {vs : List Nat} {i : Nat} {v : V} (h : i ∈ vs) : wipe (σ.set i (some v)) vs = wipe σ vs := by
  apply List.ext_getElem?
  intro j
  rw [wipe_get, wipe_get]
  by_cases hj : j ∈ vs
  · rw [if_pos hj, if_pos hj]
    by_cases e : i = j
    · subst e
      rw [List.getElem?_set_self']
      cases σ[i]? <;> rfl
    · rw [List.getElem?_set_ne e]
  · rw [if_neg hj, if_neg hj, List.getElem?_set_ne]
    intro e
    subst e
    exact hj h
section
variable {K : PySem.W.Frag} {ρ : List Addr} {H : Hp} {N : List Str} {sc rs : Scope} {own : List (Str × Nat)}
mutual
theorem gPt_ok {vs : List Nat} (hv : ∀ q ∈ own, q.2 ∈ vs) : ∀ {p : Pt} {e : PySem.Expr} {d : D} {en en' : En} {σ : L2.St} {v : V} {Q : L2.St → Hp → Prop}, chkP N sc rs own p e = true → RelE K ρ H en σ → Rep K ρ H d v → p.set d en = some en' →
    (∀ σ', RelE K ρ H en' σ' → wipe σ' vs = wipe σ vs → Q σ' H) → gPt K p v σ H Q
  | .nm i, e, d, en, en', σ, v, Q, h, he, r, hs, q => by
    cases e with
    | Name x pos =>
      obtain ⟨h1, h2⟩ := ba (show (decide (N[i]? = some x) && (locB rs x && ((cellB sc x || loclB rs x) && own.contains (x, i)))) = true from h)
      obtain ⟨h3, h4⟩ := ba h2
      obtain ⟨_, h5⟩ := ba h4
      have hs' : some (en.set i (some d)) = some en' := hs
      cases hs'
      exact q _ (he.set r i) (wipe_set (hv (x, i) (by simpa using h5)))
    | _ => cases h
  | .tup ps, e, d, en, en', σ, v, Q, h, he, r, hs, q => by
    cases e with
    | Tuple es k pos =>
      have h' : chkPs N sc rs own ps es = true := h
      cases d with
      | tup xs =>
        cases r with
        | tup h1 h2 =>
          have hs' : Pt.sets ps xs en = some en' := by unfold Pt.set at hs; exact hs
          exact ⟨_, _, rfl, h1, by rw [← h2.length]; exact (gPts_len hs').symm, gPts_ok hv h' he h2 hs' q⟩
      | _ => unfold Pt.set at hs; cases hs
    | _ => cases h
theorem gPts_ok {vs : List Nat} (hv : ∀ q ∈ own, q.2 ∈ vs) : ∀ {ps : List Pt} {es : List PySem.Expr} {ds : List D} {en en' : En} {σ : L2.St} {us : List V} {Q : L2.St → Hp → Prop}, chkPs N sc rs own ps es = true → RelE K ρ H en σ → RepL K ρ H ds us → Pt.sets ps ds en = some en' →
    (∀ σ', RelE K ρ H en' σ' → wipe σ' vs = wipe σ vs → Q σ' H) → gPts K ps us σ H Q
  | [], es, [], en, en', σ, us, Q, h, he, r, hs, q => by
    cases r
    have hs' : some en = some en' := by unfold Pt.sets at hs; exact hs
    cases hs'
    exact ⟨rfl, q σ he rfl⟩
  | [], es, _ :: _, en, en', σ, us, Q, h, he, r, hs, q => by unfold Pt.sets at hs; cases hs
  | _ :: _, es, [], en, en', σ, us, Q, h, he, r, hs, q => by unfold Pt.sets at hs; cases hs
  | p :: ps, [], d :: ds, en, en', σ, us, Q, h, he, r, hs, q => by cases h
  | p :: ps, e :: es, d :: ds, en, en', σ, us, Q, h, he, r, hs, q => by
    obtain ⟨h1, h2⟩ := ba h
    obtain ⟨h3, h4⟩ := ba h2
    cases r with
    | cons r1 r2 =>
      have hs' : (Pt.set p d en).bind (fun en' => Pt.sets ps ds en') = some en' := by unfold Pt.sets at hs; exact hs
      cases z : Pt.set p d en with
      | none => rw [z] at hs'; cases hs'
      | some en1 =>
        rw [z] at hs'
        refine ⟨_, _, rfl, gPt_ok hv h3 he r1 z fun σ1 he1 w1 => ?_⟩
        exact gPts_ok hv h4 he1 r2 hs' fun σ2 he2 w2 => q σ2 he2 (w2.trans w1)
theorem gPts_len : ∀ {ps : List Pt} {ds : List D} {en en' : En}, Pt.sets ps ds en = some en' → ps.length = ds.length
  | [], [], _, _, _ => rfl
  | [], _ :: _, _, _, hs => by unfold Pt.sets at hs; cases hs
  | _ :: _, [], _, _, hs => by unfold Pt.sets at hs; cases hs
  | p :: ps, d :: ds, en, en', hs => by
    have hs' : (Pt.set p d en).bind (fun en' => Pt.sets ps ds en') = some en' := by unfold Pt.sets at hs; exact hs
    cases z : Pt.set p d en with
    | none => rw [z] at hs'; cases hs'
    | some en1 =>
      rw [z] at hs'
      exact congrArg Nat.succ (gPts_len (en := en1) hs')
end
end

/-! ### the loop of a comprehension -/
abbrev W0 : WX := fun _ _ _ _ => False
section
variable {K : PySem.W.Frag} {cl : Nat → Addr} {ρ1 : List Addr} {H1 : Hp}
/-- the list that grows, at D -/
structure Grow (K : PySem.W.Frag) (cl : Nat → Addr) (ρ1 : List Addr) (H1 : Hp) (D : Addr) (acc : List Ev.D) (ρ : List Addr) (S : Sto) (vs : List V) (H : Hp) : Prop where
  ext : Ext ρ1 H1 ρ H
  rs : RelS K cl ρ H S
  at_ : H D = some (.lst vs)
  out : D ∉ ρ
  rep : RepL K ρ H acc vs
theorem Grow.go {D : Addr} {acc : List Ev.D} {ρ ρ' : List Addr} {S S' : Sto} {vs : List V} {H H' : Hp} (g : Grow K cl ρ1 H1 D acc ρ S vs H) (x : Ext ρ H ρ' H') (s : RelS K cl ρ' H' S') : Grow K cl ρ1 H1 D acc ρ' S' vs H' := by
  refine ⟨g.ext.trans x, s, x.keep _ _ g.at_ fun z => absurd z g.out, fun z => ?_, g.rep.ext x⟩
  rcases x.new D z with y | y
  · exact g.out y
  · rw [g.at_] at y; cases y
theorem Grow.push {D : Addr} {acc : List Ev.D} {ρ : List Addr} {S : Sto} {vs : List V} {H : Hp} (g : Grow K cl ρ1 H1 D acc ρ S vs H) (hD : H1 D = none) {d : Ev.D} {v : V} (r : Rep K ρ H d v) : Grow K cl ρ1 H1 D (acc ++ [d]) ρ S (vs ++ [v]) (upd H D (.lst (vs ++ [v]))) :=
  ⟨⟨g.ext.pre, g.ext.new, fun b o e h => by
    have hb : b ≠ D := fun z => by subst z; rw [hD] at e; cases e
    rw [upd_ne hb]; exact g.ext.keep b o e h⟩, g.rs.other g.at_ g.out, upd_same, g.out, (g.rep.append (.cons r .nil)).mono (Kp.other g.at_)⟩
theorem Grow.start {D : Addr} {S : Sto} (s : RelS K cl ρ1 H1 S) (hD : H1 D = none) : Grow K cl ρ1 H1 D [] ρ1 S [] (upd H1 D (.lst [])) := by
  obtain ⟨x, s'⟩ := s.laid (u := .lst []) hD
  exact ⟨x, s', upd_same, fun z => s.there z hD, .nil⟩
theorem Grow.fin {D : Addr} {acc : List Ev.D} {ρ : List Addr} {S : Sto} {vs : List V} {H : Hp} (g : Grow K cl ρ1 H1 D acc ρ S vs H) (hD : H1 D = none) : Ext ρ1 H1 (ρ ++ [D]) H ∧ RelS K cl (ρ ++ [D]) H (S ++ [.lst acc]) ∧ Rep K (ρ ++ [D]) H (.ref S.length) (.ref D) := by
  obtain ⟨m, e⟩ := g.ext.pre
  refine ⟨⟨⟨m ++ [D], by rw [e, List.append_assoc]⟩, fun b hb => ?_, g.ext.keep⟩, g.rs.adopt g.at_ g.out g.rep, .ref (by rw [← g.rs.len]; simp)⟩
  rcases List.mem_append.mp hb with z | z
  · exact g.ext.new b z
  · rw [List.mem_singleton.mp z]; exact .inr hD

theorem drop_cons {α : Type} {l : List α} {i : Nat} {d : α} (h : l[i]? = some d) : l.drop i = d :: l.drop (i + 1) := by
  obtain ⟨hi, e⟩ := List.getElem?_eq_some_iff.mp h
  rw [List.drop_eq_getElem_cons hi, e]

theorem wipe_wipe (σ : L2.St) (vs : List Nat) : wipe (wipe σ vs) vs = wipe σ vs := by
  apply List.ext_getElem?
  intro j
  rw [wipe_get, wipe_get]
  by_cases hj : j ∈ vs
  · rw [if_pos hj, if_pos hj]; cases σ[j]? <;> rfl
  · rw [if_neg hj, if_neg hj]
/-- one item of a comprehension -/
noncomputable def lcF (p : Pt) (vs : List Nat) (mc : En → Sto → R Bool) (me : En → Sto → R D) (en : En) (d : D) (S : Sto) : R (Option D) :=
  (match p.set d (wipeE en vs) with
    | some en' => (mc en' S).bind fun b S => if b = true then (me en' S).bind fun y S => .ok (some y) S else .ok none S
    | none => .stuck).noex
theorem lc_run {N : List Str} {sc rs : Scope} {own : List (Str × Nat)} {p : Pt} {tg : PySem.Expr} {σ : L2.St} {en : En} {S : Sto} {src : Src} {J : L2.It} {mc : En → Sto → R Bool} {me : En → Sto → R D} {P : List Addr → Hp → Sto → D → Prop} {PX : Xc → List Addr → Hp → Sto → Prop} {Q : V → Hp → Prop}
    (hp : chkP N sc rs own p tg = true) (he : RelE K ρ1 H1 en σ) (hs : RelS K cl ρ1 H1 S) (hJ : ItOk K cl ρ1 H1 J src)
    (h : Aft K cl ρ1 H1 ((lcL src (lcF p (slots own) mc me en) src.its [] S).bind fun acc S => .ok (.ref S.length) (S ++ [.lst acc])) P PX)
    (hP : ∀ ρ H S d v, P ρ H S d → Rep K ρ H d v → Q v H) (D : Addr) (hD : H1 D = none) :
    ∃ Wf : Nat → Nat → Hp → Prop, (∃ m, Wf 0 m (upd H1 D (.lst []))) ∧ ∀ i m H, Wf i m H →
      (J.stop i H ∧ Q (.ref D) H) ∨ (J.go i H ∧ ∃ Nx : Hp → Prop, (∀ H', Nx H' → ∃ m', m' < m ∧ Wf (i + 1) m' H') ∧ ∀ x H', J.yld i H x H' → gPt K p x (wipe σ (slots own)) H' fun σ2 H2 => wipe σ2 (slots own) = wipe σ (slots own) ∧ tB K cl W0 mc σ2 H2 fun b H3 =>
        if b = true then tE K cl W0 me σ2 H3 fun y H4 => ∃ acc, H4 D = some (.lst acc) ∧ acc.length < sizeLine ∧ Nx (upd H4 D (.lst (acc ++ [y]))) else Nx H3) := by
  have hv : ∀ q ∈ own, q.2 ∈ slots own := fun q hq => List.mem_map.mpr ⟨q, hq, rfl⟩
  generalize hF : lcF p (slots own) mc me en = F at h
  let Wf : Nat → Nat → Hp → Prop := fun i m H => m = src.its.length - i ∧ i ≤ src.its.length ∧ ∃ ρ S acc vs, Grow K cl ρ1 H1 D acc ρ S vs H ∧
    Aft K cl ρ1 H1 ((lcL src F (src.its.drop i) acc S).bind fun acc S => .ok (.ref S.length) (S ++ [.lst acc])) P PX
  refine ⟨Wf, ⟨_, rfl, Nat.zero_le _, ρ1, S, [], [], Grow.start hs hD, by rw [List.drop_zero]; exact h⟩, ?_⟩
  rintro i m H ⟨rfl, hi, ρ, S, acc, vs, g, ha⟩
  by_cases hl : i < src.its.length
  · refine .inr ?_
    obtain ⟨d, hd⟩ : ∃ d, src.its[i]? = some d := ⟨_, List.getElem?_eq_getElem hl⟩
    rw [drop_cons hd, lcL] at ha
    split at ha
    · rename_i ok
      obtain ⟨go, yl⟩ := (hJ ρ H S g.ext.kp g.rs ok i).1 d hd
      refine ⟨go, fun H' => ∃ m, Wf (i + 1) m H', fun H' ⟨m', w⟩ => ⟨m', by rw [w.1]; omega, w⟩, fun x H2 y => ?_⟩
      obtain ⟨x2, s2, r2⟩ := yl x H2 y
      have g2 := g.go x2 s2
      rw [R.bind_assoc, ← hF] at ha
      have ha3 := Aft.ext (Aft.bind0 ha).noex g2.ext
      rw [hF] at ha3
      cases hset : p.set d (wipeE en (slots own)) with
      | none => rw [hset] at ha3; exact False.elim ha3
      | some en' =>
        rw [hset] at ha3
        refine gPt_ok hv hp ((he.ext g2.ext).wipe (slots own)) r2 hset fun σ2 he2 w2 => ⟨w2.trans (wipe_wipe _ _), ?_⟩
        refine ⟨ρ, en', S, he2, s2, (Aft.bind ha3).imp (fun ρ3 H3 S3 b x3 s3 h3 => ?_) fun _ _ _ _ _ z => z.elim⟩
        have g3 := g2.go x3 s3
        cases b with
        | false =>
          have h4 := Aft.here (a := none) h3 s3
          exact ⟨_, rfl, hl, ρ3, S3, acc, vs, g3, h4⟩
        | true =>
          refine ⟨ρ3, en', S3, he2.ext x3, s3, (Aft.bind h3).imp (fun ρ4 H4 S4 z x4 s4 h4 => ?_) fun _ _ _ _ _ z => z.elim⟩
          intro v rv
          have g4 := g3.go x4 s4
          have h5 := Aft.here (a := some z) h4 s4
          simp only at h5
          split at h5
          · rename_i hz
            exact ⟨vs, g4.at_, by rw [← sl_eq, ← g4.rep.length]; exact hz, _, rfl, hl, ρ4, S4, acc ++ [z], vs ++ [v], g4.push hD rv, h5⟩
          · exact aft_stuck h5
    · exact aft_stuck ha
  · have e : i = src.its.length := by omega
    subst e
    rw [List.drop_length, lcL] at ha
    split at ha
    · rename_i ok
      refine .inl ⟨(hJ ρ H S g.ext.kp g.rs ok _).2 (Nat.le_refl _), ?_⟩
      obtain ⟨f1, f2, f3⟩ := g.fin hD
      exact hP _ _ _ _ _ (ha _ _ f1 f2) f3
    · exact aft_stuck ha
/-- one item of the outer one of two -/
noncomputable def lcF1 (p1 : Pt) (vs1 : List Nat) (me : En → Sto → R D) (en' : En) (d1 : D) (S : Sto) : R D := match p1.set d1 (wipeE en' vs1) with
  | some en'' => me en'' S
  | none => .stuck
noncomputable def lcF2 (p : Pt) (vs : List Nat) (m1 : En → Sto → R Src) (p1 : Pt) (vs1 : List Nat) (me : En → Sto → R D) (en : En) (d : D) (acc : List D) (S : Sto) : R (List D) :=
  (match p.set d (wipeE en vs) with
    | some en' => (m1 en' S).bind fun s1 S => lcL1 s1 (lcF1 p1 vs1 me en') s1.its acc S
    | none => .stuck).noex
theorem lc2_run {N : List Str} {sc rs : Scope} {own own1 : List (Str × Nat)} {vs1 : List Nat} {p p1 : Pt} {tg tg1 : PySem.Expr} {σ : L2.St} {en : En} {S : Sto} {src : Src} {J : L2.It} {m1 : En → Sto → R Src} {me : En → Sto → R D} {P : List Addr → Hp → Sto → D → Prop} {PX : Xc → List Addr → Hp → Sto → Prop} {Q : V → Hp → Prop}
    (hp : chkP N sc rs own p tg = true) (hp1 : chkP N sc rs own1 p1 tg1 = true) (hv1 : ∀ q ∈ own1, q.2 ∈ vs1) (he : RelE K ρ1 H1 en σ) (hs : RelS K cl ρ1 H1 S) (hJ : ItOk K cl ρ1 H1 J src)
    (h : Aft K cl ρ1 H1 ((lcL2 src (lcF2 p (slots own) m1 p1 vs1 me en) src.its [] S).bind fun acc S => .ok (.ref S.length) (S ++ [.lst acc])) P PX)
    (hP : ∀ ρ H S d v, P ρ H S d → Rep K ρ H d v → Q v H) (D : Addr) (hD : H1 D = none) :
    ∃ Wf : Nat → Nat → Hp → Prop, (∃ m, Wf 0 m (upd H1 D (.lst []))) ∧ ∀ i m H, Wf i m H →
      (J.stop i H ∧ Q (.ref D) H) ∨ (J.go i H ∧ ∃ Nx : Hp → Prop, (∀ H', Nx H' → ∃ m', m' < m ∧ Wf (i + 1) m' H') ∧ ∀ x H', J.yld i H x H' → gPt K p x (wipe σ (slots own)) H' fun σ2 H2 => wipe σ2 (slots own) = wipe σ (slots own) ∧ tYes σ2 H2 fun b H3 =>
        if b = true then tI K cl W0 m1 σ2 H3 fun J1 H4 => ∃ W1 : Nat → Nat → Hp → Prop, (∃ m, W1 0 m H4) ∧ ∀ j k H, W1 j k H →
          (J1.stop j H ∧ Nx H) ∨ (J1.go j H ∧ ∃ Nx1 : Hp → Prop, (∀ H', Nx1 H' → ∃ k', k' < k ∧ W1 (j + 1) k' H') ∧ ∀ x H', J1.yld j H x H' → gPt K p1 x (wipe σ2 vs1) H' fun σ3 H5 => wipe σ3 vs1 = wipe σ2 vs1 ∧ tYes σ3 H5 fun b H6 =>
            if b = true then tE K cl W0 me σ3 H6 fun y H7 => ∃ acc, H7 D = some (.lst acc) ∧ acc.length < sizeLine ∧ Nx1 (upd H7 D (.lst (acc ++ [y]))) else Nx1 H6)
        else Nx H3) := by
  have hv : ∀ q ∈ own, q.2 ∈ slots own := fun q hq => List.mem_map.mpr ⟨q, hq, rfl⟩
  generalize hF : lcF2 p (slots own) m1 p1 vs1 me en = F at h
  let Wf : Nat → Nat → Hp → Prop := fun i m H => m = src.its.length - i ∧ i ≤ src.its.length ∧ ∃ ρ S acc vs, Grow K cl ρ1 H1 D acc ρ S vs H ∧
    Aft K cl ρ1 H1 ((lcL2 src F (src.its.drop i) acc S).bind fun acc S => .ok (.ref S.length) (S ++ [.lst acc])) P PX
  refine ⟨Wf, ⟨_, rfl, Nat.zero_le _, ρ1, S, [], [], Grow.start hs hD, by rw [List.drop_zero]; exact h⟩, ?_⟩
  rintro i m H ⟨rfl, hi, ρ, S, acc, vs, g, ha⟩
  by_cases hl : i < src.its.length
  · refine .inr ?_
    obtain ⟨d, hd⟩ : ∃ d, src.its[i]? = some d := ⟨_, List.getElem?_eq_getElem hl⟩
    rw [drop_cons hd, lcL2] at ha
    split at ha
    · rename_i ok
      obtain ⟨go, yl⟩ := (hJ ρ H S g.ext.kp g.rs ok i).1 d hd
      refine ⟨go, fun H' => ∃ m, Wf (i + 1) m H', fun H' ⟨m', w⟩ => ⟨m', by rw [w.1]; omega, w⟩, fun x H2 y => ?_⟩
      obtain ⟨x2, s2, r2⟩ := yl x H2 y
      have g2 := g.go x2 s2
      rw [R.bind_assoc, ← hF] at ha
      have ha3 := (Aft.bind0 ha).noex
      rw [hF] at ha3
      cases hset : p.set d (wipeE en (slots own)) with
      | none => rw [hset] at ha3; exact False.elim ha3
      | some en' =>
        rw [hset] at ha3
        refine gPt_ok hv hp ((he.ext g2.ext).wipe (slots own)) r2 hset fun σ2 he2 w2 => ⟨w2.trans (wipe_wipe _ _), ?_⟩
        simp only [tYes, if_true]
        refine ⟨ρ, en', S, he2, s2, (Aft.ext (Aft.bind0 ha3) g2.ext).imp (fun ρ4 H4 S4 s1 x4 s4 h4 => ?_) fun _ _ _ _ _ z => z.elim⟩
        intro J1 hJ1
        have g4 := g2.go x4 s4
        let W1 : Nat → Nat → Hp → Prop := fun j k H => k = s1.its.length - j ∧ j ≤ s1.its.length ∧ ∃ ρ S acc vs, Grow K cl ρ1 H1 D acc ρ S vs H ∧ Kp K ρ4 H4 ρ H ∧
          Aft K cl ρ1 H1 (lcL1 s1 (lcF1 p1 vs1 me en') (s1.its.drop j) acc S) (fun _ _ S acc => Aft K cl ρ1 H1 ((lcL2 src F (src.its.drop (i + 1)) acc S).bind fun acc S => .ok (.ref S.length) (S ++ [.lst acc])) P PX) fun _ _ _ _ => False
        refine ⟨W1, ⟨_, rfl, Nat.zero_le _, ρ4, S4, acc, vs, g4, Kp.refl, by rw [List.drop_zero]; exact h4⟩, ?_⟩
        rintro j k H5 ⟨rfl, hj, ρ5, S5, acc5, vs5, g5, kp5, ha5⟩
        by_cases hl5 : j < s1.its.length
        · refine .inr ?_
          obtain ⟨d1, hd1⟩ : ∃ d1, s1.its[j]? = some d1 := ⟨_, List.getElem?_eq_getElem hl5⟩
          rw [drop_cons hd1, lcL1] at ha5
          split at ha5
          · rename_i ok5
            obtain ⟨go5, yl5⟩ := (hJ1 ρ5 H5 S5 kp5 g5.rs ok5 j).1 d1 hd1
            refine ⟨go5, fun H' => ∃ m, W1 (j + 1) m H', fun H' ⟨m', w⟩ => ⟨m', by rw [w.1]; omega, w⟩, fun x H6 y => ?_⟩
            obtain ⟨x6, s6, r6⟩ := yl5 x H6 y
            have g6 := g5.go x6 s6
            have kp6 := kp5.trans x6.kp
            have ha6 := Aft.ext (Aft.bind0 ha5) g6.ext
            have he6 : RelE K ρ5 H6 en' σ2 := (he2.ext x4).mono kp6
            unfold lcF1 at ha6
            cases hset1 : p1.set d1 (wipeE en' vs1) with
            | none => rw [hset1] at ha6; exact False.elim ha6
            | some en'' =>
              rw [hset1] at ha6
              refine gPt_ok hv1 hp1 (he6.wipe vs1) r6 hset1 fun σ3 he7 w7 => ⟨w7.trans (wipe_wipe _ _), ?_⟩
              refine ⟨ρ5, en'', S5, he7, s6, ha6.imp (fun ρ8 H8 S8 z x8 s8 h8 => ?_) fun _ _ _ _ _ z => z.elim⟩
              intro v rv
              have g8 := g6.go x8 s8
              split at h8
              · rename_i hz
                exact ⟨vs5, g8.at_, by rw [← sl_eq, ← g8.rep.length]; exact hz, _, rfl, hl5, ρ8, S8, acc5 ++ [z], vs5 ++ [v], g8.push hD rv, (kp6.trans x8.kp).trans (Kp.other g8.at_), h8⟩
              · exact aft_stuck h8
          · exact aft_stuck ha5
        · have e : j = s1.its.length := by omega
          subst e
          rw [List.drop_length, lcL1] at ha5
          split at ha5
          · rename_i ok5
            refine .inl ⟨(hJ1 ρ5 H5 S5 kp5 g5.rs ok5 _).2 (Nat.le_refl _), ?_⟩
            have h9 := ha5 _ _ g5.ext g5.rs
            exact ⟨_, rfl, hl, ρ5, S5, acc5, vs5, g5, h9⟩
          · exact aft_stuck ha5
    · exact aft_stuck ha
  · have e : i = src.its.length := by omega
    subst e
    rw [List.drop_length, lcL2] at ha
    split at ha
    · rename_i ok
      refine .inl ⟨(hJ ρ H S g.ext.kp g.rs ok _).2 (Nat.le_refl _), ?_⟩
      obtain ⟨f1, f2, f3⟩ := g.fin hD
      exact hP _ _ _ _ _ (ha _ _ f1 f2) f3
    · exact aft_stuck ha
end
end Ev
end
section
set_option Elab.async false
set_option linter.all false
set_option maxRecDepth 100000
set_option maxHeartbeats 4000000
set_option autoImplicit false
/-! Ev9b: what is walked: a text, a list or a tuple by its value; enumerate of a tuple. -/
namespace Ev
open PySem PySem.Spec PyProof.Rows L2

section
variable {X : Cx} {tg : PySem.Expr}
/-- a list, a tuple, a text -/
def iSeqV (K : PySem.W.Frag) (R : L2.It → Hp → Prop) (x : V) (H : Hp) : Prop :=
  (∃ a xs, x = .ref a ∧ SqL K H a xs ∧ R (Itl K a) H) ∨ (∃ a xs, x = .ref a ∧ SqT K H a xs ∧ R (Itt K a) H) ∨ ∃ z, x = .str z ∧ R (Its z) H
theorem pi_seq {e : PySem.Expr} {te : TE} (he : PE X e te) : PI X tg e (fun σ H R => te σ H fun x H1 => iSeqV X.K R x H1) := by
  refine ⟨fun pins s σ H R I h => ?_⟩
  refine thn (he.run pins s σ H _ I h) fun v s1 ⟨x, H1, I1, r1, q1⟩ => ?_
  rcases q1 with ⟨a, xs, ex, hq, q⟩ | ⟨a, xs, ex, hq, q⟩ | ⟨z, ex, q⟩
  · subst ex
    cases r1
    obtain ⟨its, rv, p, hz⟩ := I1.list hq
    refine wpAny_pyIter_list p.isList ?_
    exact pi_one (tk := s1.toks) I1 _ (turn_list a _) ⟨_, Heap.get?_push_size _ rfl, rfl, rfl⟩ q
  · subst ex
    cases r1
    obtain ⟨its, rv, p, hz⟩ := I1.tuple hq
    refine wpAny_pyIter_tuple (show s1.heap.IsTuple a its.toArray from p) ?_
    exact pi_one (tk := s1.toks) I1 _ (turn_tuple a _) ⟨_, Heap.get?_push_size _ rfl, rfl, rfl⟩ q
  · subst ex
    obtain ⟨t, rfl⟩ := r1
    cases ha : z.cps.all (· < 128)
    · exact wpAny_pyIter_wide ha (pi_one (tk := s1.toks) I1 _ (turn_str _ z t "str_iterator" (.inr rfl)) ⟨_, Heap.get?_push_size _ rfl, rfl, rfl⟩ q)
    · exact wpAny_pyIter_ascii ha (pi_one (tk := s1.toks) I1 _ (turn_str _ z t "str_ascii_iterator" (.inl rfl)) ⟨_, Heap.get?_push_size _ rfl, rfl, rfl⟩ q)
end

/-! ### enumerate of a tuple -/
section
variable {prog : Program} {w : World} {A : Around} {E : Value → Shared → Prop} {s : Shared}
theorem enumT_end {e it l : Addr} {i : Nat} {items : Array Value} {old : Value} {Q : Option Value → Shared → Prop} (hh : A.handled = none)
    (he : IsEnum s.heap e it i old) (hit : s.heap.IsTupleIter it l i) (hl : s.heap.IsTuple l items) (hx : items[i]? = none)
    (hQ : ∀ h', Heap.ExtBut it s.heap h' → Q none { s with heap := h' }) : wpAny (model prog w) A (pyNext (.ref e)) Q E s := by
  have hT : s.TypeIs (.ref e) "enumerate" := ⟨_, he, rfl⟩
  unfold pyNext
  refine wpAny_bind (wpAny_attempt (wpAny_callSpecial?_slot (name := Str.ofString "__next__") hT F.slot_enumerate_next
    (wpAny_call_entry F.slot_enumerate_next hT F.entry_enumerate_next ?_ (F.args_enumerate_next_1 _))))
  show wpAny _ _ (field (.ref e) 2 >>= _) _ _ _
  refine wpAny_bind (wpAny_field he rfl (x := .ref it) rfl ?_)
  refine wpAny_bind (wpAny_nextOf_tuple_end hh hit hl hx fun h' x he' hx' => ?_)
  obtain ⟨o, ho, hc⟩ := hx'
  refine wpAny_bind (wpAny_isInstance (T := "StopIteration") (b := true) ⟨o, ho, hc⟩ isSubtype_stop ?_)
  exact wpAny_pure (hQ _ he')
end
theorem meets_enumT {v : Value} {o : Obj} {H : Heap → Prop} (B : Begins v o H) :
    Meets (Builtin.«enumerate.__new__» ⟨[.type "enumerate", v], []⟩) (fun _ R s => H s.heap ∧
      R (.ok (.ret (.ref (s.heap.push o).objs.size))) { s with heap := (s.heap.push o).push { cls := .type "enumerate", data := .fields #[.none, .bool false, .ref s.heap.objs.size, rawInt 0, .none, .none] } }) :=
  .of_wp fun prog w A R s h => by
    obtain ⟨hp, g, d, tk, os⟩ := s; obtain ⟨h1, h⟩ := h
    have hsub := sub_enumerate
    have q1 : ∀ {A' : Around} {E : Value → Shared → Prop} {Q : Value → Shared → Prop}, Q (.ref hp.objs.size) ⟨hp.push o, g, d, tk, os⟩ → wpAny (model prog w) A' (pyIter v) Q E ⟨hp, g, d, tk, os⟩ :=
      fun q => B.iter prog w _ _ ⟨hp, g, d, tk, os⟩ _ h1 q
    wp_walk using q1
    refine wpAny_stack_any fun st => wpAny_pure ?_
    split
    · rename_i c _ _ _ _ _
      cases (c == Value.type "enumerate")
      · wp_walk using q1
        exact ⟨_, rfl, h⟩
      · wp_walk using q1
        exact ⟨_, rfl, h⟩
    · wp_walk using q1
      exact ⟨_, rfl, h⟩
section
variable {prog : Program} {w : World} {A : Around} {E : Value → Shared → Prop} {s : Shared}
theorem call_enumT {l : Addr} {items : Array Value} {Q : Value → Shared → Prop} (hL : s.heap.IsTuple l items)
    (h : ∀ h', IsEnum h' (s.heap.objs.size + 1) s.heap.objs.size 0 .none → h'.IsTupleIter s.heap.objs.size l 0 → h'.objs.size = s.heap.objs.size + 2 →
      (∀ b o, s.heap.get? b = some o → h'.get? b = some o) → Q (.ref (s.heap.objs.size + 1)) { s with heap := h' }) :
    wpAny (model prog w) A (call (.type "enumerate") [.ref l]) Q E s := by
  refine callType_new F.called_enumerate (by decide) (F.typeCall_enumerate_1 _) (F.newCall_enumerate_1 _) (fun obj => F.args_object_init_2 obj _) F.entry_enumerate_new
    (meets_enumT (begins_tuple l items)) ⟨hL, ?_⟩
  generalize ho : ({ cls := .type "tuple_iterator", data := .fields #[.ref l, .int 0 0] } : Obj) = o
  have hfree : o.isFreed = false := by rw [← ho]; rfl
  have hz : (s.heap.push o).objs.size = s.heap.objs.size + 1 := Heap.size_push ..
  show _ ∧ _
  rw [hz]
  have he : IsEnum ((s.heap.push o).push { cls := .type "enumerate", data := .fields #[.none, .bool false, .ref s.heap.objs.size, rawInt 0, .none, .none] }) (s.heap.objs.size + 1) s.heap.objs.size 0 .none := by
    have := Heap.get?_push_size (s.heap.push o) (o := { cls := .type "enumerate", data := .fields #[.none, .bool false, .ref s.heap.objs.size, rawInt 0, .none, .none] }) rfl
    rw [hz] at this; exact this
  refine ⟨⟨_, he, rfl⟩, h _ he ⟨_, Heap.get?_push_of_some _ (Heap.get?_push_size _ hfree), by rw [← ho], by rw [← ho]; rfl⟩ (by rw [Heap.size_push, hz]) fun b o x => Heap.get?_push_of_some _ (Heap.get?_push_of_some _ x)⟩
end
def IteT (K : PySem.W.Frag) (a : Addr) : L2.It :=
  ⟨fun i H => ∃ (xs : List V) (x : V), SqT K H a xs ∧ xs[i]? = some x, fun i H v H' => ∃ T x, v = .ref T ∧ H T = none ∧ H' = upd H T (.tup [.int (i : Nat), x]) ∧ ∀ xs, SqT K H a xs → xs[i]? = some x, fun i H => ∃ xs : List V, SqT K H a xs ∧ xs.length ≤ i⟩
theorem turn_enumT {P : Program} {w : World} {K : PySem.W.Frag} {elts : List PySem.Expr} {kk : Nat} {tpos : Pos} (a e it : Addr) (hat : a ≠ it) (hae : a ≠ e) :
    Turn P w K (.Tuple elts kk tpos) (IteT K a) [e, it] e (fun i h => (∃ old, IsEnum h e it ((i : Nat) : Int) old) ∧ h.IsTupleIter it a i ∧ e ≠ it) where
  mem := by simp
  obj := fun i h st b hb => by
    obtain ⟨⟨old, he⟩, ⟨o, ho, hc, hd⟩, _⟩ := st
    have e' : b = e ∨ b = it := by simpa using hb
    rcases e' with z | z
    · rw [z]; exact ⟨_, he, fun v q => nomatch q⟩
    · rw [z]; exact ⟨o, ho, fun v q => by rw [hd] at q; cases q⟩
  keep := fun i h h' st k => let ⟨⟨old, he⟩, hi, hne⟩ := st; ⟨⟨old, k e (by simp) _ he⟩, hi.at fun o q => k it (by simp) o q, hne⟩
  item := by
    intro X hP hw hK hc i pins s σ H E I hf st hg
    subst hP hw hK
    obtain ⟨⟨old, he⟩, hit, hne⟩ := st
    obtain ⟨xs, x, hq, hx⟩ := hg
    obtain ⟨its, rv, p, hz⟩ := I.tuple hq
    obtain ⟨u, hu, ru⟩ := rv.get hx
    have hel : e < s.heap.objs.size := Heap.lt_size he
    have hil : it < s.heap.objs.size := by obtain ⟨_, q, _⟩ := hit; exact Heap.lt_size q
    have hlt : i < its.toArray.size := by
      have := (List.getElem?_eq_some_iff.mp hu).1
      simpa using this
    have D := Draws.tuple (prog := X.prog) (w := X.w) (A := X.A.in1) (I.ok.hd hc) it a hat its.toArray
    refine wpAny_pyNext_enum_itemC (c := ((i : Nat) : Int)) D he ⟨hit, p⟩ hlt hne (by simp [hne, Ne.symm hae]) fun x' h' tk hPx ho st' hT hsz hk => ?_
    have ex : x' = u := by
      have h1 : its.toArray[i]? = some x' := hPx
      rw [List.getElem?_toArray] at h1
      rw [hu] at h1
      cases h1
      rfl
    subst ex
    refine ⟨_, rfl, wpAny_letOwnedTupleGo_enum (s := { s with heap := h', toks := tk + 1 }) ho fun h'' he' sb => ?_⟩
    have hT2 : h''.get? s.heap.objs.size = some { cls := .type "tuple", data := .seq #[.int i tk, x'] } := (sb.2 _ (Nat.ne_of_gt hel)).trans hT
    have new : ObjOk X.prog X.w (upd H s.heap.objs.size (.tup [.int (i : Nat), x])) h'' s.heap.objs.size (.tup [.int (i : Nat), x]) :=
      ⟨by show 2 ≤ sizeLine; decide, [.int i tk, x'], .cons ⟨_, rfl⟩ (.cons ru .nil), ⟨_, hT2, rfl, _, rfl⟩⟩
    have I1 : Inv X pins σ (upd H s.heap.objs.size (.tup [.int (i : Nat), x])) { s with heap := h'', toks := tk + 1 } :=
      I.turnedNew (ch := [e, it]) (fun b ob hb q => (sb.2 b (fun z => hb (by simp [z]))).trans (hk b ob (fun z => hb (by simp [z])) (fun z => hb (by simp [z])) q)) hf (Nat.le_refl _) new
    refine ⟨.ref s.heap.objs.size, _, I1, rfl, ⟨_, x, rfl, I.hok.fresh (Nat.le_refl _), rfl, fun ys hy => by rw [I.tuple_inj hy hq]; exact hx⟩, ⟨⟨x', ?_⟩, st'.1.at fun o q => (sb.2 it (Ne.symm hne)).trans q, hne⟩, fun b hb => ?_⟩
    · have e1 : ((i + 1 : Nat) : Int) = (i : Int) + 1 := by omega
      rw [e1]; exact he'
    · have hb' : b < s.heap.objs.size := by
        have e' : b = e ∨ b = it := by simpa using hb
        rcases e' with z | z
        · rw [z]; exact hel
        · rw [z]; exact hil
      rw [upd_ne (Nat.ne_of_lt hb')]
      exact (hf b hb).1
  done := by
    intro X hP hw hK hc i pins s σ H E I hf st hg
    subst hP hw hK
    obtain ⟨⟨old, he⟩, hit, hne⟩ := st
    obtain ⟨xs, hq, hx⟩ := hg
    obtain ⟨its, rv, p, hz⟩ := I.tuple hq
    have hl := rv.length
    have hge : its.toArray.size ≤ i := by simp; omega
    exact enumT_end (I.ok.hd hc) he hit p (by simp; omega) fun h' eb => ⟨rfl, I.turnedL (t' := s.toks) (ch := [e, it]) (fun b o hb q => eb b o (fun z => hb (by simp [z])) q) hf⟩
  self := fun A i s Q E st h => let ⟨⟨_, he⟩, _⟩ := st; wpAny_pyIter_enum he h

def iEnumV (K : PySem.W.Frag) (ta : TA) : TI := fun σ H R => ta σ H fun vs H1 => ∃ a xs, vs = [.ref a] ∧ ((SqL K H1 a xs ∧ R (Ite K a) H1) ∨ (SqT K H1 a xs ∧ R (IteT K a) H1))
theorem pi_enumV {X : Cx} {e : PySem.Expr} {ta : TA} {p pos tpos : Pos} {elts : List PySem.Expr} {kk : Nat} (hg : Gl X "enumerate") (hm : X.mg "enumerate" = none) (ha : PA X [e] ta) (hs : starEach [e] X.env = [(false, eval e X.env)] := by rfl) :
    PI X (.Tuple elts kk tpos) (.Call (.Name "enumerate" p) [e] [] pos) (iEnumV X.K ta) := by
  refine ⟨fun pins s σ H R I h => ?_⟩
  refine Call_ (ld_blt I hg hm boot_enumerate (PyProof.Rows.callWith_type1 (thn (ha.run pos pins s σ H _ I h) fun us s1 ⟨vs, H1, I1, r1, q1⟩ => ?_) hs rfl))
  obtain ⟨a, xs, ex, q1⟩ := q1
  subst ex
  cases r1 with
  | cons r rr =>
    cases rr
    cases r
    have fresh : ∀ b, b ∈ [s1.heap.objs.size + 1, s1.heap.objs.size] → FpOk X pins H1 b := fun b hb => by
      have e' : b = s1.heap.objs.size + 1 ∨ b = s1.heap.objs.size := by simpa using hb
      have hle : s1.heap.objs.size ≤ b := by
        rcases e' with z | z
        · rw [z]; exact Nat.le_succ _
        · rw [z]; exact Nat.le_refl _
      exact I1.fpOk hle (I1.hok.fresh hle)
    rcases q1 with ⟨hq, q⟩ | ⟨hq, q⟩
    · obtain ⟨its, rv, p', hz⟩ := I1.list hq
      refine call_enumerate_list p'.isList fun h' he hit hsz hk => wpAny_pyIter_enum he ?_
      have I2 : Inv X pins σ H1 { s1 with heap := h' } := I1.kept (t' := s1.toks) hk
      exact ⟨s1.heap.objs.size + 1, [s1.heap.objs.size + 1, s1.heap.objs.size], _, _, H1, rfl, I2, turn_enum a (s1.heap.objs.size + 1) s1.heap.objs.size, ⟨⟨.none, he⟩, hit, Nat.succ_ne_self _⟩, fresh, q⟩
    · obtain ⟨its, rv, p', hz⟩ := I1.tuple hq
      obtain ⟨o, ho, _⟩ := id p'
      have hlt : a < s1.heap.objs.size := Heap.lt_size ho
      refine call_enumT (show s1.heap.IsTuple a its.toArray from p') fun h' he hit hsz hk => wpAny_pyIter_enum he ?_
      have I2 : Inv X pins σ H1 { s1 with heap := h' } := I1.kept (t' := s1.toks) hk
      exact ⟨s1.heap.objs.size + 1, [s1.heap.objs.size + 1, s1.heap.objs.size], _, _, H1, rfl, I2, turn_enumT a (s1.heap.objs.size + 1) s1.heap.objs.size (Nat.ne_of_lt hlt) (Nat.ne_of_lt (Nat.lt_succ_of_lt hlt)), ⟨⟨.none, he⟩, hit, Nat.succ_ne_self _⟩, fresh, q⟩
end Ev
end
section
set_option Elab.async false
set_option linter.all false
set_option maxRecDepth 100000
set_option maxHeartbeats 4000000
set_option autoImplicit false
/-! Ev9c: enumerate, zip: what is walked. -/
namespace Ev
open PySem PySem.Spec PyProof.Rows L2

section
variable {K : PySem.W.Frag} {cl : Nat → Addr} {ρ : List Addr} {H : Hp} {S : Sto}
theorem enumD_get (xs : List D) (i : Nat) : (enumD xs)[i]? = xs[i]?.map fun d => .tup [.int (i : Nat), d] := by
  unfold enumD
  rw [List.getElem?_map, List.getElem?_zipIdx]
  cases xs[i]? <;> simp
theorem enumD_len (xs : List D) : (enumD xs).length = xs.length := by unfold enumD; simp
theorem pair_laid {ρ1 : List Addr} {H1 : Hp} {S1 : Sto} (s1 : RelS K cl ρ1 H1 S1) {T : Addr} (hT : H1 T = none) {a b : D} {v w : V} (ra : Rep K ρ1 H1 a v) (rb : Rep K ρ1 H1 b w) :
    Ext ρ1 H1 ρ1 (upd H1 T (.tup [v, w])) ∧ RelS K cl ρ1 (upd H1 T (.tup [v, w])) S1 ∧ Rep K ρ1 (upd H1 T (.tup [v, w])) (.tup [a, b]) (.ref T) := by
  obtain ⟨x, s⟩ := s1.laid (u := .tup [v, w]) hT
  exact ⟨x, s, .tup (.inl (.inl (upd_same ..))) (.cons (ra.ext x) (.cons (rb.ext x) .nil))⟩
theorem ItOk.enumL {a : Addr} {xs : List D} {live : List (Nat × List D)}
    (h : ∀ ρ1 H1 S1, Kp K ρ H ρ1 H1 → RelS K cl ρ1 H1 S1 → (∀ p ∈ live, lstOf S1 (.ref p.1) = some p.2) → ∃ vs, SqL K H1 a vs ∧ RepL K ρ1 H1 xs vs) : ItOk K cl ρ H (Ite K a) ⟨enumD xs, live⟩ := by
  intro ρ1 H1 S1 x1 s1 ok i
  obtain ⟨vs, h2, h3⟩ := h ρ1 H1 S1 x1 s1 ok
  refine ⟨fun d hd => ?_, fun hl => ⟨vs, h2, by rw [← h3.length]; rw [enumD_len] at hl; exact hl⟩⟩
  replace hd : (enumD xs)[i]? = some d := hd
  rw [enumD_get] at hd
  cases q : xs[i]? with
  | none => rw [q] at hd; cases hd
  | some c =>
    rw [q] at hd
    cases hd
    obtain ⟨v, g1, g2⟩ := h3.get q
    refine ⟨⟨vs, v, h2, g1⟩, fun y H2 ⟨T, z, e1, e2, e3, e4⟩ => ?_⟩
    have := e4 vs h2
    rw [g1] at this
    cases this
    subst e1
    subst e3
    exact pair_laid s1 e2 (.int _) g2
theorem ItOk.enumT {a : Addr} {xs : List D} {vs : List V} (h : SqT K H a vs) (r : RepL K ρ H xs vs) : ItOk K cl ρ H (IteT K a) ⟨enumD xs, []⟩ := by
  intro ρ1 H1 S1 x1 s1 ok i
  have h2 := x1.sqT _ _ h
  have h3 := r.mono x1
  refine ⟨fun d hd => ?_, fun hl => ⟨vs, h2, by rw [← h3.length]; rw [enumD_len] at hl; exact hl⟩⟩
  replace hd : (enumD xs)[i]? = some d := hd
  rw [enumD_get] at hd
  cases q : xs[i]? with
  | none => rw [q] at hd; cases hd
  | some c =>
    rw [q] at hd
    cases hd
    obtain ⟨v, g1, g2⟩ := h3.get q
    refine ⟨⟨vs, v, h2, g1⟩, fun y H2 ⟨T, z, e1, e2, e3, e4⟩ => ?_⟩
    have := e4 vs h2
    rw [g1] at this
    cases this
    subst e1
    subst e3
    exact pair_laid s1 e2 (.int _) g2
theorem zipD_get (xs ys : List D) (i : Nat) {d : D} (h : (zipD xs ys)[i]? = some d) : ∃ x y, xs[i]? = some x ∧ ys[i]? = some y ∧ d = .tup [x, y] := by
  unfold zipD at h
  rw [List.getElem?_map] at h
  cases q : (xs.zip ys)[i]? with
  | none => rw [q] at h; cases h
  | some p =>
    rw [q] at h
    cases h
    obtain ⟨h1, h2⟩ := List.getElem?_zip_eq_some.mp q
    exact ⟨_, _, h1, h2, rfl⟩
theorem ItOk.zipL {a b : Addr} {xs ys : List D} {live : List (Nat × List D)}
    (h : ∀ ρ1 H1 S1, Kp K ρ H ρ1 H1 → RelS K cl ρ1 H1 S1 → (∀ p ∈ live, lstOf S1 (.ref p.1) = some p.2) → (∃ vs, SqL K H1 a vs ∧ RepL K ρ1 H1 xs vs) ∧ ∃ vs, SqL K H1 b vs ∧ RepL K ρ1 H1 ys vs) : ItOk K cl ρ H (Itz K a b) ⟨zipD xs ys, live⟩ := by
  intro ρ1 H1 S1 x1 s1 ok i
  obtain ⟨⟨vs, h2, h3⟩, ws, k2, k3⟩ := h ρ1 H1 S1 x1 s1 ok
  refine ⟨fun d hd => ?_, fun hl => ⟨vs, ws, h2, k2, ?_⟩⟩
  · obtain ⟨c, e, q1, q2, rfl⟩ := zipD_get _ _ _ hd
    obtain ⟨v, g1, g2⟩ := h3.get q1
    obtain ⟨w, g3, g4⟩ := k3.get q2
    refine ⟨⟨vs, ws, v, w, h2, k2, g1, g3⟩, fun y H2 ⟨T, z, z', e1, e2, e3, e4, e5⟩ => ?_⟩
    have t1 := e4 vs h2
    rw [g1] at t1
    cases t1
    have t2 := e5 ws k2
    rw [g3] at t2
    cases t2
    subst e1
    subst e3
    exact pair_laid s1 e2 g2 g4
  · rw [← h3.length, ← k3.length]
    have : (zipD xs ys).length ≤ i := hl
    unfold zipD at this
    rw [List.length_map, List.length_zip] at this
    omega
theorem ItOk.zipT {a b : Addr} {xs ys : List D} {vs ws : List V} (h : SqT K H a vs) (r : RepL K ρ H xs vs) (k : SqT K H b ws) (rk : RepL K ρ H ys ws) : ItOk K cl ρ H (RZ.ItzT K a b) ⟨zipD xs ys, []⟩ := by
  intro ρ1 H1 S1 x1 s1 ok i
  have h2 := x1.sqT _ _ h
  have h3 := r.mono x1
  have k2 := x1.sqT _ _ k
  have k3 := rk.mono x1
  refine ⟨fun d hd => ?_, fun hl => ⟨vs, ws, h2, k2, ?_⟩⟩
  · obtain ⟨c, e, q1, q2, rfl⟩ := zipD_get _ _ _ hd
    obtain ⟨v, g1, g2⟩ := h3.get q1
    obtain ⟨w, g3, g4⟩ := k3.get q2
    refine ⟨⟨vs, ws, v, w, h2, k2, g1, g3⟩, fun y H2 ⟨T, z, z', e1, e2, e3, e4, e5⟩ => ?_⟩
    have t1 := e4 vs h2
    rw [g1] at t1
    cases t1
    have t2 := e5 ws k2
    rw [g3] at t2
    cases t2
    subst e1
    subst e3
    exact pair_laid s1 e2 g2 g4
  · rw [← h3.length, ← k3.length]
    have : (zipD xs ys).length ≤ i := hl
    unfold zipD at this
    rw [List.length_map, List.length_zip] at this
    omega

/-! ### what srcSeq, srcEnum, srcZip name -/
theorem v_srcSeq {a : D} {v : V} {src : Src} {R : L2.It → Hp → Prop} (s : RelS K cl ρ H S) (r : Rep K ρ H a v) (e : srcSeq a S = some src) (q : ∀ J, ItOk K cl ρ H J src → R J H) : iSeqV K R v H := by
  cases a with
  | str l =>
    cases r
    cases e
    exact .inr (.inr ⟨_, rfl, q _ ItOk.str⟩)
  | tup xs =>
    cases r with
    | tup h1 h2 =>
      cases e
      exact .inr (.inl ⟨_, _, rfl, h1, q _ (ItOk.tup h1 h2)⟩)
  | fl xs =>
    cases r with
    | fl h1 h2 =>
      cases e
      exact .inl ⟨_, _, rfl, h1.l, q _ (ItOk.listF h1 h2)⟩
  | ref n =>
    replace e : (lstOf S (.ref n)).map (fun xs => (⟨xs, [(n, xs)]⟩ : Src)) = some src := e
    cases z : lstOf S (.ref n) with
    | none => rw [z] at e; cases e
    | some xs =>
      rw [z] at e
      cases e
      obtain ⟨p, vs, rfl, h1, h2⟩ := lstOf_rep s z r
      cases r with
      | ref h => exact .inl ⟨_, _, rfl, h1, q _ (ItOk.list s h)⟩
  | _ => cases e
theorem v_liveOf {a : D} {v : V} {xs : List D} {live : List (Nat × List D)} (s : RelS K cl ρ H S) (r : Rep K ρ H a v) (e : liveOf a S = some (xs, live)) :
    ∃ p, v = .ref p ∧ (∃ vs, SqL K H p vs) ∧ (∀ p ∈ live, lstOf S (.ref p.1) = some p.2) ∧ ∀ ρ1 H1 S1, Kp K ρ H ρ1 H1 → RelS K cl ρ1 H1 S1 → (∀ p ∈ live, lstOf S1 (.ref p.1) = some p.2) → ∃ vs, SqL K H1 p vs ∧ RepL K ρ1 H1 xs vs := by
  cases a with
  | fl ys =>
    cases r with
    | fl h1 h2 =>
      cases e
      exact ⟨_, rfl, ⟨_, h1.l⟩, (fun p hp => by cases hp), fun ρ1 H1 S1 x s1 _ => ⟨_, (x.sqF _ _ h1).l, h2.mono x⟩⟩
  | ref n =>
    replace e : (lstOf S (.ref n)).map (fun xs => (xs, [(n, xs)])) = some (xs, live) := e
    cases z : lstOf S (.ref n) with
    | none => rw [z] at e; cases e
    | some ys =>
      rw [z] at e
      cases e
      obtain ⟨p, vs, rfl, h1, h2⟩ := lstOf_rep s z r
      cases r with
      | ref h =>
        refine ⟨_, rfl, ⟨_, h1⟩, (fun q hq => by rw [List.mem_singleton.mp hq]; exact z), fun ρ1 H1 S1 x s1 hl => ?_⟩
        have e0 := hl (n, xs) (List.mem_cons_self ..)
        obtain ⟨p', ws, e1, g2, g3⟩ := lstOf_rep s1 e0 (.ref (x.get _ _ h))
        cases e1
        exact ⟨ws, g2, g3⟩
  | _ => cases e
theorem v_srcEnum {a : D} {v : V} {src : Src} {R : L2.It → Hp → Prop} (s : RelS K cl ρ H S) (r : Rep K ρ H a v) (e : srcEnum a S = some src) (q : ∀ J, ItOk K cl ρ H J src → R J H) :
    ∃ p vs, v = .ref p ∧ ((SqL K H p vs ∧ R (Ite K p) H) ∨ (SqT K H p vs ∧ R (IteT K p) H)) := by
  have go : ∀ {xs live}, liveOf a S = some (xs, live) → src = ⟨enumD xs, live⟩ → ∃ p vs, v = .ref p ∧ ((SqL K H p vs ∧ R (Ite K p) H) ∨ (SqT K H p vs ∧ R (IteT K p) H)) := fun {xs live} e1 e2 => by
    obtain ⟨p, rfl, ⟨vs, h1⟩, _, h2⟩ := v_liveOf s r e1
    subst e2
    exact ⟨p, vs, rfl, .inl ⟨h1, q _ (ItOk.enumL h2)⟩⟩
  cases a with
  | tup xs =>
    cases r with
    | tup h1 h2 =>
      cases e
      exact ⟨_, _, rfl, .inr ⟨h1, q _ (ItOk.enumT h1 h2)⟩⟩
  | fl xs => cases e; exact go rfl rfl
  | ref n =>
    replace e : (lstOf S (.ref n)).map (fun xs => (⟨enumD xs, [(n, xs)]⟩ : Src)) = some src := e
    cases z : lstOf S (.ref n) with
    | none => rw [z] at e; cases e
    | some xs => rw [z] at e; cases e; exact go (live := [(n, xs)]) (by show (lstOf S (.ref n)).map (fun xs => (xs, [(n, xs)])) = _; rw [z]; rfl) rfl
  | _ => cases e
theorem v_srcZip {a b : D} {v w : V} {src : Src} {R : L2.It → Hp → Prop} (s : RelS K cl ρ H S) (ra : Rep K ρ H a v) (rb : Rep K ρ H b w) (e : srcZip a b S = some src) (q : ∀ J, ItOk K cl ρ H J src → R J H) :
    ∃ p p' xs ys, [v, w] = [.ref p, .ref p'] ∧ ((SqL K H p xs ∧ SqL K H p' ys ∧ R (Itz K p p') H) ∨ (SqT K H p xs ∧ SqT K H p' ys ∧ R (RZ.ItzT K p p') H)) := by
  have go : ((liveOf a S).bind fun p => (liveOf b S).map fun q => (⟨zipD p.1 q.1, p.2 ++ q.2⟩ : Src)) = some src → ∃ p p' xs ys, [v, w] = [.ref p, .ref p'] ∧ ((SqL K H p xs ∧ SqL K H p' ys ∧ R (Itz K p p') H) ∨ (SqT K H p xs ∧ SqT K H p' ys ∧ R (RZ.ItzT K p p') H)) := fun e => by
    cases z : liveOf a S with
    | none => rw [z] at e; cases e
    | some x =>
      cases z' : liveOf b S with
      | none => rw [z, z'] at e; cases e
      | some y =>
        rw [z, z'] at e
        cases e
        obtain ⟨p, rfl, ⟨vs, h1⟩, _, h2⟩ := v_liveOf s ra z
        obtain ⟨p', rfl, ⟨vs', h1'⟩, _, h2'⟩ := v_liveOf s rb z'
        exact ⟨p, p', vs, vs', rfl, .inl ⟨h1, h1', q _ (ItOk.zipL fun ρ1 H1 S1 x s1 hl => ⟨h2 ρ1 H1 S1 x s1 fun p hp => hl p (List.mem_append_left _ hp), h2' ρ1 H1 S1 x s1 fun p hp => hl p (List.mem_append_right _ hp)⟩)⟩⟩
  cases a with
  | tup xs =>
    cases b with
    | tup ys =>
      cases ra with
      | tup h1 h2 =>
        cases rb with
        | tup k1 k2 =>
          cases e
          exact ⟨_, _, _, _, rfl, .inr ⟨h1, k1, q _ (ItOk.zipT h1 h2 k1 k2)⟩⟩
    | _ => exact go e
  | _ => exact go e
end
end Ev
end
section
set_option Elab.async false
set_option linter.all false
set_option maxRecDepth 100000
set_option maxHeartbeats 4000000
set_option autoImplicit false
/-! Ev9d: keywords, built-ins' names. -/
namespace Ev
open PySem PySem.Spec PyProof.Rows L2

/-! ### keywords, names of built-ins -/
theorem kw_names {env : Env} {pos : Pos} : ∀ kws : List Keyword, (backToKw pos (keywordEach kws env)).map (·.1) = kwN kws
  | [] => rfl
  | ⟨n, v, p⟩ :: r => congrArg (n :: ·) (kw_names r)
theorem kw_facts {env : Env} {pos : Pos} {kws : List Keyword} {ks : List Str} (h : ks.map some = kwN kws) :
    (backToKw pos (keywordEach kws env)).all (·.1.isSome) = true ∧ (backToKw pos (keywordEach kws env)).filterMap (·.1) = ks ∧ (backToKw pos (keywordEach kws env)).any (·.1.isNone) = false := by
  have e := (kw_names (env := env) (pos := pos) kws).trans h.symm
  clear h
  generalize backToKw pos (keywordEach kws env) = l at e
  induction l generalizing ks with
  | nil => cases ks with
    | nil => exact ⟨rfl, rfl, rfl⟩
    | cons a b => cases e
  | cons p l ih =>
    cases ks with
    | nil => cases e
    | cons a b =>
      simp only [List.map_cons, List.cons.injEq] at e
      obtain ⟨e1, e2⟩ := e
      obtain ⟨i1, i2, i3⟩ := ih e2
      refine ⟨by simp [e1, i1], ?_, by simp [e1, i3]⟩
      rw [List.filterMap_cons, e1]
      simp [i2]
theorem bi_name (b : Bi) : (biN b : Str) ≠ "__name__" ∧ ((biN b : Str) == ("__debug__" : Str)) = false := by
  cases b with
  | isin t => cases t <;> exact ⟨by decide, by decide⟩
  | _ => exact ⟨by decide, by decide⟩
theorem bi_boot (b : Bi) (h : b ≠ .gcd) : bootBuiltins (biN b : Str) = some (biV b).v := by
  cases b with
  | gcd => exact absurd rfl h
  | isin t => cases t <;> decide +kernel
  | _ => decide +kernel
theorem ty_boot (t : Ty) : bootBuiltins (tyN t : Str) = some (.type (tyN t)) := by cases t <;> decide +kernel
theorem chk_bi {T : Tbl} {N : List Str} {sc : Scope} {b : Bi} {es : Es} {pe : PySem.Expr} (h : chkE T N sc (.bi b es) pe = true) : ∃ x p ps pos, pe = .Call (.Name x p) ps [] pos ∧
    ((∃ t a pa y py, b = .isin t ∧ es = .cons a .nil ∧ ps = [pa, .Name y py] ∧ (decide (x = ("isinstance" : Str)) && (decide (y = (tyN t : Str)) && ((glB sc x && glB sc y) && (plN y && (notStar pa && chkE T N sc a pa))))) = true) ∨
    (!isIsin b && (decide (x = (biN b : Str)) && (glB sc x && (decide (es.len ≠ 0) && (es.plain && chkEs T N sc es ps))))) = true) := by
  cases pe with
  | Call pf ps kws pos =>
    cases pf with
    | Name x p =>
      cases kws with
      | nil =>
        refine ⟨x, p, ps, pos, rfl, ?_⟩
        unfold chkE at h
        split at h <;> first | (cases h; done) | (rename_i e _; cases e; done) | (rename_i e; cases e; done) | skip
        · rename_i e1 e2
          cases e1
          cases e2
          exact .inl ⟨_, _, _, _, _, rfl, rfl, rfl, h⟩
        · rename_i e1 e2
          cases e1
          cases e2
          exact .inr h
      | cons _ _ => unfold chkE at h; split at h <;> first | (cases h; done) | (rename_i e; cases e; done) | (rename_i e _; cases e; done) | skip
    | _ => unfold chkE at h; split at h <;> first | (cases h; done) | (rename_i e; cases e; done) | (rename_i e _; cases e; done) | skip
  | _ => unfold chkE at h; split at h <;> first | (cases h; done) | (rename_i e; cases e; done) | (rename_i e _; cases e; done) | skip
theorem kw_len : ∀ kws : List Keyword, (kwN kws).length = (kwV kws).length
  | [] => rfl
  | ⟨_, _, _⟩ :: r => congrArg Nat.succ (kw_len r)
theorem pm_len {α : Type} {l : List α} {pm : List Nat} (h : ∀ j ∈ pm, j < l.length) : (pm.filterMap fun j => l[j]?).length = pm.length := by
  induction pm with
  | nil => rfl
  | cons j r ih =>
    have hj := h j (List.mem_cons_self ..)
    rw [List.filterMap_cons, List.getElem?_eq_getElem hj]
    simp only [List.length_cons]
    rw [ih fun k hk => h k (List.mem_cons_of_mem _ hk)]
theorem RepL.perm {K : PySem.W.Frag} {ρ : List Addr} {H : Hp} {xs : List D} {vs : List V} (r : RepL K ρ H xs vs) : ∀ pm : List Nat, RepL K ρ H (pm.filterMap fun j => xs[j]?) (pm.filterMap fun j => vs[j]?)
  | [] => .nil
  | j :: pm => by
    rw [List.filterMap_cons, List.filterMap_cons]
    cases e : xs[j]? with
    | none =>
      have hv : vs[j]? = none := by rw [List.getElem?_eq_none_iff] at e ⊢; rw [← r.length]; exact e
      rw [hv]
      exact r.perm pm
    | some d =>
      obtain ⟨v, g1, g2⟩ := r.get e
      rw [g1]
      exact .cons g2 (r.perm pm)
theorem _root_.L2.PK.weak {X : Cx} {e : List Keyword} {t t' : TA} (h : PK X e t') (f : ∀ σ H Q, t σ H Q → t' σ H Q) : PK X e t := ⟨fun pos pins s σ H Q I q => h.run pos pins s σ H Q I (f _ _ _ q)⟩
section
variable {T : Tbl} {N : List Str} {sc : Scope} {p tg : PySem.Expr}
theorem chk_seq {a : E} (h : chkI T N sc (.seq a) p tg = true) : (notSet p && chkE T N sc a p) = true := h
theorem chk_r1 {a : E} (h : chkI T N sc (.rng1 a) p tg = true) : ∃ x pn pa pos, p = .Call (.Name x pn) [pa] [] pos ∧ (decide (x = ("range" : Str)) && (glB sc x && (notStar pa && chkE T N sc a pa))) = true := by
  unfold chkI at h
  split at h <;> first | (cases h; done) | (rename_i e; cases e; done) | (rename_i e _; cases e; done) | skip
  rename_i e
  cases e
  exact ⟨_, _, _, _, rfl, h⟩
theorem chk_r2 {a b : E} (h : chkI T N sc (.rng2 a b) p tg = true) : ∃ x pn pa pb pos, p = .Call (.Name x pn) [pa, pb] [] pos ∧ (decide (x = ("range" : Str)) && (glB sc x && ((notStar pa && notStar pb) && (chkE T N sc a pa && chkE T N sc b pb)))) = true := by
  unfold chkI at h
  split at h <;> first | (cases h; done) | (rename_i e; cases e; done) | (rename_i e _; cases e; done) | skip
  rename_i e
  cases e
  exact ⟨_, _, _, _, _, rfl, h⟩
theorem chk_r3 {a b c : E} (h : chkI T N sc (.rng3 a b c) p tg = true) : ∃ x pn pa pb pc pos, p = .Call (.Name x pn) [pa, pb, pc] [] pos ∧ (decide (x = ("range" : Str)) && (glB sc x && ((notStar pa && (notStar pb && notStar pc)) && (chkE T N sc a pa && (chkE T N sc b pb && chkE T N sc c pc))))) = true := by
  unfold chkI at h
  split at h <;> first | (cases h; done) | (rename_i e; cases e; done) | (rename_i e _; cases e; done) | skip
  rename_i e
  cases e
  exact ⟨_, _, _, _, _, _, rfl, h⟩
theorem chk_en {a : E} (h : chkI T N sc (.enum a) p tg = true) : ∃ x pn pa pos, p = .Call (.Name x pn) [pa] [] pos ∧ (decide (x = ("enumerate" : Str)) && (glB sc x && ((notStar pa && isTup tg) && chkE T N sc a pa))) = true := by
  unfold chkI at h
  split at h <;> first | (cases h; done) | (rename_i e; cases e; done) | (rename_i e _; cases e; done) | skip
  rename_i e
  cases e
  exact ⟨_, _, _, _, rfl, h⟩
theorem chk_zp {a b : E} (h : chkI T N sc (.zip a b) p tg = true) : ∃ x pn pa pb pos, p = .Call (.Name x pn) [pa, pb] [] pos ∧ (decide (x = ("zip" : Str)) && (glB sc x && ((notStar pa && (notStar pb && isTup tg)) && (chkE T N sc a pa && chkE T N sc b pb)))) = true := by
  unfold chkI at h
  split at h <;> first | (cases h; done) | (rename_i e; cases e; done) | (rename_i e _; cases e; done) | skip
  rename_i e
  cases e
  exact ⟨_, _, _, _, _, rfl, h⟩
theorem chkI_fold {it : It} (h : chkI T N sc it p tg = true) {env : Env} : ∀ x, foldedSetIterable p env x = pure x := by
  cases it with
  | seq a => exact fold_set (ba (chk_seq h)).1
  | rng1 a => obtain ⟨_, _, _, _, rfl, _⟩ := chk_r1 h; exact fun _ => rfl
  | rng2 a b => obtain ⟨_, _, _, _, _, rfl, _⟩ := chk_r2 h; exact fun _ => rfl
  | rng3 a b c => obtain ⟨_, _, _, _, _, _, rfl, _⟩ := chk_r3 h; exact fun _ => rfl
  | enum a => obtain ⟨_, _, _, _, rfl, _⟩ := chk_en h; exact fun _ => rfl
  | zip a b => obtain ⟨_, _, _, _, _, rfl, _⟩ := chk_zp h; exact fun _ => rfl
theorem chk_lc {own : List (Str × Nat)} {elt : E} {pt : Pt} {it : It} {c : Oe} (h : chkE T N sc (.lc own elt pt it c) p = true) : ∃ pelt ptg pit pifs scope pos, p = .ListComp pelt [⟨ptg, pit, pifs, 0⟩] scope pos ∧
    (blkC N sc scope own && (chkP N scope (relB scope sc) own pt ptg && (chkI T N sc it pit ptg && (chkC T N (relB scope sc) c pifs && chkE T N (relB scope sc) elt pelt)))) = true := by
  unfold chkE at h
  split at h <;> first | (cases h; done) | (rename_i e; cases e; done) | (rename_i e _; cases e; done) | skip
  rename_i e1 e2
  cases e1
  cases e2
  exact ⟨_, _, _, _, _, _, rfl, h⟩
theorem chk_lc2 {own : List (Str × Nat)} {own1 : List Nat} {elt : E} {pt p1 : Pt} {it it1 : It} (h : chkE T N sc (.lc2 own own1 elt pt it p1 it1) p = true) : ∃ pelt ptg pit ptg1 pit1 scope pos, p = .ListComp pelt [⟨ptg, pit, [], 0⟩, ⟨ptg1, pit1, [], 0⟩] scope pos ∧
    ((blkC N sc scope own && own1.all fun i => (own.map (·.2)).contains i) &&
      ((chkP N scope (relB scope sc) own pt ptg && chkP N scope (relB scope sc) (own.filter fun q => own1.contains q.2) p1 ptg1) && ((chkI T N sc it pit ptg && chkI T N (relB scope sc) it1 pit1 ptg1) && chkE T N (relB scope sc) elt pelt))) = true := by
  unfold chkE at h
  split at h <;> first | (cases h; done) | (rename_i e; cases e; done) | (rename_i e _; cases e; done) | skip
  rename_i e1 e2
  cases e1
  cases e2
  exact ⟨_, _, _, _, _, _, _, rfl, h⟩
end
end Ev
end
section
set_option Elab.async false
set_option linter.all false
set_option maxRecDepth 100000
set_option maxHeartbeats 4000000
set_option autoImplicit false
/-! Ev10: expressions are sound. -/
namespace Ev
open PySem PySem.Spec PyProof.Rows L2

/-! ### tests -/
def asB (x : D) (S : Sto) : R Bool := match x with
  | .bl k => .ok k S
  | _ => .stuck
def toB (m : En → Sto → R D) : En → Sto → R Bool := fun en S => (m en S).bind asB
section
variable {K : PySem.W.Frag} {cl : Nat → Addr} {W : WX} {σ : L2.St} {H : Hp}
/-- a test's reading by the value's -/
theorem toB_val {m : En → Sto → R D} {Q : Bool → Hp → Prop} (h : tB K cl W (toB m) σ H Q) : tE K cl W m σ H fun x H1 => ∃ c, x = .bl c ∧ Q c H1 := by
  obtain ⟨ρ, en, S, he, hs, h⟩ := h
  refine ⟨ρ, en, S, he, hs, (Aft.bind h).imp (fun ρ1 H1 S1 x x1 s1 h1 v rv => ?_) fun _ _ _ _ _ z => z⟩
  cases x with
  | bl k => cases rv; exact ⟨k, rfl, Aft.here (a := k) h1 s1⟩
  | _ => exact aft_stuck h1
/-- the value's reading by a test's: one bool, then the rest -/
theorem lift1B {ma : En → Sto → R D} {k : En → D → Sto → R D} {Q : VK} {r : Bool → Hp → Prop}
    (h : tE K cl W (fun en S => (ma en S).bind (k en)) σ H Q) (hk : ∀ en x S, (∀ b, x ≠ .bl b) → k en x S = .stuck)
    (f : ∀ ρ H1 S en b, RelE K ρ H1 en σ → RelS K cl ρ H1 S → Aft K cl ρ H1 (k en (.bl b) S) (fun ρ' H' _ d => ∀ v, Rep K ρ' H' d v → Q v H') (fun x ρ' H' _ => ∀ cls d, XR K cl ρ' H' x cls d → W cls d σ H') → r b H1) :
    tB K cl W (toB ma) σ H r := by
  obtain ⟨ρ, en, S, he, hs, h⟩ := h
  refine ⟨ρ, en, S, he, hs, ?_⟩
  have h2 := h.bind
  unfold toB
  cases z : ma en S with
  | stuck => rw [z] at h2; exact h2
  | ex x S1 => rw [z] at h2; exact h2
  | ok x S1 =>
    rw [z] at h2
    cases x with
    | bl b => exact fun ρ1 H1 x1 s1 => f ρ1 H1 S1 en b (he.ext x1) s1 (h2 ρ1 H1 x1 s1)
    | _ =>
      exfalso
      have h3 : Aft K cl ρ H ((ma en S).bind (k en)) _ _ := h
      rw [z] at h3
      simp only [R.bind_ok] at h3
      rw [hk en _ S1 (fun b => by intro q; cases q)] at h3
      exact h3
theorem lift1BB {ma : En → Sto → R D} {k : En → D → Sto → R D} {Q : Bool → Hp → Prop} {r : Bool → Hp → Prop}
    (h : tB K cl W (toB fun en S => (ma en S).bind (k en)) σ H Q) (hk : ∀ en x S, (∀ b, x ≠ .bl b) → k en x S = .stuck)
    (f : ∀ ρ H1 S en b, RelE K ρ H1 en σ → RelS K cl ρ H1 S → Aft K cl ρ H1 ((k en (.bl b) S).bind asB) (fun ρ' H' _ b => Q b H') (fun x ρ' H' _ => ∀ cls d, XR K cl ρ' H' x cls d → W cls d σ H') → r b H1) :
    tB K cl W (toB ma) σ H r := by
  obtain ⟨ρ, en, S, he, hs, h⟩ := h
  refine ⟨ρ, en, S, he, hs, ?_⟩
  unfold toB at h ⊢
  rw [R.bind_assoc] at h
  have h2 := h.bind
  cases z : ma en S with
  | stuck => rw [z] at h2; exact h2
  | ex x S1 => rw [z] at h2; exact h2
  | ok x S1 =>
    rw [z] at h2
    cases x with
    | bl b => exact fun ρ1 H1 x1 s1 => f ρ1 H1 S1 en b (he.ext x1) s1 (h2 ρ1 H1 x1 s1)
    | _ =>
      exfalso
      rw [z] at h
      simp only [R.bind_ok] at h
      rw [hk en _ S1 (fun b => by intro q; cases q)] at h
      exact h
end
section
variable {X : Cx} {cl : Nat → Addr} {W : WX}
theorem both {pe : PySem.Expr} {m : En → Sto → R D} (h : PE X pe (tE X.K cl W m)) (hp : ∀ whole, isTrue pe X.env whole = (do let v ← whole; standAt pe.pos; holding [v] (truthy v))) :
    PE X pe (tE X.K cl W m) ∧ PT X pe (tB X.K cl W (toB m)) := ⟨h, (pt_val h hp).weak fun σ H Q q => toB_val q⟩
theorem pw_of_pt {op : BoolOp} {vs : List PySem.Expr} {pos : Pos} {t : TT} (h : PT X (.BoolOp op vs pos) t) : PW X (.BoolOp op vs pos) t := ⟨fun wh pins s σ H Q I q => by
  have := h.run pins s σ H Q I q
  rw [arm_isTrue_BoolOp] at this ⊢
  exact this⟩
theorem pt_ite {c a b : PySem.Expr} {pos : Pos} {tc ta tb : TT} (hc : PT X c tc) (ha : PT X a ta) (hb : PT X b tb) : PT X (.IfExp c a b pos) (fun σ H Q => tc σ H fun k H1 => if k = true then ta σ H1 Q else tb σ H1 Q) := by
  refine ⟨fun pins s σ H Q I h => ?_⟩
  show wpAny _ _ (do if ← isTrue c X.env (eval c X.env) then isTrue a X.env (eval a X.env) else isTrue b X.env (eval b X.env)) _ _ _
  refine wpAny_bind (thn (hc.run pins s σ H _ I h) fun k s1 ⟨H1, I1, q1⟩ => ?_)
  cases k with
  | true => exact ha.run pins s1 σ H1 Q I1 q1
  | false => exact hb.run pins s1 σ H1 Q I1 q1
end

/-! ### the theorem -/
section
variable {T : Tbl} {G : Gm} {cl : Nat → Addr} {N : List Str} {n : Nat}
theorem evs_len : ∀ {es : Es} {en : En} {S S' : Sto} {xs : List D}, es.plain = true → evs G es en S = .ok xs S' → xs.length = es.len
  | .nil, en, S, S', xs, _, h => by
    unfold evs at h
    cases h
    rfl
  | .cons a r, en, S, S', xs, hp, h => by
    unfold evs at h
    cases z : ev G a en S with
    | stuck => rw [z] at h; cases h
    | ex x S1 => rw [z] at h; cases h
    | ok x S1 =>
      rw [z, R.bind_ok] at h
      cases y : evs G r en S1 with
      | stuck => rw [y] at h; cases h
      | ex x S2 => rw [y] at h; cases h
      | ok ys S2 =>
        rw [y, R.bind_ok] at h
        cases h
        exact congrArg Nat.succ (evs_len (es := r) hp y)
  | .star a r, _, _, _, _, hp, _ => by cases hp
theorem tA_len {K : PySem.W.Frag} {W : WX} {es : Es} {σ : L2.St} {H : Hp} {Q : List V → Hp → Prop} (hp : es.plain = true) (h : tA K cl W (evs G es) σ H fun vs H1 => vs.length = es.len → Q vs H1) : tA K cl W (evs G es) σ H Q := by
  obtain ⟨ρ, en, S, he, hs, h⟩ := h
  refine ⟨ρ, en, S, he, hs, ?_⟩
  cases z : evs G es en S with
  | stuck => rw [z] at h; exact h
  | ex x S1 => rw [z] at h; exact h
  | ok xs S1 =>
    rw [z] at h
    exact fun ρ1 H1 x1 s1 vs r => h ρ1 H1 x1 s1 vs r (r.length.symm.trans (evs_len hp z))
theorem cst_ok {d : D} {c : Const} {k : Nat} {pos : Pos} {X : Cx} {W : WX} (h : cstB d c = true) : PE X (.Constant c k pos) (tE X.K cl W fun _ S => .ok d S) := by
  have fin : ∀ {σ : L2.St} {H : Hp} {Q : VK} {v : V}, tE X.K cl W (fun _ S => .ok d S) σ H Q → (∀ ρ H, Rep X.K ρ H d v) → Q v H := fun {σ H Q v} ⟨ρ, en, S, he, hs, q⟩ r => q.here hs v (r _ _)
  cases d <;> cases c <;> first | (cases h; done) | skip
  · exact pe_non.weak fun σ H Q q => fin q fun _ _ => .non
  · have e := beq_iff_eq.mp (show (_ == _) = true from h)
    subst e
    exact pe_bl.weak fun σ H Q q => fin q fun _ _ => .bl _
  · have e := of_decide_eq_true (show decide (_ = _) = true from h)
    subst e
    exact pe_int.weak fun σ H Q q => fin q fun _ _ => .int _
  · have e := of_decide_eq_true (show decide (_ = _) = true from h)
    subst e
    exact pe_str.weak fun σ H Q q => fin q fun _ _ => by
      have := Rep.str (K := X.K) (ρ := ‹_›) (H := ‹_›) (‹Str›).cps.toList
      simpa using this
theorem sz1 : (16777216 : Nat) = sizeLine := sl_eq
mutual
theorem sndE : ∀ (e : E) {sc : Scope} {W : WX} {X : Cx} {pe : PySem.Expr}, Cxt T G cl N n sc W X → chkE T N sc e pe = true → PE X pe (tE X.K cl W (ev G e)) ∧ PT X pe (tB X.K cl W (toB (ev G e)))
  | .var i, sc, W, X, pe, C, h => by
    cases pe with
    | Name x pos =>
      obtain ⟨h1, h2⟩ := ba (show (decide (N[i]? = some x) && (visB sc x && plN x)) = true from h)
      obtain ⟨h3, h4⟩ := ba h2
      obtain ⟨p1, p2, p3⟩ := pl_of h4
      refine both ((pe_var (i := i) (by rw [C.nN]; exact of_decide_eq_true h1) (by rw [C.sc]; exact vis_of h3) p1 p2).weak fun σ H Q q => ?_) fun _ => rfl
      obtain ⟨ρ, en, S, he, hs, q⟩ := q
      obtain ⟨d, e, p⟩ := Aft.of q hs
      have e2 : en[i]? = some (some d) := by
        rw [List.getD_eq_getElem?_getD] at e
        cases z : en[i]? with
        | none => rw [z] at e; cases e
        | some o => rw [z] at e; simp at e; rw [e]
      obtain ⟨v, g1, g2⟩ := he.get i d e2
      exact ⟨v, g1, p v g2⟩
    | _ => cases h
  | .cst d, sc, W, X, pe, C, h => by
    cases pe with
    | Constant c k pos => exact both (cst_ok h) fun _ => rfl
    | _ => cases h
  | .glb i, sc, W, X, pe, C, h => by
    cases pe with
    | Name x pos =>
      obtain ⟨h1, h2⟩ := ba (show (decide (T.cns[i]? = some x) && (glB sc x && plN x)) = true from h)
      obtain ⟨h3, h4⟩ := ba h2
      obtain ⟨p1, p2, p3⟩ := pl_of h4
      cases z : G.cs[i]? with
      | none =>
        have dead : ∀ σ H Q, ¬ tE X.K cl W (ev G (.glb i)) σ H Q := fun σ H Q ⟨ρ, en, S, he, hs, q⟩ => by
          simp only [ev, z] at q
          exact q
        exact both ⟨fun pins s σ H Q I q => (dead σ H Q q).elim⟩ fun _ => rfl
      | some d =>
        obtain ⟨u, v, m1, m2, m3⟩ := C.tab.cst i x d (of_decide_eq_true h1) z
        refine both ((pe_glob (C.gl h3) m1 m2 p1).weak fun σ H Q q => ?_) fun _ => rfl
        obtain ⟨ρ, en, S, he, hs, q⟩ := q
        simp only [ev, z] at q
        exact Aft.here (a := d) q hs v (m3 _ _)
    | _ => cases h
  | .bin o a b, sc, W, X, pe, C, h => by
    cases pe with
    | BinOp pa op pb pos =>
      obtain ⟨h1, h2⟩ := ba (show (opB o op && (chkE T N sc a pa && chkE T N sc b pb)) = true from h)
      obtain ⟨h3, h4⟩ := ba h2
      rw [opB_of h1]
      obtain ⟨r, o1, o2⟩ := or_bin (cl := cl) (X := X) C.py rfl o
      exact both ((pe_op o1 (sndE a C h3).1 (sndE b C h4).1).weak fun σ H Q q => lift2 o2 q) fun _ => rfl
    | _ => cases h
  | .neg a, sc, W, X, pe, C, h => by
    cases pe with
    | UnaryOp op pa pos =>
      cases op with
      | USub =>
        refine both ((pe_un un_neg (sndE a C (show chkE T N sc a pa = true from h)).1).weak fun σ H Q q => lift1 q fun ρ H1 S en x v he hs r q => ?_) fun _ => rfl
        cases x with
        | int i => cases r; exact ⟨i, rfl, q.here hs _ (.int _)⟩
        | _ => exact aft_stuck q
      | _ => cases h
    | _ => cases h
  | .not a, sc, W, X, pe, C, h => by
    cases pe with
    | UnaryOp op pa pos =>
      cases op with
      | Not =>
        have h' : chkE T N sc a pa = true := h
        refine ⟨(pe_not (sndE a C h').1).weak fun σ H Q q => lift1 q fun ρ H1 S en x v he hs r q => ?_, (pt_not (sndE a C h').2).weak fun σ H Q q => ?_⟩
        · cases x with
          | bl k => cases r; exact ⟨k, rfl, q.here hs _ (.bl _)⟩
          | _ => exact aft_stuck q
        · refine lift1BB (k := fun _ x S => match x with | .bl k => .ok (.bl (!k)) S | _ => .stuck) q (fun en x S hx => ?_) fun ρ H1 S en b he hs q => ?_
          · cases x with
            | bl b => exact absurd rfl (hx b)
            | _ => rfl
          · exact Aft.here (a := !b) q hs
      | _ => cases h
    | _ => cases h
  | .and a b, sc, W, X, pe, C, h => by
    have hk : ∀ (en : En) (x : D) (S : Sto), (∀ b, x ≠ .bl b) → (match x with | .bl true => ev G b en S | .bl false => .ok (.bl false) S | _ => (.stuck : R D)) = .stuck := fun en x S hx => by
      cases x with
      | bl b => exact absurd rfl (hx b)
      | _ => rfl
    cases pe with
    | BoolOp op vs pos =>
      cases op with
      | And =>
        match vs, h with
        | pa :: pb :: r, h =>
          obtain ⟨h1, h2⟩ := ba (show (chkE T N sc a pa && (match (pb :: r : List PySem.Expr) with
            | [] => false
            | [pb] => chkE T N sc b pb
            | r => chkE T N sc b (.BoolOp .And r pos))) = true from h)
          have A := sndE a C h1
          have B : PE X (.BoolOp .And (pb :: r) pos) (tE X.K cl W (ev G b)) ∧ PW X (.BoolOp .And (pb :: r) pos) (tB X.K cl W (toB (ev G b))) := by
            match r, h2 with
            | [], h2 =>
              have B := sndE b C (pe := pb) h2
              exact ⟨pe_one B.1, pw_and1 B.2⟩
            | pc :: r, h2 =>
              have B := sndE b C (pe := .BoolOp .And (pb :: pc :: r) pos) h2
              exact ⟨B.1, pw_of_pt B.2⟩
          refine ⟨(pe_and A.1 B.1).weak fun σ H Q q => lift1 q fun ρ H1 S en x v he hs r q => ?_, (PW.pt (pw_and A.2 B.2)).weak fun σ H Q q => ?_⟩
          · cases x with
            | bl k =>
              cases r
              refine ⟨k, rfl, ?_⟩
              cases k with
              | true => rw [if_pos rfl]; exact tE.mk he hs q
              | false => rw [if_neg (by decide)]; exact Aft.here (a := D.bl false) q hs _ (.bl _)
            | _ => exact aft_stuck q
          · refine lift1BB (k := fun en x S => match x with | .bl true => ev G b en S | .bl false => .ok (.bl false) S | _ => .stuck) q hk fun ρ H1 S en k he hs q => ?_
            cases k with
            | true => rw [if_pos rfl]; exact ⟨ρ, en, S, he, hs, q⟩
            | false => rw [if_neg (by decide)]; exact Aft.here (a := false) q hs
        | [pa], h => exact absurd (ba (show (chkE T N sc a pa && false) = true from h)).2 (by decide)
        | [], h => cases h
      | Or => cases h
    | _ => cases h
  | .or a b, sc, W, X, pe, C, h => by
    have hk : ∀ (en : En) (x : D) (S : Sto), (∀ b, x ≠ .bl b) → (match x with | .bl true => R.ok (D.bl true) S | .bl false => ev G b en S | _ => (.stuck : R D)) = .stuck := fun en x S hx => by
      cases x with
      | bl b => exact absurd rfl (hx b)
      | _ => rfl
    cases pe with
    | BoolOp op vs pos =>
      cases op with
      | Or =>
        match vs, h with
        | pa :: pb :: r, h =>
          obtain ⟨h1, h2⟩ := ba (show (chkE T N sc a pa && (match (pb :: r : List PySem.Expr) with
            | [] => false
            | [pb] => chkE T N sc b pb
            | r => chkE T N sc b (.BoolOp .Or r pos))) = true from h)
          have A := sndE a C h1
          have B : PE X (.BoolOp .Or (pb :: r) pos) (tE X.K cl W (ev G b)) ∧ PW X (.BoolOp .Or (pb :: r) pos) (tB X.K cl W (toB (ev G b))) := by
            match r, h2 with
            | [], h2 =>
              have B := sndE b C (pe := pb) h2
              exact ⟨pe_one B.1, pw_or1 B.2⟩
            | pc :: r, h2 =>
              have B := sndE b C (pe := .BoolOp .Or (pb :: pc :: r) pos) h2
              exact ⟨B.1, pw_of_pt B.2⟩
          refine ⟨(pe_or A.1 B.1).weak fun σ H Q q => lift1 q fun ρ H1 S en x v he hs r q => ?_, (PW.pt (pw_or A.2 B.2)).weak fun σ H Q q => ?_⟩
          · cases x with
            | bl k =>
              cases r
              refine ⟨k, rfl, ?_⟩
              cases k with
              | false => rw [if_neg (by decide)]; exact tE.mk he hs q
              | true => rw [if_pos rfl]; exact Aft.here (a := D.bl true) q hs _ (.bl _)
            | _ => exact aft_stuck q
          · refine lift1BB (k := fun en x S => match x with | .bl true => .ok (.bl true) S | .bl false => ev G b en S | _ => .stuck) q hk fun ρ H1 S en k he hs q => ?_
            cases k with
            | false => rw [if_neg (by decide)]; exact ⟨ρ, en, S, he, hs, q⟩
            | true => rw [if_pos rfl]; exact Aft.here (a := true) q hs
        | [pa], h => exact absurd (ba (show (chkE T N sc a pa && false) = true from h)).2 (by decide)
        | [], h => cases h
      | And => cases h
    | _ => cases h
  | .ite c a b, sc, W, X, pe, C, h => by
    have hk : ∀ (en : En) (x : D) (S : Sto), (∀ b, x ≠ .bl b) → (match x with | .bl true => ev G a en S | .bl false => ev G b en S | _ => (.stuck : R D)) = .stuck := fun en x S hx => by
      cases x with
      | bl b => exact absurd rfl (hx b)
      | _ => rfl
    cases pe with
    | IfExp pc pa pb pos =>
      obtain ⟨h1, h2⟩ := ba (show (chkE T N sc c pc && (chkE T N sc a pa && chkE T N sc b pb)) = true from h)
      obtain ⟨h3, h4⟩ := ba h2
      have A := sndE a C h3
      have B := sndE b C h4
      have CC := sndE c C h1
      refine ⟨(pe_ifExp CC.2 A.1 B.1).weak fun σ H Q q => ?_, (pt_ite CC.2 A.2 B.2).weak fun σ H Q q => ?_⟩
      · refine lift1B (k := fun en x S => match x with | .bl true => ev G a en S | .bl false => ev G b en S | _ => .stuck) q hk fun ρ H1 S en k he hs q => ?_
        cases k with
        | true => rw [if_pos rfl]; exact tE.mk he hs q
        | false => rw [if_neg (by decide)]; exact tE.mk he hs q
      · refine lift1BB (k := fun en x S => match x with | .bl true => ev G a en S | .bl false => ev G b en S | _ => .stuck) q hk fun ρ H1 S en k he hs q => ?_
        cases k with
        | true => rw [if_pos rfl]; exact ⟨ρ, en, S, he, hs, q⟩
        | false => rw [if_neg (by decide)]; exact ⟨ρ, en, S, he, hs, q⟩
    | _ => cases h
  | .cmp o a b, sc, W, X, pe, C, h => by
    cases pe with
    | Compare pa ops cs pos =>
      match ops, cs, h with
      | [op], [pb], h =>
        obtain ⟨h1, h2⟩ := ba (show (cmB o op && (notSet pb && (chkE T N sc a pa && chkE T N sc b pb))) = true from h)
        obtain ⟨h3, h4⟩ := ba h2
        obtain ⟨h5, h6⟩ := ba h4
        rw [cmB_of h1]
        obtain ⟨r, o1, o2⟩ := or_cmp (cl := cl) (X := X) rfl C.hu o
        have A := (sndE a C h5).1
        have B := (sndE b C h6).1
        exact ⟨(pe_cmpR o1 A B (marks_of h3)).weak fun σ H Q q => lift2 (VCmp.val o2) q, (pt_cmpR o1 A B (marks_of h3)).weak fun σ H Q q => lift2 (VCmp.val o2) (toB_val q)⟩
      | [], _, h => cases h
      | [_], [], h => cases h
      | [_], _ :: _ :: _, h => cases h
      | _ :: _ :: _, [], h => cases h
      | _ :: _ :: _, [_], h => cases h
      | [_, _], [_, _], h => cases h
      | [_, _], _ :: _ :: _ :: _, h => cases h
      | _ :: _ :: _ :: _, _ :: _ :: _, h => cases h
    | _ => cases h
  | .chain o p a b c, sc, W, X, pe, C, h => by
    cases pe with
    | Compare pa ops cs pos =>
      match ops, cs, h with
      | [op, op'], [pb, pc], h =>
        obtain ⟨h1, h2⟩ := ba (show ((cmB o op && cmB p op') && (notSet pc && (chkE T N sc a pa && (chkE T N sc b pb && chkE T N sc c pc)))) = true from h)
        obtain ⟨g1, g2⟩ := ba h1
        obtain ⟨h3, h4⟩ := ba h2
        obtain ⟨h5, h6⟩ := ba h4
        obtain ⟨h7, h8⟩ := ba h6
        rw [cmB_of g1, cmB_of g2]
        obtain ⟨r, o1, o2⟩ := or_cmp (cl := cl) (X := X) rfl C.hu o
        obtain ⟨r', o1', o2'⟩ := or_cmp (cl := cl) (X := X) rfl C.hu p
        have hm : lastMarks [cmO o, cmO p] [pb, pc] = false := marks_of (op := cmO p) h3
        have key : ∀ {σ : L2.St} {H : Hp} {Q : VK}, tE X.K cl W (ev G (.chain o p a b c)) σ H Q → tChain r r' (tE X.K cl W (ev G a)) (tE X.K cl W (ev G b)) (tE X.K cl W (ev G c)) σ H Q := fun {σ H Q} q => by
          refine lift1 q fun ρ1 H1 S1 en x v he hs rv q => ?_
          refine ⟨ρ1, en, S1, he, hs, (Aft.bind q).imp (fun ρ2 H2 S2 y x2 s2 q2 => ?_) fun _ _ _ _ _ z => z⟩
          intro w rw
          split at q2
          · rename_i e
            refine o2 ρ2 H2 S2 x y v w _ true s2 (rv.ext x2) rw e ⟨true, rfl, ?_⟩
            rw [if_pos rfl]
            refine ⟨ρ2, en, S2, he.ext x2, s2, (Aft.bind q2).imp (fun ρ3 H3 S3 z x3 s3 q3 => ?_) fun _ _ _ _ _ z => z⟩
            intro u ru
            exact VCmp.val o2' ρ3 H3 S3 y z w u Q _ s3 (rw.ext x3) ru q3
          · rename_i e
            refine o2 ρ2 H2 S2 x y v w _ false s2 (rv.ext x2) rw e ⟨false, rfl, ?_⟩
            rw [if_neg (by decide)]
            exact Aft.here (a := D.bl false) q2 s2 _ (.bl _)
          · exact aft_stuck q2
        exact ⟨(pe_chain o1 o1' (sndE a C h5).1 (sndE b C h7).1 (sndE c C h8).1 hm).weak fun σ H Q q => key q, (pt_chain o1 o1' (sndE a C h5).1 (sndE b C h7).1 (sndE c C h8).1 hm).weak fun σ H Q q => key (toB_val q)⟩
      | [], _, h => cases h
      | [_], [], h => cases h
      | [_], _ :: _, h => cases h
      | [_, _], [], h => cases h
      | _ :: _ :: _ :: _, [], h => cases h
      | [_, _], [_], h => cases h
      | _ :: _ :: _ :: _, [_], h => cases h
      | [_, _], _ :: _ :: _ :: _, h => cases h
      | _ :: _ :: _ :: _, _ :: _ :: _, h => cases h
    | _ => cases h
  | .tup es, sc, W, X, pe, C, h => by
    cases pe with
    | Tuple ps k pos =>
      refine both ((pe_tup (sndEs es C (show chkEs T N sc es ps = true from h))).weak fun σ H Q q => liftA q fun ρ H1 S en xs vs he hs r q => ?_) fun _ => rfl
      split at q
      · rename_i hz
        refine ⟨by rw [← r.length, ← sl_eq]; exact hz, fun p hp => ?_⟩
        obtain ⟨q, rr⟩ := q.newT hs r p hp
        exact q _ rr
      · exact aft_stuck q
    | _ => cases h
  | .lst es, sc, W, X, pe, C, h => by
    cases pe with
    | List ps pos =>
      refine both ((pe_lst (sndEs es C (show chkEs T N sc es ps = true from h))).weak fun σ H Q q => liftA q fun ρ H1 S en xs vs he hs r q => ?_) fun _ => rfl
      split at q
      · rename_i hz
        refine ⟨by rw [← r.length, ← sl_eq]; exact hz, fun p hp => ?_⟩
        obtain ⟨q, rr⟩ := q.newL hs r p hp
        exact q _ rr
      · exact aft_stuck q
    | _ => cases h
  | .ix a b, sc, W, X, pe, C, h => by
    cases pe with
    | Subscript pa pb pos =>
      have gen : notSlice pb = true → chkE T N sc a pa = true → chkE T N sc b pb = true → PE X (.Subscript pa pb pos) (tE X.K cl W (ev G (.ix a b))) ∧ PT X (.Subscript pa pb pos) (tB X.K cl W (toB (ev G (.ix a b)))) := fun h1 h2 h3 =>
        both ((pe_ix (ix_seq (X := X)) (sndE a C h2).1 (sndE b C h3).1 (ix_of h1)).weak fun σ H Q q => lift2 v_ix q) fun _ => rfl
      obtain ⟨h1, h2⟩ := ba (show (notSlice pb && (chkE T N sc a pa && chkE T N sc b pb)) = true from h)
      obtain ⟨h3, h4⟩ := ba h2
      exact gen h1 h3 h4
    | _ => cases h
  | .sl a lo hi, sc, W, X, pe, C, h => by
    cases pe with
    | Subscript pa pb pos =>
      cases pb with
      | Slice plo phi pst p2 =>
        cases pst with
        | none =>
          obtain ⟨h1, h2⟩ := ba (show (chkE T N sc a pa && (chkO T N sc lo plo && chkO T N sc hi phi)) = true from h)
          obtain ⟨h3, h4⟩ := ba h2
          refine both ((pe_slice (sr_sl (X := X)) (sndE a C h1).1 (sndO lo C h3) (sndO hi C h4)).weak fun σ H Q q => ?_) fun _ => rfl
          refine lift1 q fun ρ1 H1 S1 en x v he hs rv q => ?_
          refine ⟨ρ1, en, S1, he, hs, (Aft.bind q).imp (fun ρ2 H2 S2 l x2 s2 q2 => ?_) fun _ _ _ _ _ z => z⟩
          refine ⟨ρ2, en, S2, he.ext x2, s2, (Aft.bind q2).imp (fun ρ3 H3 S3 u x3 s3 q3 => ?_) fun _ _ _ _ _ z => z⟩
          exact v_sl ρ3 H3 S3 x v l u Q _ s3 ((rv.ext x2).ext x3) q3
        | some _ => cases h
      | _ => cases h
    | _ => cases h
  | .rev a, sc, W, X, pe, C, h => by
    cases pe with
    | Subscript pa pb pos =>
      cases pb with
      | Slice plo phi pst p2 =>
        match plo, phi, pst, h with
        | none, none, some (.UnaryOp .USub (.Constant (.int i) k p3) p4), h =>
          obtain ⟨h1, h2⟩ := ba (show (decide (i = 1) && chkE T N sc a pa) = true from h)
          have e := of_decide_eq_true h1
          subst e
          refine both ((pe_revL (sndE a C h2).1).weak fun σ H Q q => lift1 q fun ρ H1 S en x v he hs r q => ?_) fun _ => rfl
          split at q
          · rename_i xs e0
            obtain ⟨p, vs, rfl, g1, g2⟩ := lstOf_rep hs e0 r
            refine ⟨p, vs, rfl, g1, fun l hl => ?_⟩
            obtain ⟨q, rr⟩ := q.newL hs g2.reverse l hl
            exact q _ rr
          · exact aft_stuck q
      | _ => cases h
    | _ => cases h
  | .call f es, sc, W, X, pe, C, h => by
    cases pe with
    | Call pf ps kws pos =>
      cases pf with
      | Name x p =>
        match kws, h with
        | [], h =>
          obtain ⟨h1, h2⟩ := ba (show ((match T.fns[f]? with
            | some (y, qs) => decide (x = y) && decide (es.len = qs.length)
            | none => false) && ((glB sc x && plN x) && (es.plain && chkEs T N sc es ps))) = true from h)
          obtain ⟨h3, h4⟩ := ba h2
          obtain ⟨h5, h6⟩ := ba h3
          obtain ⟨h7, h8⟩ := ba h4
          obtain ⟨p1, p2, p3⟩ := pl_of h6
          cases e : T.fns[f]? with
          | none => rw [e] at h1; cases h1
          | some yq =>
            obtain ⟨y, qs⟩ := yq
            rw [e] at h1
            obtain ⟨g1, g2⟩ := ba h1
            have ex : x = y := of_decide_eq_true g1
            subst ex
            have el : es.len = qs.length := of_decide_eq_true g2
            obtain ⟨fa, m1, m2, m3⟩ := run_call C e
            have IA := sndEs es C h8
            have fin : ∀ {σ : L2.St} {H : Hp} {Q : VK}, tE X.K cl W (ev G (.call f es)) σ H Q → tA X.K cl W (evs G es) σ H (fun vs H1 => spOf X.K cl qs.length (G.fn f) vs H1 Q (fun cls d H' => W cls d σ H')) := fun {σ H Q} q =>
              tA_len h7 (liftA q fun ρ H1 S en xs vs he hs r q hl => ⟨hl.trans el, ρ, xs, S, r, hs, q⟩)
            refine both ⟨fun pins s σ H Q I q => ?_⟩ fun _ => rfl
            have q2 := fin q
            refine wpAny_Call_Name_kw (ld_glob I (C.gl h5) m1 ?_ p1)
            have hlen : ps.length = es.len := plain_len h8
            match ps, IA, h8, hlen with
            | [], IA, h8, hlen =>
              refine PySem.W.callWith_K0 I.kIn m2 ?_
              have hes : es = .nil := by
                cases es with
                | nil => rfl
                | cons _ _ => cases h8
                | star _ _ => cases h8
              subst hes
              obtain ⟨ρ, en, S, he, hs, q3⟩ := q2
              exact m3 pins σ H s Q [] [] I .nil (Aft.here (a := []) q3 hs [] .nil)
            | p0 :: pr, IA, h8, hlen =>
              obtain ⟨k1, a, es', e2, k2, k3, k4⟩ := plain_head h7 h8 rfl
              refine PySem.W.callWith_K (h₀ := X.base) I.ok.mod.kin m2 ?_ (starEach_cons k1) (plain_any k3 k4)
              refine thn (IA.run pos pins s σ H _ I q2) fun us s1 ⟨vs, H1, I1, r1, q1⟩ => ⟨I1.kIn, ?_⟩
              exact m3 pins σ H1 s1 Q us vs I1 r1 q1
        | _ :: _, h => cases h
      | _ => cases h
    | _ => cases h
  | .callk f es ks pm, sc, W, X, pe, C, h => by
    cases pe with
    | Call pf ps kws pos =>
      cases pf with
      | Name x p =>
        obtain ⟨h1, h2⟩ := ba (show ((match T.fns[f]? with
          | some (y, qs) => decide (x = y) && ((decide (pm.length = qs.length) && pm.all fun j => decide (j < es.len + ks.len)) && (T.kws.any fun t => decide (t.1 = f) && (decide (t.2.1 = es.len) && (decide (t.2.2.1.map some = kwN kws) && decide (t.2.2.2 = pm)))))
          | none => false) && ((glB sc x && plN x) && ((es.plain && chkEs T N sc es ps) && (ks.plain && chkEs T N sc ks (kwV kws))))) = true from h)
        obtain ⟨h3, h4⟩ := ba h2
        obtain ⟨h5, h6⟩ := ba h3
        obtain ⟨h7, h8⟩ := ba h4
        obtain ⟨h9, h10⟩ := ba h7
        obtain ⟨h11, h12⟩ := ba h8
        obtain ⟨p1, p2, p3⟩ := pl_of h6
        cases e : T.fns[f]? with
        | none => rw [e] at h1; cases h1
        | some yq =>
          obtain ⟨y, qs⟩ := yq
          rw [e] at h1
          obtain ⟨g1, g2⟩ := ba h1
          obtain ⟨g3, g4⟩ := ba g2
          have ex : x = y := of_decide_eq_true g1
          subst ex
          obtain ⟨g3, g5⟩ := ba g3
          have el : pm.length = qs.length := of_decide_eq_true g3
          have ej : ∀ j ∈ pm, j < es.len + ks.len := fun j hj => of_decide_eq_true (List.all_eq_true.mp g5 j hj)
          obtain ⟨⟨f', m, kn, pm'⟩, gm, gt⟩ := List.any_eq_true.mp g4
          obtain ⟨t1, t2⟩ := ba gt
          obtain ⟨t3, t4⟩ := ba t2
          obtain ⟨t5, t6⟩ := ba t4
          have u1 : f' = f := of_decide_eq_true t1
          have u2 : m = es.len := of_decide_eq_true t3
          have u3 : kn.map some = kwN kws := of_decide_eq_true t5
          have u4 : pm' = pm := of_decide_eq_true t6
          subst u1
          subst u2
          subst u4
          obtain ⟨fa, m1, m2, m3⟩ := run_callk C e gm
          have IA := sndEs es C h10
          have IK := sndK ks C h11 h12
          have hkl : kn.length = ks.len := by
            have z := congrArg List.length u3
            rw [List.length_map] at z
            rw [z, ← plain_len h12]
            exact kw_len kws
          obtain ⟨k1, k2, k3⟩ := kw_facts (env := X.env) (pos := pos) u3
          refine both ⟨fun pins s σ H Q I q => ?_⟩ fun _ => rfl
          have q2 : tA X.K cl W (evs G es) σ H (fun vs H1 => vs.length = es.len ∧ tA X.K cl W (evs G ks) σ H1 fun zs H2 => zs.length = ks.len ∧ spOf X.K cl qs.length (G.fn f') (pm'.filterMap fun j => (vs ++ zs)[j]?) H2 Q (fun cls d H' => W cls d σ H')) := by
            refine tA_len h9 ?_
            obtain ⟨ρ, en, S, he, hs, q⟩ := q
            refine ⟨ρ, en, S, he, hs, (Aft.bind q).imp (fun ρ1 H1 S1 xs x1 s1 q1 => ?_) fun _ _ _ _ _ z => z⟩
            intro vs rv hl
            refine ⟨hl, tA_len h11 ⟨ρ1, en, S1, he.ext x1, s1, (Aft.bind q1).imp (fun ρ2 H2 S2 zs x2 s2 q2 => ?_) fun _ _ _ _ _ z => z⟩⟩
            intro ws rw hl2
            have rr : RepL X.K ρ2 H2 (xs ++ zs) (vs ++ ws) := (rv.ext x2).append rw
            have hlen : (pm'.filterMap fun j => (vs ++ ws)[j]?).length = qs.length := by
              rw [← el]
              exact pm_len fun j hj => by rw [List.length_append, hl, hl2]; exact ej j hj
            exact ⟨hl2, hlen, ρ2, _, S2, rr.perm pm', s2, q2⟩
          refine wpAny_Call_Name_kw (ld_glob I (C.gl h5) m1 ?_ p1)
          have hlen : ps.length = es.len := plain_len h10
          match ps, IA, h10, hlen with
          | [], IA, h10, hlen =>
            refine PySem.W.callWith_KW0 (h₀ := X.base) I.ok.mod.kin m2 k1 ?_ (by rw [k3]; rfl)
            have hes : es = .nil := by
              cases es with
              | nil => rfl
              | cons _ _ => cases h10
              | star _ _ => cases h10
            subst hes
            obtain ⟨ρ, en, S, he, hs, q3⟩ := q2
            obtain ⟨_, q4⟩ := Aft.here (a := []) q3 hs [] .nil
            refine thn (IK.run pos pins s σ H _ I q4) fun ws s2 ⟨zs, H2, I2, rz, hz, q5⟩ => ⟨I2.kIn, ?_⟩
            rw [k2]
            exact m3 pins σ H2 s2 Q [] ws [] zs I2 .nil rz rfl (hz.trans hkl.symm) q5
          | p0 :: pr, IA, h10, hlen =>
            obtain ⟨n1, a, es', e2, n2, n3, n4⟩ := plain_head h9 h10 rfl
            refine PySem.W.callWith_KW (h₀ := X.base) I.ok.mod.kin m2 k1 ?_ (by rw [k3, Bool.or_false]; exact plain_any h9 h10) (starEach_cons n1)
            refine thn (IA.run pos pins s σ H _ I q2) fun us s1 ⟨vs, H1, I1, r1, hl, q1⟩ => ?_
            refine thn (IK.run pos pins s1 σ H1 _ I1 q1) fun ws s2 ⟨zs, H2, I2, rz, hz, q5⟩ => ⟨I2.kIn, ?_⟩
            rw [k2]
            exact m3 pins σ H2 s2 Q us ws vs zs I2 r1 rz hl (hz.trans hkl.symm) q5
      | _ => cases h
    | _ => cases h
  | .bi b es, sc, W, X, pe, C, h => by
    obtain ⟨x, p, ps, pos, epe, hh⟩ := chk_bi h
    clear h
    subst epe
    rcases hh with ⟨t, a, pa, y, py, rfl, rfl, rfl, h⟩ | h
    · obtain ⟨h1, h2⟩ := ba h
      obtain ⟨h3, h4⟩ := ba h2
      obtain ⟨h5, h6⟩ := ba h4
      obtain ⟨h7, h8⟩ := ba h5
      obtain ⟨h9, h10⟩ := ba h6
      obtain ⟨h11, h12⟩ := ba h10
      have e1 : x = ("isinstance" : Str) := of_decide_eq_true h1
      have e2 : y = (tyN t : Str) := of_decide_eq_true h3
      subst e1
      subst e2
      obtain ⟨p1, p2, p3⟩ := pl_of h9
      have B : PE X (.Name (tyN t : Str) py) (tC (.ty (tyN t))) := pe_bltn (C.gl h8) (C.tab.tys t) (ty_boot t) rfl p3 p1
      have A := (sndE a C h12).1
      have hs2 : starEach ([.Name (tyN t : Str) py] : List PySem.Expr) X.env = (false, eval (.Name (tyN t : Str) py) X.env) :: starEach [] X.env := rfl
      refine both ((pe_callB call_isi (C.gl h7) (C.tab.bins (.isin t) (fun z => nomatch z)) (bi_boot (.isin t) (fun z => nomatch z)) (pa_cons A (pa_cons B pa_nil hs2) (starEach_cons h11)) (by decide) (by decide) (starEach_cons h11) rfl).weak fun σ H Q q => ?_) fun _ => rfl
      obtain ⟨ρ, en, S, he, hs, q⟩ := q
      simp only [ev, evs] at q
      rw [R.bind_assoc] at q
      refine ⟨ρ, en, S, he, hs, (Aft.bind q).imp (fun ρ1 H1 S1 d x1 s1 q1 => ?_) fun _ _ _ _ _ z => z⟩
      intro v rv
      simp only [R.bind_ok, bi] at q1
      cases z : isTy t d S1 with
      | none => rw [z] at q1; exact aft_stuck q1
      | some k =>
        rw [z] at q1
        obtain ⟨Ty', y1, y2⟩ := v_isin t ρ1 H1 S1 d v k s1 rv z
        exact ⟨v, .ty (tyN t), Ty', .type (tyN t), k, rfl, .ty _, y1, y2, Aft.here (a := D.bl k) q1 s1 _ (.bl _)⟩
    · obtain ⟨h1, h2⟩ := ba h
      obtain ⟨h3, h4⟩ := ba h2
      obtain ⟨h5, h6⟩ := ba h4
      obtain ⟨h7, h8⟩ := ba h6
      obtain ⟨h9, h10⟩ := ba h8
      have e1 : x = (biN b : Str) := of_decide_eq_true h3
      subst e1
      have hb : isIsin b = false := by simpa using h1
      have hne : es.len ≠ 0 := of_decide_eq_true h7
      obtain ⟨n1, n2⟩ := bi_name b
      obtain ⟨r, o1, o2⟩ := or_bi (cl := cl) (X := X) rfl C.calm C.gd (by have := C.hu; omega) b hb
      have IA := sndEs es C h10
      have hlen : ps.length = es.len := plain_len h10
      match ps, IA, h10, hlen with
      | [], IA, h10, hlen => exact absurd hlen.symm hne
      | p0 :: pr, IA, h10, hlen =>
        obtain ⟨k1, a, es', e2, k2, k3, k4⟩ := plain_head h9 h10 rfl
        have fin : ∀ {pe' : PySem.Expr}, PE X pe' (tCB r (tA X.K cl W (evs G es))) → PE X pe' (tE X.K cl W (ev G (.bi b es))) := fun hp => hp.weak fun σ H Q q => by
          refine liftA q fun ρ H1 S en xs vs he hs rr q => ?_
          exact o2 ρ H1 S xs vs Q _ hs rr q
        refine both (fin ?_) fun _ => rfl
        by_cases hg : b = .gcd
        · subst hg
          exact pe_callBfun o1 (C.gl h5) C.tab.gcd IA n2 (starEach_cons k1) (plain_any k3 k4)
        · have hv := bi_boot b hg
          cases z : biV b with
          | fn id =>
            rw [z] at o1 hv
            exact pe_callB o1 (C.gl h5) (C.tab.bins b hg) hv IA n1 n2 (starEach_cons k1) (plain_any k3 k4)
          | ty Ty' =>
            rw [z] at o1 hv
            exact pe_callTy o1 (C.gl h5) (C.tab.bins b hg) hv IA n1 n2 (starEach_cons k1) (plain_any k3 k4)
  | .mt m a es, sc, W, X, pe, C, h => by
    cases pe with
    | Call pf ps kws pos =>
      cases pf with
      | Attribute pa y apos =>
        cases kws with
        | nil =>
          obtain ⟨h1, h2⟩ := ba (show (decide (y = (mtN m : Str)) && ((apos.endLine == pos.line) && (notCall0 pa && (decide (ps.length < 20) && (chkE T N sc a pa && (es.plain && chkEs T N sc es ps)))))) = true from h)
          obtain ⟨h3, h4⟩ := ba h2
          obtain ⟨h5, h6⟩ := ba h4
          obtain ⟨h7, h8⟩ := ba h6
          obtain ⟨h9, h10⟩ := ba h8
          obtain ⟨h11, h12⟩ := ba h10
          have e1 : y = (mtN m : Str) := of_decide_eq_true h1
          subst e1
          have hl20 : ps.length < 20 := of_decide_eq_true h7
          obtain ⟨id, r, o1, o2, o3, o4, o5⟩ := or_mt (cl := cl) (X := X) rfl m
          have A := (sndE a C h9).1
          have IA := sndEs es C h12
          have key : ∀ {σ : L2.St} {H : Hp} {Q : VK}, tE X.K cl W (ev G (.mt m a es)) σ H Q → tE X.K cl W (ev G a) σ H fun x H1 => tyV X.K (mtT m) x H1 ∧ tA X.K cl W (evs G es) σ H1 fun xs H2 => r x xs H2 Q := fun {σ H Q} q =>
            lift1 q fun ρ H1 S en x v he hs rv q => by
              split at q
              · rename_i hm
                refine ⟨v_mtTy m hs rv hm, ρ, en, S, he, hs, (Aft.bind q).imp (fun ρ2 H2 S2 xs x2 s2 q2 => ?_) fun _ _ _ _ _ z => z⟩
                intro vs rvs
                exact o5 ρ2 H2 S2 x v xs vs Q _ s2 (rv.ext x2) rvs q2
              · exact aft_stuck q
          have hlen : ps.length = es.len := plain_len h12
          refine both ?_ fun _ => rfl
          match ps, IA, h12, hlen, hl20 with
          | [], IA, h12, hlen, _ =>
            have hes : es = .nil := by
              cases es with
              | nil => rfl
              | cons _ _ => cases h12
              | star _ _ => cases h12
            subst hes
            refine (pe_bm0 o1 o2 o3 o4 A (base_of h5) h3).weak fun σ H Q q => ?_
            obtain ⟨ρ, en, S, he, hs, q⟩ := key q
            refine ⟨ρ, en, S, he, hs, q.imp (fun ρ1 H1 S1 x x1 s1 q1 => ?_) fun _ _ _ _ _ z => z⟩
            intro v rv
            obtain ⟨ty, ρ2, en2, S2, he2, hs2, q2⟩ := q1 v rv
            exact ⟨ty, Aft.here (a := []) q2 hs2 [] .nil⟩
          | p0 :: pr, IA, h12, hlen, hl20 =>
            obtain ⟨k1, a', es', e2, k2, k3, k4⟩ := plain_head h11 h12 rfl
            refine (pe_bm o1 o2 o3 o4 A IA (base_of h5) ?_ h3 (starEach_cons k1) (plain_any k3 k4)).weak fun σ H Q q => key q
            have q1 := plain_all (pos := pos) (env := X.env) h11 h12
            have q2 : decide ((p0 :: pr).length + ([] : List Keyword).length + (if ([] : List Keyword).isEmpty then 0 else 1) < 30) = true := by
              apply decide_eq_true
              simp only [List.length_nil, List.isEmpty_nil, if_true]
              omega
            exact Bool.and_eq_true_iff.mpr ⟨Bool.and_eq_true_iff.mpr ⟨q1, rfl⟩, q2⟩
        | cons _ _ => cases h
      | _ => cases h
    | _ => cases h
  | .lc own elt pt it c, sc, W, X, pe, C, h => by
    obtain ⟨pelt, ptg, pit, pifs, scope, pos, epe, hh⟩ := chk_lc h
    clear h
    subst epe
    obtain ⟨h1, h2⟩ := ba hh
    obtain ⟨h3, h4⟩ := ba h2
    obtain ⟨h5, h6⟩ := ba h4
    obtain ⟨h7, h8⟩ := ba h6
    refine both ((pe_lc (own := own) (g := gPt X.K pt) (wi := tI X.K cl W (evi G it)) (tt := tB X.K cl W0 (evc G c)) (te := tE X.K cl W0 (ev G elt)) C.calm (by rw [C.nN]; exact C.nd) (sndI it C h5) (by rw [C.nN, C.sc]; exact blkOk_by h1)
      (fun s H Cc l fp => pg_pt (X := X.blk s H scope (compEnvC scope l Cc X.env) fp) (sc := scope) (rs := relB scope sc) C.nN C.nd (C.blk.sc) (fun x hx => hx) C.calm h3)
      (fun s H Cc l fp => sndC c (C.blk (s := s) (H := H) (Cc := Cc) (l := l) (fp := fp) (scope := scope)) h7)
      (fun s H Cc l fp => (sndE elt (C.blk (s := s) (H := H) (Cc := Cc) (l := l) (fp := fp) (scope := scope)) h8).1) (chkI_fold h5)).weak fun σ H Q q => ?_) fun _ => rfl
    obtain ⟨ρ, en, S, he, hs, q⟩ := q
    refine ⟨ρ, en, S, he, hs, (Aft.bind q).imp (fun ρ1 H1 S1 src x1 s1 q1 => ?_) fun _ _ _ _ _ z => z⟩
    intro J hJ Dn hD
    exact lc_run h3 (he.ext x1) s1 hJ q1 (fun ρ H S d v z r => z v r) Dn hD
  | .lc2 own own1 elt pt it p1 it1, sc, W, X, pe, C, h => by
    obtain ⟨pelt, ptg, pit, ptg1, pit1, scope, pos, epe, hh⟩ := chk_lc2 h
    clear h
    subst epe
    obtain ⟨h1, h2⟩ := ba hh
    obtain ⟨h3, h4⟩ := ba h1
    obtain ⟨h5, h6⟩ := ba h2
    obtain ⟨h7, h8⟩ := ba h5
    obtain ⟨h9, h10⟩ := ba h6
    obtain ⟨h11, h12⟩ := ba h9
    refine both ((pe_lc2 (own := own) (vs1 := own1) (g := gPt X.K pt) (g1 := gPt X.K p1) (wi := tI X.K cl W (evi G it)) (wi1 := tI X.K cl W0 (evi G it1)) (te := tE X.K cl W0 (ev G elt)) C.calm (by rw [C.nN]; exact C.nd) (sndI it C h11) (by rw [C.nN, C.sc]; exact blkOk_by h3) (fun i hi => by
        have := List.all_eq_true.mp h4 i hi
        simpa using this)
      (fun s H Cc l fp => pg_pt (X := X.blk s H scope (compEnvC scope l Cc X.env) fp) (sc := scope) (rs := relB scope sc) C.nN C.nd (C.blk.sc) (fun x hx => hx) C.calm h7)
      (fun s H Cc l fp => pts_nil)
      (fun s H Cc l fp => sndI it1 (C.blk (s := s) (H := H) (Cc := Cc) (l := l) (fp := fp) (scope := scope)) h12)
      (fun s H Cc l fp => pg_pt (X := X.blk s H scope (compEnvC scope l Cc X.env) fp) (sc := scope) (rs := relB scope sc) C.nN C.nd (C.blk.sc) (fun x hx => hx) C.calm h8)
      (fun s H Cc l fp => pts_nil)
      (fun s H Cc l fp => (sndE elt (C.blk (s := s) (H := H) (Cc := Cc) (l := l) (fp := fp) (scope := scope)) h10).1) (chkI_fold h11) (fun env => chkI_fold h12)).weak fun σ H Q q => ?_) fun _ => rfl
    obtain ⟨ρ, en, S, he, hs, q⟩ := q
    refine ⟨ρ, en, S, he, hs, (Aft.bind q).imp (fun ρ1 H1 S1 src x1 s1 q1 => ?_) fun _ _ _ _ _ z => z⟩
    intro J hJ Dn hD
    exact lc2_run (own1 := own.filter fun q => own1.contains q.2) (vs1 := own1) h7 h8 (fun q hq => by simpa using (List.mem_filter.mp hq).2) (he.ext x1) s1 hJ q1 (fun ρ H S d v z r => z v r) Dn hD
theorem sndEs : ∀ (es : Es) {sc : Scope} {W : WX} {X : Cx} {ps : List PySem.Expr}, Cxt T G cl N n sc W X → chkEs T N sc es ps = true → PA X ps (tA X.K cl W (evs G es))
  | .nil, sc, W, X, ps, C, h => by
    cases ps with
    | nil => exact pa_nil.weak fun σ H Q ⟨ρ, en, S, he, hs, q⟩ => Aft.here (a := []) q hs [] .nil
    | cons _ _ => cases h
  | .cons a r, sc, W, X, ps, C, h => by
    cases ps with
    | nil => cases h
    | cons p ps =>
      obtain ⟨h1, h2⟩ := ba (show (notStar p && (chkE T N sc a p && chkEs T N sc r ps)) = true from h)
      obtain ⟨h3, h4⟩ := ba h2
      refine (pa_cons (sndE a C h3).1 (sndEs r C h4) (starEach_cons h1)).weak fun σ H Q q => ?_
      obtain ⟨ρ, en, S, he, hs, q⟩ := q
      refine ⟨ρ, en, S, he, hs, (Aft.bind q).imp (fun ρ1 H1 S1 d x1 s1 q1 => ?_) fun _ _ _ _ _ z => z⟩
      intro v rv
      refine ⟨ρ1, en, S1, he.ext x1, s1, (Aft.bind q1).imp (fun ρ2 H2 S2 ds x2 s2 q2 => ?_) fun _ _ _ _ _ z => z⟩
      intro vs rvs
      exact Aft.here (a := d :: ds) q2 s2 _ (.cons (rv.ext x2) rvs)
  | .star a r, sc, W, X, ps, C, h => by
    cases ps with
    | nil => cases h
    | cons p ps =>
      cases p with
      | Starred e pos =>
        obtain ⟨h3, h4⟩ := ba (show (chkE T N sc a e && chkEs T N sc r ps) = true from h)
        refine (StX.pa_star (sndE a C h3).1 (sndEs r C h4)).weak fun σ H Q q => ?_
        obtain ⟨ρ, en, S, he, hs, q⟩ := q
        refine ⟨ρ, en, S, he, hs, (Aft.bind q).imp (fun ρ1 H1 S1 d x1 s1 q1 => ?_) fun _ _ _ _ _ z => z⟩
        intro v rv
        cases z : seqOf S1 d with
        | none => rw [z] at q1; exact aft_stuck q1
        | some ys =>
          rw [z] at q1
          obtain ⟨pp, ws, e1, e2, e3⟩ := seqOf_rep s1 z rv
          refine ⟨pp, ws, e1, e2.symm, ρ1, en, S1, he.ext x1, s1, (Aft.bind q1).imp (fun ρ2 H2 S2 ds x2 s2 q2 => ?_) fun _ _ _ _ _ z => z⟩
          intro vs rvs
          exact Aft.here (a := ys ++ ds) q2 s2 _ ((e3.ext x2).append rvs)
      | _ => cases h
theorem sndK : ∀ (es : Es) {sc : Scope} {W : WX} {X : Cx} {kws : List Keyword}, Cxt T G cl N n sc W X → es.plain = true → chkEs T N sc es (kwV kws) = true → PK X kws (tA X.K cl W (evs G es))
  | .nil, sc, W, X, kws, C, _, h => by
    cases kws with
    | nil => exact pk_nil.weak fun σ H Q ⟨ρ, en, S, he, hs, q⟩ => Aft.here (a := []) q hs [] .nil
    | cons k _ => obtain ⟨_, _, _⟩ := k; cases h
  | .cons a r, sc, W, X, kws, C, hp, h => by
    cases kws with
    | nil => cases h
    | cons k kws =>
      obtain ⟨kn, p, kp⟩ := k
      obtain ⟨h1, h2⟩ := ba (show (notStar p && (chkE T N sc a p && chkEs T N sc r (kwV kws))) = true from h)
      obtain ⟨h3, h4⟩ := ba h2
      refine (pk_cons (sndE a C h3).1 (sndK r C hp h4)).weak fun σ H Q q => ?_
      obtain ⟨ρ, en, S, he, hs, q⟩ := q
      refine ⟨ρ, en, S, he, hs, (Aft.bind q).imp (fun ρ1 H1 S1 d x1 s1 q1 => ?_) fun _ _ _ _ _ z => z⟩
      intro v rv
      refine ⟨ρ1, en, S1, he.ext x1, s1, (Aft.bind q1).imp (fun ρ2 H2 S2 ds x2 s2 q2 => ?_) fun _ _ _ _ _ z => z⟩
      intro vs rvs
      exact Aft.here (a := d :: ds) q2 s2 _ (.cons (rv.ext x2) rvs)
  | .star a r, sc, W, X, kws, C, hp, h => by cases hp
theorem sndO : ∀ (o : Oe) {sc : Scope} {W : WX} {X : Cx} {p : Option PySem.Expr}, Cxt T G cl N n sc W X → chkO T N sc o p = true → PO X p (tO X.K cl W (evo G o))
  | .none, sc, W, X, p, C, h => by
    cases p with
    | none => exact po_none.weak fun σ H Q ⟨ρ, en, S, he, hs, q⟩ => Aft.here (a := (none : Option Int)) q hs
    | some _ => cases h
  | .some a, sc, W, X, p, C, h => by
    cases p with
    | none => cases h
    | some p =>
      refine (po_some (sndE a C (show chkE T N sc a p = true from h)).1).weak fun σ H Q q => ?_
      obtain ⟨ρ, en, S, he, hs, q⟩ := q
      refine ⟨ρ, en, S, he, hs, (Aft.bind q).imp (fun ρ1 H1 S1 d x1 s1 q1 => ?_) fun _ _ _ _ _ z => z⟩
      intro v rv
      cases d with
      | int i => cases rv; exact ⟨i, rfl, Aft.here (a := some i) q1 s1⟩
      | _ => exact aft_stuck q1
theorem sndC : ∀ (o : Oe) {sc : Scope} {W : WX} {X : Cx} {p : List PySem.Expr}, Cxt T G cl N n sc W X → chkC T N sc o p = true → PTs X p (tB X.K cl W (evc G o))
  | .none, sc, W, X, p, C, h => by
    cases p with
    | nil => exact pts_nil.weak fun σ H Q ⟨ρ, en, S, he, hs, q⟩ => Aft.here (a := true) q hs
    | cons _ _ => cases h
  | .some a, sc, W, X, p, C, h => by
    match p, h with
    | [], h => cases h
    | [p], h => exact pts_one (sndE a C (show chkE T N sc a p = true from h)).2
    | _ :: _ :: _, h => cases h
theorem sndI : ∀ (it : It) {sc : Scope} {W : WX} {X : Cx} {p tg : PySem.Expr}, Cxt T G cl N n sc W X → chkI T N sc it p tg = true → PI X tg p (tI X.K cl W (evi G it))
  | .seq a, sc, W, X, p, tg, C, h => by
    obtain ⟨h1, h2⟩ := ba (chk_seq h)
    refine (pi_seq (sndE a C h2).1).weak fun σ H Q q => ?_
    obtain ⟨ρ, en, S, he, hs, q⟩ := q
    refine ⟨ρ, en, S, he, hs, (Aft.bind q).imp (fun ρ1 H1 S1 d x1 s1 q1 => ?_) fun _ _ _ _ _ z => z⟩
    intro v rv
    obtain ⟨src, e, z⟩ := Aft.of q1 s1
    exact v_srcSeq s1 rv e z
  | .rng1 a, sc, W, X, p, tg, C, h => by
    obtain ⟨x, pn, pa, pos, rfl, h⟩ := chk_r1 h
    obtain ⟨h1, h2⟩ := ba h
    obtain ⟨h3, h4⟩ := ba h2
    obtain ⟨h5, h6⟩ := ba h4
    have ex : x = ("range" : Str) := of_decide_eq_true h1
    subst ex
    refine (pi_range1 (C.gl h3) C.tab.range (pa_cons (sndE a C h6).1 pa_nil (starEach_cons h5)) (starEach_cons h5)).weak fun σ H Q q => ?_
    obtain ⟨ρ, en, S, he, hs, q⟩ := q
    refine ⟨ρ, en, S, he, hs, (Aft.bind q).imp (fun ρ1 H1 S1 d x1 s1 q1 => ?_) fun _ _ _ _ _ z => z⟩
    intro v rv
    cases d with
    | int j =>
      cases rv
      simp only at q1
      split at q1
      · rename_i hz
        exact ⟨j, rfl, hz.1, hz.2, by simpa using Aft.here q1 s1 _ (ItOk.rng (i := 0) (j := j))⟩
      · exact aft_stuck q1
    | _ => exact aft_stuck q1
  | .rng2 a b, sc, W, X, p, tg, C, h => by
    obtain ⟨x, pn, pa, pb, pos, rfl, h⟩ := chk_r2 h
    obtain ⟨h1, h2⟩ := ba h
    obtain ⟨h3, h4⟩ := ba h2
    obtain ⟨h5, h6⟩ := ba h4
    obtain ⟨h7, h8⟩ := ba h5
    obtain ⟨h9, h10⟩ := ba h6
    have ex : x = ("range" : Str) := of_decide_eq_true h1
    subst ex
    refine (pi_range2 (C.gl h3) C.tab.range (pa_cons (sndE a C h9).1 (pa_cons (sndE b C h10).1 pa_nil (starEach_cons h8)) (starEach_cons h7)) (by rw [starEach_cons h7, starEach_cons h8]; rfl) (starEach_cons h8)).weak fun σ H Q q => ?_
    obtain ⟨ρ, en, S, he, hs, q⟩ := q
    refine ⟨ρ, en, S, he, hs, (Aft.bind q).imp (fun ρ1 H1 S1 d x1 s1 q1 => ?_) fun _ _ _ _ _ z => z⟩
    intro v rv
    refine ⟨ρ1, en, S1, he.ext x1, s1, (Aft.bind q1).imp (fun ρ2 H2 S2 e x2 s2 q2 => ?_) fun _ _ _ _ _ z => z⟩
    intro w rw
    cases d with
    | int i =>
      cases e with
      | int j =>
        cases rv
        cases rw
        simp only at q2
        split at q2
        · rename_i hz
          exact ⟨i, j, rfl, ⟨hz.1.1, hz.1.2, hz.2.1, hz.2.2⟩, Aft.here q2 s2 _ (ItOk.rng (i := i) (j := j))⟩
        · exact aft_stuck q2
      | _ => exact aft_stuck q2
    | _ => exact aft_stuck q2
  | .rng3 a b c, sc, W, X, p, tg, C, h => by
    obtain ⟨x, pn, pa, pb, pc, pos, rfl, h⟩ := chk_r3 h
    obtain ⟨h1, h2⟩ := ba h
    obtain ⟨h3, h4⟩ := ba h2
    obtain ⟨h5, h6⟩ := ba h4
    obtain ⟨h7, h8⟩ := ba h5
    obtain ⟨h8, h8'⟩ := ba h8
    obtain ⟨h9, h10⟩ := ba h6
    obtain ⟨h10, h11⟩ := ba h10
    have ex : x = ("range" : Str) := of_decide_eq_true h1
    subst ex
    refine (pi_range3 (C.gl h3) C.tab.range (pa_cons (sndE a C h9).1 (pa_cons (sndE b C h10).1 (pa_cons (sndE c C h11).1 pa_nil (starEach_cons h8')) (starEach_cons h8)) (starEach_cons h7)) (starEach_cons h7) (by rw [starEach_cons h8, starEach_cons h8']; rfl)).weak fun σ H Q q => ?_
    obtain ⟨ρ, en, S, he, hs, q⟩ := q
    refine ⟨ρ, en, S, he, hs, (Aft.bind q).imp (fun ρ1 H1 S1 d x1 s1 q1 => ?_) fun _ _ _ _ _ z => z⟩
    intro v rv
    refine ⟨ρ1, en, S1, he.ext x1, s1, (Aft.bind q1).imp (fun ρ2 H2 S2 e x2 s2 q2 => ?_) fun _ _ _ _ _ z => z⟩
    intro w rw
    refine ⟨ρ2, en, S2, (he.ext x1).ext x2, s2, (Aft.bind q2).imp (fun ρ3 H3 S3 f x3 s3 q3 => ?_) fun _ _ _ _ _ z => z⟩
    intro u ru
    cases d with
    | int i =>
      cases e with
      | int j =>
        cases f with
        | int k =>
          cases rv
          cases rw
          cases ru
          simp only at q3
          split at q3
          · rename_i hz
            obtain ⟨z1, z2, z3⟩ := hz
            subst z3
            exact ⟨i, j, -1, (i - j).toNat, rfl, RgC.neg z1.1 z1.2 z2.1 z2.2, Aft.here q3 s3 _ (ItOk.dn (i := i) (j := j))⟩
          · exact aft_stuck q3
        | _ => exact aft_stuck q3
      | _ => exact aft_stuck q3
    | _ => exact aft_stuck q3
  | .enum a, sc, W, X, p, tg, C, h => by
    obtain ⟨x, pn, pa, pos, rfl, h⟩ := chk_en h
    obtain ⟨h1, h2⟩ := ba h
    obtain ⟨h3, h4⟩ := ba h2
    obtain ⟨h5, h6⟩ := ba h4
    obtain ⟨h7, h8⟩ := ba h5
    have ex : x = ("enumerate" : Str) := of_decide_eq_true h1
    subst ex
    cases tg with
    | Tuple elts kk tpos =>
      refine (pi_enumV (C.gl h3) C.tab.enum (pa_cons (sndE a C h6).1 pa_nil (starEach_cons h7)) (starEach_cons h7)).weak fun σ H Q q => ?_
      obtain ⟨ρ, en, S, he, hs, q⟩ := q
      refine ⟨ρ, en, S, he, hs, (Aft.bind q).imp (fun ρ1 H1 S1 d x1 s1 q1 => ?_) fun _ _ _ _ _ z => z⟩
      intro v rv
      obtain ⟨src, e, z⟩ := Aft.of q1 s1
      obtain ⟨pp, vs, rfl, r⟩ := v_srcEnum s1 rv e z
      exact ⟨pp, vs, rfl, r⟩
    | _ => cases h8
  | .zip a b, sc, W, X, p, tg, C, h => by
    obtain ⟨x, pn, pa, pb, pos, rfl, h⟩ := chk_zp h
    obtain ⟨h1, h2⟩ := ba h
    obtain ⟨h3, h4⟩ := ba h2
    obtain ⟨h5, h6⟩ := ba h4
    obtain ⟨h7, h8⟩ := ba h5
    obtain ⟨h88, h89⟩ := ba h8
    obtain ⟨h9, h10⟩ := ba h6
    have ex : x = ("zip" : Str) := of_decide_eq_true h1
    subst ex
    cases tg with
    | Tuple elts kk tpos =>
      refine (RZ.pi_zipA (C.gl h3) C.tab.zip (pa_cons (sndE a C h9).1 (pa_cons (sndE b C h10).1 pa_nil (starEach_cons h88)) (starEach_cons h7)) (starEach_cons h7) (by rw [starEach_cons h88]; rfl)).weak fun σ H Q q => ?_
      obtain ⟨ρ, en, S, he, hs, q⟩ := q
      refine ⟨ρ, en, S, he, hs, (Aft.bind q).imp (fun ρ1 H1 S1 d x1 s1 q1 => ?_) fun _ _ _ _ _ z => z⟩
      intro v rv
      refine ⟨ρ1, en, S1, he.ext x1, s1, (Aft.bind q1).imp (fun ρ2 H2 S2 e x2 s2 q2 => ?_) fun _ _ _ _ _ z => z⟩
      intro w rw
      obtain ⟨src, e, z⟩ := Aft.of q2 s2
      exact v_srcZip s2 (rv.ext x2) rw e z
    | _ => cases h89
end
end
end Ev
end
section
set_option Elab.async false
set_option linter.all false
set_option maxRecDepth 100000
set_option maxHeartbeats 4000000
set_option autoImplicit false
/-! Ev11: statements: the checker, the readings. -/
namespace Ev
open PySem PySem.Spec PyProof.Rows L2

/-! ### the order of stores -/
def isFn (sc : Scope) : Bool := match sc.kind with
  | .function => true
  | _ => false
theorem isFn_of {sc : Scope} (h : isFn sc = true) : sc.kind = .function := by
  unfold isFn at h
  split at h
  · assumption
  · cases h
theorem blk_fn {env : Env} (h : env.scope.kind = .function) : env.blockKind = .function := by unfold Env.blockKind; rw [h]; rfl
/-- a comprehension's own names -/
def compSc : PySem.Expr → Option Scope
  | .ListComp _ _ s _ => some s
  | .SetComp _ _ s _ => some s
  | .DictComp _ _ _ s _ => some s
  | _ => none
/-- name = [..] on one line -/
def swapB (sc : Scope) (tg e : PySem.Expr) : Bool := match compSc e, tg with
  | some s, .Name t pos => (sc.names.lookup t == some .local) && (pos.line == e.pos.line) && !(s.names.any fun (n, k) => n == t && (k == .local || k == .cell))
  | _, _ => false
theorem swaps_eq {env : Env} {tg e : PySem.Expr} {l : Nat} (hk : env.scope.kind = .function) : swapsWith e (some tg) l env = pure (swapB env.scope tg e) := by
  have hb := blk_fn hk
  have q : ∀ t : Str, env.kindOf t = env.scope.names.lookup t := fun _ => rfl
  cases e with
  | ListComp a b s p => cases tg <;> first | rfl | (show pure (env.blockKind == .function && env.kindOf _ == some .local && _ && _) = _; rw [hb, q]; rfl)
  | SetComp a b s p => cases tg <;> first | rfl | (show pure (env.blockKind == .function && env.kindOf _ == some .local && _ && _) = _; rw [hb, q]; rfl)
  | DictComp a b c s p => cases tg <;> first | rfl | (show pure (env.blockKind == .function && env.kindOf _ == some .local && _ && _) = _; rw [hb, q]; rfl)
  | _ => rfl
def isStarE : PySem.Expr → Bool
  | .Starred .. => true
  | _ => false
/-- the plain local names of a tuple of targets -/
def nmS (sc : Scope) (ts : List PySem.Expr) : List Str := ts.filterMap fun
  | .Name id pos => if sc.names.lookup id == some .local && pos.line == (ts.head?.map (·.pos.line)).getD 0 then some id else none
  | _ => none
def swQuick (sc : Scope) (ts vs : List PySem.Expr) : Bool :=
  !(ts.length == 2 || ts.length == 3) || vs.length != ts.length || vs.any isStarE || ((nmS sc ts).length != ts.length || (nmS sc ts).eraseDups.length != (nmS sc ts).length) || vs.all (foldedForSure 8)
theorem sw_none {env : Env} {ts vs : List PySem.Expr} {k k2 : Nat} {p p2 : Pos} (hk : env.scope.kind = .function) (h : swQuick env.scope ts vs = true) : swappedStores [.Tuple ts k p] (.Tuple vs k2 p2) env = pure none := by
  have hb := blk_fn hk
  unfold swQuick at h
  unfold swappedStores
  simp only [Bool.or_eq_true] at h
  show (if (!(ts.length == 2 || ts.length == 3) || vs.length != ts.length || env.blockKind != .function) = true then pure none else _) = _
  split
  · rfl
  · rename_i h1
    simp only [hb, bne_self_eq_false, Bool.or_false, Bool.or_eq_true, not_or] at h1
    show (if vs.any isStarE = true then pure none else _) = _
    split
    · rfl
    · rename_i h2
      show (if ((nmS env.scope ts).length != ts.length || (nmS env.scope ts).eraseDups.length != (nmS env.scope ts).length) = true then pure none else _) = _
      split
      · rfl
      · rename_i h3
        show (if vs.all (foldedForSure 8) = true then pure none else _) = _
        split
        · rfl
        · rename_i h4
          exfalso
          rcases h with (((h | h) | h) | h) | h
          · exact h1.1 h
          · exact h1.2 h
          · exact h2 h
          · exact h3 (by simpa using h)
          · exact h4 h
theorem sw_some {env : Env} {ts vs : List PySem.Expr} {k k2 : Nat} {p p2 : Pos} (hk : env.scope.kind = .function) (h : swQuick env.scope ts vs = false) (h2 : vs.all (constantsAlone 8) = false) : swappedStores [.Tuple ts k p] (.Tuple vs k2 p2) env = pure (some (nmS env.scope ts)) := by
  have hb := blk_fn hk
  unfold swQuick at h
  simp only [Bool.or_eq_false_iff] at h
  obtain ⟨⟨⟨⟨g1, g2⟩, g3⟩, g4, g4'⟩, g5⟩ := h
  unfold swappedStores
  show (if (!(ts.length == 2 || ts.length == 3) || vs.length != ts.length || env.blockKind != .function) = true then pure none else _) = _
  rw [if_neg (by rw [g1, g2, hb]; decide)]
  show (if vs.any isStarE = true then pure none else _) = _
  rw [if_neg (by rw [g3]; decide)]
  show (if ((nmS env.scope ts).length != ts.length || (nmS env.scope ts).eraseDups.length != (nmS env.scope ts).length) = true then pure none else _) = _
  rw [if_neg (by rw [g4, g4']; decide)]
  show (if vs.all (foldedForSure 8) = true then pure none else _) = _
  rw [if_neg (by rw [g5]; decide)]
  show (if vs.all (constantsAlone 8) = true then _ else pure (some (nmS env.scope ts))) = _
  rw [if_neg (by rw [h2]; decide)]
/-- stored from the left, one by one -/
def swNo (sc : Scope) (tg e : PySem.Expr) : Bool := match tg, e with
  | .Tuple ts _ _, .Tuple vs _ _ => swQuick sc ts vs
  | .List _ _, .Tuple _ _ _ => false
  | _, _ => true
theorem sw_no {env : Env} {tg e : PySem.Expr} (hk : env.scope.kind = .function) (h : swNo env.scope tg e = true) : swappedStores [tg] e env = pure none := by
  cases tg with
  | Tuple ts k p =>
    cases e with
    | Tuple vs k2 p2 => exact sw_none hk h
    | _ => rfl
  | List ts p =>
    cases e with
    | Tuple vs k2 p2 => cases h
    | _ => rfl
  | _ => rfl

/-! ### the checker -/
section
variable (T : Tbl) (N : List Str)
mutual
def chkT (sc : Scope) : Tg → PySem.Expr → Bool
  | .nm i, .Name x _ => decide (N[i]? = some x) && locB sc x
  | .tup ts, .Tuple es _ _ => chkTs sc ts es
  | .sub a i, .Subscript pa pi _ => notSlice pi && (chkE T N sc a pa && chkE T N sc i pi)
  | _, _ => false
def chkTs (sc : Scope) : List Tg → List PySem.Expr → Bool
  | [], [] => true
  | t :: ts, e :: es => notStar e && (chkT sc t e && chkTs sc ts es)
  | _, _ => false
end
/-- name, name[, name] = .. with plain local names -/
def chkPar (sc : Scope) : List Nat → List PySem.Expr → List PySem.Expr → Bool
  | [i, j], [.Name x px, .Name y py], [a, b] => (decide (N[i]? = some x) && decide (N[j]? = some y)) && (decide (i ≠ j) && ((loclB sc x && loclB sc y) && ((!swQuick sc [.Name x px, .Name y py] [a, b] && !([a, b].all (constantsAlone 8))) && decide (nmS sc [.Name x px, .Name y py] = [x, y]))))
  | [i, j, l], [.Name x px, .Name y py, .Name z pz], [a, b, c] => (decide (N[i]? = some x) && (decide (N[j]? = some y) && decide (N[l]? = some z))) && ((decide (i ≠ j) && (decide (i ≠ l) && decide (j ≠ l))) && ((loclB sc x && (loclB sc y && loclB sc z)) && ((!swQuick sc [.Name x px, .Name y py, .Name z pz] [a, b, c] && !([a, b, c].all (constantsAlone 8))) && decide (nmS sc [.Name x px, .Name y py, .Name z pz] = [x, y, z]))))
  | _, _, _ => false
def isLc : E → Bool
  | .lc .. => true
  | .lc2 .. => true
  | _ => false
def augB : Op2 → Operator → Bool
  | .add, .Add => true
  | .sub, .Sub => true
  | _, _ => false
/-- what an except suite lays in its list; e: the error's name -/
def chkX (sc : Scope) (e : Str) : Xa → PySem.Expr → Bool
  | .fld f, .Attribute (.Name y _) g _ => decide (y = e) && decide (g = f)
  | .isc c, .Call (.Name i _) [.Name y _, .Name z _] [] _ => (decide (i = ("isinstance" : Str)) && glB sc i) && (decide (y = e) && (decide ((T.ecs[c]?).map (·.1) = some z) && (glB sc z && plN z)))
  | .isb m, .Call (.Name i _) [.Name y _, .Name z _] [] _ => (decide (i = ("isinstance" : Str)) && glB sc i) && (decide (y = e) && (decide (m = "ValueError") && (decide (z = ("ValueError" : Str)) && glB sc z)))
  | _, _ => false
def chkXs (sc : Scope) (e : Str) : List Xa → List PySem.Expr → Bool
  | [], [] => true
  | a :: as, p :: ps => notStar p && (chkX T sc e a p && chkXs sc e as ps)
  | _, _ => false
mutual
def chkS (sc : Scope) : Sm → PySem.Stmt → Bool
  | .asg t e, .Assign [tg] pe _ => chkT T N sc t tg && (chkE T N sc e pe && (swNo sc tg pe && (!swapB sc tg pe || isLc e)))
  | .par is es, .Assign [.Tuple ts _ _] (.Tuple ps _ _) _ => chkPar N sc is ts ps && chkEs T N sc es ps
  | .aug i o e, .AugAssign (.Name x _) op pe _ => decide (N[i]? = some x) && (locB sc x && (augB o op && chkE T N sc e pe))
  | .augs a i o e, .AugAssign (.Subscript pa pi _) op pe _ => notSlice pi && (augB o op && (chkE T N sc a pa && (chkE T N sc i pi && chkE T N sc e pe)))
  | .exp e, .Expr pe _ => notComp pe && chkE T N sc e pe
  | .ret e, .Return (some pe) _ => chkE T N sc e pe
  | .retn, .Return none _ => true
  | .ite c a b, .If pc pa pb _ => chkE T N sc c pc && (chkSs sc a pa && chkSs sc b pb)
  | .for t it b, .For tg pit body [] _ => chkT T N sc t tg && (chkI T N sc it pit tg && chkSs sc b body)
  | .whl c b, .While pc body [] _ => chkE T N sc c pc && chkSs sc b body
  | .brk, .Break _ => true
  | .cnt, .Continue _ => true
  | .pas, .Pass _ => true
  | .bad, _ => true
  | .rai c es, .Raise (some (.Call (.Name x _) ps [] _)) none _ => (match T.ecs[c]? with
      | some (y, k) => decide (x = y) && (decide (es.len = k.fs.length) && decide (k.fs.length = 1 ∨ k.fs.length = 2))
      | none => false) && ((glB sc x && plN x) && (es.plain && chkEs T N sc es ps))
  | .tri b c slot to as, .Try body [.ExceptHandler (some (.Name x _)) (some e) [.Assign [.Name y _] (.List ps _) _] _] [] [] _ => chkSs sc b body && ((decide ((T.ecs[c]?).map (·.1) = some x) && (glB sc x && plN x)) && ((decide (N[slot]? = some e) && (loclB sc e && plN e)) && ((decide (N[to]? = some y) && locB sc y) && (decide (as.length ≤ 1000) && chkXs T sc e as ps))))
  | _, _ => false
def chkSs (sc : Scope) : Ss → List PySem.Stmt → Bool
  | .nil, [] => true
  | .cons s r, p :: ps => chkS sc s p && chkSs sc r ps
  | _, _ => false
end
end

/-! ### the readings -/
/-- what is wanted behind a statement -/
structure EndsO where
  nx : List Addr → Hp → Sto → En → Prop
  rt : List Addr → Hp → Sto → D → Prop
  bk : List Addr → Hp → Sto → En → Prop
  ct : List Addr → Hp → Sto → En → Prop
  ex : Xc → List Addr → Hp → Sto → En → Prop
def AftO (K : PySem.W.Frag) (cl : Nat → Addr) (ρ : List Addr) (H : Hp) (o : O) (Z : EndsO) : Prop :=
  match o with
  | .stuck => False
  | .nx en S => ∀ ρ' H', Ext ρ H ρ' H' → RelS K cl ρ' H' S → Z.nx ρ' H' S en
  | .rt d S => ∀ ρ' H', Ext ρ H ρ' H' → RelS K cl ρ' H' S → Z.rt ρ' H' S d
  | .bk en S => ∀ ρ' H', Ext ρ H ρ' H' → RelS K cl ρ' H' S → Z.bk ρ' H' S en
  | .ct en S => ∀ ρ' H', Ext ρ H ρ' H' → RelS K cl ρ' H' S → Z.ct ρ' H' S en
  | .ex x en S => ∀ ρ' H', Ext ρ H ρ' H' → RelS K cl ρ' H' S → Z.ex x ρ' H' S en
section
variable {K : PySem.W.Frag} {cl : Nat → Addr} {α : Type} {ρ : List Addr} {H : Hp} {o : O} {Z Z' : EndsO}
theorem AftO.ext {ρ0 : List Addr} {H0 : Hp} (h : AftO K cl ρ0 H0 o Z) (x : Ext ρ0 H0 ρ H) : AftO K cl ρ H o Z := by
  cases o <;> first | exact h | exact fun ρ' H' y s => h ρ' H' (x.trans y) s
theorem AftO.then {r : R α} {en : En} {k : α → Sto → O} (h : AftO K cl ρ H (r.then en k) Z) : Aft K cl ρ H r (fun ρ' H' S a => AftO K cl ρ' H' (k a S) Z) fun x ρ' H' S => Z.ex x ρ' H' S en := by
  cases r with
  | stuck => exact h
  | ok a S => exact fun ρ' H' x s => AftO.ext h x
  | ex x S => exact h
theorem AftO.seq {k : En → Sto → O} (h : AftO K cl ρ H (o.seq k) Z) : AftO K cl ρ H o { Z with nx := fun ρ' H' S en => AftO K cl ρ' H' (k en S) Z } := by
  cases o <;> first | exact h | exact fun ρ' H' x s => AftO.ext h x
theorem AftO.turn {k : En → Sto → O} (h : AftO K cl ρ H (o.turn k) Z) : AftO K cl ρ H o { Z with nx := fun ρ' H' S en => AftO K cl ρ' H' (k en S) Z, ct := fun ρ' H' S en => AftO K cl ρ' H' (k en S) Z, bk := Z.nx } := by
  cases o <;> first | exact h | exact fun ρ' H' x s => AftO.ext h x
theorem AftO.here {en : En} {S : Sto} (h : AftO K cl ρ H (.nx en S) Z) (s : RelS K cl ρ H S) : Z.nx ρ H S en := h ρ H (Ext.refl _ _) s
end
/-- the layer's ends -/
structure EOk (K : PySem.W.Frag) (cl : Nat → Addr) (W : WX) (Z : EndsO) (D : Ends) : Prop where
  nx : ∀ ρ' H' S' en', Z.nx ρ' H' S' en' → ∀ σ', RelE K ρ' H' en' σ' → RelS K cl ρ' H' S' → D.nx σ' H'
  rt : ∀ ρ' H' S' d, Z.rt ρ' H' S' d → ∀ v, Rep K ρ' H' d v → RelS K cl ρ' H' S' → D.rt v H'
  bk : ∀ ρ' H' S' en', Z.bk ρ' H' S' en' → ∀ σ', RelE K ρ' H' en' σ' → RelS K cl ρ' H' S' → D.bk σ' H'
  ct : ∀ ρ' H' S' en', Z.ct ρ' H' S' en' → ∀ σ', RelE K ρ' H' en' σ' → RelS K cl ρ' H' S' → D.ct σ' H'
  ex : ∀ x ρ' H' S' en', Z.ex x ρ' H' S' en' → ∀ σ' cls d, RelE K ρ' H' en' σ' → RelS K cl ρ' H' S' → XR K cl ρ' H' x cls d → W cls d σ' H'
def tS (K : PySem.W.Frag) (cl : Nat → Addr) (W : WX) (m : En → Sto → O) : TS := fun D σ H => ∃ ρ en S Z, RelE K ρ H en σ ∧ RelS K cl ρ H S ∧ AftO K cl ρ H (m en S) Z ∧ EOk K cl W Z D
/-- a target's -/
def gT (K : PySem.W.Frag) (cl : Nat → Addr) (m : D → En → Sto → R En) : TG := fun v σ H Q => ∃ ρ en S d, RelE K ρ H en σ ∧ RelS K cl ρ H S ∧ Rep K ρ H d v ∧
  Aft K cl ρ H (m d en S) (fun ρ' H' S' en' => ∀ σ', RelE K ρ' H' en' σ' → RelS K cl ρ' H' S' → Q σ' H') fun _ _ _ _ => False
def gTs (K : PySem.W.Frag) (cl : Nat → Addr) (m : List D → En → Sto → R En) : TGs := fun vs σ H Q => ∃ ρ en S ds, RelE K ρ H en σ ∧ RelS K cl ρ H S ∧ RepL K ρ H ds vs ∧
  Aft K cl ρ H (m ds en S) (fun ρ' H' S' en' => ∀ σ', RelE K ρ' H' en' σ' → RelS K cl ρ' H' S' → Q σ' H') fun _ _ _ _ => False
theorem _root_.L2.PG.weak {X : Cx} {e : PySem.Expr} {t t' : TG} (h : PG X e t') (f : ∀ v σ H Q, t v σ H Q → t' v σ H Q) : PG X e t := ⟨fun pins s σ H v u Q I r q => h.run pins s σ H v u Q I r (f _ _ _ _ q)⟩
theorem _root_.L2.PGs.weak {X : Cx} {e : List PySem.Expr} {t t' : TGs} (h : PGs X e t') (f : ∀ v σ H Q, t v σ H Q → t' v σ H Q) : PGs X e t := ⟨fun pins s σ H v u Q I r q => h.run pins s σ H v u Q I r (f _ _ _ _ q)⟩
theorem _root_.L2.PS.weak {X : Cx} {e : PySem.Stmt} {t t' : TS} (h : PS X e t') (f : ∀ D σ H, t D σ H → t' D σ H) : PS X e t := ⟨fun pins s σ H D I q => h.run pins s σ H D I (f _ _ _ q)⟩
theorem _root_.L2.PSs.weak {X : Cx} {e : List PySem.Stmt} {t t' : TS} (h : PSs X e t') (f : ∀ D σ H, t D σ H → t' D σ H) : PSs X e t := ⟨fun pins s σ H D I q => h.run pins s σ H D I (f _ _ _ q)⟩
section
variable {K : PySem.W.Frag} {cl : Nat → Addr} {α : Type} {ρ : List Addr} {H : Hp} {r : R α} {P P' : List Addr → Hp → Sto → α → Prop} {PX PX' : Xc → List Addr → Hp → Sto → Prop}
theorem Aft.imp2 (h : Aft K cl ρ H r P PX) (f : ∀ ρ' H' S a, Ext ρ H ρ' H' → RelS K cl ρ' H' S → P ρ' H' S a → P' ρ' H' S a) (g : ∀ x ρ' H' S, Ext ρ H ρ' H' → RelS K cl ρ' H' S → PX x ρ' H' S → PX' x ρ' H' S) : Aft K cl ρ H r P' PX' := by
  cases r with
  | stuck => exact h
  | ok a S => exact fun ρ' H' x s => f ρ' H' S a x s (h ρ' H' x s)
  | ex x S => exact fun ρ' H' y s => g x ρ' H' S y s (h ρ' H' y s)
end
/-- a value, then the rest of the statement -/
theorem liftS {K : PySem.W.Frag} {cl : Nat → Addr} {W : WX} {σ : L2.St} {H : Hp} {me : En → Sto → R D} {k : En → D → Sto → O} {D : Ends} {r : V → Hp → Prop} (h : tS K cl W (fun en S => (me en S).then en (k en)) D σ H)
    (f : ∀ ρ H1 S en x v Z, RelE K ρ H1 en σ → RelS K cl ρ H1 S → Rep K ρ H1 x v → AftO K cl ρ H1 (k en x S) Z → EOk K cl W Z D → r v H1) : tE K cl W me σ H r := by
  obtain ⟨ρ, en, S, Z, he, hs, h, z⟩ := h
  refine ⟨ρ, en, S, he, hs, Aft.imp2 (AftO.then h) (fun ρ1 H1 S1 x x1 s1 q v rv => f ρ1 H1 S1 en x v Z (he.ext x1) s1 rv q z) fun x ρ1 H1 S1 x1 s1 q cls d xr => ?_⟩
  exact z.ex x ρ1 H1 S1 en q σ cls d (he.ext x1) s1 xr
theorem liftSB {K : PySem.W.Frag} {cl : Nat → Addr} {W : WX} {σ : L2.St} {H : Hp} {me : En → Sto → R D} {k : En → D → Sto → O} {D : Ends} {r : Bool → Hp → Prop} (h : tS K cl W (fun en S => (me en S).then en (k en)) D σ H) (hk : ∀ en x S, (∀ b, x ≠ .bl b) → k en x S = .stuck)
    (f : ∀ ρ H1 S en b Z, RelE K ρ H1 en σ → RelS K cl ρ H1 S → AftO K cl ρ H1 (k en (.bl b) S) Z → EOk K cl W Z D → r b H1) : tB K cl W (toB me) σ H r := by
  obtain ⟨ρ, en, S, Z, he, hs, h, z⟩ := h
  refine ⟨ρ, en, S, he, hs, ?_⟩
  have h2 := AftO.then h
  unfold toB
  cases y : me en S with
  | stuck => rw [y] at h2; exact h2
  | ex x S1 =>
    rw [y] at h2
    exact fun ρ1 H1 x1 s1 cls d xr => z.ex x ρ1 H1 S1 en (h2 ρ1 H1 x1 s1) σ cls d (he.ext x1) s1 xr
  | ok x S1 =>
    rw [y] at h2
    cases x with
    | bl b => exact fun ρ1 H1 x1 s1 => f ρ1 H1 S1 en b Z (he.ext x1) s1 (h2 ρ1 H1 x1 s1) z
    | _ =>
      exfalso
      have h3 : AftO K cl ρ H ((me en S).then en (k en)) Z := h
      rw [y] at h3
      simp only [R.then_ok] at h3
      rw [hk en _ S1 (fun b => by intro q; cases q)] at h3
      exact h3
end Ev
end
section
set_option Elab.async false
set_option linter.all false
set_option maxRecDepth 100000
set_option maxHeartbeats 4000000
set_option autoImplicit false
/-! Ev12: statements are sound. -/
namespace Ev
open PySem PySem.Spec PyProof.Rows L2

/-! ### targets -/
section
variable {X : Cx}
theorem get_list : PGet X (rIxL X.K) := by
  intro pins s σ H x y v u Q I rx ry h
  obtain ⟨p, xs, i, z, rfl, rfl, hq, he, q⟩ := h
  cases rx
  obtain ⟨t, rfl⟩ := ry
  obtain ⟨its, r, pl, hz⟩ := I.list hq
  obtain ⟨j, h1, h2, h3, h4, h5⟩ := atI_get he
  obtain ⟨w, ew, rw'⟩ := r.get h2
  have hl := r.length
  have hn := line63
  have fin : EP X pins σ Q w s := ⟨z, H, I, rw', q⟩
  by_cases h0 : 0 ≤ i
  · have hj : i.toNat = j := by
      rw [seqIndex_of h0 h5] at h1
      exact Option.some.inj h1
    exact wpAny_getItem_list pl.isList h0 (by omega) (by rw [hj]; simpa using ew) fin
  · have hj : (i + (its.toArray.size : Int)).toNat = j := by
      rw [seqIndex_neg (by omega) h4] at h1
      rw [List.size_toArray, ← hl]
      exact Option.some.inj h1
    exact wpAny_getItem_list_neg pl.isList (by omega) (by rw [List.size_toArray] <;> omega) (by omega) (by rw [hj]; simpa using ew) fin
theorem asg_ix {o i : PySem.Expr} {pos : Pos} {env : Env} (h : notSlice i = true) : ∀ v, assign (.Subscript o i pos) env v = (do
      let ov ← holding [v] (eval o env)
      let iv ← holding [v, ov] (eval i env)
      standAt pos
      holding [v, ov, iv] (setItem ov iv v)
      release [v, ov, iv] []) := by
  intro v
  rw [assign_Subscript]
  cases i <;> first | rfl | cases h
theorem aug_ix {i : PySem.Expr} (h : notSlice i = true) : ∀ ov iv new, augStore i ov iv new = (do holding [new, ov, iv] (setItem ov iv new); release [new, ov, iv] []; pure .next) := by
  intro ov iv new
  cases i <;> first | rfl | cases h
end
section
variable {K : PySem.W.Frag} {cl : Nat → Addr} {ρ : List Addr} {H : Hp} {S : Sto}
/-- a store at a place -/
theorem v_setSub {x y d : D} {o i v : V} {S' : Sto} (s : RelS K cl ρ H S) (rx : Rep K ρ H x o) (ry : Rep K ρ H y i) (rd : Rep K ρ H d v) (e : setSub x y d S = some S') {Q : Hp → Prop}
    (f : ∀ H', Ext ρ H ρ H' → RelS K cl ρ H' S' → Q H') : rSetL o i v H Q := by
  cases x with
  | ref n =>
    cases y with
    | int k =>
      cases rx with
      | ref hn =>
        cases ry
        rename_i a
        unfold setSub at e
        simp only at e
        cases q : S[n]? with
        | none => rw [q] at e; cases e
        | some ob =>
          rw [q] at e
          cases ob with
          | lst xs =>
            simp only at e
            cases z : ixN xs.length k with
            | none => rw [z] at e; cases e
            | some j =>
              rw [z] at e
              cases e
              obtain ⟨a', e1, vs, e2, r⟩ := s.obs n _ q
              rw [hn] at e1
              cases e1
              obtain ⟨x1, s1⟩ := s.write (o' := .lst (xs.set j d)) (u := .lst (vs.set j v)) hn q (by rw [e2]; exact trivial) fun x => ⟨_, upd_same, (RepL.set rd j r).ext x⟩
              exact ⟨a, vs, k, j, rfl, rfl, e2, by rw [← r.length]; exact z, f _ x1 s1⟩
          | ins _ _ => cases e
    | _ => cases e
  | _ => cases e
end
/-- the statements' context -/
structure CxtS (T : Tbl) (G : Gm) (cl : Nat → Addr) (N : List Str) (n : Nat) (sc : Scope) (W : WX) (X : Cx) : Prop extends Cxt T G cl N n sc W X where
  po : PassesOwn (model X.prog X.w) X.A X.env X.xe
  fnT : ∀ x, X.fn x = true
  stk : X.stack = X.env :: X.outer
  frm : X.env.frame = some X.env.locals
section
variable {T : Tbl} {G : Gm} {cl : Nat → Addr} {N : List Str} {n : Nat}
theorem chkTs_len {env : Env} {sc : Scope} : ∀ {ts : List Tg} {es : List PySem.Expr}, chkTs T N sc ts es = true → (assignEach es env).length = ts.length ∧ (assignEach es env).findIdx? (·.1) = none
  | [], [], _ => ⟨rfl, rfl⟩
  | [], _ :: _, h => by cases h
  | _ :: _, [], h => by cases h
  | p :: ps, e :: es, h => by
    obtain ⟨h1, h2⟩ := ba (show (notStar e && (chkT T N sc p e && chkTs T N sc ps es)) = true from h)
    obtain ⟨h3, h4⟩ := ba h2
    obtain ⟨q1, q2⟩ := chkTs_len (env := env) h4
    rw [assignEach_cons h1]
    refine ⟨by simp [q1], ?_⟩
    rw [List.findIdx?_cons]
    simp [q2]
mutual
theorem asgT_nx : ∀ {t : Tg} {d : D} {en : En} {S : Sto} {x : Xc} {S' : Sto}, asgT G t d en S ≠ .ex x S'
  | .nm i, d, en, S, x, S', h => by unfold asgT at h; cases h
  | .tup ts, d, en, S, x, S', h => by
    unfold asgT at h
    cases d with
    | tup ds => exact asgTs_nx (ts := ts) h
    | _ => cases h
  | .sub a i, d, en, S, x, S', h => by
    unfold asgT at h
    cases z : ev G a en S with
    | stuck => rw [z] at h; cases h
    | ex y S1 => rw [z] at h; cases h
    | ok v S1 =>
      rw [z] at h
      simp only [R.noex_ok, R.bind_ok] at h
      cases y : ev G i en S1 with
      | stuck => rw [y] at h; cases h
      | ex _ S2 => rw [y] at h; cases h
      | ok w S2 =>
        rw [y] at h
        simp only [R.noex_ok, R.bind_ok] at h
        split at h <;> cases h
theorem asgTs_nx : ∀ {ts : List Tg} {ds : List D} {en : En} {S : Sto} {x : Xc} {S' : Sto}, asgTs G ts ds en S ≠ .ex x S'
  | [], ds, en, S, x, S', h => by unfold asgTs at h; cases ds <;> cases h
  | t :: ts, ds, en, S, x, S', h => by
    unfold asgTs at h
    cases ds with
    | nil => cases h
    | cons d ds =>
      cases z : asgT G t d en S with
      | stuck => simp only [z] at h; cases h
      | ex y S1 => exact asgT_nx (t := t) z
      | ok en1 S1 =>
        simp only [z, R.bind_ok] at h
        exact asgTs_nx (ts := ts) h
end
theorem asgTs_ln : ∀ {ts : List Tg} {ds : List D} {en : En} {S : Sto}, asgTs G ts ds en S ≠ .stuck → ts.length = ds.length
  | [], [], _, _, _ => rfl
  | [], _ :: _, _, _, h => absurd (by unfold asgTs; rfl) h
  | _ :: _, [], _, _, h => absurd (by unfold asgTs; rfl) h
  | t :: ts, d :: ds, en, S, h => by
    unfold asgTs at h
    cases z : asgT G t d en S with
    | stuck => rw [z] at h; exact absurd rfl h
    | ex x S1 => exact absurd z asgT_nx
    | ok en1 S1 =>
      rw [z] at h
      exact congrArg Nat.succ (asgTs_ln (ts := ts) h)
mutual
theorem sndT : ∀ (t : Tg) {sc : Scope} {W : WX} {X : Cx} {tg : PySem.Expr}, CxtS T G cl N n sc W X → chkT T N sc t tg = true → PG X tg (gT X.K cl (asgT G t))
  | .nm i, sc, W, X, tg, C, h => by
    cases tg with
    | Name x pos =>
      obtain ⟨h1, h2⟩ := ba (show (decide (N[i]? = some x) && locB sc x) = true from h)
      refine (pg_name (by rw [C.nN]; exact C.nd) (by rw [C.nN]; exact of_decide_eq_true h1) (by rw [C.sc]; exact loc_of h2) (.inl (C.fnT x))).weak fun v σ H Q q => ?_
      obtain ⟨ρ, en, S, d, he, hs, r, q⟩ := q
      exact Aft.here (a := en.set i (some d)) q hs _ (he.set r i) hs
    | _ => cases h
  | .tup ts, sc, W, X, tg, C, h => by
    cases tg with
    | Tuple es k pos =>
      have h' : chkTs T N sc ts es = true := h
      obtain ⟨q1, q2⟩ := chkTs_len (env := X.env) h'
      refine (pg_tup C.calm (sndTs ts C h') q1 q2).weak fun v σ H Q q => ?_
      obtain ⟨ρ, en, S, d, he, hs, r, q⟩ := q
      cases d with
      | tup ds =>
        cases r with
        | tup r1 r2 =>
          rename_i a vs
          have hl : ts.length = ds.length := asgTs_ln fun z => by
            have q' : Aft X.K cl ρ H (asgTs G ts ds en S) _ _ := q
            rw [z] at q'
            exact q'
          exact ⟨a, vs, rfl, r1, by rw [← r2.length, hl], ρ, en, S, ds, he, hs, r2, q⟩
      | _ => exact aft_stuck q
    | _ => cases h
  | .sub a i, sc, W, X, tg, C, h => by
    cases tg with
    | Subscript pa pi pos =>
      obtain ⟨h1, h2⟩ := ba (show (notSlice pi && (chkE T N sc a pa && chkE T N sc i pi)) = true from h)
      obtain ⟨h3, h4⟩ := ba h2
      refine (pg_sub (sndE a C.toCxt h3).1 (sndE i C.toCxt h4).1 set_list (asg_ix h1)).weak fun v σ H Q q => ?_
      obtain ⟨ρ, en, S, d, he, hs, r, q⟩ := q
      refine ⟨ρ, en, S, he, hs, Aft.imp (Aft.noex (Aft.bind q)) (fun ρ1 H1 S1 x x1 s1 q1 => ?_) fun _ _ _ _ _ z => z.elim⟩
      intro o ro
      refine ⟨ρ1, en, S1, he.ext x1, s1, Aft.imp (Aft.noex (Aft.bind q1)) (fun ρ2 H2 S2 y x2 s2 q2 => ?_) fun _ _ _ _ _ z => z.elim⟩
      intro u ru
      cases e : setSub x y d S2 with
      | none => rw [e] at q2; exact aft_stuck q2
      | some S3 =>
        rw [e] at q2
        exact v_setSub s2 (ro.ext x2) ru ((r.ext x1).ext x2) e fun H' x3 s3 => q2 ρ2 H' x3 s3 σ (((he.ext x1).ext x2).ext x3) s3
    | _ => cases h
theorem sndTs : ∀ (ts : List Tg) {sc : Scope} {W : WX} {X : Cx} {es : List PySem.Expr}, CxtS T G cl N n sc W X → chkTs T N sc ts es = true → PGs X es (gTs X.K cl (asgTs G ts))
  | [], sc, W, X, es, C, h => by
    cases es with
    | nil =>
      refine pgs_nil.weak fun vs σ H Q q => ?_
      obtain ⟨ρ, en, S, ds, he, hs, r, q⟩ := q
      cases ds with
      | nil => cases r; exact ⟨rfl, Aft.here (a := en) q hs _ he hs⟩
      | cons _ _ => exact aft_stuck q
    | cons _ _ => cases h
  | t :: ts, sc, W, X, es, C, h => by
    cases es with
    | nil => cases h
    | cons e es =>
      obtain ⟨h1, h2⟩ := ba (show (notStar e && (chkT T N sc t e && chkTs T N sc ts es)) = true from h)
      obtain ⟨h3, h4⟩ := ba h2
      refine (pgs_cons (sndT t C h3) (sndTs ts C h4) (by rw [assignEach_cons h1]; rfl)).weak fun vs σ H Q q => ?_
      obtain ⟨ρ, en, S, ds, he, hs, r, q⟩ := q
      cases ds with
      | nil => exact aft_stuck q
      | cons d ds =>
        cases r with
        | cons r1 r2 =>
          refine ⟨_, _, rfl, ρ, en, S, d, he, hs, r1, Aft.imp (Aft.bind q) (fun ρ1 H1 S1 en1 x1 s1 q1 => ?_) fun _ _ _ _ _ z => z⟩
          intro σ1 he1 hs1
          exact ⟨ρ1, en1, S1, ds, he1, s1, r2.ext x1, q1⟩
end
end
end Ev
end
section
set_option Elab.async false
set_option linter.all false
set_option maxRecDepth 100000
set_option maxHeartbeats 4000000
set_option autoImplicit false
/-! Ev12b: errors: how one is made and raised. -/
namespace Ev
open PySem PySem.Spec PyProof.Rows L2

/-! ### an error's making -/
/-- its fields, the last one first -/
def xdOf (fs : List Str) (ws : List V) : List (Str × V) := (fs.zip ws).reverse
def spIn (C : Addr) (fs : List Str) : Sp := fun vs H Q _ => ∃ a ws, vs = .ref a :: ws ∧ ws.length = fs.length ∧ H a = some (exo a C none) ∧
  ∀ (d : Addr) (H2 : Hp), H d = none → d ≠ a → H2 a = some (exo a C (some d)) → H2 d = some (exd d (xdOf fs ws)) → (∀ b, b ≠ a → b ≠ d → H2 b = H b) → Q .non H2
section
variable {P : Program} {w : World} {K : PySem.W.Frag} {mg : Str → Option Value} {base : Heap}
abbrev sSelf : Str := "self"
/-- self.f = f -/
theorem fld_set {X : Cx} {fs : List Str} {sc : Scope} {f y o : Str} {i : Nat} {p1 p2 p3 p4 : Pos} (hN : X.N = sSelf :: fs) (hs : X.env.scope = sc) (hloc : ∀ y ∈ sSelf :: fs, sc.names.lookup y = some .local) (ho : o = sSelf) (hi : (sSelf :: fs)[i]? = some y) (hp : plN y = true) (hy : y ∈ sSelf :: fs) :
    PS X (.Assign [.Attribute (.Name o p1) f p2] (.Name y p3) p4) (tOst X.K f (tVar 0) (tVar i)) := by
  subst ho
  obtain ⟨g1, g2, g3⟩ := pl_of hp
  exact ps_ost (pe_var (by rw [hN]; rfl) (.inl (by rw [hs]; exact hloc _ (List.mem_cons_self ..))) (by decide) (by decide)) (pe_var (by rw [hN]; exact hi) (.inl (by rw [hs]; exact hloc _ hy)) g1 g2) rfl
theorem ini_one {o g y f : Str} {p1 p2 p3 p4 : Pos} {fs : List Str} {r : List PySem.Stmt} (h : iniB (f :: fs) (.Assign [.Attribute (.Name o p1) g p2] (.Name y p3) p4 :: r) = true) : o = sSelf ∧ g = f ∧ y = f ∧ plN f = true ∧ iniB fs r = true := by
  obtain ⟨b1, b2⟩ := ba (show ((decide (o = ("self" : Str)) && (decide (g = f) && (decide (y = f) && (plN f && decide (f ≠ ("self" : Str)))))) && iniB fs r) = true from h)
  obtain ⟨b3, b4⟩ := ba b1
  obtain ⟨b5, b6⟩ := ba b4
  obtain ⟨b7, b8⟩ := ba b6
  obtain ⟨b9, b10⟩ := ba b8
  exact ⟨of_decide_eq_true b3, of_decide_eq_true b5, of_decide_eq_true b7, b9, b2⟩
theorem ini_cons {f : Str} {fs : List Str} {body : List PySem.Stmt} (h : iniB (f :: fs) body = true) : ∃ o g y p1 p2 p3 p4 r, body = .Assign [.Attribute (.Name o p1) g p2] (.Name y p3) p4 :: r := by
  unfold iniB at h
  split at h <;> first | (cases h; done) | skip
  · rename_i e; cases e
  · exact ⟨_, _, _, _, _, _, _, _, rfl⟩
theorem init_ok {cl : Nat → Addr} {T : Tbl} {c : Nat} {x : Str} {k : Cls} (O : ClsOk K mg cl T c x k) (hl : k.fs.length = 1 ∨ k.fs.length = 2) : ∃ (fI : Addr) (fd : FuncData), PySem.W.findIn K (.ref (cl c)) "__init__" = some (some (.ref fI)) ∧ PySem.W.typeIn K (.ref fI) = some (.type "function") ∧
    FnOk P w K mg base CX0 1 fI fd (sSelf :: k.fs) (spIn (cl c) k.fs) ∧ Binds K fd (sSelf :: k.fs) [] := by
  obtain ⟨fI, fd, q, prs, body, sc, h1, h2, FD, S, hloc, hb, B⟩ := O.init (fun z => by rw [z] at hl; rcases hl with hl | hl <;> cases hl)
  have hno := O.no
  refine ⟨fI, fd, h1, h2, FD.ok S (fun vs H Q E h => ?_) (fun cdv A outer s H vs Q E hr h => ?_), B⟩
  · obtain ⟨a, ws, rfl, hw, _⟩ := h
    simp [hw]
  · obtain ⟨a, ws, rfl, hw, ha, hq⟩ := h
    generalize k.fs = fs at *
    match fs, hl with
    | [f], _ =>
      obtain ⟨o, g, y, p1, p2, p3, p4, r, rfl⟩ := ini_cons hb
      obtain ⟨e1, e2, e3, e4, e5⟩ := ini_one hb
      subst e2
      subst e3
      cases r with
      | cons _ _ => cases e5
      | nil =>
        match ws, hw with
        | [v], _ =>
          have st1 : PS (cxOf CX0 P w K mg base [sSelf, y] q sc fI cdv A outer s H E) (.Assign [.Attribute (.Name o p1) y p2] (.Name y p3) p4) _ := fld_set (i := 1) rfl rfl hloc e1 rfl e4 (by simp)
          refine ⟨_, pss_one st1, v, rfl, .ref a, rfl, a, cl c, rfl, O.oex, hno _ (by simp), .inl ⟨ha, fun d hd hda => hq d _ hd hda upd_same (by rw [upd_ne hda]; exact upd_same) fun b h1 h2 => by rw [upd_ne h1, upd_ne h2]⟩⟩
    | [f, f2], _ =>
      obtain ⟨o, g, y, p1, p2, p3, p4, r, rfl⟩ := ini_cons hb
      obtain ⟨e1, e2, e3, e4, e5⟩ := ini_one hb
      subst e2
      subst e3
      obtain ⟨o', g', y', p1', p2', p3', p4', r', rfl⟩ := ini_cons e5
      obtain ⟨d1, d2, d3, d4, d5⟩ := ini_one e5
      subst d2
      subst d3
      cases r' with
      | cons _ _ => cases d5
      | nil =>
        match ws, hw with
        | [v, u], _ =>
          have st1 : PS (cxOf CX0 P w K mg base [sSelf, y, y'] q sc fI cdv A outer s H E) (.Assign [.Attribute (.Name o p1) y p2] (.Name y p3) p4) _ := fld_set (i := 1) rfl rfl hloc e1 rfl e4 (by simp)
          have st2 : PS (cxOf CX0 P w K mg base [sSelf, y, y'] q sc fI cdv A outer s H E) (.Assign [.Attribute (.Name o' p1') y' p2'] (.Name y' p3') p4') _ := fld_set (i := 2) rfl rfl hloc d1 rfl d4 (by simp)
          refine ⟨_, pss_cons st1 (pss_one st2), v, rfl, .ref a, rfl, a, cl c, rfl, O.oex, hno _ (by simp), .inl ⟨ha, fun d hd hda => ?_⟩⟩
          refine ⟨u, rfl, .ref a, rfl, a, cl c, rfl, O.oex, hno _ (by simp), .inr ⟨d, [(y, v)], upd_same, by rw [upd_ne hda]; exact upd_same, by simp, ?_⟩⟩
          exact hq d _ hd hda (by rw [upd_ne (Ne.symm hda)]; exact upd_same) upd_same fun b h1 h2 => by rw [upd_ne h2, upd_ne h1, upd_ne h2]
end
/-! ### raise -/
theorem lookup_xd {K : PySem.W.Frag} {ρ : List Addr} {H : Hp} {fs : List Str} {ds : List D} {vs : List V} (hl : fs.length = 1 ∨ fs.length = 2) (nd : fs.Nodup) (r : RepL K ρ H ds vs) : ∀ (f : Str) (dd : D), (fs.zip ds).lookup f = some dd → ∃ v, (xdOf fs vs).lookup f = some v ∧ Rep K ρ H dd v := by
  intro f dd h
  match fs, hl with
  | [a], _ =>
    cases r with
    | nil => cases h
    | cons r1 r2 =>
      rename_i d ds v vs
      by_cases e : f = a
      · subst e
        simp [List.lookup] at h
        subst h
        exact ⟨v, by simp [xdOf, List.lookup], r1⟩
      · have e2 : (f == a) = false := by simpa using e
        simp [List.lookup, e2] at h
  | [a, b], _ =>
    have hab : a ≠ b := by
      simp at nd
      exact nd
    cases r with
    | nil => cases h
    | cons r1 r2 =>
      rename_i d ds v vs
      cases r2 with
      | nil =>
        by_cases e : f = a
        · subst e
          simp [List.lookup] at h
          subst h
          exact ⟨v, by simp [xdOf, List.lookup], r1⟩
        · have e2 : (f == a) = false := by simpa using e
          simp [List.lookup, e2] at h
      | cons r3 r4 =>
        rename_i d2 ds v2 vs
        by_cases e : f = a
        · subst e
          have e3 : (f == b) = false := by simpa using hab
          simp [List.lookup] at h
          subst h
          exact ⟨v, by simp [xdOf, List.lookup, e3], r1⟩
        · have e2 : (f == a) = false := by simpa using e
          by_cases e' : f = b
          · subst e'
            simp [List.lookup, e2] at h
            subst h
            exact ⟨v2, by simp [xdOf, List.lookup], r3⟩
          · have e3 : (f == b) = false := by simpa using e'
            simp [List.lookup, e2, e3] at h
section
variable {T : Tbl} {G : Gm} {cl : Nat → Addr} {N : List Str} {n : Nat}
theorem snd_rai {sc : Scope} {W : WX} {X : Cx} (C : CxtS T G cl N n sc W X) {c : Nat} {x : Str} {k : Cls} {es : Es} {ps : List PySem.Expr} {p pos pos2 : Pos} {C' : List Cls} (hC : C' = T.ecs.map (·.2)) (hc : T.ecs[c]? = some (x, k)) (hg : glB sc x = true) (hp : plN x = true) (hl : es.len = k.fs.length) (h12 : k.fs.length = 1 ∨ k.fs.length = 2) (hpl : es.plain = true) (h : chkEs T N sc es ps = true) :
    PS X (.Raise (some (.Call (.Name x p) ps [] pos)) none pos2) (tS X.K cl W (exec G C' (.rai c es))) := by
  have O := C.tab.ecs c x k hc
  obtain ⟨fI, fd, i1, i2, F1, B⟩ := init_ok (P := X.prog) (w := X.w) (base := X.base) O h12
  obtain ⟨g1, g2, g3⟩ := pl_of hp
  have IA := sndEs es C.toCxt h
  have hlen : ps.length = es.len := plain_len h
  match ps, IA, h, hlen with
  | [], IA, h, hlen => exact absurd (hlen.trans hl) (by rcases h12 with z | z <;> rw [z] <;> simp)
  | p0 :: pr, IA, h, hlen =>
    obtain ⟨k1, a0, es', e2, k2, k3, k4⟩ := plain_head hpl h rfl
    refine (ps_raise C.calm C.tk (pmk_oex O.oex i1 i2 F1 (C.room.mono (by omega)) B .nil pass0 (C.gl hg) O.gl IA g1 (starEach_cons k1) (plain_any k3 k4))).weak fun D σ H q => ?_
    obtain ⟨ρ, en, S, Z, he, hs, q, z⟩ := q
    have hk : C'[c]? = some k := by rw [hC, List.getElem?_map, hc]; rfl
    refine tA_len hpl ⟨ρ, en, S, he, hs, Aft.imp2 (AftO.then q) (fun ρ1 H1 S1 ds x1 s1 q1 vs rv hvl => ?_) fun x ρ1 H1 S1 x1 s1 q cls d xr => z.ex x ρ1 H1 S1 en q σ cls d (he.ext x1) s1 xr⟩
    rw [hk] at q1
    have q2 : AftO X.K cl ρ1 H1 (if ds.length = k.fs.length then .ex ⟨c, k.fs.zip ds⟩ en S1 else .stuck) Z := q1
    split at q2
    · refine ⟨by rw [hvl, hl]; rcases h12 with z | z <;> rw [z] <;> simp, fun a ha => ?_⟩
      refine ⟨a, vs, by rw [List.append_nil], hvl.trans hl, upd_same, fun d H2 hd hda ea ed hoth => ⟨rfl, d, xdOf k.fs vs, ea, ed, by rw [upd_ne hda] at hd; exact hd, ?_⟩⟩
      have hd1 : H1 d = none := by rw [upd_ne hda] at hd; exact hd
      have eH : upd (del H2 a) d (.xd (xdOf k.fs vs)) = upd H1 d (.xd (xdOf k.fs vs)) := by
        funext b
        by_cases hb : b = d
        · rw [hb, upd_same, upd_same]
        · rw [upd_ne hb, upd_ne hb]
          by_cases hb2 : b = a
          · rw [hb2, del_same, ha]
          · rw [del_ne hb2, hoth b hb2 hb, upd_ne hb2]
      rw [eH]
      obtain ⟨x2, s2⟩ := s1.laid (u := .xd (xdOf k.fs vs)) hd1
      refine z.ex _ ρ1 _ S1 en (q2 ρ1 _ x2 s2) σ _ _ ((he.ext x1).ext x2) s2 ⟨rfl, d, _, rfl, upd_same, fun f dd hf => ?_⟩
      exact lookup_xd h12 O.nd (rv.ext x2) f dd hf
    · exact False.elim q2
end
end Ev
end
section
set_option Elab.async false
set_option linter.all false
set_option maxRecDepth 100000
set_option maxHeartbeats 4000000
set_option autoImplicit false
/-! Ev12c: a caught error: its fields, its class. -/
namespace Ev
open PySem PySem.W PySem.Spec PySem.Calls PyProof.Rows L2
section
variable {prog : Program} {w : World} {A : Around} {E : Value → Shared → Prop} {s : Shared} {K : PySem.W.Frag} {x D : Addr} {ox : Obj} {od : Option Obj}
theorem clsF (E0 : ExcC K D) : findObj K D od "__class__" = some (.bind (.builtin "getset_descriptor.__get__") (.builtin "object.__class__")) := by
  obtain ⟨cd, hc, _⟩ := any_some E0.hd
  unfold findObj
  rw [hc, Option.bind_some, E0.ha, Option.bind_some]
  simp [E0.hn, E0.ht]
/-- __class__ of an error, with its dict or without -/
theorem class_exc (E0 : ExcC K D) {Q : Option Value → Shared → Prop} (kin : K.In s.heap) (I : InstAt s.heap x ox D od) (h : Q (some (.ref D)) { s with toks := s.toks + 1 }) : wpAny (model prog w) A (getAttr? (.ref x) "__class__") Q E s := by
  obtain ⟨hp, g, d, t, os⟩ := s
  have ty := I.type (M := model prog w)
  have La := looks_findIn (M := model prog w) kin E0.hg
  have Lb := looks_findIn (M := model prog w) kin E0.hk
  have Lc := looks_find (M := model prog w) kin I (clsF (od := od) E0)
  have isB : Looks (model prog w) hp (isInstance (.ref x) (.type "BaseException")) true := ty.andThen (looks_subIn kin E0.hs)
  have ne : (onTheHeap (Value.ref D) && Value.builtin "BaseException.__getattribute__" == Value.builtin "object.__getattribute__") = false := by
    rw [show (Value.builtin "BaseException.__getattribute__" == Value.builtin "object.__getattribute__") = false by decide +kernel]
    rfl
  unfold getAttr? getAttrBy? getAttrBy
  refine wpAny_bind (wpAny_mkText (wpAny_bind (wpAny_attempt (wpAny_holding (wpAny_bind (ty.at (wpAny_bind (La.at ?_))))))))
  show wpAny (model prog w) _ (if (onTheHeap (Value.ref D) && Value.builtin "BaseException.__getattribute__" == Value.builtin "object.__getattribute__") = true then _ else _) _ _ _
  rw [ne, if_neg (by decide)]
  unfold getAttrByItsOwn hookBefore
  refine wpAny_bind ?_
  rw [if_pos (show onTheHeap (Value.ref D) = true by rfl)]
  refine Lb.at (wpAny_bind (wpAny_attempt (wpAny_holding ?_)))
  unfold callGetattribute
  rw [if_neg (show ¬ (false && onTheHeap (Value.builtin "BaseException.__getattribute__")) = true by decide)]
  unfold boundAndCalled
  rw [PySem.F.excAttr_ValueError.ga.bind (.ref x)]
  refine wpAny_bind (wpAny_pure ?_)
  show wpAny (model prog w) _ (call (.builtin "BaseException.__getattribute__") [.ref x, .str "__class__" t]) _ _ _
  refine wpAny_call (codeAny_call_builtin PySem.F.excAttr_ValueError.ga.plain PySem.F.entry_bexc_ga ?_)
  refine @check_slot (model prog w) _ _ ⟨hp, g, d, t + 1, os⟩ "BaseException.__getattribute__" "BaseException" "__getattribute__" (.ref x) [.str "__class__" t] [] _ (by decide +kernel) (by decide +kernel) isB (PySem.F.args_bexc_ga (.ref x) (.str "__class__" t)) ?_
  unfold Builtin.«object.__getattribute__»
  refine wpAny_bind (wpAny_of_eq (a := ((Value.ref x : Value), [Value.str "__class__" t])) (by first | rfl | (simp only [slotArgs]; rfl)) ?_)
  refine wpAny_bind (wpAny_pure (wpAny_bind (ty.at (wpAny_bind (Lc.at ?_)))))
  show wpAny (model prog w) _ (holding [Value.builtin "object.__class__"] (call (.builtin "getset_descriptor.__get__") [.builtin "object.__class__", .ref x, .ref D]) >>= ret) _ _ _
  refine wpAny_bind (wpAny_holding (wpAny_call (class_get (s := ⟨hp, g, d, t + 1, os⟩) (ox := ox) (od := od) kin I E0.hm (wpAny_pure ?_))))
  show wpAny (model prog w) _ (handedOut (.ref D)) _ _ _
  rw [handedOut_of (v := .ref D) rfl]
  first
    | exact wpAny_pure (wpAny_pure h)
    | exact wpAny_pure h
    | exact wpAny_pure (wpAny_bind (wpAny_pure (wpAny_pure h)))
theorem notTup (E0 : ExcC K D) {h : Heap} (kin : K.In h) : ∃ o cd, h.get? D = some o ∧ o.data = .cls cd := by
  obtain ⟨cd, hc, _⟩ := any_some E0.hd
  unfold clsIn at hc
  split at hc
  · rename_i c' d' cd' sl' ho
    exact ⟨_, _, kin _ _ ho, rfl⟩
  · cases hc
theorem kitx_exc (E0 : ExcC K D) : KitX K (.ref x) (.ref D) (fun h => InstAt h x ox D od) where
  ty := fun _ _ _ I => I.type
  it := fun _ _ kin _ => by
    obtain ⟨o, cd, e, ed⟩ := notTup E0 kin
    intro A' Q' E' s' k q
    unfold isType loadHead
    obtain ⟨c1, c2, c3, c4⟩ := o
    dsimp only at ed
    subst ed
    exact wpAny_bind (wpAny_loadPart (k _ _ e) (wpAny_pure q))
  ne := fun h tp dd its n sl kin htp => by
    obtain ⟨o, cd, e, ed⟩ := notTup E0 kin
    refine Bool.eq_false_iff.mpr fun q => ?_
    cases Value.ref.inj (beq_iff_eq.mp q)
    rw [e] at htp
    cases htp
    cases ed
  ca := fun kin I k => class_exc E0 kin I k
end
end Ev
end
section
set_option Elab.async false
set_option linter.all false
set_option maxRecDepth 100000
set_option maxHeartbeats 4000000
set_option autoImplicit false
/-! Ev12d: try .. except .. as ..: a list of what is read off the error. -/
namespace Ev
open PySem PySem.Spec PyProof.Rows L2

/-! ### isinstance of a caught error -/
def rIsQ (K : PySem.W.Frag) (a : Addr) (cls : Value) (d : Option Addr) : List V → Hp → VK → Prop := fun xs H Q => ∃ (D dd : Addr) (ws : List (Str × V)) (c : V) (cv : Value) (b : Bool), xs = [.ref a, c] ∧ cls = .ref D ∧ d = some dd ∧ H dd = some (.xd ws) ∧ ExcC K D ∧ (∀ u, RelV c u → u = cv) ∧ PySem.W.kitOne K (.ref D) cv = some b ∧ Q (.bl b) H
theorem call_isX {X : Cx} {a : Addr} {oe : Obj} {cls : Value} {d : Option Addr} {pn : List (Addr × Obj)} (hz : Zc cls d oe) (hf : ∃ vs, oe.data = .fields vs) : CallR (X.suite a ((a, oe) :: pn)) (.builtin "isinstance") (rIsQ X.K a cls d) := by
  intro pins s σ H xs us Q I r h
  obtain ⟨D, dd, ws, c, cv, b, rfl, rfl, rfl, ea, C, hcv, e, q⟩ := h
  obtain ⟨u1, u2, rfl, rx, rt⟩ := vals2 r
  cases (show u1 = Value.ref a from rx)
  cases hcv _ rt
  have pin := (I.pin (a, oe) (List.mem_append_left _ List.mem_cons_self)).1
  obtain ⟨vs, hv⟩ := hf
  obtain ⟨mA, hns, hr⟩ := (show ObjOk X.prog X.w H s.heap dd (.xd ws) from I.hok dd _ ea)
  obtain ⟨od, ho, _⟩ := lookIn_ns hns
  have J : PySem.W.InstAt s.heap a oe D (some od) := ⟨pin, hz.1, by unfold PySem.W.notCls; rw [hv] <;> rfl, by rw [hz.2]; exact ho⟩
  exact PySem.W.kia_one (kitx_exc C) I.kIn J e (fun z => nomatch z) fun tk => ⟨.bl b, H, I.kept (t' := tk) fun _ _ z => z, rfl, q⟩

/-! ### readings -/
def xaV (T : Tbl) (ws : List (Str × V)) (c : Nat) (k : Cls) : Xa → V → Prop
  | .fld f, v => f ∈ k.fs ∧ ws.lookup f = some v
  | .isc c', v => c' < T.ecs.length ∧ v = .bl (decide (c' = c) || k.up.contains c')
  | .isb n, v => n = "ValueError" ∧ v = .bl (k.bup.contains n)
/-- the error that is held: at a, in the slot i -/
def Hold (T : Tbl) (cl : Nat → Addr) (a : Addr) (cls : Value) (d : Option Addr) (i : Nat) (σ : L2.St) (H : Hp) (c : Nat) (x : Str) (k : Cls) (ws : List (Str × V)) : Prop :=
  σ[i]? = some (some (.ref a)) ∧ T.ecs[c]? = some (x, k) ∧ cls = .ref (cl c) ∧ ∃ dd, d = some dd ∧ H dd = some (.xd ws)
def tXa (T : Tbl) (cl : Nat → Addr) (a : Addr) (cls : Value) (d : Option Addr) (i : Nat) (xa : Xa) : TE := fun σ H Q => ∃ c x k ws, Hold T cl a cls d i σ H c x k ws ∧ ∃ v, xaV T ws c k xa v ∧ Q v H
def tXas (T : Tbl) (cl : Nat → Addr) (a : Addr) (cls : Value) (d : Option Addr) (i : Nat) : List Xa → TA
  | [] => tNil
  | x :: r => tCons (tXa T cl a cls d i x) (tXas T cl a cls d i r)
section
variable {T : Tbl} {G : Gm} {cl : Nat → Addr} {N : List Str} {n : Nat}
theorem chkX_isc {sc : Scope} {e : Str} {c : Nat} {p : PySem.Expr} (h : chkX T sc e (.isc c) p = true) : ∃ i p0 y p4 z p5 p6, p = .Call (.Name i p0) [.Name y p4, .Name z p5] [] p6 ∧ ((decide (i = ("isinstance" : Str)) && glB sc i) && (decide (y = e) && (decide ((T.ecs[c]?).map (·.1) = some z) && (glB sc z && plN z)))) = true := by
  unfold chkX at h
  split at h <;> first | (cases h; done) | (rename_i e; cases e; done) | (rename_i e _; cases e; done) | skip
  rename_i e1 e2
  cases e1
  cases e2
  exact ⟨_, _, _, _, _, _, _, rfl, h⟩
theorem chkX_isb {sc : Scope} {e : Str} {m : String} {p : PySem.Expr} (h : chkX T sc e (.isb m) p = true) : ∃ i p0 y p4 z p5 p6, p = .Call (.Name i p0) [.Name y p4, .Name z p5] [] p6 ∧ ((decide (i = ("isinstance" : Str)) && glB sc i) && (decide (y = e) && (decide (m = "ValueError") && (decide (z = ("ValueError" : Str)) && glB sc z)))) = true := by
  unfold chkX at h
  split at h <;> first | (cases h; done) | (rename_i e; cases e; done) | (rename_i e _; cases e; done) | skip
  rename_i e1 e2
  cases e1
  cases e2
  exact ⟨_, _, _, _, _, _, _, rfl, h⟩
theorem snd_xa {sc : Scope} {W : WX} {X : Cx} (C : CxtS T G cl N n sc W X) {a : Addr} {oe : Obj} {cls : Value} {d : Option Addr} {pn : List (Addr × Obj)} (hz : Zc cls d oe) (hf : ∃ vs, oe.data = .fields vs) {i : Nat} {e : Str} (hi : N[i]? = some e) (hl : loclB sc e = true) (hp : plN e = true) :
    ∀ {xa : Xa} {p : PySem.Expr}, chkX T sc e xa p = true → PE (X.suite a ((a, oe) :: pn)) p (tXa T cl a cls d i xa) := by
  have hg : ∀ {x : Str}, glB sc x = true → Gl (X.suite a ((a, oe) :: pn)) x := fun h => C.gl h
  obtain ⟨p1, p2, p3⟩ := pl_of hp
  have nm : ∀ {pos : Pos}, PE (X.suite a ((a, oe) :: pn)) (.Name e pos) (tVar i) := fun {pos} => pe_var (by show X.N[i]? = _; rw [C.nN]; exact hi) (.inl (by show X.env.scope.names.lookup e = _; rw [C.sc]; exact locl_of hl)) p1 p2
  have isi : ∀ {y z : Str} {p0 p4 p5 p6 : Pos} {v : V}, (h1 : glB sc "isinstance" = true) → y = e → PE (X.suite a ((a, oe) :: pn)) (.Name z p5) (tC v) → PE (X.suite a ((a, oe) :: pn)) (.Call (.Name "isinstance" p0) [.Name y p4, .Name z p5] [] p6) (tCB (rIsQ X.K a cls d) (tCons (tVar i) (tCons (tC v) tNil))) := fun h1 hy hb => by
    subst hy
    exact pe_callB (call_isX hz hf) (hg h1) C.tab.isin PyProof.Rows.boot_isinstance (pa_cons nm (pa_cons hb pa_nil))
  intro xa p h
  cases xa with
  | fld f =>
    cases p with
    | Attribute o g pos =>
      cases o with
      | Name y py =>
        obtain ⟨h1, h2⟩ := ba (show (decide (y = e) && decide (g = f)) = true from h)
        have ey := of_decide_eq_true h1
        have eg := of_decide_eq_true h2
        subst ey
        subst eg
        refine ⟨fun pins s σ H Q I q => ?_⟩
        obtain ⟨c, x, k, ws, ⟨q1, q2, q3, dd, q4, q5⟩, v, ⟨q6, q7⟩, q8⟩ := q
        have O := C.tab.ecs c x k q2
        exact (pe_xf (n := g) O.xf (O.no g q6) hz hf nm).run pins s σ H Q I ⟨.ref a, q1, rfl, q3, dd, ws, v, q4, q5, q7, q8⟩
      | _ => cases h
    | _ => cases h
  | isc c' =>
    obtain ⟨i0, p0, y, p4, z, p5, p6, ep, h⟩ := chkX_isc h
    subst ep
    obtain ⟨h1, h2⟩ := ba h
    obtain ⟨h3, h4⟩ := ba h1
    obtain ⟨h5, h6⟩ := ba h2
    obtain ⟨h7, h8⟩ := ba h6
    obtain ⟨h9, h10⟩ := ba h8
    have e1 := of_decide_eq_true h3
    subst e1
    have e2 : (T.ecs[c']?).map (·.1) = some z := of_decide_eq_true h7
    cases e3 : T.ecs[c']? with
    | none => rw [e3] at e2; cases e2
    | some xk =>
      rw [e3] at e2
      obtain ⟨x', k'⟩ := xk
      cases e2
      have O' := C.tab.ecs c' x' k' e3
      have lt : c' < T.ecs.length := (List.getElem?_eq_some_iff.mp e3).1
      obtain ⟨z1, z2, z3⟩ := pl_of h10
      refine (isi h4 (of_decide_eq_true h5) (pe_glob (v := .ref (cl c')) (hg h9) O'.gl rfl z1)).weak fun σ H Q q => ?_
      obtain ⟨c, x, k, ws, ⟨q1, q2, q3, dd, q4, q5⟩, v, ⟨q6, q7⟩, q8⟩ := q
      have O := C.tab.ecs c x k q2
      subst q7
      exact ⟨.ref a, q1, cl c, dd, ws, .ref (cl c'), .ref (cl c'), _, rfl, q3, q4, q5, O.exc, fun u r => r, O.kit c' lt, q8⟩
  | isb m =>
    obtain ⟨i0, p0, y, p4, z, p5, p6, ep, h⟩ := chkX_isb h
    subst ep
    obtain ⟨h1, h2⟩ := ba h
    obtain ⟨h3, h4⟩ := ba h1
    obtain ⟨h5, h6⟩ := ba h2
    obtain ⟨h7, h8⟩ := ba h6
    obtain ⟨h9, h10⟩ := ba h8
    have e1 := of_decide_eq_true h3
    subst e1
    have e2 := of_decide_eq_true h7
    subst e2
    have e3 := of_decide_eq_true h9
    subst e3
    refine (isi h4 (of_decide_eq_true h5) (pe_bltn (v := .ty "ValueError") (hg h10) C.tab.ve PyProof.Rows.Boot.«ValueError» rfl (by decide) (by decide))).weak fun σ H Q q => ?_
    obtain ⟨c, x, k, ws, ⟨q1, q2, q3, dd, q4, q5⟩, v, ⟨q6, q7⟩, q8⟩ := q
    have O := C.tab.ecs c x k q2
    subst q7
    exact ⟨.ref a, q1, cl c, dd, ws, .ty "ValueError", .type "ValueError", _, rfl, q3, q4, q5, O.exc, fun u r => r, O.kitb, q8⟩
theorem chkXs_len : ∀ {as : List Xa} {ps : List PySem.Expr} {sc : Scope} {e : Str}, chkXs T sc e as ps = true → ps.length = as.length
  | [], [], _, _, _ => rfl
  | [], _ :: _, _, _, h => by cases h
  | _ :: _, [], _, _, h => by cases h
  | a :: as, p :: ps, sc, e, h => congrArg Nat.succ (chkXs_len (ba (ba (show (notStar p && (chkX T sc e a p && chkXs T sc e as ps)) = true from h)).2).2)
theorem snd_xas {sc : Scope} {W : WX} {X : Cx} (C : CxtS T G cl N n sc W X) {a : Addr} {oe : Obj} {cls : Value} {d : Option Addr} {pn : List (Addr × Obj)} (hz : Zc cls d oe) (hf : ∃ vs, oe.data = .fields vs) {i : Nat} {e : Str} (hi : N[i]? = some e) (hl : loclB sc e = true) (hp : plN e = true) :
    ∀ {as : List Xa} {ps : List PySem.Expr}, chkXs T sc e as ps = true → PA (X.suite a ((a, oe) :: pn)) ps (tXas T cl a cls d i as)
  | [], [], _ => pa_nil
  | [], _ :: _, h => by cases h
  | _ :: _, [], h => by cases h
  | x :: as, p :: ps, h => by
    obtain ⟨h1, h2⟩ := ba (show (notStar p && (chkX T sc e x p && chkXs T sc e as ps)) = true from h)
    obtain ⟨h3, h4⟩ := ba h2
    exact pa_cons (snd_xa C hz hf hi hl hp h3) (snd_xas C hz hf hi hl hp h4) (starEach_cons h1)
/-- what the suite reads is what the meaning says -/
theorem xas_run {K : PySem.W.Frag} {ρ : List Addr} {H : Hp} {a : Addr} {cls : Value} {d : Option Addr} {i : Nat} {σ : L2.St} {x : Xc} {nm : Str} {k : Cls} (ho : σ[i]? = some (some (.ref a))) (hc : T.ecs[x.c]? = some (nm, k)) (xr : XR K cl ρ H x cls d) :
    ∀ {as : List Xa} {ds : List D}, (∀ c', Xa.isc c' ∈ as → c' < T.ecs.length) → (∀ m, Xa.isb m ∈ as → m = "ValueError") → mapO (xaD k x) as = some ds → ∃ vs, RepL K ρ H ds vs ∧ ∀ Q : List V → Hp → Prop, Q vs H → tXas T cl a cls d i as σ H Q
  | [], ds, _, _, h => by cases h; exact ⟨[], .nil, fun Q q => q⟩
  | y :: as, ds, g1, g2, h => by
    unfold mapO at h
    cases e : xaD k x y with
    | none => rw [e] at h; cases h
    | some dd =>
      rw [e] at h
      cases e2 : mapO (xaD k x) as with
      | none => rw [e2] at h; cases h
      | some dds =>
        rw [e2] at h
        cases h
        obtain ⟨vs, r, f⟩ := xas_run ho hc xr (fun c hc => g1 c (List.mem_cons_of_mem _ hc)) (fun c hc => g2 c (List.mem_cons_of_mem _ hc)) e2
        obtain ⟨x1, da, ws, x2, x3, x4⟩ := xr
        have hold : Hold T cl a cls d i σ H x.c nm k ws := ⟨ho, hc, x1, da, x2, x3⟩
        have key : ∃ v, xaV T ws x.c k y v ∧ Rep K ρ H dd v := by
          cases y with
          | fld f =>
            unfold xaD at e
            simp only at e
            split at e
            · rename_i hf
              obtain ⟨v, v1, v2⟩ := x4 f dd e
              exact ⟨v, ⟨by simpa using hf, v1⟩, v2⟩
            · cases e
          | isc c' => cases e; exact ⟨_, ⟨g1 c' (List.mem_cons_self ..), rfl⟩, .bl _⟩
          | isb m => cases e; exact ⟨_, ⟨g2 m (List.mem_cons_self ..), rfl⟩, .bl _⟩
        obtain ⟨v, v1, v2⟩ := key
        exact ⟨v :: vs, .cons v2 r, fun Q q => ⟨x.c, nm, k, ws, hold, v, v1, f _ q⟩⟩
theorem chkXs_isc {sc : Scope} {e : Str} : ∀ {as : List Xa} {ps : List PySem.Expr}, chkXs T sc e as ps = true → (∀ c', Xa.isc c' ∈ as → c' < T.ecs.length) ∧ (∀ m, Xa.isb m ∈ as → m = "ValueError")
  | [], _, _ => And.intro (fun c h => by cases h) (fun c h => by cases h)
  | _ :: _, [], h => by cases h
  | a :: as, p :: ps, h => by
    obtain ⟨h1, h2⟩ := ba (show (notStar p && (chkX T sc e a p && chkXs T sc e as ps)) = true from h)
    obtain ⟨h3, h4⟩ := ba h2
    obtain ⟨i1, i2⟩ := chkXs_isc h4
    refine ⟨fun c' hm => ?_, fun m hm => ?_⟩
    · rcases List.mem_cons.mp hm with z | z
      · subst z
        obtain ⟨i0, p0, y, p4, z, p5, p6, ep, g⟩ := chkX_isc h3
        have e2 : (T.ecs[c']?).map (·.1) = some z := of_decide_eq_true (ba (ba (ba g).2).2).1
        cases e3 : T.ecs[c']? with
        | none => rw [e3] at e2; cases e2
        | some _ => exact (List.getElem?_eq_some_iff.mp e3).1
      · exact i1 c' z
    · rcases List.mem_cons.mp hm with z | z
      · subst z
        obtain ⟨i0, p0, y, p4, z, p5, p6, ep, g⟩ := chkX_isb h3
        exact of_decide_eq_true (ba (ba (ba g).2).2).1
      · exact i2 m z
end
end Ev
end
section
set_option Elab.async false
set_option linter.all false
set_option maxRecDepth 100000
set_option maxHeartbeats 4000000
set_option autoImplicit false
/-! Ev13: statements are sound. -/
namespace Ev
open PySem PySem.Spec PyProof.Rows L2

section
variable {T : Tbl} {G : Gm} {cl : Nat → Addr} {N : List Str} {n : Nat}
/-- name = [..] on one line -/
theorem snd_lcS {sc : Scope} {W : WX} {X : Cx} (C : CxtS T G cl N n sc W X) {i : Nat} {y : Str} {py pos spos : Pos} {own : List (Str × Nat)} {elt : E} {pt : Pt} {it : It} {c : Oe} {pelt ptg pit : PySem.Expr} {pifs : List PySem.Expr} {scope : Scope} (hi : N[i]? = some y) (hyl : sc.names.lookup y = some .local)
    (hsw : swapsWith (.ListComp pelt [⟨ptg, pit, pifs, 0⟩] scope pos) (some (.Name y py)) spos.line X.env = pure true)
    (hh : (blkC N sc scope own && (chkP N scope (relB scope sc) own pt ptg && (chkI T N sc it pit ptg && (chkC T N (relB scope sc) c pifs && chkE T N (relB scope sc) elt pelt)))) = true) :
    PS X (.Assign [.Name y py] (.ListComp pelt [⟨ptg, pit, pifs, 0⟩] scope pos) spos) (tAsg (tE X.K cl W (ev G (.lc own elt pt it c))) (gName i)) := by
  obtain ⟨h1, h2⟩ := ba hh
  obtain ⟨h3, h4⟩ := ba h2
  obtain ⟨h5, h6⟩ := ba h4
  obtain ⟨h7, h8⟩ := ba h6
  refine (ps_setLc (own := own) (i := i) (g := gPt X.K pt) (wi := tI X.K cl W (evi G it)) (tt := tB X.K cl W0 (evc G c)) (te := tE X.K cl W0 (ev G elt)) C.calm (by rw [C.nN]; exact C.nd) (by rw [C.nN]; exact hi) (by rw [C.sc]; exact hyl) hsw (sndI it C.toCxt h5) (by rw [C.nN, C.sc]; exact blkOk_by h1)
    (fun s H Cc l fp => pg_pt (X := X.blk s H scope (compEnvC scope l Cc X.env) fp) (sc := scope) (rs := relB scope sc) C.nN C.nd (C.toCxt.blk.sc) (fun x hx => hx) C.calm h3)
    (fun s H Cc l fp => sndC c (C.toCxt.blk (s := s) (H := H) (Cc := Cc) (l := l) (fp := fp) (scope := scope)) h7)
    (fun s H Cc l fp => (sndE elt (C.toCxt.blk (s := s) (H := H) (Cc := Cc) (l := l) (fp := fp) (scope := scope)) h8).1) (chkI_fold h5)).weak fun D σ H q => ?_
  obtain ⟨ρ, en, S, he, hs, q⟩ := q
  refine ⟨ρ, en, S, he, hs, (Aft.bind q).imp (fun ρ1 H1 S1 src x1 s1 q1 => ?_) fun _ _ _ _ _ z => z⟩
  intro J hJ Dn hD
  exact lc_run h3 (he.ext x1) s1 hJ q1 (fun ρ H S d v z r => z v r) Dn hD
theorem snd_lc2S {sc : Scope} {W : WX} {X : Cx} (C : CxtS T G cl N n sc W X) {i : Nat} {y : Str} {py pos spos : Pos} {own : List (Str × Nat)} {own1 : List Nat} {elt : E} {pt p1 : Pt} {it it1 : It} {pelt ptg pit ptg1 pit1 : PySem.Expr} {scope : Scope} (hi : N[i]? = some y) (hyl : sc.names.lookup y = some .local)
    (hsw : swapsWith (.ListComp pelt [⟨ptg, pit, [], 0⟩, ⟨ptg1, pit1, [], 0⟩] scope pos) (some (.Name y py)) spos.line X.env = pure true)
    (hh : ((blkC N sc scope own && own1.all fun i => (own.map (·.2)).contains i) &&
      ((chkP N scope (relB scope sc) own pt ptg && chkP N scope (relB scope sc) (own.filter fun q => own1.contains q.2) p1 ptg1) && ((chkI T N sc it pit ptg && chkI T N (relB scope sc) it1 pit1 ptg1) && chkE T N (relB scope sc) elt pelt))) = true) :
    PS X (.Assign [.Name y py] (.ListComp pelt [⟨ptg, pit, [], 0⟩, ⟨ptg1, pit1, [], 0⟩] scope pos) spos) (tAsg (tE X.K cl W (ev G (.lc2 own own1 elt pt it p1 it1))) (gName i)) := by
  obtain ⟨h1, h2⟩ := ba hh
  obtain ⟨h3, h4⟩ := ba h1
  obtain ⟨h5, h6⟩ := ba h2
  obtain ⟨h7, h8⟩ := ba h5
  obtain ⟨h9, h10⟩ := ba h6
  obtain ⟨h11, h12⟩ := ba h9
  refine (ps_setLc2 (own := own) (vs1 := own1) (i := i) (g := gPt X.K pt) (g1 := gPt X.K p1) (wi := tI X.K cl W (evi G it)) (wi1 := tI X.K cl W0 (evi G it1)) (te := tE X.K cl W0 (ev G elt)) C.calm (by rw [C.nN]; exact C.nd) (by rw [C.nN]; exact hi) (by rw [C.sc]; exact hyl) hsw (sndI it C.toCxt h11) (by rw [C.nN, C.sc]; exact blkOk_by h3) (fun i hi => by
      have := List.all_eq_true.mp h4 i hi
      simpa using this)
    (fun s H Cc l fp => pg_pt (X := X.blk s H scope (compEnvC scope l Cc X.env) fp) (sc := scope) (rs := relB scope sc) C.nN C.nd (C.toCxt.blk.sc) (fun x hx => hx) C.calm h7)
    (fun s H Cc l fp => pts_nil)
    (fun s H Cc l fp => sndI it1 (C.toCxt.blk (s := s) (H := H) (Cc := Cc) (l := l) (fp := fp) (scope := scope)) h12)
    (fun s H Cc l fp => pg_pt (X := X.blk s H scope (compEnvC scope l Cc X.env) fp) (sc := scope) (rs := relB scope sc) C.nN C.nd (C.toCxt.blk.sc) (fun x hx => hx) C.calm h8)
    (fun s H Cc l fp => pts_nil)
    (fun s H Cc l fp => (sndE elt (C.toCxt.blk (s := s) (H := H) (Cc := Cc) (l := l) (fp := fp) (scope := scope)) h10).1) (chkI_fold h11) (fun env => chkI_fold h12)).weak fun D σ H q => ?_
  obtain ⟨ρ, en, S, he, hs, q⟩ := q
  refine ⟨ρ, en, S, he, hs, (Aft.bind q).imp (fun ρ1 H1 S1 src x1 s1 q1 => ?_) fun _ _ _ _ _ z => z⟩
  intro J hJ Dn hD
  exact lc2_run (own1 := own.filter fun q => own1.contains q.2) (vs1 := own1) h7 h8 (fun q hq => by simpa using (List.mem_filter.mp hq).2) (he.ext x1) s1 hJ q1 (fun ρ H S d v z r => z v r) Dn hD
/-- target = value, by its readings -/
theorem asg_of {K : PySem.W.Frag} {W : WX} {C' : List Cls} {t : Tg} {e : E} {D : Ends} {σ : L2.St} {H : Hp} (q : tS K cl W (exec G C' (.asg t e)) D σ H) : tAsg (tE K cl W (ev G e)) (gT K cl (asgT G t)) D σ H := by
  refine liftS (k := fun en d S => (asgT G t d en S).noex.then en fun en S => .nx en S) q fun ρ H1 S en x v Z he hs r q z => ?_
  exact ⟨ρ, en, S, x, he, hs, r, Aft.imp (Aft.noex (AftO.then q)) (fun ρ2 H2 S2 en2 x2 s2 q2 σ2 he2 hs2 => z.nx _ _ _ _ (AftO.here q2 s2) σ2 he2 hs2) fun _ _ _ _ _ z => z.elim⟩
theorem asgN_of {K : PySem.W.Frag} {W : WX} {C' : List Cls} {i : Nat} {e : E} {D : Ends} {σ : L2.St} {H : Hp} (q : tS K cl W (exec G C' (.asg (.nm i) e)) D σ H) : tAsg (tE K cl W (ev G e)) (gName i) D σ H := by
  refine liftS (k := fun en d S => (asgT G (.nm i) d en S).noex.then en fun en S => .nx en S) q fun ρ H1 S en x v Z he hs r q z => ?_
  have q2 : AftO K cl ρ H1 (.nx (en.set i (some x)) S) Z := by
    unfold asgT at q
    exact q
  exact z.nx _ _ _ _ (AftO.here q2 hs) _ (he.set r i) hs
theorem parSet_rep {K : PySem.W.Frag} {ρ : List Addr} {H : Hp} {en en' : En} {σ : L2.St} {i j : Nat} {ds : List D} {vs : List V} (he : RelE K ρ H en σ) (r : RepL K ρ H ds vs) (e : parSet [i, j] ds en = some en') : ∃ v w, vs = [v, w] ∧ RelE K ρ H en' ((σ.set i (some v)).set j (some w)) := by
  cases r with
  | nil => cases e
  | cons r1 r =>
    cases r with
    | nil => cases e
    | cons r2 r =>
      cases r with
      | nil => cases e; exact ⟨_, _, rfl, (he.set r1 i).set r2 j⟩
      | cons _ _ => cases e
theorem parSet_rep3 {K : PySem.W.Frag} {ρ : List Addr} {H : Hp} {en en' : En} {σ : L2.St} {i j l : Nat} {ds : List D} {vs : List V} (he : RelE K ρ H en σ) (r : RepL K ρ H ds vs) (e : parSet [i, j, l] ds en = some en') : ∃ u v w, vs = [u, v, w] ∧ RelE K ρ H en' (((σ.set i (some u)).set j (some v)).set l (some w)) := by
  cases r with
  | nil => cases e
  | cons r1 r =>
    cases r with
    | nil => cases e
    | cons r2 r =>
      cases r with
      | nil => cases e
      | cons r3 r =>
        cases r with
        | nil => cases e; exact ⟨_, _, _, rfl, ((he.set r1 i).set r2 j).set r3 l⟩
        | cons _ _ => cases e
theorem par_of {K : PySem.W.Frag} {W : WX} {C' : List Cls} {is : List Nat} {es : Es} {D : Ends} {σ : L2.St} {H : Hp} {r : List V → Hp → Prop} (q : tS K cl W (exec G C' (.par is es)) D σ H)
    (f : ∀ ρ H1 S en ds vs en' Z, RelE K ρ H1 en σ → RelS K cl ρ H1 S → RepL K ρ H1 ds vs → parSet is ds en = some en' → Z.nx ρ H1 S en' → EOk K cl W Z D → r vs H1) : tA K cl W (evs G es) σ H r := by
  obtain ⟨ρ, en, S, Z, he, hs, h, z⟩ := q
  unfold exec at h
  refine ⟨ρ, en, S, he, hs, Aft.imp2 (AftO.then h) (fun ρ1 H1 S1 ds x1 s1 q vs rv => ?_) fun x ρ1 H1 S1 x1 s1 q cls d xr => ?_⟩
  · cases e : parSet is ds en with
    | none => rw [e] at q; exact False.elim q
    | some en' =>
      rw [e] at q
      exact f ρ1 H1 S1 en ds vs en' Z (he.ext x1) s1 rv e (AftO.here q s1) z
  · exact z.ex x ρ1 H1 S1 en q σ cls d (he.ext x1) s1 xr
theorem aug_pip {X : Cx} {K : PySem.W.Frag} {o : Op2} {op : Operator} (h : augB o op = true) : ∃ f : Int → Int → Int, PIp X op (ipI f) ∧ ∀ (ρ : List Addr) (H : Hp) (x y z : D) (v w : V) (Q : VK), Rep K ρ H x v → Rep K ρ H y w → augI o x y = some z → (∀ u, Rep K ρ H z u → Q u H) → ipI f v w H Q := by
  cases o <;> cases op <;> first | (cases h; done) | skip
  · refine ⟨_, ip_add, fun ρ H x y z v w Q rx ry e f => ?_⟩
    cases x with
    | int i =>
      cases y with
      | int j => cases e; cases rx; cases ry; exact ⟨_, _, rfl, rfl, f _ (.int _)⟩
      | _ => cases e
    | _ => cases e
  · refine ⟨_, ip_sub, fun ρ H x y z v w Q rx ry e f => ?_⟩
    cases x with
    | int i =>
      cases y with
      | int j => cases e; cases rx; cases ry; exact ⟨_, _, rfl, rfl, f _ (.int _)⟩
      | _ => cases e
    | _ => cases e
end
end Ev
end
section
set_option Elab.async false
set_option linter.all false
set_option maxRecDepth 100000
set_option maxHeartbeats 4000000
set_option autoImplicit false
/-! Ev14: statements are sound: loops, blocks, the theorem. -/
namespace Ev
open PySem PySem.Spec PyProof.Rows L2

section
variable {K : PySem.W.Frag} {cl : Nat → Addr} {ρ : List Addr} {H : Hp} {o : O} {Z Z' : EndsO}
theorem AftO.turn2 {k : En → Sto → O} (h : AftO K cl ρ H (o.turn k) Z) : AftO K cl ρ H o { Z with nx := fun ρ' H' S en => Ext ρ H ρ' H' ∧ AftO K cl ρ' H' (k en S) Z, ct := fun ρ' H' S en => Ext ρ H ρ' H' ∧ AftO K cl ρ' H' (k en S) Z, bk := Z.nx } := by
  cases o <;> first | exact h | exact fun ρ' H' x s => ⟨x, AftO.ext h x⟩
end
section
variable {T : Tbl} {G : Gm} {cl : Nat → Addr} {N : List Str} {n : Nat} {C' : List Cls}
theorem for_of {K : PySem.W.Frag} {W : WX} {t : Tg} {it : It} {b : Ss} {D : Ends} {σ : L2.St} {H : Hp} (q : tS K cl W (exec G C' (.for t it b)) D σ H) : tFor (tI K cl W (evi G it)) (gT K cl (asgT G t)) (tS K cl W (execs G C' b)) D σ H := by
  obtain ⟨ρ, en, S, Z, he, hs, h, z⟩ := q
  refine ⟨ρ, en, S, he, hs, Aft.imp2 (AftO.then h) (fun ρ1 H1 S1 src x1 s1 q1 => ?_) fun x ρ1 H1 S1 x1 s1 q cls d xr => z.ex x ρ1 H1 S1 en q σ cls d (he.ext x1) s1 xr⟩
  intro J hJ
  generalize hF : (fun (d : Ev.D) (en : En) (S : Sto) => (asgT G t d en S).noex.then en fun en S => execs G C' b en S) = F at q1
  let Wf : Nat → Nat → L2.St → Hp → Prop := fun i m σ H => m = src.its.length - i ∧ i ≤ src.its.length ∧ ∃ ρ en S, Ext ρ1 H1 ρ H ∧ RelE K ρ H en σ ∧ RelS K cl ρ H S ∧ AftO K cl ρ H (forL src F (src.its.drop i) en S) Z
  refine ⟨Wf, ⟨_, rfl, Nat.zero_le _, ρ1, en, S1, Ext.refl _ _, he.ext x1, s1, by rw [List.drop_zero]; exact q1⟩, ?_⟩
  rintro i m σ H ⟨rfl, hi, ρ, en, S, xt, he, hs, ha⟩
  by_cases hl : i < src.its.length
  · refine .inr ?_
    obtain ⟨d, hd⟩ : ∃ d, src.its[i]? = some d := ⟨_, List.getElem?_eq_getElem hl⟩
    rw [drop_cons hd, forL] at ha
    split at ha
    · rename_i ok
      obtain ⟨go, yl⟩ := (hJ ρ H S xt.kp hs ok i).1 d hd
      refine ⟨go, fun σ' H' => ∃ m, Wf (i + 1) m σ' H', fun σ' H' ⟨m', w⟩ => ⟨m', by rw [w.1]; omega, w⟩, fun x H2 y => ?_⟩
      obtain ⟨x2, s2, r2⟩ := yl x H2 y
      have ha2 := AftO.turn2 (AftO.ext ha x2)
      rw [← hF] at ha2
      refine ⟨ρ, en, S, d, he.ext x2, s2, r2, Aft.imp (Aft.noex (AftO.then ha2)) (fun ρ3 H3 S3 en3 x3 s3 q3 => ?_) fun _ _ _ _ _ z => z.elim⟩
      intro σ3 he3 hs3
      rw [hF] at q3
      refine ⟨ρ3, en3, S3, _, he3, s3, q3, ⟨fun ρ' H' S' en' q σ' he' hs' => ?_, z.rt, z.nx, fun ρ' H' S' en' q σ' he' hs' => ?_, z.ex⟩⟩
      · exact ⟨_, rfl, hl, ρ', en', S', (xt.trans x2).trans q.1, he', hs', q.2⟩
      · exact ⟨_, rfl, hl, ρ', en', S', (xt.trans x2).trans q.1, he', hs', q.2⟩
    · exact False.elim ha
  · have e : i = src.its.length := by omega
    subst e
    rw [List.drop_length, forL] at ha
    split at ha
    · rename_i ok
      exact .inl ⟨(hJ ρ H S xt.kp hs ok _).2 (Nat.le_refl _), z.nx _ _ _ _ (AftO.here ha hs) σ he hs⟩
    · exact False.elim ha
theorem whl_of {K : PySem.W.Frag} {W : WX} {c : E} {b : Ss} {D : Ends} {σ : L2.St} {H : Hp} (q : tS K cl W (exec G C' (.whl c b)) D σ H) : tWhile (tB K cl W (toB (ev G c))) (tS K cl W (execs G C' b)) D σ H := by
  obtain ⟨ρ, en, S, Z, he, hs, h, z⟩ := q
  have h' : AftO K cl ρ H (whlL (toB (ev G c)) (fun en S => execs G C' b en S) en S) Z := h
  let Wf : Nat → L2.St → Hp → Prop := fun m σ H => ∃ ρ en S, RelE K ρ H en σ ∧ RelS K cl ρ H S ∧ AftO K cl ρ H (wIt (toB (ev G c)) (fun en S => execs G C' b en S) m en S) Z
  have hn : ∃ m, Wf m σ H := by
    unfold whlL at h'
    split at h'
    · rename_i hx
      exact ⟨_, ρ, en, S, he, hs, h'⟩
    · exact False.elim h'
  refine ⟨Wf, hn, ?_⟩
  rintro m σ H ⟨ρ, en, S, he, hs, ha⟩
  cases m with
  | zero => exact False.elim ha
  | succ m =>
    rw [wIt] at ha
    refine ⟨ρ, en, S, he, hs, Aft.imp2 (AftO.then ha) (fun ρ1 H1 S1 k x1 s1 q1 => ?_) fun x ρ1 H1 S1 x1 s1 q cls d xr => z.ex x ρ1 H1 S1 en q σ cls d (he.ext x1) s1 xr⟩
    cases k with
    | false =>
      rw [if_neg (by decide)] at q1 ⊢
      exact z.nx _ _ _ _ (AftO.here q1 s1) σ (he.ext x1) s1
    | true =>
      rw [if_pos rfl] at q1 ⊢
      refine ⟨fun σ' H' => Wf m σ' H', fun σ' H' w => ⟨m, Nat.lt_succ_self _, w⟩, ρ1, en, S1, _, he.ext x1, s1, AftO.turn q1, ⟨fun ρ' H' S' en' q σ' he' hs' => ⟨ρ', en', S', he', hs', q⟩, z.rt, z.nx, fun ρ' H' S' en' q σ' he' hs' => ⟨ρ', en', S', he', hs', q⟩, z.ex⟩⟩
theorem ite_of {K : PySem.W.Frag} {W : WX} {c : E} {a b : Ss} {D : Ends} {σ : L2.St} {H : Hp} (q : tS K cl W (exec G C' (.ite c a b)) D σ H) : tIfS (tB K cl W (toB (ev G c))) (tS K cl W (execs G C' a)) (tS K cl W (execs G C' b)) D σ H := by
  refine liftSB (k := fun en x S => match x with
    | .bl true => execs G C' a en S
    | .bl false => execs G C' b en S
    | _ => .stuck) q (fun en x S hx => ?_) fun ρ H1 S en k Z he hs q z => ?_
  · cases x with
    | bl b => exact absurd rfl (hx b)
    | _ => rfl
  · cases k with
    | true => rw [if_pos rfl]; exact ⟨ρ, en, S, Z, he, hs, q, z⟩
    | false => rw [if_neg (by decide)]; exact ⟨ρ, en, S, Z, he, hs, q, z⟩

theorem chk_asg {sc : Scope} {t : Tg} {e : E} {st : PySem.Stmt} (h : chkS T N sc (.asg t e) st = true) : ∃ tg pe pos, st = .Assign [tg] pe pos ∧ (chkT T N sc t tg && (chkE T N sc e pe && (swNo sc tg pe && (!swapB sc tg pe || isLc e)))) = true := by
  unfold chkS at h
  split at h <;> first | (cases h; done) | (rename_i e; cases e; done) | (rename_i e _; cases e; done) | skip
  rename_i e1 e2
  cases e1
  cases e2
  exact ⟨_, _, _, rfl, h⟩
theorem chk_par {sc : Scope} {is : List Nat} {es : Es} {st : PySem.Stmt} (h : chkS T N sc (.par is es) st = true) : ∃ ts k p ps k2 p2 pos, st = .Assign [.Tuple ts k p] (.Tuple ps k2 p2) pos ∧ (chkPar N sc is ts ps && chkEs T N sc es ps) = true := by
  unfold chkS at h
  split at h <;> first | (cases h; done) | (rename_i e; cases e; done) | (rename_i e _; cases e; done) | skip
  rename_i e1 e2
  cases e1
  cases e2
  exact ⟨_, _, _, _, _, _, _, rfl, h⟩
theorem chk_for {sc : Scope} {t : Tg} {it : It} {b : Ss} {st : PySem.Stmt} (h : chkS T N sc (.for t it b) st = true) : ∃ tg pit body pos, st = .For tg pit body [] pos ∧ (chkT T N sc t tg && (chkI T N sc it pit tg && chkSs T N sc b body)) = true := by
  unfold chkS at h
  split at h <;> first | (cases h; done) | (rename_i e; cases e; done) | (rename_i e _; cases e; done) | skip
  rename_i e1 e2
  cases e1
  cases e2
  exact ⟨_, _, _, _, rfl, h⟩
theorem chk_whl {sc : Scope} {c : E} {b : Ss} {st : PySem.Stmt} (h : chkS T N sc (.whl c b) st = true) : ∃ pc body pos, st = .While pc body [] pos ∧ (chkE T N sc c pc && chkSs T N sc b body) = true := by
  unfold chkS at h
  split at h <;> first | (cases h; done) | (rename_i e; cases e; done) | (rename_i e _; cases e; done) | skip
  rename_i e1 e2
  cases e1
  cases e2
  exact ⟨_, _, _, rfl, h⟩
theorem chk_lcN {sc : Scope} {e : E} {tg pe : PySem.Expr} (h : swapB sc tg pe = true) : ∃ y py, tg = .Name y py ∧ sc.names.lookup y = some .local := by
  unfold swapB at h
  split at h
  · rename_i s t pos e1
    obtain ⟨h1, h2⟩ := ba h
    obtain ⟨h3, h4⟩ := ba h1
    exact ⟨t, pos, rfl, by simpa using h3⟩
  · cases h
theorem CxtS.tr {sc : Scope} {W W' : WX} {X : Cx} (C : CxtS T G cl N n sc W X) {pn : List (Addr × Obj)} {xe : Value → Shared → Prop} (tk : Takes (X.tr pn xe) W') (po : PassesOwn (model X.prog X.w) X.A X.env xe) : CxtS T G cl N n sc W' (X.tr pn xe) :=
  ⟨⟨C.nN, C.nd, C.sc, C.calm, C.gd, C.room, C.seer, C.tree, C.top, C.tab, tk⟩, po, C.fnT, C.stk, C.frm⟩
theorem RelS.newL {K : PySem.W.Frag} {ρ : List Addr} {H : Hp} {S : Sto} {xs : List D} {vs : List V} {p : Addr} (s : RelS K cl ρ H S) (r : RepL K ρ H xs vs) (hp : H p = none) :
    Ext ρ H (ρ ++ [p]) (upd H p (.lst vs)) ∧ RelS K cl (ρ ++ [p]) (upd H p (.lst vs)) (S ++ [.lst xs]) ∧ Rep K (ρ ++ [p]) (upd H p (.lst vs)) (.ref S.length) (.ref p) := by
  have xx : Ext ρ H (ρ ++ [p]) (upd H p (.lst vs)) := ⟨⟨[p], rfl⟩, fun b hb => (List.mem_append.mp hb).imp id fun z => by rw [List.mem_singleton.mp z]; exact hp, fun b v e _ => by rw [upd_ne (ne_of_none e hp)]; exact e⟩
  obtain ⟨x, s'⟩ := s.alloc (o := .lst xs) (u := .lst vs) hp ⟨vs, upd_same, r.ext xx⟩
  exact ⟨x, s', .ref (by rw [← s.len]; simp)⟩
theorem mapO_len {α β : Type} {f : α → Option β} : ∀ {l : List α} {r : List β}, mapO f l = some r → r.length = l.length
  | [], r, h => by cases h; rfl
  | a :: l, r, h => by
    unfold mapO at h
    cases e : f a with
    | none => rw [e] at h; cases h
    | some b =>
      cases e2 : mapO f l with
      | none => rw [e, e2] at h; cases h
      | some bs => rw [e, e2] at h; cases h; exact congrArg Nat.succ (mapO_len e2)
theorem tri_of {sc : Scope} {W : WX} {X : Cx} (C : CxtS T G cl N n sc W X) (hC : C' = T.ecs.map (·.2)) {b : Ss} {c slot to : Nat} {as : List Xa} (g1 : ∀ c', Xa.isc c' ∈ as → c' < T.ecs.length) (g2 : ∀ m, Xa.isb m ∈ as → m = "ValueError") (gl : as.length ≤ 1000) (hct : c < T.ecs.length) {D : Ends} {σ : L2.St} {H : Hp}
    (q : tS X.K cl W (exec G C' (.tri b c slot to as)) D σ H) :
    tS X.K cl (wAs X.K (.ref (cl c)) slot (fun a cls d => tAsg (tLst (tXas T cl a cls d slot as)) (gName to)) W D) (execs G C' b) D σ H := by
  obtain ⟨ρ, en, S, Z, he, hs, h, z⟩ := q
  refine ⟨ρ, en, S, { Z with ex := fun x ρ' H' S' en' => AftO X.K cl ρ' H' (triH C' c slot to as x en' S') Z }, he, hs, ?_, ⟨z.nx, z.rt, z.bk, z.ct, ?_⟩⟩
  · have h' : AftO X.K cl ρ H (match execs G C' b en S with
      | .ex x en S => triH C' c slot to as x en S
      | o => o) Z := h
    cases y : execs G C' b en S with
    | ex x en1 S1 => rw [y] at h'; exact fun ρ' H' x' s' => AftO.ext h' x'
    | _ => rw [y] at h'; exact h'
  · intro x ρ' H' S' en' q σ' cls d he' hs' xr
    replace q : AftO X.K cl ρ' H' (triH C' c slot to as x en' S') Z := q
    unfold triH at q
    split at q
    · rename_i hlt
      cases hk : C'[x.c]? with
      | none => rw [hk] at q; exact False.elim q
      | some k =>
        obtain ⟨nm, hk2⟩ : ∃ nm, T.ecs[x.c]? = some (nm, k) := by
          rw [hC, List.getElem?_map] at hk
          cases e : T.ecs[x.c]? with
          | none => rw [e] at hk; cases hk
          | some p => rw [e] at hk; cases hk; exact ⟨p.1, rfl⟩
        have O := C.tab.ecs x.c nm k hk2
        obtain ⟨x1, da, ws, x2, x3, x4⟩ := id xr
        rw [hk] at q
        replace q : AftO X.K cl ρ' H' (if (decide (c = x.c) || k.up.contains c) = true then (match mapO (xaD k x) as with
          | some ds => .nx (((en'.set slot none).set to (some (.ref S'.length))).set slot none) (S' ++ [.lst ds])
          | none => .stuck) else .ex x en' S') Z := q
        refine ⟨decide (c = x.c) || k.up.contains c, by rw [x1]; exact O.exm c hct, fun hb a ha => ?_, fun hb => ?_⟩
        · rw [if_pos hb] at q
          cases e : mapO (xaD k x) as with
          | none => rw [e] at q; exact False.elim q
          | some ds =>
            rw [e] at q
            have hs2 : slot < σ'.length := by rw [← he'.len]; exact hlt
            obtain ⟨vs, r, f⟩ := xas_run (σ := σ'.set slot (some (.ref a))) (a := a) (i := slot) (List.getElem?_set_self hs2) hk2 xr g1 g2 e
            refine f _ ⟨?_, fun p hp => ?_⟩
            · rw [← r.length, mapO_len e, ← sl_eq]
              omega
            · obtain ⟨xx, s2, r2⟩ := hs'.newL r hp
              exact z.nx _ _ _ _ (q _ _ xx s2) _ ((((he'.unset slot (some (.ref a))).ext xx).set r2 to).unset slot none) s2
        · rw [if_neg (by rw [hb]; decide)] at q
          exact z.ex _ _ _ _ _ (q ρ' H' (Ext.refl _ _) hs') σ' cls d he' hs' xr
    · exact False.elim q
theorem chk_rai {sc : Scope} {c : Nat} {es : Es} {st : PySem.Stmt} (h : chkS T N sc (.rai c es) st = true) : ∃ x p ps pos pos2, st = .Raise (some (.Call (.Name x p) ps [] pos)) none pos2 ∧ ((match T.ecs[c]? with
      | some (y, k) => decide (x = y) && (decide (es.len = k.fs.length) && decide (k.fs.length = 1 ∨ k.fs.length = 2))
      | none => false) && ((glB sc x && plN x) && (es.plain && chkEs T N sc es ps))) = true := by
  unfold chkS at h
  split at h <;> first | (cases h; done) | (rename_i e; cases e; done) | (rename_i e _; cases e; done) | skip
  rename_i e1 e2
  cases e1
  cases e2
  exact ⟨_, _, _, _, _, rfl, h⟩
theorem chk_tri {sc : Scope} {b : Ss} {c slot to : Nat} {as : List Xa} {st : PySem.Stmt} (h : chkS T N sc (.tri b c slot to as) st = true) : ∃ body x p1 e y p2 ps p3 p4 p5 pos, st = .Try body [.ExceptHandler (some (.Name x p1)) (some e) [.Assign [.Name y p2] (.List ps p3) p4] p5] [] [] pos ∧
    (chkSs T N sc b body && ((decide ((T.ecs[c]?).map (·.1) = some x) && (glB sc x && plN x)) && ((decide (N[slot]? = some e) && (loclB sc e && plN e)) && ((decide (N[to]? = some y) && locB sc y) && (decide (as.length ≤ 1000) && chkXs T sc e as ps))))) = true := by
  unfold chkS at h
  split at h <;> first | (cases h; done) | (rename_i e; cases e; done) | (rename_i e _; cases e; done) | skip
  rename_i e1 e2
  cases e1
  cases e2
  exact ⟨_, _, _, _, _, _, _, _, _, _, _, rfl, h⟩
mutual
theorem sndS (hC : C' = T.ecs.map (·.2)) : ∀ (s : Sm) {sc : Scope} {W : WX} {X : Cx} {st : PySem.Stmt}, CxtS T G cl N n sc W X → isFn sc = true → chkS T N sc s st = true → PS X st (tS X.K cl W (exec G C' s))
  | .asg t e, sc, W, X, st, C, hf, h => by
    obtain ⟨tg, pe, pos, rfl, h⟩ := chk_asg h
    obtain ⟨h1, h2⟩ := ba h
    obtain ⟨h3, h4⟩ := ba h2
    obtain ⟨h5, h6⟩ := ba h4
    have hk : X.env.scope.kind = .function := by rw [C.sc]; exact isFn_of hf
    cases hsw : swapB sc tg pe with
    | false =>
      exact (ps_asg (sndE e C.toCxt h3).1 (sndT t C h1) ((swaps_eq hk).trans (by rw [C.sc, hsw])) (sw_no hk (by rw [C.sc]; exact h5)) (by cases tg <;> first | rfl | (cases t <;> cases h1))).weak fun D σ H q => asg_of q
    | true =>
      obtain ⟨y, py, rfl, hy⟩ := chk_lcN (e := e) hsw
      have hsw2 : swapsWith pe (some (.Name y py)) pos.line X.env = pure true := (swaps_eq hk).trans (by rw [C.sc, hsw])
      cases t with
      | nm i =>
        obtain ⟨g1, g2⟩ := ba (show (decide (N[i]? = some y) && locB sc y) = true from h1)
        have hi := of_decide_eq_true g1
        cases e with
        | lc own elt p it c =>
          obtain ⟨pelt, ptg, pit, pifs, scope, pos2, rfl, hh⟩ := chk_lc h3
          exact (snd_lcS C hi hy hsw2 hh).weak fun D σ H q => asgN_of q
        | lc2 own own1 elt p it p1 it1 =>
          obtain ⟨pelt, ptg, pit, ptg1, pit1, scope, pos2, rfl, hh⟩ := chk_lc2 h3
          exact (snd_lc2S C hi hy hsw2 hh).weak fun D σ H q => asgN_of q
        | _ =>
          rw [hsw] at h6
          cases h6
      | tup ts => cases h1
      | sub a i => cases h1
  | .par is es, sc, W, X, st, C, hf, h => by
    obtain ⟨ts, k, p, ps, k2, p2, pos, rfl, h⟩ := chk_par h
    obtain ⟨h1, h2⟩ := ba h
    have hk : X.env.scope.kind = .function := by rw [C.sc]; exact isFn_of hf
    unfold chkPar at h1
    split at h1
    · rename_i i j x px y py a b _
      obtain ⟨g1, g2⟩ := ba h1
      obtain ⟨g3, g4⟩ := ba g1
      obtain ⟨g5, g6⟩ := ba g2
      obtain ⟨g7, g8⟩ := ba g6
      obtain ⟨g9, g10⟩ := ba g7
      obtain ⟨g11, g12⟩ := ba g8
      obtain ⟨g13, g14⟩ := ba g11
      have e1 : swQuick X.env.scope [.Name x px, .Name y py] [a, b] = false := by rw [C.sc]; simpa using g13
      have e2 : [a, b].all (constantsAlone 8) = false := by
        cases z : [a, b].all (constantsAlone 8) with
        | false => rfl
        | true => rw [z] at g14; cases g14
      have e3 : nmS X.env.scope [.Name x px, .Name y py] = [x, y] := by rw [C.sc]; exact of_decide_eq_true g12
      refine (ps_par C.calm (by rw [C.nN]; exact C.nd) (by rw [C.nN]; exact of_decide_eq_true g3) (by rw [C.nN]; exact of_decide_eq_true g4) (of_decide_eq_true g5) (by rw [C.sc]; exact locl_of g9) (by rw [C.sc]; exact locl_of g10) (sndEs es C.toCxt h2) (by rw [sw_some hk e1 e2, e3])).weak fun D σ H q => ?_
      refine par_of q fun ρ H1 S en ds vs en' Z he hs r e qz z => ?_
      obtain ⟨v, w, ev, he'⟩ := parSet_rep he r e
      exact ⟨v, w, ev, z.nx _ _ _ _ qz _ he' hs⟩
    · rename_i i j l x px y py zz pz a b c _
      obtain ⟨g1, g2⟩ := ba h1
      obtain ⟨g3, g4⟩ := ba g1
      obtain ⟨g4, g4'⟩ := ba g4
      obtain ⟨g5, g6⟩ := ba g2
      obtain ⟨g5, g5'⟩ := ba g5
      obtain ⟨g5', g5''⟩ := ba g5'
      obtain ⟨g7, g8⟩ := ba g6
      obtain ⟨g9, g10⟩ := ba g7
      obtain ⟨g10, g10'⟩ := ba g10
      obtain ⟨g11, g12⟩ := ba g8
      obtain ⟨g13, g14⟩ := ba g11
      have e1 : swQuick X.env.scope [.Name x px, .Name y py, .Name zz pz] [a, b, c] = false := by rw [C.sc]; simpa using g13
      have e2 : [a, b, c].all (constantsAlone 8) = false := by
        cases z : [a, b, c].all (constantsAlone 8) with
        | false => rfl
        | true => rw [z] at g14; cases g14
      have e3 : nmS X.env.scope [.Name x px, .Name y py, .Name zz pz] = [x, y, zz] := by rw [C.sc]; exact of_decide_eq_true g12
      refine (ps_par3 C.calm (by rw [C.nN]; exact C.nd) (by rw [C.nN]; exact of_decide_eq_true g3) (by rw [C.nN]; exact of_decide_eq_true g4) (by rw [C.nN]; exact of_decide_eq_true g4') (of_decide_eq_true g5) (of_decide_eq_true g5') (of_decide_eq_true g5'') (by rw [C.sc]; exact locl_of g9) (by rw [C.sc]; exact locl_of g10) (by rw [C.sc]; exact locl_of g10') (sndEs es C.toCxt h2) (by rw [sw_some hk e1 e2, e3])).weak fun D σ H q => ?_
      refine par_of q fun ρ H1 S en ds vs en' Z he hs r e qz z => ?_
      obtain ⟨u, v, w, ev, he'⟩ := parSet_rep3 he r e
      exact ⟨u, v, w, ev, z.nx _ _ _ _ qz _ he' hs⟩
    · cases h1
  | .aug i o e, sc, W, X, st, C, hf, h => by
    cases st with
    | AugAssign tg op pe pos =>
      cases tg with
      | Name x py =>
        obtain ⟨h1, h2⟩ := ba (show (decide (N[i]? = some x) && (locB sc x && (augB o op && chkE T N sc e pe))) = true from h)
        obtain ⟨h3, h4⟩ := ba h2
        obtain ⟨h5, h6⟩ := ba h4
        obtain ⟨f, p1, p2⟩ := aug_pip (K := X.K) (X := X) h5
        refine (ps_aug (by rw [C.nN]; exact C.nd) (by rw [C.nN]; exact of_decide_eq_true h1) (by rw [C.sc]; exact loc_of h3) (sndE e C.toCxt h6).1 p1 (.inl (C.fnT x))).weak fun D σ H q => ?_
        obtain ⟨ρ, en, S, Z, he, hs, q, z⟩ := q
        unfold exec at q
        cases g : en.getD i none with
        | none => rw [g] at q; exact False.elim q
        | some d =>
          rw [g] at q
          have g2 : en[i]? = some (some d) := by
            rw [List.getD_eq_getElem?_getD] at g
            cases y : en[i]? with
            | none => rw [y] at g; cases g
            | some o => rw [y] at g; simp at g; rw [g]
          obtain ⟨v, g3, g4⟩ := he.get i d g2
          refine ⟨v, g3, ρ, en, S, he, hs, Aft.imp2 (AftO.then q) (fun ρ1 H1 S1 y x1 s1 q1 w rw' => ?_) fun x ρ1 H1 S1 x1 s1 q cls d xr => z.ex x ρ1 H1 S1 en q σ cls d (he.ext x1) s1 xr⟩
          cases a : augI o d y with
          | none => rw [a] at q1; exact False.elim q1
          | some nd =>
            rw [a] at q1
            exact p2 ρ1 H1 d y nd v w _ (g4.ext x1) rw' a fun u ru => z.nx _ _ _ _ (AftO.here q1 s1) _ ((he.ext x1).set ru i) s1
      | _ => cases h
    | _ => cases h
  | .augs a i o e, sc, W, X, st, C, hf, h => by
    cases st with
    | AugAssign tg op pe pos =>
      cases tg with
      | Subscript pa pi py =>
        obtain ⟨h1, h2⟩ := ba (show (notSlice pi && (augB o op && (chkE T N sc a pa && (chkE T N sc i pi && chkE T N sc e pe)))) = true from h)
        obtain ⟨h3, h4⟩ := ba h2
        obtain ⟨h5, h6⟩ := ba h4
        obtain ⟨h7, h8⟩ := ba h6
        obtain ⟨f, p1, p2⟩ := aug_pip (K := X.K) (X := X) h3
        refine (ps_augS (sndE a C.toCxt h5).1 (sndE i C.toCxt h7).1 get_list (sndE e C.toCxt h8).1 p1 set_list (aug_ix h1)).weak fun D σ H q => ?_
        obtain ⟨ρ, en, S, Z, he, hs, q, z⟩ := q
        unfold exec at q
        refine ⟨ρ, en, S, he, hs, Aft.imp2 (AftO.then q) (fun ρ1 H1 S1 x x1 s1 q1 v rv => ?_) fun x ρ1 H1 S1 x1 s1 q cls d xr => z.ex x ρ1 H1 S1 en q σ cls d (he.ext x1) s1 xr⟩
        have he1 := he.ext x1
        refine ⟨ρ1, en, S1, he1, s1, Aft.imp2 (AftO.then q1) (fun ρ2 H2 S2 y x2 s2 q2 w rw' => ?_) fun x ρ1 H1 S1 x1 s1 q cls d xr => z.ex x ρ1 H1 S1 en q σ cls d (he1.ext x1) s1 xr⟩
        have he2 := he1.ext x2
        cases g : ixL S2 x y with
        | none => rw [g] at q2; exact False.elim q2
        | some old =>
          rw [g] at q2
          cases y with
          | int k =>
            unfold ixL at g
            simp only at g
            cases l : lstOf S2 x with
            | none => rw [l] at g; cases g
            | some xs =>
              rw [l] at g
              have rv2 := rv.ext x2
              obtain ⟨p, vs, e1, e2, e3⟩ := lstOf_rep s2 l rv2
              obtain ⟨vo, o1, o2⟩ := atI_rep e3 g
              cases rw'
              subst e1
              refine ⟨p, vs, k, vo, rfl, rfl, e2, o1, ρ2, en, S2, he2, s2, Aft.imp2 (AftO.then q2) (fun ρ3 H3 S3 zz x3 s3 q3 u ru => ?_) fun x ρ1 H1 S1 x1 s1 q cls d xr => z.ex x ρ1 H1 S1 en q σ cls d (he2.ext x1) s1 xr⟩
              have he3 := he2.ext x3
              cases a : augI o old zz with
              | none => rw [a] at q3; exact False.elim q3
              | some nd =>
                rw [a] at q3
                refine p2 ρ3 H3 old zz nd vo u _ (o2.ext x3) ru a fun t rt => ?_
                cases b : setSub x (.int k) nd S3 with
                | none => simp only [b] at q3; exact False.elim q3
                | some S4 =>
                  simp only [b] at q3
                  exact v_setSub s3 (rv2.ext x3) (.int k) rt b fun H' x4 s4 => z.nx _ _ _ _ (q3 ρ3 H' x4 s4) _ (he3.ext x4) s4
          | _ => cases g
      | _ => cases h
    | _ => cases h
  | .exp e, sc, W, X, st, C, hf, h => by
    cases st with
    | Expr pe pos =>
      obtain ⟨h1, h2⟩ := ba (show (notComp pe && chkE T N sc e pe) = true from h)
      refine (ps_expr (sndE e C.toCxt h2).1 (by cases pe <;> first | rfl | cases h1)).weak fun D σ H q => ?_
      exact liftS (k := fun en _ S => .nx en S) q fun ρ H1 S en x v Z he hs r q z => z.nx _ _ _ _ (AftO.here q hs) _ he hs
    | _ => cases h
  | .ret e, sc, W, X, st, C, hf, h => by
    cases st with
    | Return pe pos =>
      cases pe with
      | none => cases h
      | some pe =>
        refine (ps_ret (sndE e C.toCxt (show chkE T N sc e pe = true from h)).1).weak fun D σ H q => ?_
        exact liftS (k := fun _ d S => .rt d S) q fun ρ H1 S en x v Z he hs r q z => z.rt _ _ _ _ (q ρ H1 (Ext.refl _ _) hs) v r hs
    | _ => cases h
  | .retn, sc, W, X, st, C, hf, h => by
    cases st with
    | Return pe pos =>
      cases pe with
      | none =>
        refine ps_retN.weak fun D σ H q => ?_
        obtain ⟨ρ, en, S, Z, he, hs, q, z⟩ := q
        exact z.rt _ _ _ _ (q ρ H (Ext.refl _ _) hs) _ .non hs
      | some pe => cases h
    | _ => cases h
  | .ite c a b, sc, W, X, st, C, hf, h => by
    cases st with
    | If pc pa pb pos =>
      obtain ⟨h1, h2⟩ := ba (show (chkE T N sc c pc && (chkSs T N sc a pa && chkSs T N sc b pb)) = true from h)
      obtain ⟨h3, h4⟩ := ba h2
      exact (ps_if (sndE c C.toCxt h1).2 (sndSs hC a C hf h3) (sndSs hC b C hf h4)).weak fun D σ H q => ite_of q
    | _ => cases h
  | .for t it b, sc, W, X, st, C, hf, h => by
    obtain ⟨tg, pit, body, pos, rfl, h⟩ := chk_for h
    obtain ⟨h1, h2⟩ := ba h
    obtain ⟨h3, h4⟩ := ba h2
    exact (ps_for C.po C.calm (sndI it C.toCxt h3) (sndT t C h1) (sndSs hC b C hf h4) (chkI_fold h3)).weak fun D σ H q => for_of q
  | .whl c b, sc, W, X, st, C, hf, h => by
    obtain ⟨pc, body, pos, rfl, h⟩ := chk_whl h
    obtain ⟨h1, h2⟩ := ba h
    exact (ps_while C.po (sndE c C.toCxt h1).2 (sndSs hC b C hf h2)).weak fun D σ H q => whl_of q
  | .brk, sc, W, X, st, C, hf, h => by
    cases st with
    | Break pos =>
      refine ps_break.weak fun D σ H q => ?_
      obtain ⟨ρ, en, S, Z, he, hs, q, z⟩ := q
      exact z.bk _ _ _ _ (q ρ H (Ext.refl _ _) hs) _ he hs
    | _ => cases h
  | .cnt, sc, W, X, st, C, hf, h => by
    cases st with
    | Continue pos =>
      refine ps_continue.weak fun D σ H q => ?_
      obtain ⟨ρ, en, S, Z, he, hs, q, z⟩ := q
      exact z.ct _ _ _ _ (q ρ H (Ext.refl _ _) hs) _ he hs
    | _ => cases h
  | .pas, sc, W, X, st, C, hf, h => by
    cases st with
    | Pass pos =>
      refine ps_pass.weak fun D σ H q => ?_
      obtain ⟨ρ, en, S, Z, he, hs, q, z⟩ := q
      exact z.nx _ _ _ _ (AftO.here q hs) _ he hs
    | _ => cases h
  | .bad, sc, W, X, st, C, hf, h => ps_never.weak fun D σ H q => by
      obtain ⟨ρ, en, S, Z, he, hs, q, z⟩ := q
      exact q
  | .rai c es, sc, W, X, st, C, hf, h => by
    obtain ⟨x, p, ps, pos, pos2, rfl, h⟩ := chk_rai h
    obtain ⟨h1, h2⟩ := ba h
    obtain ⟨h3, h4⟩ := ba h2
    obtain ⟨h5, h6⟩ := ba h3
    obtain ⟨h7, h8⟩ := ba h4
    cases e : T.ecs[c]? with
    | none => rw [e] at h1; cases h1
    | some yk =>
      obtain ⟨y, k⟩ := yk
      rw [e] at h1
      obtain ⟨g1, g2⟩ := ba h1
      obtain ⟨g3, g4⟩ := ba g2
      have ex := of_decide_eq_true g1
      subst ex
      exact snd_rai C hC e h5 h6 (of_decide_eq_true g3) (of_decide_eq_true g4) h7 h8
  | .tri b c slot to as, sc, W, X, st, C, hf, h => by
    obtain ⟨body, x, p1, e, y, p2, ps, p3, p4, p5, pos, rfl, h⟩ := chk_tri h
    obtain ⟨h1, h2⟩ := ba h
    obtain ⟨h3, h4⟩ := ba h2
    obtain ⟨h5, h6⟩ := ba h3
    obtain ⟨h7, h8⟩ := ba h6
    obtain ⟨h9, h10⟩ := ba h4
    obtain ⟨h11, h12⟩ := ba h9
    obtain ⟨h13, h14⟩ := ba h12
    obtain ⟨h15, h16⟩ := ba h10
    obtain ⟨h17, h18⟩ := ba h15
    obtain ⟨h19, h16⟩ := ba h16
    have gl : as.length ≤ 1000 := of_decide_eq_true h19
    have hsl := of_decide_eq_true h11
    have hto := of_decide_eq_true h17
    obtain ⟨g1, g2⟩ := chkXs_isc h16
    have e2 : (T.ecs[c]?).map (·.1) = some x := of_decide_eq_true h5
    cases e3 : T.ecs[c]? with
    | none => rw [e3] at e2; cases e2
    | some xk =>
      obtain ⟨x', k⟩ := xk
      rw [e3] at e2
      cases e2
      have O := C.tab.ecs c _ k e3
      obtain ⟨z1, z2, z3⟩ := pl_of h8
      · refine (ps_try_as (tb := fun W => tS X.K cl W (execs G C' b)) (ts := fun a cls d => tAsg (tLst (tXas T cl a cls d slot as)) (gName to)) (Wout := W) C.stk C.frm (by rw [C.nN]; exact C.nd) (by rw [C.nN]; exact hsl) (by show X.env.scope.names.lookup e = _; rw [C.sc]; exact locl_of h13) ⟨C.gl h7, z1, .inl O.gl⟩ C.tk
          (fun W' pn xe tk po => sndSs hC b (C.tr tk po) hf h1) (fun a oe cls d pn hz hv => pss_one ?_)).weak fun D σ H q => tri_of C hC g1 g2 gl (List.getElem?_eq_some_iff.mp e3).1 q
        exact ps_set (X := X.suite a ((a, oe) :: pn)) (by show X.N.Nodup; rw [C.nN]; exact C.nd) (by show X.N[to]? = _; rw [C.nN]; exact hto) (by show Loc X.env.scope y; rw [C.sc]; exact loc_of h18) (pe_lst (snd_xas C hz hv hsl h13 h14 h16)) rfl (.inl (C.fnT y))
theorem sndSs (hC : C' = T.ecs.map (·.2)) : ∀ (s : Ss) {sc : Scope} {W : WX} {X : Cx} {st : List PySem.Stmt}, CxtS T G cl N n sc W X → isFn sc = true → chkSs T N sc s st = true → PSs X st (tS X.K cl W (execs G C' s))
  | .nil, sc, W, X, st, C, hf, h => by
    cases st with
    | nil =>
      refine pss_nil.weak fun D σ H q => ?_
      obtain ⟨ρ, en, S, Z, he, hs, q, z⟩ := q
      exact z.nx _ _ _ _ (AftO.here q hs) _ he hs
    | cons _ _ => cases h
  | .cons s r, sc, W, X, st, C, hf, h => by
    cases st with
    | nil => cases h
    | cons p ps =>
      obtain ⟨h1, h2⟩ := ba (show (chkS T N sc s p && chkSs T N sc r ps) = true from h)
      refine (pss_cons (sndS hC s C hf h1) (sndSs hC r C hf h2)).weak fun D σ H q => ?_
      obtain ⟨ρ, en, S, Z, he, hs, q, z⟩ := q
      exact ⟨ρ, en, S, _, he, hs, AftO.seq q, ⟨fun ρ' H' S' en' q σ' he' hs' => ⟨ρ', en', S', Z, he', hs', q, z⟩, z.rt, z.bk, z.ct, z.ex⟩⟩
end
end
end Ev
end
section
set_option Elab.async false
set_option linter.all false
set_option maxRecDepth 100000
set_option maxHeartbeats 4000000
set_option autoImplicit false
/-! Ev15: defs, the law's call, with no repr going on. -/
namespace Ev
open PySem PySem.Spec PyProof.Rows L2

section
variable {P : Program} {w : World} {K : PySem.W.Frag} {mg : Str → Option Value} {base : Heap}
/-- a def by its body, where nothing is being shown -/
theorem fnG_of {k : Nat} {f : Addr} {nm qual : Str} {prs : Arguments} {body : List Stmt} {sc : Scope} {dvs : List V} {kws : List (Str × V)} {fd : FuncData} {N ps : List Str} {sp : Sp} (F : FunD K nm qual prs body sc dvs kws f fd) (S : FnScope N ps sc) (hlen : ∀ vs H Q E, sp vs H Q E → vs.length = ps.length)
    (hbody : ∀ (cdv : Value) (A : Around) (outer : List Env) (s : Shared) (H : Hp) (vs : List V) (Q : VK) (E : XK), Room k (A.deeper (envOfC qual sc s.heap.objs.size f cdv)) → A.guards = some [] → sp vs H Q E →
      ∃ t, PSs (cxOf (L2.CX P w) P w K mg base N qual sc f cdv A outer s H E) body t ∧ t { nx := fun _ H' => Q .non H', rt := Q } (start N vs) H) : FnG P w K mg base (k + 1) f fd ps sp := by
  obtain ⟨oc, od, dV, kV, doc, pm, an, cdv, ct, osl, rfl, lk, hcd, _, _⟩ := F.ex
  refine ⟨hlen, fun A outer s H args us vs Q E room gds env hbind rv hsp => ?_⟩
  have kin : K.In s.heap := env.mod.kin.keeps fun b o e => (env.bs b o e).1
  have nolim : s.heap.NoLimit := env.mod.nolimit.keeps fun b o e => (env.bs b o e).1
  have par : ∀ y ∈ ps.zip us, sc.names.lookup y.1 = some .local ∨ (sc.names.lookup y.1 = some .cell ∧ ((cellsFrom (s.heap.objs.size + 1) sc.names []).lookup y.1).isSome = true) := fun y hy => (S.par y.1 (List.of_mem_zip (a := y.1) (b := y.2) hy).1).imp id fun q => ⟨q, PySem.W.cellsFrom_some _ _ _ (.inl q)⟩
  refine codeAny_call_function room.depth (kin _ _ lk) rfl S.co S.gen rfl (PySem.W.codeRec_of kin hcd) (hbind _ _ _ _ (wpAny_newFunctionEnv_cells S.kind par fun e2 he s1 x => ?_))
  subst he
  refine ⟨nolim.keeps x.toInCall.keep, codeAny_func ?_⟩
  obtain ⟨t, ht, q⟩ := hbody cdv A outer s H vs Q E (room.deeper _) gds hsp
  have I := inv_start (CX := L2.CX P w) (cd := cdv) (f := f) (qual := qual) (E := E) S room.hd env (hlen _ _ _ _ hsp) rv x
  refine wpAny_mono (ht.run [] s1 (start N vs) H _ I q) (fun fl s' hs => ?_) fun _ _ z => z
  cases fl with
  | ret u => exact let ⟨v, _, H', J, r, q⟩ := hs; ⟨v, H', J.os, J.bare, J.base, J.hok, r, q⟩
  | next => exact let ⟨_, H', J, q⟩ := hs; ⟨.non, H', J.os, J.bare, J.base, J.hok, rfl, q⟩
  | brk => exact let ⟨_, _, _, q⟩ := hs; False.elim q
  | cont => exact let ⟨_, _, _, q⟩ := hs; False.elim q
end

/-- what a great division asks of the heap, beside the builtins and the module -/
def SeerP (h : Heap) : Prop := (∃ mc, h.Ns cStatics mc ∧ mc "sys.audit-hooks" = none ∧ mc "sys.dict" = none) ∧ ∃ mm, h.Ns sysModules mm ∧ mm "_pylong" = none
theorem SeerP.keeps {h h' : Heap} (s : SeerP h) (k : ∀ b o, h.get? b = some o → h'.get? b = some o) : SeerP h' :=
  ⟨let ⟨mc, q, r⟩ := s.1; ⟨mc, Heap.Ns.keepsP q k, r⟩, let ⟨mm, q, r⟩ := s.2; ⟨mm, Heap.Ns.keepsP q k, r⟩⟩
def nsAllG (g : Addr → Option Obj) (a : Addr) : Bool :=
  match g a with
  | some o => (match o.data with | .dict es _ => es.all (fun e => match e.key with | .str _ _ => true | _ => false) | _ => false)
  | none => false
def nsAtG (g : Addr → Option Obj) (a : Addr) (x : Str) : Option Value :=
  match g a with
  | some o => (match o.data with | .dict es _ => nsFind es x | _ => none)
  | none => none
def seerG (g : Addr → Option Obj) : Bool := (nsAllG g cStatics && ((nsAtG g cStatics "sys.audit-hooks").isNone && (nsAtG g cStatics "sys.dict").isNone)) && (nsAllG g sysModules && (nsAtG g sysModules "_pylong").isNone)
theorem seerG_ok {h : Heap} (s : seerG h.get? = true) : SeerP h := by
  unfold seerG at s
  simp only [Bool.and_eq_true, Option.isNone_iff_eq_none] at s
  obtain ⟨⟨a, b, c⟩, d, e⟩ := s
  exact ⟨⟨h.nsMap cStatics, Heap.Ns.of_isNs a, b, c⟩, h.nsMap sysModules, Heap.Ns.of_isNs d, e⟩
/-- the law's def called with the script, a list that nobody can write -/
theorem callG {P : Program} {w : World} {K : PySem.W.Frag} {mg mb : Str → Option Value} {k : Nat} {fa a : Addr} {fd : FuncData} {x : Str} {sp : Sp} {s₁ : Shared} {vs : List Value} {ns : List Int}
    (kin : K.In s₁.heap) (hns : s₁.heap.Ns mainGlobals mg) (hbn : s₁.heap.Ns builtinsNs mb) (hbb : ∀ x : Str, x ≠ "__name__" → mb x = bootBuiltins x) (nolim : s₁.heap.NoLimit) (hgen : s₁.gens = #[])
    (obj : s₁.heap.get? a = some { cls := .type "list", data := .seq vs.toArray }) (isI : IntsAre vs ns) (hl : ns.length ≤ sizeLine) (room : Room k callerA)
    (seer : s₁.heap.NoSeer) (F : ∀ base : Heap, K.In base → base.Ns mainGlobals mg → base.NoSeer → FnG P w K mg base k fa fd [x] sp) (bind : ∀ (s : Shared) (u : Value), BindsTo s fd ⟨[u], []⟩ [(x, u)])
    (hsp : ∀ H : Hp, SqF K H a (ns.map V.int) → sp [.ref a] H (fun v _ => v = .bl true) fun _ _ _ => False) :
    codeAny (model P w) callerA (.call (.ref fa) ⟨[.ref a], []⟩) (fun r s' => r = .ok (.ret (.bool true)) ∧ OldK s₁.heap s'.heap ∧ s'.os = s₁.os ∧ AllBare s'.gens) s₁ := by
  have vals := vals_ints isI
  have len := isI.length
  have main : ∀ H : Hp, (∀ b, H b = none ∨ (b = a ∧ ∃ o xs, H b = some (.frz o (.lst xs)))) → SqF K H a (ns.map V.int) → HOk P w H s₁.heap → (H a ≠ none → K.lookup a = none) →
      codeAny (model P w) callerA (.call (.ref fa) ⟨[.ref a], []⟩) (fun r s' => r = .ok (.ret (.bool true)) ∧ OldK s₁.heap s'.heap ∧ s'.os = s₁.os ∧ AllBare s'.gens) s₁ := by
    intro H only hS hok hK
    have isA : ∀ {b : Addr}, H b ≠ none → b = a := fun {b} h => (only b).elim (fun z => absurd z h) fun z => z.1
    have noD : ∀ {b : Addr} {o : Obj} {es : Array DictEntry} {ep : Nat}, s₁.heap.get? b = some o → o.data = .dict es ep → H b = none := fun {b o es ep} e d => by
      rcases only b with z | ⟨z, _⟩
      · exact z
      · rw [z, obj] at e
        cases e
        cases d
    have ns2 : ∀ {b : Addr} {m : Str → Option Value}, s₁.heap.Ns b m → (hidT s₁.heap H).Ns b m := fun {b m} q => let ⟨o, es, ep, e, d, r⟩ := q; ⟨o, es, ep, hidT_get e (noD e d), d, r⟩
    have kin2 : K.In (hidT s₁.heap H) := fun b o e => hidT_get (kin b o e) (by
      rcases only b with z | ⟨z, _, _, q⟩
      · exact z
      · rw [z] at q e
        rw [hK (by rw [q]; simp)] at e
        cases e)
    have sr2 : (hidT s₁.heap H).NoSeer := ⟨let ⟨mc, q, r⟩ := seer.statics; ⟨mc, ns2 q, r⟩, let ⟨mm, q, r⟩ := seer.mods; ⟨mm, ns2 q, r⟩, let ⟨mb, q, r⟩ := seer.imp; ⟨mb, ns2 q, r⟩, let ⟨mg', bm, ob, q1, q2, q3, q4, q5⟩ := seer.main; ⟨mg', bm, ob, ns2 q1, q2, hidT_get q3 (by
      rcases only bm with z | ⟨z, _⟩
      · exact z
      · rw [z, obj] at q3
        cases q3
        exact absurd q4 (by simp)), q4, q5⟩⟩
    have md : Mod K mg (hidT s₁.heap H) := ⟨kin2, ns2 hns, ⟨mb, ns2 hbn, hbb⟩, let ⟨mc, h1, h2⟩ := nolim; ⟨mc, ns2 h1, h2⟩⟩
    have env : Env0 P w K mg (hidT s₁.heap H) callerA [] s₁ H := ⟨rfl, md, fun b o e => of_hidT e, Nat.le_of_eq (hidT_size _ _), trivial, fun b hb => (nomatch hb), hok, .of_eq hgen⟩
    have run := (F _ kin2 (ns2 hns) sr2).run callerA [] s₁ H ⟨[.ref a], []⟩ [.ref a] [.ref a] _ _ room rfl env (bind s₁ (.ref a)) (.cons rfl .nil) (hsp H hS)
    refine codeAny_mono run fun r s' h => ?_
    cases r with
    | error e => exact let ⟨_, _, _, _, _, _, _, _, _, _, _, _, z⟩ := h; z.elim
    | ok fl =>
      cases fl with
      | ret u =>
        obtain ⟨v, H', os, bare, un, hok', r', q⟩ := h
        cases (show v = .bl true from q)
        cases (show u = Value.bool true from r')
        refine ⟨rfl, OldK.of_keep fun b o e => ?_, os, bare⟩
        rcases only b with z | ⟨_, ob, xs, z⟩
        · exact un.keep b o e z (fun y => nomatch y) (fun y => nomatch y)
        · have e1 := (hok b _ z).1
          have e2 := (hok' b _ (un.frzs b ob _ z)).1
          rw [e] at e1
          cases e1
          exact e2
      | next => exact False.elim h
      | brk => exact False.elim h
      | cont => exact False.elim h
  cases hk : K.lookup a with
  | some o =>
    have e := kin a o hk
    rw [obj] at e
    cases e
    exact main (fun _ => none) (fun _ => .inl rfl) (.inr ⟨_, vs.toArray, _, hk, rfl, rfl, rfl, by rw [List.size_toArray, len]; exact hl, by simpa using vals⟩) (fun b u z => nomatch (show (none : Option HO) = some u from z)) fun z => absurd rfl z
  | none =>
    let ob : Obj := { cls := .type "list", data := .seq vs.toArray }
    refine main (fun b => if b = a then some (.frz ob (.lst (ns.map V.int))) else none) (fun b => ?_) (.inl ⟨ob, if_pos rfl⟩) (fun b u z => ?_) fun _ => hk
    · by_cases hb : b = a
      · exact .inr ⟨hb, _, _, if_pos hb⟩
      · exact .inl (if_neg hb)
    · by_cases hb : b = a
      · have z2 := (if_pos hb).symm.trans z
        cases z2
        subst hb
        exact ⟨obj, by rw [List.length_map]; exact hl, vs, _, vals, obj⟩
      · have z2 := (if_neg hb).symm.trans z
        cases z2
/-- the law's end -/
theorem walkG {l : PySem.W.OpenLaw} {n k : Nat} {q : Program} {loose : List Str} {XP : (Str → Option Value) → Heap → Prop} {YP : World → Heap → Prop} {d : DefRec} {x : Str}
    (hn : l.most = some n) (hn2 : n ≤ sizeLine) (hdf : d.params.defaults = []) (hsr : ∀ w h, YP w h → SeerP h) (room : Room k callerA)
    (F : ∀ (w : World) (mg : Str → Option Value) (fa : Addr) (h : Heap), YP w h → h.Ns mainGlobals mg → mg d.name = some (.ref fa) →
      ∃ (K : PySem.W.Frag) (fd : FuncData) (sp : Sp), K.In h ∧ (∀ (s : Shared) (u : Value), BindsTo s fd ⟨[u], []⟩ [(x, u)]) ∧
        (∀ (H : Hp) (a : Addr) (ns : List Int), ns.length ≤ n → SqF K H a (ns.map V.int) → sp [.ref a] H (fun v _ => v = .bl true) fun _ _ _ => False) ∧
        ∀ base : Heap, K.In base → base.Ns mainGlobals mg → base.NoSeer → FnG l.prog w K mg base k fa fd [x] sp) :
    PySem.W.WalkO q loose XP YP l.row.toRowW d [] (fun f vs => PySem.call f vs) := by
  refine Att.attach_call hn hdf fun w s₀ s₁ mg mb fa o pm cd doc a vs ns G Y ho hd hcd hmg hobj hints hlen hg => ?_
  obtain ⟨K, fd, sp, kin, hb, hsp, hF⟩ := F w mg fa _ Y G.T.g hmg
  exact callG kin G.T.g G.T.b G.T.builtins G.T.nolimit hg hobj hints (Nat.le_trans hlen hn2) room ⟨(hsr _ _ Y).1, (hsr _ _ Y).2, ⟨mb, G.T.b, G.T.builtins⟩, let ⟨bm, ob, b1, _, b3, b4, b5, _⟩ := G.T.bmain; ⟨mg, bm, ob, G.T.g, b1, b3, b4, b5⟩⟩ hF hb fun H hS => hsp H a ns hlen hS
end Ev
end
section
set_option Elab.async false
set_option linter.all false
set_option maxRecDepth 100000
set_option maxHeartbeats 4000000
set_option autoImplicit false
/-! Ev16: constants, the table of defs by levels, the head's hook. -/
namespace Ev
open PySem PySem.Spec PyProof.Rows L2

/-! ### constants -/
def all2 {α β : Type} (f : α → β → Bool) : List α → List β → Bool
  | [], [] => true
  | a :: r, b :: s => f a b && all2 f r s
  | _, _ => false
def cnB (K : PySem.W.Frag) : Nat → D → Value → Bool
  | 0, _, _ => false
  | _ + 1, .non, .none => true
  | _ + 1, .bl b, .bool c => b == c
  | _ + 1, .int i, .int j _ => decide (i = j)
  | _ + 1, .str l, .str x _ => decide (l = x.cps.toList)
  | n + 1, .tup xs, .ref a => (match K.lookup a with
    | some ⟨.type c, _, .seq its _, _⟩ => decide (c = "tuple") && (decide (its.size ≤ sizeLine) && all2 (cnB K n) xs its.toList)
    | _ => false)
  | n + 1, .fl xs, .ref a => (match K.lookup a with
    | some ⟨.type c, none, .seq its _, _⟩ => decide (c = "list") && (decide (its.size ≤ sizeLine) && all2 (cnB K n) xs its.toList)
    | _ => false)
  | _, _, _ => false
theorem cnB_all {K : PySem.W.Frag} {n : Nat} (ih : ∀ (d : D) (u : Value), cnB K n d u = true → ∃ v, RelV v u ∧ ∀ ρ H, Rep K ρ H d v) : ∀ (xs : List D) (us : List Value), all2 (cnB K n) xs us = true → ∃ vs, Vals vs us ∧ ∀ ρ H, RepL K ρ H xs vs
  | [], [], _ => ⟨[], .nil, fun _ _ => .nil⟩
  | [], _ :: _, h => by cases h
  | _ :: _, [], h => by cases h
  | x :: xs, u :: us, h => by
    obtain ⟨h1, h2⟩ := ba (show (cnB K n x u && all2 (cnB K n) xs us) = true from h)
    obtain ⟨v, r, q⟩ := ih x u h1
    obtain ⟨vs, rs, qs⟩ := cnB_all ih xs us h2
    exact ⟨v :: vs, .cons r rs, fun ρ H => .cons (q ρ H) (qs ρ H)⟩
theorem cnB_ok {K : PySem.W.Frag} : ∀ (n : Nat) (d : D) (u : Value), cnB K n d u = true → ∃ v, RelV v u ∧ ∀ ρ H, Rep K ρ H d v
  | 0, d, u, h => by cases h
  | n + 1, d, u, h => by
    have ih := cnB_all (cnB_ok (K := K) n)
    cases d with
    | non => cases u <;> first | (cases h; done) | exact ⟨.non, rfl, fun _ _ => .non⟩
    | bl b =>
      cases u with
      | bool c =>
        have e : b = c := eq_of_beq (show (b == c) = true from h)
        exact ⟨.bl b, by rw [e]; rfl, fun _ _ => .bl b⟩
      | _ => cases h
    | int i =>
      cases u with
      | int j t =>
        have e : i = j := of_decide_eq_true h
        exact ⟨.int i, ⟨t, by rw [e]⟩, fun _ _ => .int i⟩
      | _ => cases h
    | str l =>
      cases u with
      | str x t =>
        have e : l = x.cps.toList := of_decide_eq_true h
        exact ⟨.str x, ⟨t, rfl⟩, fun ρ H => by
          have q := Rep.str (K := K) (ρ := ρ) (H := H) l
          rw [e] at q ⊢
          simpa using q⟩
      | _ => cases h
    | tup xs =>
      cases u with
      | ref a =>
        have h1 : (match K.lookup a with
          | some ⟨.type c, _, .seq its _, _⟩ => decide (c = "tuple") && (decide (its.size ≤ sizeLine) && all2 (cnB K n) xs its.toList)
          | _ => false) = true := h
        split at h1
        · rename_i c od its k sl e
          obtain ⟨h2, h3⟩ := ba h1
          obtain ⟨h4, h5⟩ := ba h3
          obtain ⟨vs, rs, qs⟩ := ih xs _ h5
          exact ⟨.ref a, rfl, fun ρ H => .tup (.inr ⟨_, its, k, e, congrArg Value.type (of_decide_eq_true h2), rfl, of_decide_eq_true h4, rs⟩) (qs ρ H)⟩
        · cases h1
      | _ => cases h
    | fl xs =>
      cases u with
      | ref a =>
        have h1 : (match K.lookup a with
          | some ⟨.type c, none, .seq its _, _⟩ => decide (c = "list") && (decide (its.size ≤ sizeLine) && all2 (cnB K n) xs its.toList)
          | _ => false) = true := h
        split at h1
        · rename_i c its k sl e
          obtain ⟨h2, h3⟩ := ba h1
          obtain ⟨h4, h5⟩ := ba h3
          obtain ⟨vs, rs, qs⟩ := ih xs _ h5
          exact ⟨.ref a, rfl, fun ρ H => .fl (.inr ⟨_, its, k, e, congrArg Value.type (of_decide_eq_true h2), rfl, rfl, of_decide_eq_true h4, rs⟩) (qs ρ H)⟩
        · cases h1
      | _ => cases h
    | ref n => cases h
/-- the module's name x is d -/
def cstG (K : PySem.W.Frag) (x : Str) (d : D) : Bool := match PySem.W.nsIn K mainGlobals x with
  | some (some u) => cnB K 8 d u
  | _ => false
def gcdG (K : PySem.W.Frag) : Bool := match PySem.W.nsIn K mainGlobals "gcd" with
  | some (some (.builtin id)) => decide (id = "math.gcd")
  | _ => false

/-! ### classes of errors -/
def clA (T : Tbl) (K : PySem.W.Frag) (c : Nat) : Addr := match T.ecs[c]? with
  | some (x, _) => He.ga K x
  | none => 0
def oexB (K : PySem.W.Frag) (C : Addr) : Bool := match K.lookup C with
  | some ⟨.type "type", _, .cls cd, sl⟩ => (match cd.mro, sl.toList with
    | .ref C' :: bm, [_, _, _, _, some (.builtin m), _] => (C' == C && m == "ValueError.__new__") && ((!cd.hasDel && cd.hasDict) && PySem.HandSPX.refsVE bm)
    | _, _ => false)
  | _ => false
theorem oexB_ok {K : PySem.W.Frag} {C : Addr} (h : oexB K C = true) : ∃ nm q N bs bm sn sub ab col dd k0 k1 k2 k3 k5, K.lookup C = some (excClassObj nm q C N bs bm true sn sub ab col dd k0 k1 k2 k3 k5 "ValueError.__new__") ∧ PySem.HandSPX.refsVE bm = true := by
  unfold oexB at h
  split at h
  · rename_i dd cd sl ho
    split at h
    · rename_i C' bm k0 k1 k2 k3 m k5 hm hs
      obtain ⟨g1, g2⟩ := ba h
      obtain ⟨g3, g4⟩ := ba g1
      obtain ⟨g5, g6⟩ := ba g2
      obtain ⟨g7, g8⟩ := ba g5
      cases beq_iff_eq.mp g3
      cases beq_iff_eq.mp g4
      obtain ⟨nm, bs, mro, ns, qn, hd, sn, sub, ab, col, del⟩ := cd
      dsimp only at hm g7 g8
      have e1 : del = false := by simpa using g7
      subst hm e1 g8
      obtain ⟨l⟩ := sl
      dsimp only at hs
      subst hs
      exact ⟨nm, qn, ns, bs, bm, sn, sub, ab, col, dd, k0, k1, k2, k3, k5, ho, g6⟩
    · cases h
  · cases h
def clsG (T : Tbl) (K : PySem.W.Frag) (c : Nat) (x : Str) (k : Cls) : Bool :=
  (He.eqO (PySem.W.nsIn K mainGlobals x) (some (some (.ref (He.ga K x)))) && (oexB K (He.ga K x) && (He.eqO (PySem.W.findIn K (.ref (He.ga K x)) "__setattr__") (some (some (.builtin "object.__setattr__"))) && (decide (PySem.W.subIn K (.ref (He.ga K x)) (.type "BaseException") = some true) && (decide (PySem.W.typeIn K (.ref (He.ga K x)) = some (.type "type")) && PySem.W.keepIn K (.ref (He.ga K x))))))) &&
  ((xfB K (He.ga K x) && (He.eqO (PySem.W.findIn K (.ref (He.ga K x)) "__class__") (some (some (.builtin "object.__class__"))) && (He.eqO (PySem.W.specialIn K (.builtin "object.__class__") "__get__") (some (some (.builtin "getset_descriptor.__get__"))) && (decide (PySem.W.takesIn K (.builtin "object.__class__") = some true) && decide (PySem.W.mroIn K (He.ga K x) (.type "object") = some true))))) &&
  (((k.fs.all fun f => He.eqO (PySem.W.findIn K (.ref (He.ga K x)) f) (some none)) && decide k.fs.Nodup) &&
  ((k.fs.isEmpty || (He.eqO (PySem.W.findIn K (.ref (He.ga K x)) "__init__") (some (some (.ref (He.ma K (He.ga K x) "__init__")))) && decide (PySem.W.typeIn K (.ref (He.ma K (He.ga K x) "__init__")) = some (.type "function")))) &&
  (((List.range T.ecs.length).all fun c' => decide (PySem.W.exmOne K (.ref (He.ga K x)) (.ref (clA T K c')) = some (decide (c' = c) || k.up.contains c')) && decide (PySem.W.kitOne K (.ref (He.ga K x)) (.ref (clA T K c')) = some (decide (c' = c) || k.up.contains c'))) &&
  decide (PySem.W.kitOne K (.ref (He.ga K x)) (.type "ValueError") = some (k.bup.contains "ValueError"))))))
/-- an __init__ as the text has it -/
structure IniOk (x : Str) (k : Cls) (d : He.DefD) : Prop where
  at_ : d.at_ = (x, some ("__init__" : Str))
  nm : d.name = "__init__"
  sc : FnScope (sSelf :: k.fs) (sSelf :: k.fs) d.scope
  lo : ∀ y ∈ (sSelf :: k.fs : List Str), d.scope.names.lookup y = some .local
  body : iniB k.fs d.body = true
  bind : ∀ (kV doc pm : Value) (an : Option Addr) (cdv ct : Value) (us : List Value), us.length = (sSelf :: k.fs).length → bindArgs (PySem.W.fnOf d.name d.qual d.params d.body d.scope .none kV doc pm an cdv ct) ⟨us, []⟩ = pure ((sSelf :: k.fs).zip us)
theorem cls_ok {T : Tbl} {K : PySem.W.Frag} {mg : Str → Option Value} {h : Heap} {c : Nat} {x : Str} {k : Cls} (kin : K.In h) (G : h.Ns mainGlobals mg) (hc : T.ecs[c]? = some (x, k)) (g : clsG T K c x k = true)
    (hI : k.fs ≠ [] → ∃ (d : He.DefD) (fd : FuncData), IniOk x k d ∧ FunD K d.name d.qual d.params d.body d.scope [] [] (He.fAd K d.at_) fd) : ClsOk K mg (clA T K) T c x k := by
  obtain ⟨a1, a2⟩ := ba g
  obtain ⟨a3, a4⟩ := ba a1
  obtain ⟨a5, a6⟩ := ba a4
  obtain ⟨a7, a8⟩ := ba a6
  obtain ⟨a9, a10⟩ := ba a8
  obtain ⟨a11, a12⟩ := ba a10
  obtain ⟨b1, b2⟩ := ba a2
  obtain ⟨b3, b4⟩ := ba b1
  obtain ⟨b5, b6⟩ := ba b4
  obtain ⟨b7, b8⟩ := ba b6
  obtain ⟨b9, b10⟩ := ba b8
  obtain ⟨c1, c2⟩ := ba b2
  obtain ⟨c3, c4⟩ := ba c1
  obtain ⟨d1, d2⟩ := ba c2
  obtain ⟨e1, e2⟩ := ba d2
  have hcl : clA T K c = He.ga K x := by unfold clA; rw [hc]
  have xf := xfB_ok b3
  have pair : ∀ c' : Nat, c' < T.ecs.length → PySem.W.exmOne K (.ref (He.ga K x)) (.ref (clA T K c')) = some (decide (c' = c) || k.up.contains c') ∧ PySem.W.kitOne K (.ref (He.ga K x)) (.ref (clA T K c')) = some (decide (c' = c) || k.up.contains c') := fun c' hlt => by
    have z := List.all_eq_true.mp e1 c' (List.mem_range.mpr hlt)
    obtain ⟨z1, z2⟩ := ba z
    exact ⟨of_decide_eq_true z1, of_decide_eq_true z2⟩
  refine ⟨by rw [hcl]; exact PySem.W.mg_of kin G (He.eqO_ok a3), ?_, by rw [hcl]; exact xf, ?_, fun f hf => by rw [hcl]; exact He.eqO_ok (List.all_eq_true.mp c3 f hf), of_decide_eq_true c4, fun hne => ?_, fun c' hlt => by rw [hcl]; exact (pair c' hlt).1, fun c' hlt => by rw [hcl]; exact (pair c' hlt).2, by rw [hcl]; exact of_decide_eq_true e2⟩
  · rw [hcl]
    exact ⟨oexB_ok a5, He.eqO_ok a7, of_decide_eq_true a9, of_decide_eq_true a11, a12⟩
  · rw [hcl]
    exact ⟨xf.ga, xf.gg, xf.exC, xf.hdC, He.eqO_ok b5, He.eqO_ok b7, of_decide_eq_true b9, of_decide_eq_true b10⟩
  · obtain ⟨d, fd, I, FD⟩ := hI hne
    have hfa : He.fAd K d.at_ = He.ma K (He.ga K x) "__init__" := by rw [I.at_]; rfl
    have nm := I.nm
    obtain ⟨d3, d4⟩ : He.eqO (PySem.W.findIn K (.ref (He.ga K x)) "__init__") (some (some (.ref (He.ma K (He.ga K x) "__init__")))) = true ∧ decide (PySem.W.typeIn K (.ref (He.ma K (He.ga K x) "__init__")) = some (.type "function")) = true := by
      rcases Bool.or_eq_true_iff.mp d1 with z | z
      · exact absurd (List.isEmpty_iff.mp z) hne
      · exact ba z
    rw [hcl]
    refine ⟨He.ma K (He.ga K x) "__init__", fd, d.qual, d.params, d.body, d.scope, He.eqO_ok d3, of_decide_eq_true d4, ?_, I.sc, I.lo, I.body, FD.bindsN I.bind⟩
    rw [hfa, nm] at FD
    exact FD
/-! ### the head's hook -/
def moreB (T : Tbl) (cns : List (Str × D)) (K : PySem.W.Frag) : Bool := gcdG K && ((cns.all fun q => cstG K q.1 q.2) && (T.ecs.zipIdx.all fun q => clsG T K q.2 q.1.1 q.1.2))
/-- the addresses that are looked at: three steps from the module's names, the codes of the functions among the last ones; doubles are left in far out (rubbing them out is what costs memory) -/
def lvE (g : Addr → Option Obj) (as : List Addr) : List Addr := as.flatMap fun a => match g a with
  | some o => He.refsD o
  | none => []
def cdE (g : Addr → Option Obj) (as : List Addr) : List Addr := as.flatMap fun a => match g a with
  | some o => (match o.data with
    | .func fd => He.refV fd.code
    | _ => [])
  | none => []
def asF (g : Addr → Option Obj) (l0 l1 l2 l3 : List Addr) : List Addr := l0 ++ (l1 ++ (l2 ++ (l3 ++ cdE g l3)))
def asE3 (g : Addr → Option Obj) (l0 l1 l2 : List Addr) : List Addr := asF g l0 l1 l2 (lvE g l2)
def asE2 (g : Addr → Option Obj) (l0 l1 : List Addr) : List Addr := asE3 g l0 l1 (lvE g l1).eraseDups
def asE (g : Addr → Option Obj) (_n : Nat) : List Addr := asE2 g [mainGlobals] (lvE g [mainGlobals]).eraseDups
def obE (T : Tbl) (n : Nat) (fa : List He.Fa) (fn : List He.DefD) (cns : List (Str × D)) (g : Addr → Option Obj) : He.AlD × Bool := (He.obsD fa fn (He.frG g (asE g n)), moreB T cns (He.frG g (asE g n)) && seerG g)
def SaysE (T : Tbl) (fa : List He.Fa) (fn : List He.DefD) (cns : List (Str × D)) (K : PySem.W.Frag) : Prop := He.SaysD fa fn K ∧ moreB T cns K = true
def hookE (T : Tbl) (n : Nat) (fa : List He.Fa) (fn : List He.DefD) (cns : List (Str × D)) : PySem.W.Hook where
  α := He.AlD × Bool
  obs := fun s => obE T n fa fn cns s.heap.get?
  val := fun _ => (He.valD fn, true)
  says := fun _ h => ∃ K : PySem.W.Frag, K.In h ∧ (SaysE T fa fn cns K ∧ SeerP h)
  of := fun _ _ e => ⟨_, He.frG_in, ⟨congrArg Prod.fst e, (Bool.and_eq_true_iff.mp (congrArg Prod.snd e)).1⟩, seerG_ok (Bool.and_eq_true_iff.mp (congrArg Prod.snd e)).2⟩
  keeps := fun _ _ _ ⟨K, hK, c, d⟩ k => ⟨K, PySem.W.Frag.In.keeps hK k, c, d.keeps k⟩
theorem obE_eq {T : Tbl} {n : Nat} {fa : List He.Fa} {fn : List He.DefD} {cns : List (Str × D)} {g : Addr → Option Obj} {s : Shared} (h : ∀ a, g a = s.heap.get? a) : obE T n fa fn cns g = (hookE T n fa fn cns).obs s := by
  have e : g = s.heap.get? := funext h
  rw [e] <;> rfl

/-! ### the defs by levels -/
/-- one def: its name, its parameters, its names, what it does -/
structure TD where
  name : Str
  ps : List Str
  N : List Str
  fd : Fd
def scB (N ps : List Str) (sc : Scope) : Bool := isFn sc && ((!sc.isCoroutine && !sc.isGenerator) && ((decide N.Nodup && decide (N.take ps.length = ps)) && ((ps.all fun x => locB sc x) && sc.names.all fun y => !(y.2 == NameKind.free))))
theorem scB_ok {N ps : List Str} {sc : Scope} (h : scB N ps sc = true) : FnScope N ps sc := by
  obtain ⟨h1, h2⟩ := ba h
  obtain ⟨h3, h4⟩ := ba h2
  obtain ⟨h5, h6⟩ := ba h3
  obtain ⟨h7, h8⟩ := ba h4
  obtain ⟨h9, h10⟩ := ba h7
  obtain ⟨h11, h12⟩ := ba h8
  exact ⟨isFn_of h1, by simpa using h5, by simpa using h6, of_decide_eq_true h9, of_decide_eq_true h10, fun x hx => loc_of (List.all_eq_true.mp h11 x hx), fun y hy z => by
    have := List.all_eq_true.mp h12 y hy
    rw [z] at this
    cases this⟩
def okB (T : Tbl) (t : TD) (d : He.DefD) : Bool := decide (d.name = t.name) && (scB t.N t.ps d.scope && ((decide (t.fd.np = t.ps.length) && decide (t.fd.nn = t.N.length)) && chkSs T t.N d.scope t.fd.body d.body))
structure TOk (T : Tbl) (t : TD) (d : He.DefD) : Prop where
  chk : okB T t d = true
  bind : ∀ (kV doc pm : Value) (an : Option Addr) (cdv ct : Value) (us : List Value), us.length = t.ps.length → bindArgs (PySem.W.fnOf d.name d.qual d.params d.body d.scope .none kV doc pm an cdv ct) ⟨us, []⟩ = pure (t.ps.zip us)
section
variable {P : Program} {w : World} {K : PySem.W.Frag} {mg : Str → Option Value} {base : Heap} {cl : Nat → Addr}
theorem permV {vs : List V} {us : List Value} (r : Vals vs us) : ∀ pm : List Nat, Vals (pm.filterMap fun j => vs[j]?) (pm.filterMap fun j => us[j]?)
  | [] => .nil
  | j :: pm => by
    rw [List.filterMap_cons, List.filterMap_cons]
    cases e : vs[j]? with
    | none =>
      have hv : us[j]? = none := by rw [List.getElem?_eq_none_iff] at e ⊢; rw [← r.length]; exact e
      rw [hv]
      exact permV r pm
    | some d =>
      obtain ⟨v, g1, g2⟩ := r.get e
      rw [g1]
      exact .cons g2 (permV r pm)
/-- a call with keywords, every parameter written -/
theorem kbn_of {nm qual : Str} {prs : Arguments} {body : List Stmt} {sc : Scope} {kws : List (Str × V)} {f : Addr} {fd : FuncData} {ps ks : List Str} {m : Nat} {pm : List Nat} (F : FunD K nm qual prs body sc [] kws f fd)
    (h : ∀ (kV doc pm' : Value) (an : Option Addr) (cdv ct : Value) (us ws : List Value), us.length = m → ws.length = ks.length → bindArgs (PySem.W.fnOf nm qual prs body sc .none kV doc pm' an cdv ct) ⟨us, ks.zip ws⟩ = pure (ps.zip (pm.filterMap fun j => (us ++ ws)[j]?))) :
    KBn K fd ps m ks (fun us ws => pm.filterMap fun j => (us ++ ws)[j]?) fun vs zs => pm.filterMap fun j => (vs ++ zs)[j]? := by
  obtain ⟨oc, od, dV, kV, doc, pm', an, cdv, ct, osl, rfl, lk, hcd, hD, hK⟩ := F.ex
  rcases hD with ⟨_, rfl⟩ | ⟨e, _⟩
  · exact ⟨fun s us ws _ h1 h2 => .of_eq (h kV doc pm' an cdv ct us ws h1 h2), fun r1 r2 => permV (r1.append r2) pm⟩
  · exact absurd rfl e
/-- a def's promise at the next level -/
theorem fn_step {T : Tbl} {F : List Fd} {cs : List D} {n i : Nat} {t : TD} {d : He.DefD} {f : Addr} {fd : FuncData} (tab : FTab P w K mg base cl T ⟨fnN F (T.ecs.map Prod.snd) cs n, cs⟩ n) (sr : base.NoSeer) (tr : P.given.tree = none) (ok : okB T t d = true) (hF : F[i]? = some t.fd)
    (FD : FunD K d.name d.qual d.params d.body d.scope [] [] f fd) : FnG P w K mg base (n + 1 + 34) f fd t.ps (spOf K cl t.ps.length (fnN F (T.ecs.map Prod.snd) cs (n + 1) i)) := by
  obtain ⟨h1, h2⟩ := ba ok
  obtain ⟨h3, h4⟩ := ba h2
  obtain ⟨h5, h6⟩ := ba h4
  obtain ⟨h7, h8⟩ := ba h5
  have S := scB_ok h3
  have np : t.fd.np = t.ps.length := of_decide_eq_true h7
  have nn : t.fd.nn = t.N.length := of_decide_eq_true h8
  refine fnG_of (k := n + 34) FD S (fun vs H Q E h => h.1) fun cdv A outer s H vs Q E room gds sp => ?_
  have C0 : Cxt T ⟨fnN F (T.ecs.map Prod.snd) cs n, cs⟩ cl t.N n d.scope (fun cls dd _ H => E cls dd H) (cxOf (L2.CX P w) P w K mg base t.N d.qual d.scope f cdv A outer s H E) :=
    ⟨rfl, S.nd, rfl, rfl, gds, room, sr, tr, ⟨_, _, rfl, S.gen, S.co, rfl, rfl⟩, tab, takes_of rfl rfl rfl rfl⟩
  have C1 : CxtS T ⟨fnN F (T.ecs.map Prod.snd) cs n, cs⟩ cl t.N n d.scope (fun cls dd _ H => E cls dd H) (cxOf (L2.CX P w) P w K mg base t.N d.qual d.scope f cdv A outer s H E) := ⟨C0, passes_of rfl, fun _ => rfl, rfl, rfl⟩
  refine ⟨_, sndSs rfl t.fd.body C1 (by have := (ba h3).1; exact this) h6 (C' := T.ecs.map (·.2)), ?_⟩
  obtain ⟨hl, ρ, ds, S0, r, hs, aft⟩ := sp
  have hd : ds.length = t.fd.np := by rw [r.length, np, hl]
  have hN : t.N.length = t.fd.nn := nn.symm
  have e1 : fnN F (T.ecs.map Prod.snd) cs (n + 1) i ds S0 = (execs ⟨fnN F (T.ecs.map Prod.snd) cs n, cs⟩ (T.ecs.map Prod.snd) t.fd.body (ds.map some ++ List.replicate (t.fd.nn - ds.length) none) S0).toR := by
    show (match F[i]? with
      | some fd => runF ⟨fnN F (T.ecs.map Prod.snd) cs n, cs⟩ (T.ecs.map Prod.snd) fd ds S0
      | none => .stuck) = _
    rw [hF]
    show runF ⟨fnN F (T.ecs.map Prod.snd) cs n, cs⟩ (T.ecs.map Prod.snd) t.fd ds S0 = _
    unfold runF
    rw [if_pos hd]
  rw [e1] at aft
  let Z : EndsO := ⟨fun ρ H S en => ∀ v, Rep K ρ H .non v → Q v H, fun ρ H S d => ∀ v, Rep K ρ H d v → Q v H, fun _ _ _ _ => False, fun _ _ _ _ => False, fun x ρ H S en => ∀ cls d, XR K cl ρ H x cls d → E cls d H⟩
  refine ⟨ρ, ds.map some ++ List.replicate (t.fd.nn - ds.length) none, S0, Z, ⟨?_, fun j dd hj => ?_⟩, hs, ?_, ⟨fun _ _ _ _ q _ _ _ => q _ .non, fun _ _ _ _ q v r _ => q v r, fun _ _ _ _ q => q.elim, fun _ _ _ _ q => q.elim, fun x ρ' H' S' en' q σ' cls d _ _ xr => q cls d xr⟩⟩
  · unfold L2.start
    simp only [List.length_append, List.length_map, List.length_replicate]
    rw [r.length, hN]
  · unfold L2.start
    by_cases hlt : j < ds.length
    · rw [List.getElem?_append_left (by simpa using hlt), List.getElem?_map] at hj
      cases q : ds[j]? with
      | none => rw [q] at hj; cases hj
      | some d0 =>
        rw [q] at hj
        cases hj
        obtain ⟨v, g1, g2⟩ := r.get q
        exact ⟨v, by rw [List.getElem?_append_left (by rw [List.length_map, ← r.length]; exact hlt), List.getElem?_map, g1]; rfl, g2⟩
    · rw [List.getElem?_append_right (by simpa using hlt), List.getElem?_replicate] at hj
      split at hj <;> cases hj
  · cases z : execs ⟨fnN F (T.ecs.map Prod.snd) cs n, cs⟩ (T.ecs.map Prod.snd) t.fd.body (ds.map some ++ List.replicate (t.fd.nn - ds.length) none) S0 with
    | nx en S => rw [z] at aft; exact aft
    | rt d S => rw [z] at aft; exact aft
    | ex x en S => rw [z] at aft; exact aft
    | bk en S => rw [z] at aft; exact False.elim aft
    | ct en S => rw [z] at aft; exact False.elim aft
    | stuck => rw [z] at aft; exact aft
/-- what the head says of the text -/
structure Told (K : PySem.W.Frag) (mg : Str → Option Value) (cl : Nat → Addr) (T : Tbl) (cs : List D) (ds : List (TD × He.DefD)) : Prop where
  fns : T.fns = ds.map fun p => (p.1.name, p.1.ps)
  ok : ∀ (i : Nat) (p : TD × He.DefD), ds[i]? = some p → TOk T p.1 p.2
  fd : ∀ (i : Nat) (p : TD × He.DefD), ds[i]? = some p → ∃ f fd, mg p.1.name = some (.ref f) ∧ FunD K p.2.name p.2.qual p.2.params p.2.body p.2.scope [] [] f fd
  kw : ∀ (i : Nat) (p : TD × He.DefD) (m : Nat) (ks : List Str) (pm : List Nat), ds[i]? = some p → (i, m, ks, pm) ∈ T.kws → ∀ (kV doc pm' : Value) (an : Option Addr) (cdv ct : Value) (us ws : List Value), us.length = m → ws.length = ks.length →
    bindArgs (PySem.W.fnOf p.2.name p.2.qual p.2.params p.2.body p.2.scope .none kV doc pm' an cdv ct) ⟨us, ks.zip ws⟩ = pure (p.1.ps.zip (pm.filterMap fun j => (us ++ ws)[j]?))
  cst : ∀ (i : Nat) (x : Str) (d : D), T.cns[i]? = some x → cs[i]? = some d → ∃ u v, mg x = some u ∧ RelV v u ∧ ∀ ρ H, Rep K ρ H d v
  gcd : mg "gcd" = some (.builtin "math.gcd")
  bins : ∀ b : Bi, b ≠ .gcd → mg (biN b : Str) = none
  tys : ∀ t : Ty, mg (tyN t : Str) = none
  range : mg "range" = none
  enum : mg "enumerate" = none
  zip : mg "zip" = none
  isin : mg "isinstance" = none
  ve : mg "ValueError" = none
  ecs : ∀ (c : Nat) (x : Str) (k : Cls), T.ecs[c]? = some (x, k) → ClsOk K mg cl T c x k
theorem tower {T : Tbl} {cs : List D} {ds : List (TD × He.DefD)} (h : Told K mg cl T cs ds) (sr : base.NoSeer) (tr : P.given.tree = none) : ∀ n, FTab P w K mg base cl T ⟨fnN (ds.map fun p => p.1.fd) (T.ecs.map Prod.snd) cs n, cs⟩ n := by
  have one : ∀ n, (∀ (i : Nat) (p : TD × He.DefD) (f : Addr) (fd : FuncData), ds[i]? = some p → FunD K p.2.name p.2.qual p.2.params p.2.body p.2.scope [] [] f fd → FnG P w K mg base (n + 34) f fd p.1.ps (spOf K cl p.1.ps.length (fnN (ds.map fun p => p.1.fd) (T.ecs.map Prod.snd) cs n i))) → FTab P w K mg base cl T ⟨fnN (ds.map fun p => p.1.fd) (T.ecs.map Prod.snd) cs n, cs⟩ n := fun n go => by
    refine ⟨fun i x ps e => ?_, h.cst, h.gcd, h.bins, h.tys, h.range, h.enum, h.zip, h.isin, h.ve, h.ecs⟩
    rw [h.fns, List.getElem?_map] at e
    cases q : ds[i]? with
    | none => rw [q] at e; cases e
    | some p =>
      rw [q] at e
      cases e
      obtain ⟨f, fd, m1, FD⟩ := h.fd i p q
      exact ⟨f, fd, m1, FD.kp, go i p f fd q FD, FD.bindsN (h.ok i p q).bind, fun m ks pm hm => kbn_of FD (h.kw i p m ks pm q hm)⟩
  intro n
  induction n with
  | zero => exact one 0 fun i p f fd q FD => ⟨fun vs H Q E h => h.1, fun A outer s H args us vs Q E room gds env hb r sp => by
      obtain ⟨_, _, _, _, _, _, z⟩ := sp
      exact False.elim z⟩
  | succ n ih => exact one (n + 1) fun i p f fd q FD => fn_step ih sr tr (h.ok i p q).chk (by rw [List.getElem?_map, q]; rfl) FD
end
end Ev
end
section
set_option Elab.async false
set_option linter.all false
set_option maxRecDepth 100000
set_option maxHeartbeats 4000000
set_option autoImplicit false
/-! Ev17: from the head to the plain law. -/
namespace Ev
open PySem PySem.Spec PyProof.Rows L2

theorem map_pair {α β γ δ : Type} {o : Option α} {f : α → β} {g : α → γ} {h : α → δ} {a : β} {b : γ} {c : δ} (e1 : (o.map fun x => (f x, g x)) = some (a, b)) (e2 : o.map h = some c) : (o.map fun x => (f x, g x, h x)) = some (a, b, c) := by
  cases o with
  | none => cases e1
  | some x =>
    cases e1
    cases e2
    rfl
abbrev sScript : Str := "script"
def frees : List Str := ["len", "abs", "int", "str", "isinstance", "tuple", "list", "max", "min", "divmod", "sum", "all", "any", "repr", "bool", "range", "enumerate", "zip", "ValueError"]
def faOf (ds : List (TD × He.DefD)) : List He.Fa := (ds.map fun p => He.Fa.glo p.1.name) ++ frees.map He.Fa.free
def fnsOf (ds : List (TD × He.DefD)) (ins : List He.DefD) : List He.DefD := (ds.map fun p => p.2) ++ ins
theorem told_of {T : Tbl} {cs : List D} {ds : List (TD × He.DefD)} {ins : List He.DefD} {K : PySem.W.Frag} {h : Heap} {mg : Str → Option Value} (kin : K.In h) (G : h.Ns mainGlobals mg) (c : SaysE T (faOf ds) (fnsOf ds ins) (T.cns.zip cs) K)
    (hf : T.fns = ds.map fun p => (p.1.name, p.1.ps)) (hok : ∀ (i : Nat) (p : TD × He.DefD), ds[i]? = some p → TOk T p.1 p.2) (hat : ∀ (i : Nat) (p : TD × He.DefD), ds[i]? = some p → p.2.at_ = (p.1.name, none) ∧ p.2.dfl = [] ∧ p.2.kwd = [])
    (hkw : ∀ (i : Nat) (p : TD × He.DefD) (m : Nat) (ks : List Str) (pm : List Nat), ds[i]? = some p → (i, m, ks, pm) ∈ T.kws → ∀ (kV doc pm' : Value) (an : Option Addr) (cdv ct : Value) (us ws : List Value), us.length = m → ws.length = ks.length →
      bindArgs (PySem.W.fnOf p.2.name p.2.qual p.2.params p.2.body p.2.scope .none kV doc pm' an cdv ct) ⟨us, ks.zip ws⟩ = pure (p.1.ps.zip (pm.filterMap fun j => (us ++ ws)[j]?)))
    (hini : ∀ (c : Nat) (x : Str) (k : Cls), T.ecs[c]? = some (x, k) → k.fs ≠ [] → ∃ (j : Nat) (d : He.DefD), ins[j]? = some d ∧ IniOk x k d ∧ d.dfl = [] ∧ d.kwd = []) : Told K mg (clA T K) T cs ds := by
  obtain ⟨c1, c2⟩ := c
  obtain ⟨c3, c4⟩ := ba c2
  obtain ⟨c5, c6⟩ := ba c4
  have fd : ∀ {j : Nat} {d : He.DefD}, (fnsOf ds ins)[j]? = some d → d.dfl = [] → d.kwd = [] → ∃ fd, FunD K d.name d.qual d.params d.body d.scope [] [] (He.fAd K d.at_) fd := fun {j d} e e1 e2 => by
    obtain ⟨fd, FD⟩ := c1.def_ j e
    have z1 : d.dvs K = [] := by unfold He.DefD.dvs; rw [e1]; rfl
    have z2 : d.kws K = [] := by unfold He.DefD.kws; rw [e2]; rfl
    rw [z1, z2] at FD
    exact ⟨fd, FD⟩
  have free : ∀ x ∈ frees, mg x = none := fun x hx => by
    obtain ⟨j, hj, e⟩ := List.getElem_of_mem hx
    have e2 : (faOf ds)[ds.length + j]? = some (.free x) := by
      unfold faOf
      rw [List.getElem?_append_right (by simp), List.getElem?_map]
      simp only [List.length_map, Nat.add_sub_cancel_left]
      rw [List.getElem?_eq_getElem hj, e]
      rfl
    exact He.free_ok kin G (c1.fact _ e2)
  refine ⟨hf, hok, fun i p e => ?_, hkw, fun i x d e1 e2 => ?_, ?_, fun b hb => ?_, fun t => ?_, free _ (by decide), free _ (by decide), free _ (by decide), free _ (by decide), free _ (by decide), fun cc x k e => ?_⟩
  · obtain ⟨a1, a2, a3⟩ := hat i p e
    have hlt := (List.getElem?_eq_some_iff.mp e).1
    have e2 : (fnsOf ds ins)[i]? = some p.2 := by
      unfold fnsOf
      rw [List.getElem?_append_left (by simpa using hlt), List.getElem?_map, e]
      rfl
    obtain ⟨fd, FD⟩ := fd e2 a2 a3
    have e3 : (faOf ds)[i]? = some (.glo p.1.name) := by
      unfold faOf
      rw [List.getElem?_append_left (by simpa using hlt), List.getElem?_map, e]
      rfl
    have g := He.glo_ok kin G (c1.fact i e3)
    have fa : He.fAd K p.2.at_ = He.ga K p.1.name := by rw [a1]; rfl
    rw [fa] at FD
    exact ⟨_, fd, g, FD⟩
  · have hm : (x, d) ∈ T.cns.zip cs := List.mem_of_getElem? (i := i) (List.getElem?_zip_eq_some.mpr ⟨e1, e2⟩)
    have z := List.all_eq_true.mp c5 _ hm
    replace z : cstG K x d = true := z
    unfold cstG at z
    split at z
    · rename_i u e
      obtain ⟨v, r, q⟩ := cnB_ok _ _ _ z
      exact ⟨u, v, PySem.W.mg_of kin G e, r, q⟩
    · cases z
  · unfold gcdG at c3
    split at c3
    · rename_i id e
      have := of_decide_eq_true c3
      subst this
      exact PySem.W.mg_of kin G e
    · cases c3
  · cases b with
    | gcd => exact absurd rfl hb
    | isin t => cases t <;> exact free _ (by decide)
    | _ => exact free _ (by decide)
  · cases t <;> exact free _ (by decide)
  · have hm : ((x, k), cc) ∈ T.ecs.zipIdx := by
      refine List.mem_of_getElem? (i := cc) ?_
      rw [List.getElem?_zipIdx, e]
      simp
    have z := List.all_eq_true.mp c6 _ hm
    exact cls_ok kin G e z fun hne => by
      obtain ⟨j, d, g1, g2, g3, g4⟩ := hini cc x k e hne
      obtain ⟨fd, FD⟩ := fd (j := ds.length + j) (d := d) (by
        unfold fnsOf
        rw [List.getElem?_append_right (by simp)]
        simpa using g1) g3 g4
      exact ⟨d, fd, g2, FD⟩
/-- the law's end: the plain law -/
theorem law_end {l : PySem.W.OpenLaw} {n lv i : Nat} {q : Program} {loose : List Str} {XP : (Str → Option Value) → Heap → Prop} {d : DefRec} {T : Tbl} {cs : List D} {ds : List (TD × He.DefD)} {ins : List He.DefD} {p : TD × He.DefD}
    (hn : l.most = some n) (hn2 : n ≤ sizeLine) (hdf : d.params.defaults = []) (tr : l.prog.given.tree = none) (room : Room (lv + 1 + 34) callerA) (hi : ds[i]? = some p) (hps : p.1.ps = [sScript]) (hnm : d.name = p.1.name)
    (told : ∀ {K : PySem.W.Frag} {h : Heap} {mg : Str → Option Value}, K.In h → h.Ns mainGlobals mg → SaysE T (faOf ds) (fnsOf ds ins) (T.cns.zip cs) K → Told K mg (clA T K) T cs ds)
    (plain : ∀ ns : List Int, ns.length ≤ n → ∃ S, fnN (ds.map fun p => p.1.fd) (T.ecs.map Prod.snd) cs (lv + 1) i [.fl (ns.map .int)] [] = .ok (.bl true) S) :
    PySem.W.WalkO q loose XP (hookE T 4 (faOf ds) (fnsOf ds ins) (T.cns.zip cs)).says l.row.toRowW d [] (fun f vs => PySem.call f vs) := by
  refine walkG (x := sScript) hn hn2 hdf (fun _ _ y => let ⟨_, _, _, s⟩ := y; s) room fun w mg fa h Y G hmg => ?_
  obtain ⟨K, kin, c, _⟩ := Y
  have TT := told kin G c
  obtain ⟨f, fd, m1, FD⟩ := TT.fd i p hi
  rw [hnm, m1] at hmg
  cases hmg
  have O := TT.ok i p hi
  refine ⟨K, fd, spOf K (clA T K) 1 (fnN (ds.map fun p => p.1.fd) (T.ecs.map Prod.snd) cs (lv + 1) i), kin, fun s u => ?_, fun H a ns hl hS => ?_, fun base _ _ sr => ?_⟩
  · have z := FD.bindsA (ps := p.1.ps) O.bind s [u] (by rw [hps]; rfl)
    rw [hps] at z
    exact z
  · obtain ⟨S, e⟩ := plain ns hl
    refine ⟨rfl, [], [.fl (ns.map .int)], [], .cons (.fl hS ?_) .nil, ⟨rfl, .nil, fun k o z => by simp at z⟩, ?_⟩
    · clear hl e hS
      induction ns with
      | nil => exact .nil
      | cons z r ih => exact .cons (.int z) ih
    · rw [e]
      intro ρ' H' x s v r
      cases r
      rfl
  · have z := fn_step (P := l.prog) (w := w) (base := base) (F := ds.map fun p => p.1.fd) (i := i) (tower TT sr tr lv) sr tr O.chk (by rw [List.getElem?_map, hi]; rfl) FD
    rw [hps] at z
    exact z
end Ev
end
section
set_option Elab.async false
set_option linter.all false
set_option maxRecDepth 100000
set_option maxHeartbeats 0
namespace Tx
open PySem PySem.Spec PyProof.Rows L2 Ev
abbrev P0 : Program := PySem.Challenge.pw_rimseries_k80_texts_there_and_back
def top (i : Nat) : Stmt := P0.main.body.getD i (.Pass ⟨0, 0, 0, 0⟩)
def dd (i : Nat) (x : Str) : He.DefD := ⟨(x, none), x, x, defArgs (top i), defBody (top i), defScope (top i), [], []⟩
def fnE (x : Str) (ps : List Str) : Str × List Str := (x, ps)
def clE (x : Str) (fs : List Str) (up : List Nat) (bup : List String) : Str × Cls := (x, ⟨fs, up, bup⟩)
def T : Tbl := ⟨[
  fnE "is_whole" ["value"],
  fnE "is_frac" ["value"],
  fnE "is_num" ["value"],
  fnE "frac_reduced" ["n", "m"],
  fnE "frac_less" ["x", "y"],
  fnE "frac_product" ["x", "y"],
  fnE "frac_over" ["x", "y"],
  fnE "num_less" ["x", "y"],
  fnE "num_product" ["x", "y"],
  fnE "num_scaled" ["x", "fraction"],
  fnE "num_mirrored" ["x"],
  fnE "num_size" ["x"],
  fnE "num_over" ["x", "y"],
  fnE "num_is_within" ["x"],
  fnE "is_place" ["value"],
  fnE "is_a_row" ["value"],
  fnE "row_trimmed" ["numbers"],
  fnE "row_scaled" ["row", "number"],
  fnE "row_rest" ["row", "other"],
  fnE "row_last_one" ["row"],
  fnE "row_divisor" ["row", "other"],
  fnE "is_a_quote" ["value"],
  fnE "is_pair" ["value"],
  fnE "count_values" ["data"],
  fnE "wrong_in_data" ["value"],
  fnE "places_of" ["data"],
  fnE "check_data" ["value"],
  fnE "check_value" ["value"],
  fnE "check_quote" ["value"],
  fnE "fraction_text" ["fraction"],
  fnE "number_written" ["number"],
  fnE "numbers_written" ["numbers"],
  fnE "row_written" ["row"],
  fnE "quote_written" ["quote"],
  fnE "pair_written" ["pair"],
  fnE "data_written" ["data"],
  fnE "whole_in" ["word"],
  fnE "fraction_in" ["word"],
  fnE "split_at" ["word"],
  fnE "number_in" ["word"],
  fnE "row_in" ["text", "gap"],
  fnE "quote_in" ["text", "gap"],
  fnE "place_in" ["word"],
  fnE "wrong_word" ["words", "data"],
  fnE "data_in" ["text"],
  fnE "check_text" ["value"],
  fnE "number_text" ["number"],
  fnE "row_text" ["row"],
  fnE "quotient_text" ["quotient"],
  fnE "data_text" ["data"],
  fnE "single" ["found"],
  fnE "read_number" ["text"],
  fnE "read_row" ["text"],
  fnE "read_quotient" ["text"],
  fnE "read_data" ["text"],
  fnE "_law_well" ["script", "turn"],
  fnE "_law_draw" ["well", "many"],
  fnE "_law_one_of" ["well", "some"],
  fnE "_law_near" ["one", "two"],
  fnE "_law_num" ["a", "b", "d"],
  fnE "_law_add" ["x", "y"],
  fnE "_law_sub" ["x", "y"],
  fnE "_law_mul" ["x", "y"],
  fnE "_law_over" ["x", "y"],
  fnE "_law_part" ["n", "m"],
  fnE "_law_out" ["x"],
  fnE "_law_outs" ["some"],
  fnE "_law_times" ["one", "two"],
  fnE "_law_at" ["some", "spot", "many"],
  fnE "_law_part_text" ["part"],
  fnE "_law_number_text" ["num"],
  fnE "_law_row_text" ["some"],
  fnE "_law_quotient_text" ["some"],
  fnE "_law_data_text" ["some"],
  fnE "_law_great" ["well", "many"],
  fnE "_law_piece" ["well", "many"],
  fnE "_law_any" ["well", "many"],
  fnE "_law_some" ["well", "most", "many"],
  fnE "_law_in" ["num"],
  fnE "_law_made" ["well", "many"],
  fnE "_law_disc_place" ["well", "found"],
  fnE "_law_drawn_data" ["well", "many"],
  fnE "_law_right" ["well"],
  fnE "law" ["script"]],
  ["FRAC_NOUGHT", "FRAC_ONE", "NOUGHT", "ONE", "MOST_PLACES", "MOST_AT_ONE", "MOST_VALUES", "FIGURES", "MOST_FIGURES"],
  [(54, 0, ["text"], [0]), (53, 0, ["text"], [0]), (52, 0, ["text"], [0]), (51, 0, ["text"], [0]), (49, 0, ["data"], [0]), (48, 0, ["quotient"], [0]), (47, 0, ["row"], [0]), (46, 0, ["number"], [0])],
  [clE "RimError" [] [] ["ValueError"], clE "InvalidNumber" ["given"] [0] ["ValueError"], clE "InvalidRow" ["given"] [0] ["ValueError"], clE "InvalidQuotient" ["given"] [0] ["ValueError"], clE "InvalidData" ["index"] [0] ["ValueError"], clE "InvalidText" ["line", "word"] [0] ["ValueError"]]⟩
abbrev i1 : He.DefD := ⟨("InvalidNumber", some "__init__"), "__init__", "InvalidNumber.__init__", defArgs (inClass (top 40) 0), defBody (inClass (top 40) 0), defScope (inClass (top 40) 0), [], []⟩
abbrev i2 : He.DefD := ⟨("InvalidRow", some "__init__"), "__init__", "InvalidRow.__init__", defArgs (inClass (top 41) 0), defBody (inClass (top 41) 0), defScope (inClass (top 41) 0), [], []⟩
abbrev i3 : He.DefD := ⟨("InvalidQuotient", some "__init__"), "__init__", "InvalidQuotient.__init__", defArgs (inClass (top 42) 0), defBody (inClass (top 42) 0), defScope (inClass (top 42) 0), [], []⟩
abbrev i4 : He.DefD := ⟨("InvalidData", some "__init__"), "__init__", "InvalidData.__init__", defArgs (inClass (top 43) 0), defBody (inClass (top 43) 0), defScope (inClass (top 43) 0), [], []⟩
abbrev i5 : He.DefD := ⟨("InvalidText", some "__init__"), "__init__", "InvalidText.__init__", defArgs (inClass (top 44) 0), defBody (inClass (top 44) 0), defScope (inClass (top 44) 0), [], []⟩
def c1 : Cls := ⟨["given"], [0], ["ValueError"]⟩
theorem ini1 : IniOk "InvalidNumber" c1 i1 := ⟨rfl, rfl, scB_ok (by decide +kernel), by decide +kernel, by decide +kernel, fun _ _ _ _ _ _ us hl => match us, hl with | [_, _], _ => rfl⟩
def c2 : Cls := ⟨["given"], [0], ["ValueError"]⟩
theorem ini2 : IniOk "InvalidRow" c2 i2 := ⟨rfl, rfl, scB_ok (by decide +kernel), by decide +kernel, by decide +kernel, fun _ _ _ _ _ _ us hl => match us, hl with | [_, _], _ => rfl⟩
def c3 : Cls := ⟨["given"], [0], ["ValueError"]⟩
theorem ini3 : IniOk "InvalidQuotient" c3 i3 := ⟨rfl, rfl, scB_ok (by decide +kernel), by decide +kernel, by decide +kernel, fun _ _ _ _ _ _ us hl => match us, hl with | [_, _], _ => rfl⟩
def c4 : Cls := ⟨["index"], [0], ["ValueError"]⟩
theorem ini4 : IniOk "InvalidData" c4 i4 := ⟨rfl, rfl, scB_ok (by decide +kernel), by decide +kernel, by decide +kernel, fun _ _ _ _ _ _ us hl => match us, hl with | [_, _], _ => rfl⟩
def c5 : Cls := ⟨["line", "word"], [0], ["ValueError"]⟩
theorem ini5 : IniOk "InvalidText" c5 i5 := ⟨rfl, rfl, scB_ok (by decide +kernel), by decide +kernel, by decide +kernel, fun _ _ _ _ _ _ us hl => match us, hl with | [_, _, _], _ => rfl⟩
def cs : List D := [
  .tup [(.int 0), (.int 1)],
  .tup [(.int 1), (.int 1)],
  .tup [(.tup [(.int 0), (.int 1)]), (.tup [(.int 0), (.int 1)])],
  .tup [(.tup [(.int 1), (.int 1)]), (.tup [(.int 0), (.int 1)])],
  .int 6,
  .int 3,
  .int 6,
  .str [48, 49, 50, 51, 52, 53, 54, 55, 56, 57],
  .int 400]
/-- is_whole(value) -/
def b0 : Ss := .cons (.ret (.and (.bi (.isin .int) (.cons (.var 0) .nil)) (.not (.bi (.isin .bool) (.cons (.var 0) .nil))))) .nil
def t0 : TD := ⟨"is_whole", ["value"], ["value"], ⟨1, 1, b0⟩⟩
abbrev d0 : He.DefD := dd 6 "is_whole"
/-- is_frac(value) -/
def b1 : Ss := .cons (.ite (.or (.not (.bi (.isin .tuple) (.cons (.var 0) .nil))) (.or (.cmp .ne (.bi .len (.cons (.var 0) .nil)) (.cst (.int 2))) (.or (.not (.call 0 (.cons (.ix (.var 0) (.cst (.int 0))) .nil))) (.not (.call 0 (.cons (.ix (.var 0) (.cst (.int 1))) .nil)))))) (.cons (.ret (.cst (.bl false))) .nil) .nil) (.cons (.ret (.and (.cmp .gt (.ix (.var 0) (.cst (.int 1))) (.cst (.int 0))) (.cmp .eq (.bi .gcd (.cons (.ix (.var 0) (.cst (.int 0))) (.cons (.ix (.var 0) (.cst (.int 1))) .nil))) (.cst (.int 1))))) .nil)
def t1 : TD := ⟨"is_frac", ["value"], ["value"], ⟨1, 1, b1⟩⟩
abbrev d1 : He.DefD := dd 7 "is_frac"
/-- is_num(value) -/
def b2 : Ss := .cons (.ret (.and (.bi (.isin .tuple) (.cons (.var 0) .nil)) (.and (.cmp .eq (.bi .len (.cons (.var 0) .nil)) (.cst (.int 2))) (.and (.call 1 (.cons (.ix (.var 0) (.cst (.int 0))) .nil)) (.call 1 (.cons (.ix (.var 0) (.cst (.int 1))) .nil)))))) .nil
def t2 : TD := ⟨"is_num", ["value"], ["value"], ⟨1, 1, b2⟩⟩
abbrev d2 : He.DefD := dd 8 "is_num"
/-- frac_reduced(n, m) -/
def b3 : Ss := .cons (.asg (.nm 2) (.ite (.cmp .gt (.var 1) (.cst (.int 0))) (.bi .gcd (.cons (.var 0) (.cons (.var 1) .nil))) (.neg (.bi .gcd (.cons (.var 0) (.cons (.var 1) .nil)))))) (.cons (.ret (.tup (.cons (.bin .fdiv (.var 0) (.var 2)) (.cons (.bin .fdiv (.var 1) (.var 2)) .nil)))) .nil)
def t3 : TD := ⟨"frac_reduced", ["n", "m"], ["n", "m", "divisor"], ⟨2, 3, b3⟩⟩
abbrev d3 : He.DefD := dd 9 "frac_reduced"
/-- frac_less(x, y) -/
def b4 : Ss := .cons (.ret (.call 3 (.cons (.bin .sub (.bin .mul (.ix (.var 0) (.cst (.int 0))) (.ix (.var 1) (.cst (.int 1)))) (.bin .mul (.ix (.var 1) (.cst (.int 0))) (.ix (.var 0) (.cst (.int 1))))) (.cons (.bin .mul (.ix (.var 0) (.cst (.int 1))) (.ix (.var 1) (.cst (.int 1)))) .nil)))) .nil
def t4 : TD := ⟨"frac_less", ["x", "y"], ["x", "y"], ⟨2, 2, b4⟩⟩
abbrev d4 : He.DefD := dd 10 "frac_less"
/-- frac_product(x, y) -/
def b5 : Ss := .cons (.ret (.call 3 (.cons (.bin .mul (.ix (.var 0) (.cst (.int 0))) (.ix (.var 1) (.cst (.int 0)))) (.cons (.bin .mul (.ix (.var 0) (.cst (.int 1))) (.ix (.var 1) (.cst (.int 1)))) .nil)))) .nil
def t5 : TD := ⟨"frac_product", ["x", "y"], ["x", "y"], ⟨2, 2, b5⟩⟩
abbrev d5 : He.DefD := dd 11 "frac_product"
/-- frac_over(x, y) -/
def b6 : Ss := .cons (.ret (.call 3 (.cons (.bin .mul (.ix (.var 0) (.cst (.int 0))) (.ix (.var 1) (.cst (.int 1)))) (.cons (.bin .mul (.ix (.var 0) (.cst (.int 1))) (.ix (.var 1) (.cst (.int 0)))) .nil)))) .nil
def t6 : TD := ⟨"frac_over", ["x", "y"], ["x", "y"], ⟨2, 2, b6⟩⟩
abbrev d6 : He.DefD := dd 12 "frac_over"
/-- num_less(x, y) -/
def b7 : Ss := .cons (.ret (.tup (.cons (.call 4 (.cons (.ix (.var 0) (.cst (.int 0))) (.cons (.ix (.var 1) (.cst (.int 0))) .nil))) (.cons (.call 4 (.cons (.ix (.var 0) (.cst (.int 1))) (.cons (.ix (.var 1) (.cst (.int 1))) .nil))) .nil)))) .nil
def t7 : TD := ⟨"num_less", ["x", "y"], ["x", "y"], ⟨2, 2, b7⟩⟩
abbrev d7 : He.DefD := dd 13 "num_less"
/-- num_product(x, y) -/
def b8 : Ss := .cons (.asg (.tup [.tup [.nm 2, .nm 3], .tup [.nm 4, .nm 5]]) (.var 0)) (.cons (.asg (.tup [.tup [.nm 6, .nm 7], .tup [.nm 8, .nm 9]]) (.var 1)) (.cons (.asg (.nm 10) (.bin .mul (.bin .mul (.bin .mul (.var 3) (.var 5)) (.var 7)) (.var 9))) (.cons (.ret (.tup (.cons (.call 3 (.cons (.bin .sub (.bin .mul (.bin .mul (.bin .mul (.var 2) (.var 6)) (.var 5)) (.var 9)) (.bin .mul (.bin .mul (.bin .mul (.var 4) (.var 8)) (.var 3)) (.var 7))) (.cons (.var 10) .nil))) (.cons (.call 3 (.cons (.bin .add (.bin .mul (.bin .mul (.bin .mul (.var 2) (.var 8)) (.var 5)) (.var 7)) (.bin .mul (.bin .mul (.bin .mul (.var 4) (.var 6)) (.var 3)) (.var 9))) (.cons (.var 10) .nil))) .nil)))) .nil)))
def t8 : TD := ⟨"num_product", ["x", "y"], ["x", "y", "a", "b", "c", "d", "p", "q", "r", "s", "under"], ⟨2, 11, b8⟩⟩
abbrev d8 : He.DefD := dd 14 "num_product"
/-- num_scaled(x, fraction) -/
def b9 : Ss := .cons (.ret (.tup (.cons (.call 5 (.cons (.ix (.var 0) (.cst (.int 0))) (.cons (.var 1) .nil))) (.cons (.call 5 (.cons (.ix (.var 0) (.cst (.int 1))) (.cons (.var 1) .nil))) .nil)))) .nil
def t9 : TD := ⟨"num_scaled", ["x", "fraction"], ["x", "fraction"], ⟨2, 2, b9⟩⟩
abbrev d9 : He.DefD := dd 15 "num_scaled"
/-- num_mirrored(x) -/
def b10 : Ss := .cons (.ret (.tup (.cons (.ix (.var 0) (.cst (.int 0))) (.cons (.tup (.cons (.neg (.ix (.ix (.var 0) (.cst (.int 1))) (.cst (.int 0)))) (.cons (.ix (.ix (.var 0) (.cst (.int 1))) (.cst (.int 1))) .nil))) .nil)))) .nil
def t10 : TD := ⟨"num_mirrored", ["x"], ["x"], ⟨1, 1, b10⟩⟩
abbrev d10 : He.DefD := dd 16 "num_mirrored"
/-- num_size(x) -/
def b11 : Ss := .cons (.asg (.tup [.tup [.nm 1, .nm 2], .tup [.nm 3, .nm 4]]) (.var 0)) (.cons (.ret (.call 3 (.cons (.bin .add (.bin .mul (.bin .mul (.bin .mul (.var 1) (.var 1)) (.var 4)) (.var 4)) (.bin .mul (.bin .mul (.bin .mul (.var 3) (.var 3)) (.var 2)) (.var 2))) (.cons (.bin .mul (.bin .mul (.bin .mul (.var 2) (.var 2)) (.var 4)) (.var 4)) .nil)))) .nil)
def t11 : TD := ⟨"num_size", ["x"], ["x", "a", "b", "c", "d"], ⟨1, 5, b11⟩⟩
abbrev d11 : He.DefD := dd 17 "num_size"
/-- num_over(x, y) -/
def b12 : Ss := .cons (.ret (.call 9 (.cons (.call 8 (.cons (.var 0) (.cons (.call 10 (.cons (.var 1) .nil)) .nil))) (.cons (.call 6 (.cons (.glb 1) (.cons (.call 11 (.cons (.var 1) .nil)) .nil))) .nil)))) .nil
def t12 : TD := ⟨"num_over", ["x", "y"], ["x", "y"], ⟨2, 2, b12⟩⟩
abbrev d12 : He.DefD := dd 18 "num_over"
/-- num_is_within(x) -/
def b13 : Ss := .cons (.asg (.nm 1) (.call 11 (.cons (.var 0) .nil))) (.cons (.ret (.cmp .lt (.ix (.var 1) (.cst (.int 0))) (.ix (.var 1) (.cst (.int 1))))) .nil)
def t13 : TD := ⟨"num_is_within", ["x"], ["x", "size"], ⟨1, 2, b13⟩⟩
abbrev d13 : He.DefD := dd 19 "num_is_within"
/-- is_place(value) -/
def b14 : Ss := .cons (.ret (.and (.call 2 (.cons (.var 0) .nil)) (.call 13 (.cons (.var 0) .nil)))) .nil
def t14 : TD := ⟨"is_place", ["value"], ["value"], ⟨1, 1, b14⟩⟩
abbrev d14 : He.DefD := dd 20 "is_place"
/-- is_a_row(value) -/
def b15 : Ss := .cons (.ite (.or (.not (.bi (.isin .tuple) (.cons (.var 0) .nil))) (.cmp .ne (.lc [("each", 1)] (.var 1) (.nm 1) (.seq (.var 0)) (.some (.not (.call 2 (.cons (.var 1) .nil))))) (.lst .nil))) (.cons (.ret (.cst (.bl false))) .nil) .nil) (.cons (.ret (.or (.cmp .eq (.var 0) (.tup .nil)) (.cmp .ne (.ix (.var 0) (.neg (.cst (.int 1)))) (.glb 2)))) .nil)
def t15 : TD := ⟨"is_a_row", ["value"], ["value", "each"], ⟨1, 2, b15⟩⟩
abbrev d15 : He.DefD := dd 22 "is_a_row"
/-- row_trimmed(numbers) -/
def b16 : Ss := .cons (.asg (.nm 1) (.bi .len (.cons (.var 0) .nil))) (.cons (.whl (.and (.cmp .gt (.var 1) (.cst (.int 0))) (.cmp .eq (.ix (.var 0) (.bin .sub (.var 1) (.cst (.int 1)))) (.glb 2))) (.cons (.aug 1 .sub (.cst (.int 1))) .nil)) (.cons (.ret (.bi .tuple (.cons (.sl (.var 0) .none (.some (.var 1))) .nil))) .nil))
def t16 : TD := ⟨"row_trimmed", ["numbers"], ["numbers", "many"], ⟨1, 2, b16⟩⟩
abbrev d16 : He.DefD := dd 23 "row_trimmed"
/-- row_scaled(row, number) -/
def b17 : Ss := .cons (.ret (.call 16 (.cons (.lc [("each", 2)] (.call 8 (.cons (.var 2) (.cons (.var 1) .nil))) (.nm 2) (.seq (.var 0)) .none) .nil))) .nil
def t17 : TD := ⟨"row_scaled", ["row", "number"], ["row", "number", "each"], ⟨2, 3, b17⟩⟩
abbrev d17 : He.DefD := dd 24 "row_scaled"
/-- row_rest(row, other) -/
def b18 : Ss := .cons (.asg (.nm 2) (.bi .list (.cons (.var 0) .nil))) (.cons (.asg (.nm 3) (.lst .nil)) (.cons (.asg (.nm 4) (.call 12 (.cons (.glb 3) (.cons (.ix (.var 1) (.neg (.cst (.int 1)))) .nil)))) (.cons (.for (.nm 5) (.rng3 (.bin .sub (.bi .len (.cons (.var 0) .nil)) (.bi .len (.cons (.var 1) .nil))) (.neg (.cst (.int 1))) (.neg (.cst (.int 1)))) (.cons (.asg (.nm 6) (.call 8 (.cons (.ix (.var 2) (.neg (.cst (.int 1)))) (.cons (.var 4) .nil)))) (.cons (.asg (.nm 3) (.lst (.cons (.var 6) (.star (.var 3) .nil)))) (.cons (.for (.tup [.nm 7, .nm 8]) (.enum (.var 1)) (.cons (.asg (.sub (.var 2) (.bin .add (.var 5) (.var 7))) (.call 7 (.cons (.ix (.var 2) (.bin .add (.var 5) (.var 7))) (.cons (.call 8 (.cons (.var 6) (.cons (.var 8) .nil))) .nil)))) .nil)) (.cons (.exp (.mt .pop (.var 2) .nil)) .nil))))) (.cons (.ret (.tup (.cons (.call 16 (.cons (.var 3) .nil)) (.cons (.call 16 (.cons (.var 2) .nil)) .nil)))) .nil))))
def t18 : TD := ⟨"row_rest", ["row", "other"], ["row", "other", "rest", "factor", "last", "start", "number", "by", "each"], ⟨2, 9, b18⟩⟩
abbrev d18 : He.DefD := dd 25 "row_rest"
/-- row_last_one(row) -/
def b19 : Ss := .cons (.ret (.ite (.cmp .eq (.var 0) (.tup .nil)) (.tup .nil) (.call 17 (.cons (.var 0) (.cons (.call 12 (.cons (.glb 3) (.cons (.ix (.var 0) (.neg (.cst (.int 1)))) .nil))) .nil))))) .nil
def t19 : TD := ⟨"row_last_one", ["row"], ["row"], ⟨1, 1, b19⟩⟩
abbrev d19 : He.DefD := dd 26 "row_last_one"
/-- row_divisor(row, other) -/
def b20 : Ss := .cons (.par [2, 3] (.cons (.call 19 (.cons (.var 0) .nil)) (.cons (.call 19 (.cons (.var 1) .nil)) .nil))) (.cons (.whl (.cmp .ne (.var 3) (.tup .nil)) (.cons (.par [2, 3] (.cons (.var 3) (.cons (.call 19 (.cons (.ix (.call 18 (.cons (.var 2) (.cons (.var 3) .nil))) (.cst (.int 1))) .nil)) .nil))) .nil)) (.cons (.ret (.var 2)) .nil))
def t20 : TD := ⟨"row_divisor", ["row", "other"], ["row", "other", "one", "two"], ⟨2, 4, b20⟩⟩
abbrev d20 : He.DefD := dd 27 "row_divisor"
/-- is_a_quote(value) -/
def b21 : Ss := .cons (.ite (.or (.not (.bi (.isin .tuple) (.cons (.var 0) .nil))) (.or (.cmp .ne (.bi .len (.cons (.var 0) .nil)) (.cst (.int 2))) (.or (.not (.call 15 (.cons (.ix (.var 0) (.cst (.int 0))) .nil))) (.not (.call 15 (.cons (.ix (.var 0) (.cst (.int 1))) .nil)))))) (.cons (.ret (.cst (.bl false))) .nil) .nil) (.cons (.ret (.and (.cmp .gt (.bi .len (.cons (.ix (.var 0) (.cst (.int 1))) .nil)) (.cst (.int 0))) (.and (.cmp .eq (.ix (.ix (.var 0) (.cst (.int 1))) (.cst (.int 0))) (.glb 3)) (.cmp .eq (.bi .len (.cons (.call 20 (.cons (.ix (.var 0) (.cst (.int 0))) (.cons (.ix (.var 0) (.cst (.int 1))) .nil))) .nil)) (.cst (.int 1)))))) .nil)
def t21 : TD := ⟨"is_a_quote", ["value"], ["value"], ⟨1, 1, b21⟩⟩
abbrev d21 : He.DefD := dd 29 "is_a_quote"
/-- is_pair(value) -/
def b22 : Ss := .cons (.ite (.or (.not (.bi (.isin .tuple) (.cons (.var 0) .nil))) (.or (.cmp .ne (.bi .len (.cons (.var 0) .nil)) (.cst (.int 2))) (.or (.not (.call 14 (.cons (.ix (.var 0) (.cst (.int 0))) .nil))) (.not (.bi (.isin .tuple) (.cons (.ix (.var 0) (.cst (.int 1))) .nil)))))) (.cons (.ret (.cst (.bl false))) .nil) .nil) (.cons (.ret (.and (.chain .le .le (.cst (.int 1)) (.bi .len (.cons (.ix (.var 0) (.cst (.int 1))) .nil)) (.glb 5)) (.bi .all (.cons (.lc [("each", 1)] (.call 2 (.cons (.var 1) .nil)) (.nm 1) (.seq (.ix (.var 0) (.cst (.int 1)))) .none) .nil)))) .nil)
def t22 : TD := ⟨"is_pair", ["value"], ["value", "each"], ⟨1, 2, b22⟩⟩
abbrev d22 : He.DefD := dd 34 "is_pair"
/-- count_values(data) -/
def b23 : Ss := .cons (.ret (.bi .sum (.cons (.lc [("_", 1), ("values", 2)] (.bi .len (.cons (.var 2) .nil)) (.tup [.nm 1, .nm 2]) (.seq (.var 0)) .none) .nil))) .nil
def t23 : TD := ⟨"count_values", ["data"], ["data", "_", "values"], ⟨1, 3, b23⟩⟩
abbrev d23 : He.DefD := dd 35 "count_values"
/-- wrong_in_data(value) -/
def b24 : Ss := .cons (.ite (.or (.not (.bi (.isin .tuple) (.cons (.var 0) .nil))) (.cmp .gt (.bi .len (.cons (.var 0) .nil)) (.glb 4))) (.cons (.ret (.lst (.cons (.cst .non) .nil))) .nil) .nil) (.cons (.for (.tup [.nm 1, .nm 2]) (.enum (.var 0)) (.cons (.ite (.or (.not (.call 22 (.cons (.var 2) .nil))) (.or (.cmp .isin (.ix (.var 2) (.cst (.int 0))) (.call 25 (.cons (.sl (.var 0) .none (.some (.var 1))) .nil))) (.cmp .gt (.call 23 (.cons (.sl (.var 0) .none (.some (.bin .add (.var 1) (.cst (.int 1))))) .nil)) (.glb 6)))) (.cons (.ret (.lst (.cons (.var 1) .nil))) .nil) .nil) .nil)) (.cons (.ret (.lst .nil)) .nil))
def t24 : TD := ⟨"wrong_in_data", ["value"], ["value", "at", "each"], ⟨1, 3, b24⟩⟩
abbrev d24 : He.DefD := dd 36 "wrong_in_data"
/-- places_of(data) -/
def b25 : Ss := .cons (.ret (.lc [("place", 1), ("_", 2)] (.var 1) (.tup [.nm 1, .nm 2]) (.seq (.var 0)) .none)) .nil
def t25 : TD := ⟨"places_of", ["data"], ["data", "place", "_"], ⟨1, 3, b25⟩⟩
abbrev d25 : He.DefD := dd 37 "places_of"
/-- check_data(value) -/
def b26 : Ss := .cons (.for (.nm 1) (.seq (.call 24 (.cons (.var 0) .nil))) (.cons (.rai 4 (.cons (.var 1) .nil)) .nil)) .nil
def t26 : TD := ⟨"check_data", ["value"], ["value", "index"], ⟨1, 2, b26⟩⟩
abbrev d26 : He.DefD := dd 46 "check_data"
/-- check_value(value) -/
def b27 : Ss := .cons (.ite (.not (.call 2 (.cons (.var 0) .nil))) (.cons (.rai 1 (.cons (.var 0) .nil)) .nil) .nil) .nil
def t27 : TD := ⟨"check_value", ["value"], ["value"], ⟨1, 1, b27⟩⟩
abbrev d27 : He.DefD := dd 47 "check_value"
/-- check_quote(value) -/
def b28 : Ss := .cons (.ite (.not (.call 21 (.cons (.var 0) .nil))) (.cons (.rai 3 (.cons (.var 0) .nil)) .nil) .nil) .nil
def t28 : TD := ⟨"check_quote", ["value"], ["value"], ⟨1, 1, b28⟩⟩
abbrev d28 : He.DefD := dd 48 "check_quote"
/-- fraction_text(fraction) -/
def b29 : Ss := .cons (.ret (.ite (.cmp .eq (.ix (.var 0) (.cst (.int 1))) (.cst (.int 1))) (.bi .str (.cons (.ix (.var 0) (.cst (.int 0))) .nil)) (.bin .add (.bin .add (.bi .str (.cons (.ix (.var 0) (.cst (.int 0))) .nil)) (.cst (.str [47]))) (.bi .str (.cons (.ix (.var 0) (.cst (.int 1))) .nil))))) .nil
def t29 : TD := ⟨"fraction_text", ["fraction"], ["fraction"], ⟨1, 1, b29⟩⟩
abbrev d29 : He.DefD := dd 52 "fraction_text"
/-- number_written(number) -/
def b30 : Ss := .cons (.asg (.tup [.nm 1, .nm 2]) (.var 0)) (.cons (.ite (.cmp .eq (.var 2) (.glb 0)) (.cons (.ret (.call 29 (.cons (.var 1) .nil))) .nil) .nil) (.cons (.ite (.cmp .eq (.var 1) (.glb 0)) (.cons (.ret (.bin .add (.call 29 (.cons (.var 2) .nil)) (.cst (.str [105])))) .nil) .nil) (.cons (.ret (.bin .add (.bin .add (.bin .add (.call 29 (.cons (.var 1) .nil)) (.ite (.cmp .gt (.ix (.var 2) (.cst (.int 0))) (.cst (.int 0))) (.cst (.str [43])) (.cst (.str [])))) (.call 29 (.cons (.var 2) .nil))) (.cst (.str [105])))) .nil)))
def t30 : TD := ⟨"number_written", ["number"], ["number", "first", "second"], ⟨1, 3, b30⟩⟩
abbrev d30 : He.DefD := dd 53 "number_written"
/-- numbers_written(numbers) -/
def b31 : Ss := .cons (.ret (.mt .join (.cst (.str [32])) (.cons (.lc [("each", 1)] (.call 30 (.cons (.var 1) .nil)) (.nm 1) (.seq (.var 0)) .none) .nil))) .nil
def t31 : TD := ⟨"numbers_written", ["numbers"], ["numbers", "each"], ⟨1, 2, b31⟩⟩
abbrev d31 : He.DefD := dd 54 "numbers_written"
/-- row_written(row) -/
def b32 : Ss := .cons (.ret (.bin .add (.bin .add (.cst (.str [91])) (.call 31 (.cons (.var 0) .nil))) (.cst (.str [93])))) .nil
def t32 : TD := ⟨"row_written", ["row"], ["row"], ⟨1, 1, b32⟩⟩
abbrev d32 : He.DefD := dd 55 "row_written"
/-- quote_written(quote) -/
def b33 : Ss := .cons (.ret (.bin .add (.bin .add (.call 32 (.cons (.ix (.var 0) (.cst (.int 0))) .nil)) (.cst (.str [47]))) (.call 32 (.cons (.ix (.var 0) (.cst (.int 1))) .nil)))) .nil
def t33 : TD := ⟨"quote_written", ["quote"], ["quote"], ⟨1, 1, b33⟩⟩
abbrev d33 : He.DefD := dd 56 "quote_written"
/-- pair_written(pair) -/
def b34 : Ss := .cons (.ret (.bin .add (.bin .add (.call 30 (.cons (.ix (.var 0) (.cst (.int 0))) .nil)) (.cst (.str [58, 32]))) (.call 31 (.cons (.ix (.var 0) (.cst (.int 1))) .nil)))) .nil
def t34 : TD := ⟨"pair_written", ["pair"], ["pair"], ⟨1, 1, b34⟩⟩
abbrev d34 : He.DefD := dd 57 "pair_written"
/-- data_written(data) -/
def b35 : Ss := .cons (.ret (.mt .join (.cst (.str [])) (.cons (.lc [("pair", 1)] (.bin .add (.call 34 (.cons (.var 1) .nil)) (.cst (.str [10]))) (.nm 1) (.seq (.var 0)) .none) .nil))) .nil
def t35 : TD := ⟨"data_written", ["data"], ["data", "pair"], ⟨1, 2, b35⟩⟩
abbrev d35 : He.DefD := dd 58 "data_written"
/-- whole_in(word) -/
def b36 : Ss := .cons (.ite (.or (.cmp .eq (.var 0) (.cst (.str []))) (.or (.cmp .gt (.bi .len (.cons (.var 0) .nil)) (.glb 8)) (.not (.bi .all (.cons (.lc [("sign", 1)] (.cmp .isin (.var 1) (.glb 7)) (.nm 1) (.seq (.var 0)) .none) .nil))))) (.cons (.ret (.lst .nil)) .nil) .nil) (.cons (.ret (.ite (.or (.cmp .eq (.var 0) (.cst (.str [48]))) (.cmp .ne (.ix (.var 0) (.cst (.int 0))) (.cst (.str [48])))) (.lst (.cons (.bi .int (.cons (.var 0) .nil)) .nil)) (.lst .nil))) .nil)
def t36 : TD := ⟨"whole_in", ["word"], ["word", "sign"], ⟨1, 2, b36⟩⟩
abbrev d36 : He.DefD := dd 59 "whole_in"
/-- fraction_in(word) -/
def b37 : Ss := .cons (.asg (.nm 1) (.mt .split (.ite (.cmp .eq (.sl (.var 0) .none (.some (.cst (.int 1)))) (.cst (.str [45]))) (.sl (.var 0) (.some (.cst (.int 1))) .none) (.var 0)) (.cons (.cst (.str [47])) .nil))) (.cons (.asg (.nm 2) (.lc2 [("part", 6), ("each", 7)] [7] (.var 7) (.nm 6) (.seq (.var 1)) (.nm 7) (.seq (.call 36 (.cons (.var 6) .nil))))) (.cons (.ite (.or (.cmp .gt (.bi .len (.cons (.var 1) .nil)) (.cst (.int 2))) (.cmp .ne (.bi .len (.cons (.var 2) .nil)) (.bi .len (.cons (.var 1) .nil)))) (.cons (.ret (.lst .nil)) .nil) .nil) (.cons (.asg (.tup [.nm 3, .nm 4]) (.ite (.cmp .eq (.bi .len (.cons (.var 1) .nil)) (.cst (.int 1))) (.tup (.cons (.ix (.var 2) (.cst (.int 0))) (.cons (.cst (.int 1)) .nil))) (.tup (.cons (.ix (.var 2) (.cst (.int 0))) (.cons (.ix (.var 2) (.cst (.int 1))) .nil))))) (.cons (.ite (.cmp .eq (.var 4) (.cst (.int 0))) (.cons (.ret (.lst .nil)) .nil) .nil) (.cons (.asg (.nm 5) (.call 3 (.cons (.ite (.cmp .eq (.sl (.var 0) .none (.some (.cst (.int 1)))) (.cst (.str [45]))) (.neg (.var 3)) (.var 3)) (.cons (.var 4) .nil)))) (.cons (.ret (.ite (.cmp .eq (.call 29 (.cons (.var 5) .nil)) (.var 0)) (.lst (.cons (.var 5) .nil)) (.lst .nil))) .nil))))))
def t37 : TD := ⟨"fraction_in", ["word"], ["word", "parts", "numbers", "top", "low", "found", "part", "each"], ⟨1, 8, b37⟩⟩
abbrev d37 : He.DefD := dd 60 "fraction_in"
/-- split_at(word) -/
def b38 : Ss := .cons (.ret (.bi .max (.cons (.mt .rfind (.var 0) (.cons (.cst (.str [43])) .nil)) (.cons (.mt .rfind (.var 0) (.cons (.cst (.str [45])) .nil)) (.cons (.cst (.int 0)) .nil))))) .nil
def t38 : TD := ⟨"split_at", ["word"], ["word"], ⟨1, 1, b38⟩⟩
abbrev d38 : He.DefD := dd 61 "split_at"
/-- number_in(word) -/
def b39 : Ss := .cons (.ite (.cmp .ne (.sl (.var 0) (.some (.neg (.cst (.int 1)))) .none) (.cst (.str [105]))) (.cons (.ret (.lc [("each", 7)] (.tup (.cons (.var 7) (.cons (.glb 0) .nil))) (.nm 7) (.seq (.call 37 (.cons (.var 0) .nil))) .none)) .nil) .nil) (.cons (.asg (.nm 1) (.call 38 (.cons (.var 0) .nil))) (.cons (.par [2, 3] (.cons (.sl (.var 0) .none (.some (.var 1))) (.cons (.sl (.var 0) (.some (.var 1)) (.some (.neg (.cst (.int 1))))) .nil))) (.cons (.asg (.nm 4) (.ite (.cmp .gt (.var 1) (.cst (.int 0))) (.call 37 (.cons (.var 2) .nil)) (.lst (.cons (.glb 0) .nil)))) (.cons (.asg (.nm 5) (.call 37 (.cons (.ite (.and (.cmp .eq (.sl (.var 3) .none (.some (.cst (.int 1)))) (.cst (.str [43]))) (.cmp .gt (.var 1) (.cst (.int 0)))) (.sl (.var 3) (.some (.cst (.int 1))) .none) (.var 3)) .nil))) (.cons (.asg (.nm 6) (.lc2 [("one", 8), ("two", 9)] [9] (.tup (.cons (.var 8) (.cons (.var 9) .nil))) (.nm 8) (.seq (.var 4)) (.nm 9) (.seq (.var 5)))) (.cons (.ret (.lc [("each", 7)] (.var 7) (.nm 7) (.seq (.var 6)) (.some (.cmp .eq (.call 30 (.cons (.var 7) .nil)) (.var 0))))) .nil))))))
def t39 : TD := ⟨"number_in", ["word"], ["word", "at", "first", "second", "ahead", "behind", "found", "each", "one", "two"], ⟨1, 10, b39⟩⟩
abbrev d39 : He.DefD := dd 62 "number_in"
/-- row_in(text, gap) -/
def b40 : Ss := .cons (.ite (.or (.cmp .lt (.bi .len (.cons (.var 0) .nil)) (.cst (.int 2))) (.or (.cmp .ne (.ix (.var 0) (.cst (.int 0))) (.cst (.str [91]))) (.cmp .ne (.ix (.var 0) (.neg (.cst (.int 1)))) (.cst (.str [93]))))) (.cons (.ret (.lst .nil)) .nil) .nil) (.cons (.asg (.nm 2) (.ite (.cmp .ne (.var 0) (.cst (.str [91, 93]))) (.mt .split (.sl (.var 0) (.some (.cst (.int 1))) (.some (.neg (.cst (.int 1))))) (.cons (.var 1) .nil)) (.lst .nil))) (.cons (.asg (.nm 3) (.lc2 [("word", 4), ("each", 5)] [5] (.var 5) (.nm 4) (.seq (.var 2)) (.nm 5) (.seq (.call 39 (.cons (.var 4) .nil))))) (.cons (.ite (.or (.cmp .ne (.bi .len (.cons (.var 3) .nil)) (.bi .len (.cons (.var 2) .nil))) (.cmp .ne (.call 16 (.cons (.var 3) .nil)) (.bi .tuple (.cons (.var 3) .nil)))) (.cons (.ret (.lst .nil)) .nil) .nil) (.cons (.ret (.lst (.cons (.bi .tuple (.cons (.var 3) .nil)) .nil))) .nil))))
def t40 : TD := ⟨"row_in", ["text", "gap"], ["text", "gap", "words", "numbers", "word", "each"], ⟨2, 6, b40⟩⟩
abbrev d40 : He.DefD := dd 63 "row_in"
/-- quote_in(text, gap) -/
def b41 : Ss := .cons (.asg (.nm 2) (.mt .find (.var 0) (.cons (.cst (.str [93, 47, 91])) .nil))) (.cons (.ite (.cmp .lt (.var 2) (.cst (.int 0))) (.cons (.ret (.lst .nil)) .nil) .nil) (.cons (.asg (.nm 3) (.lc2 [("top", 4), ("under", 5)] [5] (.tup (.cons (.var 4) (.cons (.var 5) .nil))) (.nm 4) (.seq (.call 40 (.cons (.sl (.var 0) .none (.some (.bin .add (.var 2) (.cst (.int 1))))) (.cons (.var 1) .nil)))) (.nm 5) (.seq (.call 40 (.cons (.sl (.var 0) (.some (.bin .add (.var 2) (.cst (.int 2)))) .none) (.cons (.var 1) .nil)))))) (.cons (.ret (.lc [("each", 6)] (.var 6) (.nm 6) (.seq (.var 3)) (.some (.call 21 (.cons (.var 6) .nil))))) .nil)))
def t41 : TD := ⟨"quote_in", ["text", "gap"], ["text", "gap", "at", "found", "top", "under", "each"], ⟨2, 7, b41⟩⟩
abbrev d41 : He.DefD := dd 64 "quote_in"
/-- place_in(word) -/
def b42 : Ss := .cons (.asg (.nm 1) (.ite (.cmp .eq (.sl (.var 0) (.some (.neg (.cst (.int 1)))) .none) (.cst (.str [58]))) (.call 39 (.cons (.sl (.var 0) .none (.some (.neg (.cst (.int 1))))) .nil)) (.lst .nil))) (.cons (.ret (.lc [("each", 2)] (.var 2) (.nm 2) (.seq (.var 1)) (.some (.call 13 (.cons (.var 2) .nil))))) .nil)
def t42 : TD := ⟨"place_in", ["word"], ["word", "found", "each"], ⟨1, 3, b42⟩⟩
abbrev d42 : He.DefD := dd 65 "place_in"
/-- wrong_word(words, data) -/
def b43 : Ss := .cons (.asg (.nm 2) (.call 42 (.cons (.ix (.var 0) (.cst (.int 0))) .nil))) (.cons (.ite (.or (.cmp .eq (.var 2) (.lst .nil)) (.or (.cmp .isin (.ix (.var 2) (.cst (.int 0))) (.call 25 (.cons (.var 1) .nil))) (.cmp .eq (.bi .len (.cons (.var 1) .nil)) (.glb 4)))) (.cons (.ret (.tup (.cons (.cst (.int 0)) (.cons (.tup .nil) .nil)))) .nil) .nil) (.cons (.asg (.nm 3) (.lst .nil)) (.cons (.for (.tup [.nm 4, .nm 5]) (.enum (.sl (.var 0) (.some (.cst (.int 1))) .none)) (.cons (.asg (.nm 6) (.call 39 (.cons (.var 5) .nil))) (.cons (.ite (.or (.cmp .eq (.var 6) (.lst .nil)) (.or (.cmp .eq (.var 4) (.glb 5)) (.cmp .eq (.bin .add (.call 23 (.cons (.var 1) .nil)) (.var 4)) (.glb 6)))) (.cons (.ret (.tup (.cons (.bin .add (.var 4) (.cst (.int 1))) (.cons (.tup .nil) .nil)))) .nil) .nil) (.cons (.exp (.mt .append (.var 3) (.cons (.ix (.var 6) (.cst (.int 0))) .nil))) .nil)))) (.cons (.ret (.tup (.cons (.ite (.cmp .ne (.var 3) (.lst .nil)) (.cst .non) (.cst (.int 1))) (.cons (.tup (.cons (.ix (.var 2) (.cst (.int 0))) (.cons (.bi .tuple (.cons (.var 3) .nil)) .nil))) .nil)))) .nil))))
def t43 : TD := ⟨"wrong_word", ["words", "data"], ["words", "data", "places", "values", "index", "word", "found"], ⟨2, 7, b43⟩⟩
abbrev d43 : He.DefD := dd 66 "wrong_word"
/-- data_in(text) -/
def b44 : Ss := .cons (.asg (.nm 1) (.mt .split (.var 0) (.cons (.cst (.str [10])) .nil))) (.cons (.asg (.nm 2) (.tup .nil)) (.cons (.for (.tup [.nm 3, .nm 4]) (.enum (.var 1)) (.cons (.asg (.nm 5) (.cmp .eq (.var 3) (.bin .sub (.bi .len (.cons (.var 1) .nil)) (.cst (.int 1))))) (.cons (.ite (.and (.var 5) (.cmp .eq (.var 4) (.cst (.str [])))) (.cons (.ret (.tup (.cons (.cst .non) (.cons (.var 2) .nil)))) .nil) .nil) (.cons (.asg (.nm 6) (.mt .split (.var 4) (.cons (.cst (.str [32])) .nil))) (.cons (.asg (.tup [.nm 7, .nm 8]) (.call 43 (.cons (.var 6) (.cons (.var 2) .nil)))) (.cons (.ite (.or (.cmp .isnot (.var 7) (.cst .non)) (.var 5)) (.cons (.ret (.tup (.cons (.tup (.cons (.var 3) (.cons (.ite (.cmp .is (.var 7) (.cst .non)) (.bi .len (.cons (.var 6) .nil)) (.var 7)) .nil))) (.cons (.tup .nil) .nil)))) .nil) .nil) (.cons (.asg (.nm 2) (.tup (.star (.var 2) (.cons (.var 8) .nil)))) .nil))))))) (.cons (.ret (.tup (.cons (.cst .non) (.cons (.var 2) .nil)))) .nil)))
def t44 : TD := ⟨"data_in", ["text"], ["text", "lines", "data", "index", "line", "is_last", "words", "wrong", "pair"], ⟨1, 9, b44⟩⟩
abbrev d44 : He.DefD := dd 67 "data_in"
/-- check_text(value) -/
def b45 : Ss := .cons (.ite (.not (.bi (.isin .str) (.cons (.var 0) .nil))) (.cons (.rai 5 (.cons (.cst .non) (.cons (.cst .non) .nil))) .nil) .nil) .nil
def t45 : TD := ⟨"check_text", ["value"], ["value"], ⟨1, 1, b45⟩⟩
abbrev d45 : He.DefD := dd 69 "check_text"
/-- number_text(number) -/
def b46 : Ss := .cons (.exp (.call 27 (.cons (.var 0) .nil))) (.cons (.ret (.call 30 (.cons (.var 0) .nil))) .nil)
def t46 : TD := ⟨"number_text", ["number"], ["number"], ⟨1, 1, b46⟩⟩
abbrev d46 : He.DefD := dd 70 "number_text"
/-- row_text(row) -/
def b47 : Ss := .cons (.ite (.not (.call 15 (.cons (.var 0) .nil))) (.cons (.rai 2 (.cons (.var 0) .nil)) .nil) .nil) (.cons (.ret (.call 32 (.cons (.var 0) .nil))) .nil)
def t47 : TD := ⟨"row_text", ["row"], ["row"], ⟨1, 1, b47⟩⟩
abbrev d47 : He.DefD := dd 71 "row_text"
/-- quotient_text(quotient) -/
def b48 : Ss := .cons (.exp (.call 28 (.cons (.var 0) .nil))) (.cons (.ret (.call 33 (.cons (.var 0) .nil))) .nil)
def t48 : TD := ⟨"quotient_text", ["quotient"], ["quotient"], ⟨1, 1, b48⟩⟩
abbrev d48 : He.DefD := dd 72 "quotient_text"
/-- data_text(data) -/
def b49 : Ss := .cons (.exp (.call 26 (.cons (.var 0) .nil))) (.cons (.ret (.call 35 (.cons (.var 0) .nil))) .nil)
def t49 : TD := ⟨"data_text", ["data"], ["data"], ⟨1, 1, b49⟩⟩
abbrev d49 : He.DefD := dd 73 "data_text"
/-- single(found) -/
def b50 : Ss := .cons (.ite (.cmp .eq (.var 0) (.lst .nil)) (.cons (.rai 5 (.cons (.cst (.int 0)) (.cons (.cst (.int 0)) .nil))) .nil) .nil) (.cons (.ret (.ix (.var 0) (.cst (.int 0)))) .nil)
def t50 : TD := ⟨"single", ["found"], ["found"], ⟨1, 1, b50⟩⟩
abbrev d50 : He.DefD := dd 74 "single"
/-- read_number(text) -/
def b51 : Ss := .cons (.exp (.call 45 (.cons (.var 0) .nil))) (.cons (.ret (.call 50 (.cons (.call 39 (.cons (.var 0) .nil)) .nil))) .nil)
def t51 : TD := ⟨"read_number", ["text"], ["text"], ⟨1, 1, b51⟩⟩
abbrev d51 : He.DefD := dd 75 "read_number"
/-- read_row(text) -/
def b52 : Ss := .cons (.exp (.call 45 (.cons (.var 0) .nil))) (.cons (.ret (.call 50 (.cons (.call 40 (.cons (.var 0) (.cons (.cst (.str [32])) .nil))) .nil))) .nil)
def t52 : TD := ⟨"read_row", ["text"], ["text"], ⟨1, 1, b52⟩⟩
abbrev d52 : He.DefD := dd 76 "read_row"
/-- read_quotient(text) -/
def b53 : Ss := .cons (.exp (.call 45 (.cons (.var 0) .nil))) (.cons (.ret (.call 50 (.cons (.call 41 (.cons (.var 0) (.cons (.cst (.str [32])) .nil))) .nil))) .nil)
def t53 : TD := ⟨"read_quotient", ["text"], ["text"], ⟨1, 1, b53⟩⟩
abbrev d53 : He.DefD := dd 77 "read_quotient"
/-- read_data(text) -/
def b54 : Ss := .cons (.exp (.call 45 (.cons (.var 0) .nil))) (.cons (.asg (.tup [.nm 1, .nm 2]) (.call 44 (.cons (.var 0) .nil))) (.cons (.ite (.cmp .isnot (.var 1) (.cst .non)) (.cons (.rai 5 (.cons (.ix (.var 1) (.cst (.int 0))) (.cons (.ix (.var 1) (.cst (.int 1))) .nil))) .nil) .nil) (.cons (.ret (.var 2)) .nil)))
def t54 : TD := ⟨"read_data", ["text"], ["text", "wrong", "data"], ⟨1, 3, b54⟩⟩
abbrev d54 : He.DefD := dd 78 "read_data"
/-- _law_well(script, turn) -/
def b55 : Ss := .cons (.asg (.nm 2) (.ite (.cmp .lt (.var 1) (.bi .len (.cons (.var 0) .nil))) (.bi .int (.cons (.ix (.var 0) (.var 1)) .nil)) (.cst (.int 0)))) (.cons (.asg (.nm 3) (.bin .add (.cst (.int 90001)) (.bin .mul (.cst (.int 7211)) (.var 1)))) (.cons (.for (.nm 4) (.seq (.bin .add (.sl (.var 0) .none (.some (.cst (.int 9)))) (.lst (.cons (.var 2) .nil)))) (.cons (.asg (.nm 3) (.bin .mod (.bi .int (.cons (.bin .add (.bin .add (.bin .mul (.var 3) (.cst (.int 69621))) (.bin .mul (.bin .mod (.bi .int (.cons (.var 4) .nil)) (.cst (.int 1000000009))) (.cst (.int 31)))) (.cst (.int 12347))) .nil)) (.cst (.int 2147483629)))) .nil)) (.cons (.ret (.lst (.cons (.ite (.cmp .ge (.bi .abs (.cons (.var 2) .nil)) (.bin .pow (.cst (.int 10)) (.cst (.int 18)))) (.bi .abs (.cons (.var 2) .nil)) (.cst (.int 0))) (.cons (.var 3) (.cons (.cst (.int 0)) .nil))))) .nil)))
def t55 : TD := ⟨"_law_well", ["script", "turn"], ["script", "turn", "own", "stir", "cell"], ⟨2, 5, b55⟩⟩
abbrev d55 : He.DefD := dd 80 "_law_well"
/-- _law_draw(well, many) -/
def b56 : Ss := .cons (.ite (.cmp .gt (.ix (.var 0) (.cst (.int 0))) (.cst (.int 0))) (.cons (.asg (.tup [.sub (.var 0) (.cst (.int 0)), .nm 2]) (.bi .divmod (.cons (.ix (.var 0) (.cst (.int 0))) (.cons (.var 1) .nil)))) (.cons (.ret (.var 2)) .nil)) .nil) (.cons (.asg (.sub (.var 0) (.cst (.int 2))) (.bin .add (.ix (.var 0) (.cst (.int 2))) (.cst (.int 1)))) (.cons (.asg (.sub (.var 0) (.cst (.int 1))) (.bin .mod (.bi .int (.cons (.bin .add (.bin .add (.bin .mul (.ix (.var 0) (.cst (.int 1))) (.cst (.int 48271))) (.bin .mul (.cst (.int 70003)) (.ix (.var 0) (.cst (.int 2))))) (.cst (.int 11))) .nil)) (.cst (.int 2147483629)))) (.cons (.ret (.bin .mod (.bi .int (.cons (.bin .fdiv (.ix (.var 0) (.cst (.int 1))) (.cst (.int 211))) .nil)) (.var 1))) .nil)))
def t56 : TD := ⟨"_law_draw", ["well", "many"], ["well", "many", "digit"], ⟨2, 3, b56⟩⟩
abbrev d56 : He.DefD := dd 81 "_law_draw"
/-- _law_one_of(well, some) -/
def b57 : Ss := .cons (.ret (.ix (.var 1) (.call 56 (.cons (.var 0) (.cons (.bi .len (.cons (.var 1) .nil)) .nil))))) .nil
def t57 : TD := ⟨"_law_one_of", ["well", "some"], ["well", "some"], ⟨2, 2, b57⟩⟩
abbrev d57 : He.DefD := dd 82 "_law_one_of"
/-- _law_near(one, two) -/
def b58 : Ss := .cons (.whl (.cmp .gt (.var 1) (.cst (.int 0))) (.cons (.par [0, 1] (.cons (.var 1) (.cons (.bin .mod (.bi .int (.cons (.var 0) .nil)) (.var 1)) .nil))) .nil)) (.cons (.ret (.var 0)) .nil)
def t58 : TD := ⟨"_law_near", ["one", "two"], ["one", "two"], ⟨2, 2, b58⟩⟩
abbrev d58 : He.DefD := dd 83 "_law_near"
/-- _law_num(a, b, d) -/
def b59 : Ss := .cons (.asg (.nm 3) (.ite (.cmp .gt (.var 2) (.cst (.int 1))) (.call 58 (.cons (.call 58 (.cons (.bi .abs (.cons (.var 0) .nil)) (.cons (.bi .abs (.cons (.var 1) .nil)) .nil))) (.cons (.var 2) .nil))) (.cst (.int 1)))) (.cons (.ret (.tup (.cons (.bin .fdiv (.var 0) (.var 3)) (.cons (.bin .fdiv (.var 1) (.var 3)) (.cons (.bin .fdiv (.var 2) (.var 3)) .nil))))) .nil)
def t59 : TD := ⟨"_law_num", ["a", "b", "d"], ["a", "b", "d", "g"], ⟨3, 4, b59⟩⟩
abbrev d59 : He.DefD := dd 84 "_law_num"
/-- _law_add(x, y) -/
def b60 : Ss := .cons (.ret (.call 59 (.cons (.bin .add (.bin .mul (.ix (.var 0) (.cst (.int 0))) (.ix (.var 1) (.cst (.int 2)))) (.bin .mul (.ix (.var 1) (.cst (.int 0))) (.ix (.var 0) (.cst (.int 2))))) (.cons (.bin .add (.bin .mul (.ix (.var 0) (.cst (.int 1))) (.ix (.var 1) (.cst (.int 2)))) (.bin .mul (.ix (.var 1) (.cst (.int 1))) (.ix (.var 0) (.cst (.int 2))))) (.cons (.bin .mul (.ix (.var 0) (.cst (.int 2))) (.ix (.var 1) (.cst (.int 2)))) .nil))))) .nil
def t60 : TD := ⟨"_law_add", ["x", "y"], ["x", "y"], ⟨2, 2, b60⟩⟩
abbrev d60 : He.DefD := dd 85 "_law_add"
/-- _law_sub(x, y) -/
def b61 : Ss := .cons (.ret (.call 59 (.cons (.bin .sub (.bin .mul (.ix (.var 0) (.cst (.int 0))) (.ix (.var 1) (.cst (.int 2)))) (.bin .mul (.ix (.var 1) (.cst (.int 0))) (.ix (.var 0) (.cst (.int 2))))) (.cons (.bin .sub (.bin .mul (.ix (.var 0) (.cst (.int 1))) (.ix (.var 1) (.cst (.int 2)))) (.bin .mul (.ix (.var 1) (.cst (.int 1))) (.ix (.var 0) (.cst (.int 2))))) (.cons (.bin .mul (.ix (.var 0) (.cst (.int 2))) (.ix (.var 1) (.cst (.int 2)))) .nil))))) .nil
def t61 : TD := ⟨"_law_sub", ["x", "y"], ["x", "y"], ⟨2, 2, b61⟩⟩
abbrev d61 : He.DefD := dd 86 "_law_sub"
/-- _law_mul(x, y) -/
def b62 : Ss := .cons (.ret (.call 59 (.cons (.bin .sub (.bin .mul (.ix (.var 0) (.cst (.int 0))) (.ix (.var 1) (.cst (.int 0)))) (.bin .mul (.ix (.var 0) (.cst (.int 1))) (.ix (.var 1) (.cst (.int 1))))) (.cons (.bin .add (.bin .mul (.ix (.var 0) (.cst (.int 0))) (.ix (.var 1) (.cst (.int 1)))) (.bin .mul (.ix (.var 0) (.cst (.int 1))) (.ix (.var 1) (.cst (.int 0))))) (.cons (.bin .mul (.ix (.var 0) (.cst (.int 2))) (.ix (.var 1) (.cst (.int 2)))) .nil))))) .nil
def t62 : TD := ⟨"_law_mul", ["x", "y"], ["x", "y"], ⟨2, 2, b62⟩⟩
abbrev d62 : He.DefD := dd 87 "_law_mul"
/-- _law_over(x, y) -/
def b63 : Ss := .cons (.ret (.call 59 (.cons (.bin .mul (.bin .add (.bin .mul (.ix (.var 0) (.cst (.int 0))) (.ix (.var 1) (.cst (.int 0)))) (.bin .mul (.ix (.var 0) (.cst (.int 1))) (.ix (.var 1) (.cst (.int 1))))) (.ix (.var 1) (.cst (.int 2)))) (.cons (.bin .mul (.bin .sub (.bin .mul (.ix (.var 0) (.cst (.int 1))) (.ix (.var 1) (.cst (.int 0)))) (.bin .mul (.ix (.var 0) (.cst (.int 0))) (.ix (.var 1) (.cst (.int 1))))) (.ix (.var 1) (.cst (.int 2)))) (.cons (.bin .mul (.ix (.var 0) (.cst (.int 2))) (.bin .add (.bin .mul (.ix (.var 1) (.cst (.int 0))) (.ix (.var 1) (.cst (.int 0)))) (.bin .mul (.ix (.var 1) (.cst (.int 1))) (.ix (.var 1) (.cst (.int 1)))))) .nil))))) .nil
def t63 : TD := ⟨"_law_over", ["x", "y"], ["x", "y"], ⟨2, 2, b63⟩⟩
abbrev d63 : He.DefD := dd 88 "_law_over"
/-- _law_part(n, m) -/
def b64 : Ss := .cons (.asg (.nm 2) (.call 58 (.cons (.bi .abs (.cons (.var 0) .nil)) (.cons (.var 1) .nil)))) (.cons (.ret (.tup (.cons (.bin .fdiv (.var 0) (.var 2)) (.cons (.bin .fdiv (.var 1) (.var 2)) .nil)))) .nil)
def t64 : TD := ⟨"_law_part", ["n", "m"], ["n", "m", "g"], ⟨2, 3, b64⟩⟩
abbrev d64 : He.DefD := dd 89 "_law_part"
/-- _law_out(x) -/
def b65 : Ss := .cons (.ret (.tup (.cons (.call 64 (.cons (.ix (.var 0) (.cst (.int 0))) (.cons (.ix (.var 0) (.cst (.int 2))) .nil))) (.cons (.call 64 (.cons (.ix (.var 0) (.cst (.int 1))) (.cons (.ix (.var 0) (.cst (.int 2))) .nil))) .nil)))) .nil
def t65 : TD := ⟨"_law_out", ["x"], ["x"], ⟨1, 1, b65⟩⟩
abbrev d65 : He.DefD := dd 90 "_law_out"
/-- _law_outs(some) -/
def b66 : Ss := .cons (.ret (.bi .tuple (.cons (.lc [("each", 1)] (.call 65 (.cons (.var 1) .nil)) (.nm 1) (.seq (.var 0)) .none) .nil))) .nil
def t66 : TD := ⟨"_law_outs", ["some"], ["some", "each"], ⟨1, 2, b66⟩⟩
abbrev d66 : He.DefD := dd 91 "_law_outs"
/-- _law_times(one, two) -/
def b67 : Ss := .cons (.asg (.nm 2) (.bin .mul (.lst (.cons (.tup (.cons (.cst (.int 0)) (.cons (.cst (.int 0)) (.cons (.cst (.int 1)) .nil)))) .nil)) (.bi .max (.cons (.cst (.int 0)) (.cons (.bin .sub (.bin .add (.bi .len (.cons (.var 0) .nil)) (.bi .len (.cons (.var 1) .nil))) (.cst (.int 1))) .nil))))) (.cons (.ite (.or (.cmp .eq (.var 0) (.lst .nil)) (.cmp .eq (.var 1) (.lst .nil))) (.cons (.ret (.lst .nil)) .nil) .nil) (.cons (.for (.nm 3) (.rng1 (.bi .len (.cons (.var 0) .nil))) (.cons (.for (.nm 4) (.rng1 (.bi .len (.cons (.var 1) .nil))) (.cons (.asg (.sub (.var 2) (.bin .add (.var 3) (.var 4))) (.call 60 (.cons (.ix (.var 2) (.bin .add (.var 3) (.var 4))) (.cons (.call 62 (.cons (.ix (.var 0) (.var 3)) (.cons (.ix (.var 1) (.var 4)) .nil))) .nil)))) .nil)) .nil)) (.cons (.ret (.var 2)) .nil)))
def t67 : TD := ⟨"_law_times", ["one", "two"], ["one", "two", "found", "k", "j"], ⟨2, 5, b67⟩⟩
abbrev d67 : He.DefD := dd 92 "_law_times"
/-- _law_at(some, spot, many) -/
def b68 : Ss := .cons (.par [3, 4] (.cons (.lst .nil) (.cons (.var 0) .nil))) (.cons (.for (.nm 5) (.rng1 (.var 2)) (.cons (.par [6, 7] (.cons (.tup (.cons (.cst (.int 0)) (.cons (.cst (.int 0)) (.cons (.cst (.int 1)) .nil)))) (.cons (.lst .nil) .nil))) (.cons (.for (.nm 8) (.seq (.rev (.var 4))) (.cons (.asg (.nm 6) (.call 60 (.cons (.call 62 (.cons (.var 6) (.cons (.var 1) .nil))) (.cons (.var 8) .nil)))) (.cons (.exp (.mt .append (.var 7) (.cons (.var 6) .nil))) .nil))) (.cons (.exp (.mt .append (.var 3) (.cons (.var 6) .nil))) (.cons (.asg (.nm 4) (.rev (.sl (.var 7) .none (.some (.neg (.cst (.int 1))))))) .nil))))) (.cons (.ret (.var 3)) .nil))
def t68 : TD := ⟨"_law_at", ["some", "spot", "many"], ["some", "spot", "many", "found", "left", "turn", "sums", "heads", "each"], ⟨3, 9, b68⟩⟩
abbrev d68 : He.DefD := dd 93 "_law_at"
/-- _law_part_text(part) -/
def b69 : Ss := .cons (.ret (.ite (.cmp .eq (.ix (.var 0) (.cst (.int 1))) (.cst (.int 1))) (.bi .str (.cons (.ix (.var 0) (.cst (.int 0))) .nil)) (.bin .add (.bin .add (.bi .str (.cons (.ix (.var 0) (.cst (.int 0))) .nil)) (.cst (.str [47]))) (.bi .str (.cons (.ix (.var 0) (.cst (.int 1))) .nil))))) .nil
def t69 : TD := ⟨"_law_part_text", ["part"], ["part"], ⟨1, 1, b69⟩⟩
abbrev d69 : He.DefD := dd 94 "_law_part_text"
/-- _law_number_text(num) -/
def b70 : Ss := .cons (.ite (.cmp .eq (.ix (.ix (.var 0) (.cst (.int 1))) (.cst (.int 0))) (.cst (.int 0))) (.cons (.ret (.call 69 (.cons (.ix (.var 0) (.cst (.int 0))) .nil))) .nil) .nil) (.cons (.asg (.nm 1) (.ite (.cmp .ne (.ix (.ix (.var 0) (.cst (.int 0))) (.cst (.int 0))) (.cst (.int 0))) (.call 69 (.cons (.ix (.var 0) (.cst (.int 0))) .nil)) (.cst (.str [])))) (.cons (.ret (.bin .add (.bin .add (.bin .add (.var 1) (.ite (.and (.cmp .ne (.var 1) (.cst (.str []))) (.cmp .gt (.ix (.ix (.var 0) (.cst (.int 1))) (.cst (.int 0))) (.cst (.int 0)))) (.cst (.str [43])) (.cst (.str [])))) (.call 69 (.cons (.ix (.var 0) (.cst (.int 1))) .nil))) (.cst (.str [105])))) .nil))
def t70 : TD := ⟨"_law_number_text", ["num"], ["num", "ahead"], ⟨1, 2, b70⟩⟩
abbrev d70 : He.DefD := dd 95 "_law_number_text"
/-- _law_row_text(some) -/
def b71 : Ss := .cons (.ret (.bin .add (.bin .add (.cst (.str [91])) (.mt .join (.cst (.str [32])) (.cons (.lc [("each", 1)] (.call 70 (.cons (.var 1) .nil)) (.nm 1) (.seq (.var 0)) .none) .nil))) (.cst (.str [93])))) .nil
def t71 : TD := ⟨"_law_row_text", ["some"], ["some", "each"], ⟨1, 2, b71⟩⟩
abbrev d71 : He.DefD := dd 96 "_law_row_text"
/-- _law_quotient_text(some) -/
def b72 : Ss := .cons (.ret (.bin .add (.bin .add (.call 71 (.cons (.ix (.var 0) (.cst (.int 0))) .nil)) (.cst (.str [47]))) (.call 71 (.cons (.ix (.var 0) (.cst (.int 1))) .nil)))) .nil
def t72 : TD := ⟨"_law_quotient_text", ["some"], ["some"], ⟨1, 1, b72⟩⟩
abbrev d72 : He.DefD := dd 97 "_law_quotient_text"
/-- _law_data_text(some) -/
def b73 : Ss := .cons (.ret (.mt .join (.cst (.str [])) (.cons (.lc [("each", 1)] (.bin .add (.bin .add (.bin .add (.call 70 (.cons (.ix (.var 1) (.cst (.int 0))) .nil)) (.cst (.str [58, 32]))) (.mt .join (.cst (.str [32])) (.cons (.lc [("one", 2)] (.call 70 (.cons (.var 2) .nil)) (.nm 2) (.seq (.ix (.var 1) (.cst (.int 1)))) .none) .nil))) (.cst (.str [10]))) (.nm 1) (.seq (.var 0)) .none) .nil))) .nil
def t73 : TD := ⟨"_law_data_text", ["some"], ["some", "each", "one"], ⟨1, 3, b73⟩⟩
abbrev d73 : He.DefD := dd 98 "_law_data_text"
/-- _law_great(well, many) -/
def b74 : Ss := .cons (.asg (.nm 2) (.cst (.int 0))) (.cons (.for (.nm 3) (.rng1 (.var 1)) (.cons (.asg (.nm 2) (.bin .add (.bin .add (.bin .mul (.var 2) (.bin .pow (.cst (.int 10)) (.cst (.int 8)))) (.bin .mul (.call 56 (.cons (.var 0) (.cons (.bin .pow (.cst (.int 10)) (.cst (.int 4))) .nil))) (.bin .pow (.cst (.int 10)) (.cst (.int 4))))) (.call 56 (.cons (.var 0) (.cons (.bin .pow (.cst (.int 10)) (.cst (.int 4))) .nil))))) .nil)) (.cons (.ret (.var 2)) .nil))
def t74 : TD := ⟨"_law_great", ["well", "many"], ["well", "many", "found", "turn"], ⟨2, 4, b74⟩⟩
abbrev d74 : He.DefD := dd 99 "_law_great"
/-- _law_piece(well, many) -/
def b75 : Ss := .cons (.asg (.nm 2) (.call 56 (.cons (.var 0) (.cons (.cst (.int 6)) .nil)))) (.cons (.ite (.cmp .eq (.var 2) (.cst (.int 0))) (.cons (.ret (.tup (.cons (.cst (.int 0)) (.cons (.cst (.int 1)) .nil)))) .nil) .nil) (.cons (.ite (.cmp .lt (.var 2) (.cst (.int 3))) (.cons (.ret (.call 64 (.cons (.bin .sub (.call 56 (.cons (.var 0) (.cons (.cst (.int 19)) .nil))) (.cst (.int 9))) (.cons (.bin .add (.cst (.int 1)) (.call 56 (.cons (.var 0) (.cons (.cst (.int 9)) .nil)))) .nil)))) .nil) .nil) (.cons (.ite (.cmp .eq (.var 2) (.cst (.int 3))) (.cons (.ret (.tup (.cons (.bin .sub (.call 56 (.cons (.var 0) (.cons (.cst (.int 199)) .nil))) (.cst (.int 99))) (.cons (.cst (.int 1)) .nil)))) .nil) .nil) (.cons (.asg (.nm 3) (.call 57 (.cons (.var 0) (.cons (.lst (.cons (.cst (.int 1)) (.cons (.bi .min (.cons (.cst (.int 2)) (.cons (.var 1) .nil))) (.cons (.var 1) .nil)))) .nil)))) (.cons (.par [4, 5] (.cons (.call 74 (.cons (.var 0) (.cons (.var 3) .nil))) (.cons (.bi .max (.cons (.cst (.int 1)) (.cons (.ite (.cmp .eq (.var 2) (.cst (.int 4))) (.call 74 (.cons (.var 0) (.cons (.var 3) .nil))) (.cst (.int 1))) .nil))) .nil))) (.cons (.ret (.call 64 (.cons (.ite (.cmp .eq (.call 56 (.cons (.var 0) (.cons (.cst (.int 2)) .nil))) (.cst (.int 0))) (.var 4) (.bin .sub (.cst (.int 0)) (.var 4))) (.cons (.var 5) .nil)))) .nil))))))
def t75 : TD := ⟨"_law_piece", ["well", "many"], ["well", "many", "way", "size", "above", "under"], ⟨2, 6, b75⟩⟩
abbrev d75 : He.DefD := dd 100 "_law_piece"
/-- _law_any(well, many) -/
def b76 : Ss := .cons (.asg (.nm 2) (.call 75 (.cons (.var 0) (.cons (.var 1) .nil)))) (.cons (.ret (.tup (.cons (.var 2) (.cons (.call 75 (.cons (.var 0) (.cons (.var 1) .nil))) .nil)))) .nil)
def t76 : TD := ⟨"_law_any", ["well", "many"], ["well", "many", "one"], ⟨2, 3, b76⟩⟩
abbrev d76 : He.DefD := dd 101 "_law_any"
/-- _law_some(well, most, many) -/
def b77 : Ss := .cons (.par [3, 4] (.cons (.lst .nil) (.cons (.cst (.int 0)) .nil))) (.cons (.for (.nm 5) (.rng1 (.call 56 (.cons (.var 0) (.cons (.bin .add (.var 1) (.cst (.int 1))) .nil)))) (.cons (.exp (.mt .append (.var 3) (.cons (.call 76 (.cons (.var 0) (.cons (.var 2) .nil))) .nil))) (.cons (.asg (.nm 4) (.ite (.cmp .eq (.ix (.var 3) (.neg (.cst (.int 1)))) (.tup (.cons (.tup (.cons (.cst (.int 0)) (.cons (.cst (.int 1)) .nil))) (.cons (.tup (.cons (.cst (.int 0)) (.cons (.cst (.int 1)) .nil))) .nil)))) (.var 4) (.bi .len (.cons (.var 3) .nil)))) .nil))) (.cons (.ret (.bi .tuple (.cons (.sl (.var 3) .none (.some (.var 4))) .nil))) .nil))
def t77 : TD := ⟨"_law_some", ["well", "most", "many"], ["well", "most", "many", "found", "kept", "turn"], ⟨3, 6, b77⟩⟩
abbrev d77 : He.DefD := dd 102 "_law_some"
/-- _law_in(num) -/
def b78 : Ss := .cons (.ret (.call 59 (.cons (.bin .mul (.ix (.ix (.var 0) (.cst (.int 0))) (.cst (.int 0))) (.ix (.ix (.var 0) (.cst (.int 1))) (.cst (.int 1)))) (.cons (.bin .mul (.ix (.ix (.var 0) (.cst (.int 1))) (.cst (.int 0))) (.ix (.ix (.var 0) (.cst (.int 0))) (.cst (.int 1)))) (.cons (.bin .mul (.ix (.ix (.var 0) (.cst (.int 0))) (.cst (.int 1))) (.ix (.ix (.var 0) (.cst (.int 1))) (.cst (.int 1)))) .nil))))) .nil
def t78 : TD := ⟨"_law_in", ["num"], ["num"], ⟨1, 1, b78⟩⟩
abbrev d78 : He.DefD := dd 103 "_law_in"
/-- _law_made(well, many) -/
def b79 : Ss := .cons (.par [2, 3, 4] (.cons (.call 77 (.cons (.var 0) (.cons (.cst (.int 4)) (.cons (.var 1) .nil)))) (.cons (.lst (.cons (.tup (.cons (.cst (.int 1)) (.cons (.cst (.int 0)) (.cons (.cst (.int 1)) .nil)))) .nil)) (.cons (.cst (.int 0)) .nil)))) (.cons (.asg (.nm 5) (.lc [("each", 8)] (.call 78 (.cons (.var 8) .nil)) (.nm 8) (.seq (.var 2)) .none)) (.cons (.for (.nm 6) (.rng1 (.ite (.cmp .lt (.var 1) (.cst (.int 9))) (.call 56 (.cons (.var 0) (.cons (.cst (.int 3)) .nil))) (.cst (.int 0)))) (.cons (.asg (.nm 7) (.call 59 (.cons (.bin .sub (.call 56 (.cons (.var 0) (.cons (.cst (.int 9)) .nil))) (.cst (.int 4))) (.cons (.bin .sub (.call 56 (.cons (.var 0) (.cons (.cst (.int 7)) .nil))) (.cst (.int 3))) (.cons (.bin .add (.cst (.int 1)) (.call 56 (.cons (.var 0) (.cons (.cst (.int 4)) .nil)))) .nil))))) (.cons (.ite (.and (.cmp .ne (.var 7) (.tup (.cons (.cst (.int 0)) (.cons (.cst (.int 0)) (.cons (.cst (.int 1)) .nil))))) (.cmp .ne (.call 68 (.cons (.var 5) (.cons (.call 63 (.cons (.tup (.cons (.cst (.int 1)) (.cons (.cst (.int 0)) (.cons (.cst (.int 1)) .nil)))) (.cons (.var 7) .nil))) (.cons (.cst (.int 1)) .nil)))) (.lst (.cons (.tup (.cons (.cst (.int 0)) (.cons (.cst (.int 0)) (.cons (.cst (.int 1)) .nil)))) .nil)))) (.cons (.asg (.nm 3) (.call 67 (.cons (.var 3) (.cons (.lst (.cons (.tup (.cons (.cst (.int 1)) (.cons (.cst (.int 0)) (.cons (.cst (.int 1)) .nil)))) (.cons (.call 61 (.cons (.tup (.cons (.cst (.int 0)) (.cons (.cst (.int 0)) (.cons (.cst (.int 1)) .nil)))) (.cons (.var 7) .nil))) .nil))) .nil)))) .nil) .nil) .nil))) (.cons (.ret (.tup (.cons (.var 2) (.cons (.call 66 (.cons (.var 3) .nil)) .nil)))) .nil)))
def t79 : TD := ⟨"_law_made", ["well", "many"], ["well", "many", "top", "under", "size", "some", "turn", "c", "each"], ⟨2, 9, b79⟩⟩
abbrev d79 : He.DefD := dd 104 "_law_made"
/-- _law_disc_place(well, found) -/
def b80 : Ss := .cons (.asg (.nm 2) (.call 74 (.cons (.var 0) (.cons (.call 57 (.cons (.var 0) (.cons (.lst (.cons (.cst (.int 1)) (.cons (.cst (.int 1)) (.cons (.cst (.int 2)) (.cons (.cst (.int 45)) .nil))))) .nil))) .nil)))) (.cons (.asg (.nm 3) (.call 64 (.cons (.var 2) (.cons (.bin .add (.bin .add (.var 2) (.cst (.int 1))) (.call 56 (.cons (.var 0) (.cons (.cst (.int 9)) .nil)))) .nil)))) (.cons (.asg (.nm 3) (.ite (.cmp .eq (.call 56 (.cons (.var 0) (.cons (.cst (.int 2)) .nil))) (.cst (.int 0))) (.var 3) (.tup (.cons (.bin .sub (.cst (.int 0)) (.ix (.var 3) (.cst (.int 0)))) (.cons (.ix (.var 3) (.cst (.int 1))) .nil))))) (.cons (.asg (.nm 4) (.ite (.cmp .eq (.call 56 (.cons (.var 0) (.cons (.cst (.int 2)) .nil))) (.cst (.int 0))) (.tup (.cons (.var 3) (.cons (.tup (.cons (.cst (.int 0)) (.cons (.cst (.int 1)) .nil))) .nil))) (.tup (.cons (.tup (.cons (.cst (.int 0)) (.cons (.cst (.int 1)) .nil))) (.cons (.var 3) .nil))))) (.cons (.asg (.nm 5) (.lc [("k", 6)] (.tup (.cons (.tup (.cons (.cst (.int 1)) (.cons (.bin .add (.cst (.int 7)) (.var 6)) .nil))) (.cons (.tup (.cons (.cst (.int 0)) (.cons (.cst (.int 1)) .nil))) .nil))) (.nm 6) (.rng1 (.cst (.int 9))) (.some (.cmp .notin (.tup (.cons (.tup (.cons (.cst (.int 1)) (.cons (.bin .add (.cst (.int 7)) (.var 6)) .nil))) (.cons (.tup (.cons (.cst (.int 0)) (.cons (.cst (.int 1)) .nil))) .nil))) (.var 1))))) (.cons (.ret (.ite (.cmp .notin (.var 4) (.var 1)) (.var 4) (.ix (.var 5) (.cst (.int 0))))) .nil)))))
def t80 : TD := ⟨"_law_disc_place", ["well", "found"], ["well", "found", "under", "part", "spot", "spare", "k"], ⟨2, 7, b80⟩⟩
abbrev d80 : He.DefD := dd 105 "_law_disc_place"
/-- _law_drawn_data(well, many) -/
def b81 : Ss := .cons (.par [2, 3] (.cons (.lst .nil) (.cons (.cst (.int 6)) .nil))) (.cons (.for (.nm 4) (.rng1 (.call 56 (.cons (.var 0) (.cons (.cst (.int 7)) .nil)))) (.cons (.par [5, 6] (.cons (.bi .min (.cons (.var 3) (.cons (.bin .add (.cst (.int 1)) (.call 57 (.cons (.var 0) (.cons (.lst (.cons (.cst (.int 0)) (.cons (.cst (.int 0)) (.cons (.cst (.int 1)) (.cons (.cst (.int 2)) .nil))))) .nil)))) .nil))) (.cons (.lst .nil) .nil))) (.cons (.for (.nm 7) (.rng1 (.var 5)) (.cons (.exp (.mt .append (.var 6) (.cons (.call 76 (.cons (.var 0) (.cons (.var 1) .nil))) .nil))) .nil)) (.cons (.ite (.cmp .gt (.var 5) (.cst (.int 0))) (.cons (.exp (.mt .append (.var 2) (.cons (.tup (.cons (.call 80 (.cons (.var 0) (.cons (.lc [("each", 8)] (.ix (.var 8) (.cst (.int 0))) (.nm 8) (.seq (.var 2)) .none) .nil))) (.cons (.bi .tuple (.cons (.var 6) .nil)) .nil))) .nil))) (.cons (.asg (.nm 3) (.bin .sub (.var 3) (.var 5))) .nil)) .nil) .nil)))) (.cons (.ret (.bi .tuple (.cons (.var 2) .nil))) .nil))
def t81 : TD := ⟨"_law_drawn_data", ["well", "many"], ["well", "many", "found", "room", "turn", "size", "told", "lap", "each"], ⟨2, 9, b81⟩⟩
abbrev d81 : He.DefD := dd 106 "_law_drawn_data"
/-- _law_right(well) -/
def b82 : Ss := .cons (.asg (.nm 1) (.call 57 (.cons (.var 0) (.cons (.lst (.cons (.cst (.int 1)) (.cons (.cst (.int 2)) (.cons (.cst (.int 2)) (.cons (.cst (.int 50)) .nil))))) .nil)))) (.cons (.par [2, 3] (.cons (.call 76 (.cons (.var 0) (.cons (.ite (.cmp .eq (.call 56 (.cons (.var 0) (.cons (.cst (.int 2)) .nil))) (.cst (.int 0))) (.cst (.int 50)) (.cst (.int 1))) .nil))) (.cons (.call 77 (.cons (.var 0) (.cons (.cst (.int 5)) (.cons (.var 1) .nil)))) .nil))) (.cons (.par [4, 5] (.cons (.call 79 (.cons (.var 0) (.cons (.var 1) .nil))) (.cons (.call 81 (.cons (.var 0) (.cons (.var 1) .nil))) .nil))) (.cons (.asg (.nm 6) (.lst (.cons (.call 70 (.cons (.var 2) .nil)) (.cons (.call 71 (.cons (.var 3) .nil)) (.cons (.call 72 (.cons (.var 4) .nil)) (.cons (.call 73 (.cons (.var 5) .nil)) .nil)))))) (.cons (.asg (.nm 7) (.lst (.cons (.call 46 (.cons (.var 2) .nil)) (.cons (.call 47 (.cons (.var 3) .nil)) (.cons (.call 48 (.cons (.var 4) .nil)) (.cons (.call 49 (.cons (.var 5) .nil)) .nil)))))) (.cons (.ite (.cmp .ne (.bi .repr (.cons (.var 7) .nil)) (.bi .repr (.cons (.var 6) .nil))) (.cons (.ret (.cst (.bl false))) .nil) .nil) (.cons (.asg (.nm 7) (.lst (.cons (.call 51 (.cons (.ix (.var 6) (.cst (.int 0))) .nil)) (.cons (.call 52 (.cons (.ix (.var 6) (.cst (.int 1))) .nil)) (.cons (.call 53 (.cons (.ix (.var 6) (.cst (.int 2))) .nil)) (.cons (.call 54 (.cons (.ix (.var 6) (.cst (.int 3))) .nil)) .nil)))))) (.cons (.ite (.cmp .ne (.bi .repr (.cons (.var 7) .nil)) (.bi .repr (.cons (.lst (.cons (.var 2) (.cons (.var 3) (.cons (.var 4) (.cons (.var 5) .nil))))) .nil))) (.cons (.ret (.cst (.bl false))) .nil) .nil) (.cons (.ite (.cmp .gt (.call 56 (.cons (.var 0) (.cons (.cst (.int 3)) .nil))) (.cst (.int 0))) (.cons (.ret (.cst (.bl true))) .nil) .nil) (.cons (.asg (.nm 7) (.lst (.cons (.callk 46 .nil (.cons (.var 2) .nil) [0]) (.cons (.callk 47 .nil (.cons (.var 3) .nil) [0]) (.cons (.callk 48 .nil (.cons (.var 4) .nil) [0]) (.cons (.callk 49 .nil (.cons (.var 5) .nil) [0]) .nil)))))) (.cons (.ite (.cmp .ne (.bi .repr (.cons (.var 7) .nil)) (.bi .repr (.cons (.var 6) .nil))) (.cons (.ret (.cst (.bl false))) .nil) .nil) (.cons (.asg (.nm 7) (.lst (.cons (.callk 51 .nil (.cons (.ix (.var 6) (.cst (.int 0))) .nil) [0]) (.cons (.callk 52 .nil (.cons (.ix (.var 6) (.cst (.int 1))) .nil) [0]) (.cons (.callk 53 .nil (.cons (.ix (.var 6) (.cst (.int 2))) .nil) [0]) (.cons (.callk 54 .nil (.cons (.ix (.var 6) (.cst (.int 3))) .nil) [0]) .nil)))))) (.cons (.ret (.cmp .eq (.bi .repr (.cons (.var 7) .nil)) (.bi .repr (.cons (.lst (.cons (.var 2) (.cons (.var 3) (.cons (.var 4) (.cons (.var 5) .nil))))) .nil)))) .nil))))))))))))
def t82 : TD := ⟨"_law_right", ["well"], ["well", "many", "num", "some", "ratio", "pairs", "texts", "told"], ⟨1, 8, b82⟩⟩
abbrev d82 : He.DefD := dd 107 "_law_right"
/-- law(script) -/
def b83 : Ss := .cons (.ret (.bi .all (.cons (.lc [("turn", 1)] (.call 82 (.cons (.call 55 (.cons (.var 0) (.cons (.var 1) .nil))) .nil)) (.nm 1) (.rng1 (.bi .max (.cons (.cst (.int 3)) (.cons (.bi .min (.cons (.bi .len (.cons (.var 0) .nil)) (.cons (.cst (.int 6)) .nil))) .nil)))) .none) .nil))) .nil
def t83 : TD := ⟨"law", ["script"], ["script", "turn"], ⟨1, 2, b83⟩⟩
abbrev d83 : He.DefD := dd 108 "law"
def ds : List (TD × He.DefD) := [(t0, d0), (t1, d1), (t2, d2), (t3, d3), (t4, d4), (t5, d5), (t6, d6), (t7, d7), (t8, d8), (t9, d9), (t10, d10), (t11, d11), (t12, d12), (t13, d13), (t14, d14), (t15, d15), (t16, d16), (t17, d17), (t18, d18), (t19, d19), (t20, d20), (t21, d21), (t22, d22), (t23, d23), (t24, d24), (t25, d25), (t26, d26), (t27, d27), (t28, d28), (t29, d29), (t30, d30), (t31, d31), (t32, d32), (t33, d33), (t34, d34), (t35, d35), (t36, d36), (t37, d37), (t38, d38), (t39, d39), (t40, d40), (t41, d41), (t42, d42), (t43, d43), (t44, d44), (t45, d45), (t46, d46), (t47, d47), (t48, d48), (t49, d49), (t50, d50), (t51, d51), (t52, d52), (t53, d53), (t54, d54), (t55, d55), (t56, d56), (t57, d57), (t58, d58), (t59, d59), (t60, d60), (t61, d61), (t62, d62), (t63, d63), (t64, d64), (t65, d65), (t66, d66), (t67, d67), (t68, d68), (t69, d69), (t70, d70), (t71, d71), (t72, d72), (t73, d73), (t74, d74), (t75, d75), (t76, d76), (t77, d77), (t78, d78), (t79, d79), (t80, d80), (t81, d81), (t82, d82), (t83, d83)]
abbrev F : List Fd := ds.map fun p => p.1.fd
theorem k0 : TOk T t0 d0 := ⟨by decide +kernel, fun _ _ _ _ _ _ us hl => match us, hl with | [_], _ => rfl⟩
theorem k1 : TOk T t1 d1 := ⟨by decide +kernel, fun _ _ _ _ _ _ us hl => match us, hl with | [_], _ => rfl⟩
theorem k2 : TOk T t2 d2 := ⟨by decide +kernel, fun _ _ _ _ _ _ us hl => match us, hl with | [_], _ => rfl⟩
theorem k3 : TOk T t3 d3 := ⟨by decide +kernel, fun _ _ _ _ _ _ us hl => match us, hl with | [_, _], _ => rfl⟩
theorem k4 : TOk T t4 d4 := ⟨by decide +kernel, fun _ _ _ _ _ _ us hl => match us, hl with | [_, _], _ => rfl⟩
theorem k5 : TOk T t5 d5 := ⟨by decide +kernel, fun _ _ _ _ _ _ us hl => match us, hl with | [_, _], _ => rfl⟩
theorem k6 : TOk T t6 d6 := ⟨by decide +kernel, fun _ _ _ _ _ _ us hl => match us, hl with | [_, _], _ => rfl⟩
theorem k7 : TOk T t7 d7 := ⟨by decide +kernel, fun _ _ _ _ _ _ us hl => match us, hl with | [_, _], _ => rfl⟩
theorem k8 : TOk T t8 d8 := ⟨by decide +kernel, fun _ _ _ _ _ _ us hl => match us, hl with | [_, _], _ => rfl⟩
theorem k9 : TOk T t9 d9 := ⟨by decide +kernel, fun _ _ _ _ _ _ us hl => match us, hl with | [_, _], _ => rfl⟩
theorem k10 : TOk T t10 d10 := ⟨by decide +kernel, fun _ _ _ _ _ _ us hl => match us, hl with | [_], _ => rfl⟩
theorem k11 : TOk T t11 d11 := ⟨by decide +kernel, fun _ _ _ _ _ _ us hl => match us, hl with | [_], _ => rfl⟩
theorem k12 : TOk T t12 d12 := ⟨by decide +kernel, fun _ _ _ _ _ _ us hl => match us, hl with | [_, _], _ => rfl⟩
theorem k13 : TOk T t13 d13 := ⟨by decide +kernel, fun _ _ _ _ _ _ us hl => match us, hl with | [_], _ => rfl⟩
theorem k14 : TOk T t14 d14 := ⟨by decide +kernel, fun _ _ _ _ _ _ us hl => match us, hl with | [_], _ => rfl⟩
theorem k15 : TOk T t15 d15 := ⟨by decide +kernel, fun _ _ _ _ _ _ us hl => match us, hl with | [_], _ => rfl⟩
theorem k16 : TOk T t16 d16 := ⟨by decide +kernel, fun _ _ _ _ _ _ us hl => match us, hl with | [_], _ => rfl⟩
theorem k17 : TOk T t17 d17 := ⟨by decide +kernel, fun _ _ _ _ _ _ us hl => match us, hl with | [_, _], _ => rfl⟩
theorem k18 : TOk T t18 d18 := ⟨by decide +kernel, fun _ _ _ _ _ _ us hl => match us, hl with | [_, _], _ => rfl⟩
theorem k19 : TOk T t19 d19 := ⟨by decide +kernel, fun _ _ _ _ _ _ us hl => match us, hl with | [_], _ => rfl⟩
theorem k20 : TOk T t20 d20 := ⟨by decide +kernel, fun _ _ _ _ _ _ us hl => match us, hl with | [_, _], _ => rfl⟩
theorem k21 : TOk T t21 d21 := ⟨by decide +kernel, fun _ _ _ _ _ _ us hl => match us, hl with | [_], _ => rfl⟩
theorem k22 : TOk T t22 d22 := ⟨by decide +kernel, fun _ _ _ _ _ _ us hl => match us, hl with | [_], _ => rfl⟩
theorem k23 : TOk T t23 d23 := ⟨by decide +kernel, fun _ _ _ _ _ _ us hl => match us, hl with | [_], _ => rfl⟩
theorem k24 : TOk T t24 d24 := ⟨by decide +kernel, fun _ _ _ _ _ _ us hl => match us, hl with | [_], _ => rfl⟩
theorem k25 : TOk T t25 d25 := ⟨by decide +kernel, fun _ _ _ _ _ _ us hl => match us, hl with | [_], _ => rfl⟩
theorem k26 : TOk T t26 d26 := ⟨by decide +kernel, fun _ _ _ _ _ _ us hl => match us, hl with | [_], _ => rfl⟩
theorem k27 : TOk T t27 d27 := ⟨by decide +kernel, fun _ _ _ _ _ _ us hl => match us, hl with | [_], _ => rfl⟩
theorem k28 : TOk T t28 d28 := ⟨by decide +kernel, fun _ _ _ _ _ _ us hl => match us, hl with | [_], _ => rfl⟩
theorem k29 : TOk T t29 d29 := ⟨by decide +kernel, fun _ _ _ _ _ _ us hl => match us, hl with | [_], _ => rfl⟩
theorem k30 : TOk T t30 d30 := ⟨by decide +kernel, fun _ _ _ _ _ _ us hl => match us, hl with | [_], _ => rfl⟩
theorem k31 : TOk T t31 d31 := ⟨by decide +kernel, fun _ _ _ _ _ _ us hl => match us, hl with | [_], _ => rfl⟩
theorem k32 : TOk T t32 d32 := ⟨by decide +kernel, fun _ _ _ _ _ _ us hl => match us, hl with | [_], _ => rfl⟩
theorem k33 : TOk T t33 d33 := ⟨by decide +kernel, fun _ _ _ _ _ _ us hl => match us, hl with | [_], _ => rfl⟩
theorem k34 : TOk T t34 d34 := ⟨by decide +kernel, fun _ _ _ _ _ _ us hl => match us, hl with | [_], _ => rfl⟩
theorem k35 : TOk T t35 d35 := ⟨by decide +kernel, fun _ _ _ _ _ _ us hl => match us, hl with | [_], _ => rfl⟩
theorem k36 : TOk T t36 d36 := ⟨by decide +kernel, fun _ _ _ _ _ _ us hl => match us, hl with | [_], _ => rfl⟩
theorem k37 : TOk T t37 d37 := ⟨by decide +kernel, fun _ _ _ _ _ _ us hl => match us, hl with | [_], _ => rfl⟩
theorem k38 : TOk T t38 d38 := ⟨by decide +kernel, fun _ _ _ _ _ _ us hl => match us, hl with | [_], _ => rfl⟩
theorem k39 : TOk T t39 d39 := ⟨by decide +kernel, fun _ _ _ _ _ _ us hl => match us, hl with | [_], _ => rfl⟩
theorem k40 : TOk T t40 d40 := ⟨by decide +kernel, fun _ _ _ _ _ _ us hl => match us, hl with | [_, _], _ => rfl⟩
theorem k41 : TOk T t41 d41 := ⟨by decide +kernel, fun _ _ _ _ _ _ us hl => match us, hl with | [_, _], _ => rfl⟩
theorem k42 : TOk T t42 d42 := ⟨by decide +kernel, fun _ _ _ _ _ _ us hl => match us, hl with | [_], _ => rfl⟩
theorem k43 : TOk T t43 d43 := ⟨by decide +kernel, fun _ _ _ _ _ _ us hl => match us, hl with | [_, _], _ => rfl⟩
theorem k44 : TOk T t44 d44 := ⟨by decide +kernel, fun _ _ _ _ _ _ us hl => match us, hl with | [_], _ => rfl⟩
theorem k45 : TOk T t45 d45 := ⟨by decide +kernel, fun _ _ _ _ _ _ us hl => match us, hl with | [_], _ => rfl⟩
theorem k46 : TOk T t46 d46 := ⟨by decide +kernel, fun _ _ _ _ _ _ us hl => match us, hl with | [_], _ => rfl⟩
theorem k47 : TOk T t47 d47 := ⟨by decide +kernel, fun _ _ _ _ _ _ us hl => match us, hl with | [_], _ => rfl⟩
theorem k48 : TOk T t48 d48 := ⟨by decide +kernel, fun _ _ _ _ _ _ us hl => match us, hl with | [_], _ => rfl⟩
theorem k49 : TOk T t49 d49 := ⟨by decide +kernel, fun _ _ _ _ _ _ us hl => match us, hl with | [_], _ => rfl⟩
theorem k50 : TOk T t50 d50 := ⟨by decide +kernel, fun _ _ _ _ _ _ us hl => match us, hl with | [_], _ => rfl⟩
theorem k51 : TOk T t51 d51 := ⟨by decide +kernel, fun _ _ _ _ _ _ us hl => match us, hl with | [_], _ => rfl⟩
theorem k52 : TOk T t52 d52 := ⟨by decide +kernel, fun _ _ _ _ _ _ us hl => match us, hl with | [_], _ => rfl⟩
theorem k53 : TOk T t53 d53 := ⟨by decide +kernel, fun _ _ _ _ _ _ us hl => match us, hl with | [_], _ => rfl⟩
theorem k54 : TOk T t54 d54 := ⟨by decide +kernel, fun _ _ _ _ _ _ us hl => match us, hl with | [_], _ => rfl⟩
theorem k55 : TOk T t55 d55 := ⟨by decide +kernel, fun _ _ _ _ _ _ us hl => match us, hl with | [_, _], _ => rfl⟩
theorem k56 : TOk T t56 d56 := ⟨by decide +kernel, fun _ _ _ _ _ _ us hl => match us, hl with | [_, _], _ => rfl⟩
theorem k57 : TOk T t57 d57 := ⟨by decide +kernel, fun _ _ _ _ _ _ us hl => match us, hl with | [_, _], _ => rfl⟩
theorem k58 : TOk T t58 d58 := ⟨by decide +kernel, fun _ _ _ _ _ _ us hl => match us, hl with | [_, _], _ => rfl⟩
theorem k59 : TOk T t59 d59 := ⟨by decide +kernel, fun _ _ _ _ _ _ us hl => match us, hl with | [_, _, _], _ => rfl⟩
theorem k60 : TOk T t60 d60 := ⟨by decide +kernel, fun _ _ _ _ _ _ us hl => match us, hl with | [_, _], _ => rfl⟩
theorem k61 : TOk T t61 d61 := ⟨by decide +kernel, fun _ _ _ _ _ _ us hl => match us, hl with | [_, _], _ => rfl⟩
theorem k62 : TOk T t62 d62 := ⟨by decide +kernel, fun _ _ _ _ _ _ us hl => match us, hl with | [_, _], _ => rfl⟩
theorem k63 : TOk T t63 d63 := ⟨by decide +kernel, fun _ _ _ _ _ _ us hl => match us, hl with | [_, _], _ => rfl⟩
theorem k64 : TOk T t64 d64 := ⟨by decide +kernel, fun _ _ _ _ _ _ us hl => match us, hl with | [_, _], _ => rfl⟩
theorem k65 : TOk T t65 d65 := ⟨by decide +kernel, fun _ _ _ _ _ _ us hl => match us, hl with | [_], _ => rfl⟩
theorem k66 : TOk T t66 d66 := ⟨by decide +kernel, fun _ _ _ _ _ _ us hl => match us, hl with | [_], _ => rfl⟩
theorem k67 : TOk T t67 d67 := ⟨by decide +kernel, fun _ _ _ _ _ _ us hl => match us, hl with | [_, _], _ => rfl⟩
theorem k68 : TOk T t68 d68 := ⟨by decide +kernel, fun _ _ _ _ _ _ us hl => match us, hl with | [_, _, _], _ => rfl⟩
theorem k69 : TOk T t69 d69 := ⟨by decide +kernel, fun _ _ _ _ _ _ us hl => match us, hl with | [_], _ => rfl⟩
theorem k70 : TOk T t70 d70 := ⟨by decide +kernel, fun _ _ _ _ _ _ us hl => match us, hl with | [_], _ => rfl⟩
theorem k71 : TOk T t71 d71 := ⟨by decide +kernel, fun _ _ _ _ _ _ us hl => match us, hl with | [_], _ => rfl⟩
theorem k72 : TOk T t72 d72 := ⟨by decide +kernel, fun _ _ _ _ _ _ us hl => match us, hl with | [_], _ => rfl⟩
theorem k73 : TOk T t73 d73 := ⟨by decide +kernel, fun _ _ _ _ _ _ us hl => match us, hl with | [_], _ => rfl⟩
theorem k74 : TOk T t74 d74 := ⟨by decide +kernel, fun _ _ _ _ _ _ us hl => match us, hl with | [_, _], _ => rfl⟩
theorem k75 : TOk T t75 d75 := ⟨by decide +kernel, fun _ _ _ _ _ _ us hl => match us, hl with | [_, _], _ => rfl⟩
theorem k76 : TOk T t76 d76 := ⟨by decide +kernel, fun _ _ _ _ _ _ us hl => match us, hl with | [_, _], _ => rfl⟩
theorem k77 : TOk T t77 d77 := ⟨by decide +kernel, fun _ _ _ _ _ _ us hl => match us, hl with | [_, _, _], _ => rfl⟩
theorem k78 : TOk T t78 d78 := ⟨by decide +kernel, fun _ _ _ _ _ _ us hl => match us, hl with | [_], _ => rfl⟩
theorem k79 : TOk T t79 d79 := ⟨by decide +kernel, fun _ _ _ _ _ _ us hl => match us, hl with | [_, _], _ => rfl⟩
theorem k80 : TOk T t80 d80 := ⟨by decide +kernel, fun _ _ _ _ _ _ us hl => match us, hl with | [_, _], _ => rfl⟩
theorem k81 : TOk T t81 d81 := ⟨by decide +kernel, fun _ _ _ _ _ _ us hl => match us, hl with | [_, _], _ => rfl⟩
theorem k82 : TOk T t82 d82 := ⟨by decide +kernel, fun _ _ _ _ _ _ us hl => match us, hl with | [_], _ => rfl⟩
theorem k83 : TOk T t83 d83 := ⟨by decide +kernel, fun _ _ _ _ _ _ us hl => match us, hl with | [_], _ => rfl⟩
theorem ok : ∀ (i : Nat) (p : TD × He.DefD), ds[i]? = some p → TOk T p.1 p.2
  | 0, _, h => by cases h; exact k0
  | 1, _, h => by cases h; exact k1
  | 2, _, h => by cases h; exact k2
  | 3, _, h => by cases h; exact k3
  | 4, _, h => by cases h; exact k4
  | 5, _, h => by cases h; exact k5
  | 6, _, h => by cases h; exact k6
  | 7, _, h => by cases h; exact k7
  | 8, _, h => by cases h; exact k8
  | 9, _, h => by cases h; exact k9
  | 10, _, h => by cases h; exact k10
  | 11, _, h => by cases h; exact k11
  | 12, _, h => by cases h; exact k12
  | 13, _, h => by cases h; exact k13
  | 14, _, h => by cases h; exact k14
  | 15, _, h => by cases h; exact k15
  | 16, _, h => by cases h; exact k16
  | 17, _, h => by cases h; exact k17
  | 18, _, h => by cases h; exact k18
  | 19, _, h => by cases h; exact k19
  | 20, _, h => by cases h; exact k20
  | 21, _, h => by cases h; exact k21
  | 22, _, h => by cases h; exact k22
  | 23, _, h => by cases h; exact k23
  | 24, _, h => by cases h; exact k24
  | 25, _, h => by cases h; exact k25
  | 26, _, h => by cases h; exact k26
  | 27, _, h => by cases h; exact k27
  | 28, _, h => by cases h; exact k28
  | 29, _, h => by cases h; exact k29
  | 30, _, h => by cases h; exact k30
  | 31, _, h => by cases h; exact k31
  | 32, _, h => by cases h; exact k32
  | 33, _, h => by cases h; exact k33
  | 34, _, h => by cases h; exact k34
  | 35, _, h => by cases h; exact k35
  | 36, _, h => by cases h; exact k36
  | 37, _, h => by cases h; exact k37
  | 38, _, h => by cases h; exact k38
  | 39, _, h => by cases h; exact k39
  | 40, _, h => by cases h; exact k40
  | 41, _, h => by cases h; exact k41
  | 42, _, h => by cases h; exact k42
  | 43, _, h => by cases h; exact k43
  | 44, _, h => by cases h; exact k44
  | 45, _, h => by cases h; exact k45
  | 46, _, h => by cases h; exact k46
  | 47, _, h => by cases h; exact k47
  | 48, _, h => by cases h; exact k48
  | 49, _, h => by cases h; exact k49
  | 50, _, h => by cases h; exact k50
  | 51, _, h => by cases h; exact k51
  | 52, _, h => by cases h; exact k52
  | 53, _, h => by cases h; exact k53
  | 54, _, h => by cases h; exact k54
  | 55, _, h => by cases h; exact k55
  | 56, _, h => by cases h; exact k56
  | 57, _, h => by cases h; exact k57
  | 58, _, h => by cases h; exact k58
  | 59, _, h => by cases h; exact k59
  | 60, _, h => by cases h; exact k60
  | 61, _, h => by cases h; exact k61
  | 62, _, h => by cases h; exact k62
  | 63, _, h => by cases h; exact k63
  | 64, _, h => by cases h; exact k64
  | 65, _, h => by cases h; exact k65
  | 66, _, h => by cases h; exact k66
  | 67, _, h => by cases h; exact k67
  | 68, _, h => by cases h; exact k68
  | 69, _, h => by cases h; exact k69
  | 70, _, h => by cases h; exact k70
  | 71, _, h => by cases h; exact k71
  | 72, _, h => by cases h; exact k72
  | 73, _, h => by cases h; exact k73
  | 74, _, h => by cases h; exact k74
  | 75, _, h => by cases h; exact k75
  | 76, _, h => by cases h; exact k76
  | 77, _, h => by cases h; exact k77
  | 78, _, h => by cases h; exact k78
  | 79, _, h => by cases h; exact k79
  | 80, _, h => by cases h; exact k80
  | 81, _, h => by cases h; exact k81
  | 82, _, h => by cases h; exact k82
  | 83, _, h => by cases h; exact k83
  | n + 84, _, h => by cases h
end Tx
end
section
set_option Elab.async false
set_option linter.all false
set_option maxRecDepth 100000
set_option maxHeartbeats 0
namespace Tx
open PySem PySem.Spec PyProof.Rows L2 Ev
def ins : List He.DefD := [i1, i2, i3, i4, i5]
theorem hat : ∀ (i : Nat) (p : TD × He.DefD), ds[i]? = some p → p.2.at_ = (p.1.name, none) ∧ p.2.dfl = [] ∧ p.2.kwd = []
  | 0, _, h => by cases h; exact ⟨rfl, rfl, rfl⟩
  | 1, _, h => by cases h; exact ⟨rfl, rfl, rfl⟩
  | 2, _, h => by cases h; exact ⟨rfl, rfl, rfl⟩
  | 3, _, h => by cases h; exact ⟨rfl, rfl, rfl⟩
  | 4, _, h => by cases h; exact ⟨rfl, rfl, rfl⟩
  | 5, _, h => by cases h; exact ⟨rfl, rfl, rfl⟩
  | 6, _, h => by cases h; exact ⟨rfl, rfl, rfl⟩
  | 7, _, h => by cases h; exact ⟨rfl, rfl, rfl⟩
  | 8, _, h => by cases h; exact ⟨rfl, rfl, rfl⟩
  | 9, _, h => by cases h; exact ⟨rfl, rfl, rfl⟩
  | 10, _, h => by cases h; exact ⟨rfl, rfl, rfl⟩
  | 11, _, h => by cases h; exact ⟨rfl, rfl, rfl⟩
  | 12, _, h => by cases h; exact ⟨rfl, rfl, rfl⟩
  | 13, _, h => by cases h; exact ⟨rfl, rfl, rfl⟩
  | 14, _, h => by cases h; exact ⟨rfl, rfl, rfl⟩
  | 15, _, h => by cases h; exact ⟨rfl, rfl, rfl⟩
  | 16, _, h => by cases h; exact ⟨rfl, rfl, rfl⟩
  | 17, _, h => by cases h; exact ⟨rfl, rfl, rfl⟩
  | 18, _, h => by cases h; exact ⟨rfl, rfl, rfl⟩
  | 19, _, h => by cases h; exact ⟨rfl, rfl, rfl⟩
  | 20, _, h => by cases h; exact ⟨rfl, rfl, rfl⟩
  | 21, _, h => by cases h; exact ⟨rfl, rfl, rfl⟩
  | 22, _, h => by cases h; exact ⟨rfl, rfl, rfl⟩
  | 23, _, h => by cases h; exact ⟨rfl, rfl, rfl⟩
  | 24, _, h => by cases h; exact ⟨rfl, rfl, rfl⟩
  | 25, _, h => by cases h; exact ⟨rfl, rfl, rfl⟩
  | 26, _, h => by cases h; exact ⟨rfl, rfl, rfl⟩
  | 27, _, h => by cases h; exact ⟨rfl, rfl, rfl⟩
  | 28, _, h => by cases h; exact ⟨rfl, rfl, rfl⟩
  | 29, _, h => by cases h; exact ⟨rfl, rfl, rfl⟩
  | 30, _, h => by cases h; exact ⟨rfl, rfl, rfl⟩
  | 31, _, h => by cases h; exact ⟨rfl, rfl, rfl⟩
  | 32, _, h => by cases h; exact ⟨rfl, rfl, rfl⟩
  | 33, _, h => by cases h; exact ⟨rfl, rfl, rfl⟩
  | 34, _, h => by cases h; exact ⟨rfl, rfl, rfl⟩
  | 35, _, h => by cases h; exact ⟨rfl, rfl, rfl⟩
  | 36, _, h => by cases h; exact ⟨rfl, rfl, rfl⟩
  | 37, _, h => by cases h; exact ⟨rfl, rfl, rfl⟩
  | 38, _, h => by cases h; exact ⟨rfl, rfl, rfl⟩
  | 39, _, h => by cases h; exact ⟨rfl, rfl, rfl⟩
  | 40, _, h => by cases h; exact ⟨rfl, rfl, rfl⟩
  | 41, _, h => by cases h; exact ⟨rfl, rfl, rfl⟩
  | 42, _, h => by cases h; exact ⟨rfl, rfl, rfl⟩
  | 43, _, h => by cases h; exact ⟨rfl, rfl, rfl⟩
  | 44, _, h => by cases h; exact ⟨rfl, rfl, rfl⟩
  | 45, _, h => by cases h; exact ⟨rfl, rfl, rfl⟩
  | 46, _, h => by cases h; exact ⟨rfl, rfl, rfl⟩
  | 47, _, h => by cases h; exact ⟨rfl, rfl, rfl⟩
  | 48, _, h => by cases h; exact ⟨rfl, rfl, rfl⟩
  | 49, _, h => by cases h; exact ⟨rfl, rfl, rfl⟩
  | 50, _, h => by cases h; exact ⟨rfl, rfl, rfl⟩
  | 51, _, h => by cases h; exact ⟨rfl, rfl, rfl⟩
  | 52, _, h => by cases h; exact ⟨rfl, rfl, rfl⟩
  | 53, _, h => by cases h; exact ⟨rfl, rfl, rfl⟩
  | 54, _, h => by cases h; exact ⟨rfl, rfl, rfl⟩
  | 55, _, h => by cases h; exact ⟨rfl, rfl, rfl⟩
  | 56, _, h => by cases h; exact ⟨rfl, rfl, rfl⟩
  | 57, _, h => by cases h; exact ⟨rfl, rfl, rfl⟩
  | 58, _, h => by cases h; exact ⟨rfl, rfl, rfl⟩
  | 59, _, h => by cases h; exact ⟨rfl, rfl, rfl⟩
  | 60, _, h => by cases h; exact ⟨rfl, rfl, rfl⟩
  | 61, _, h => by cases h; exact ⟨rfl, rfl, rfl⟩
  | 62, _, h => by cases h; exact ⟨rfl, rfl, rfl⟩
  | 63, _, h => by cases h; exact ⟨rfl, rfl, rfl⟩
  | 64, _, h => by cases h; exact ⟨rfl, rfl, rfl⟩
  | 65, _, h => by cases h; exact ⟨rfl, rfl, rfl⟩
  | 66, _, h => by cases h; exact ⟨rfl, rfl, rfl⟩
  | 67, _, h => by cases h; exact ⟨rfl, rfl, rfl⟩
  | 68, _, h => by cases h; exact ⟨rfl, rfl, rfl⟩
  | 69, _, h => by cases h; exact ⟨rfl, rfl, rfl⟩
  | 70, _, h => by cases h; exact ⟨rfl, rfl, rfl⟩
  | 71, _, h => by cases h; exact ⟨rfl, rfl, rfl⟩
  | 72, _, h => by cases h; exact ⟨rfl, rfl, rfl⟩
  | 73, _, h => by cases h; exact ⟨rfl, rfl, rfl⟩
  | 74, _, h => by cases h; exact ⟨rfl, rfl, rfl⟩
  | 75, _, h => by cases h; exact ⟨rfl, rfl, rfl⟩
  | 76, _, h => by cases h; exact ⟨rfl, rfl, rfl⟩
  | 77, _, h => by cases h; exact ⟨rfl, rfl, rfl⟩
  | 78, _, h => by cases h; exact ⟨rfl, rfl, rfl⟩
  | 79, _, h => by cases h; exact ⟨rfl, rfl, rfl⟩
  | 80, _, h => by cases h; exact ⟨rfl, rfl, rfl⟩
  | 81, _, h => by cases h; exact ⟨rfl, rfl, rfl⟩
  | 82, _, h => by cases h; exact ⟨rfl, rfl, rfl⟩
  | 83, _, h => by cases h; exact ⟨rfl, rfl, rfl⟩
  | n + 84, _, h => by cases h
theorem kw0 : ∀ (kV doc pm' : Value) (an : Option Addr) (cdv ct : Value) (us ws : List Value), us.length = 0 → ws.length = 1 → bindArgs (PySem.W.fnOf d54.name d54.qual d54.params d54.body d54.scope .none kV doc pm' an cdv ct) ⟨us, (["text"] : List Str).zip ws⟩ = pure (t54.ps.zip (([0] : List Nat).filterMap fun j => (us ++ ws)[j]?)) := fun _ _ _ _ _ _ us ws h1 h2 => match us, ws, h1, h2 with | [], [_], _, _ => rfl
theorem kw1 : ∀ (kV doc pm' : Value) (an : Option Addr) (cdv ct : Value) (us ws : List Value), us.length = 0 → ws.length = 1 → bindArgs (PySem.W.fnOf d53.name d53.qual d53.params d53.body d53.scope .none kV doc pm' an cdv ct) ⟨us, (["text"] : List Str).zip ws⟩ = pure (t53.ps.zip (([0] : List Nat).filterMap fun j => (us ++ ws)[j]?)) := fun _ _ _ _ _ _ us ws h1 h2 => match us, ws, h1, h2 with | [], [_], _, _ => rfl
theorem kw2 : ∀ (kV doc pm' : Value) (an : Option Addr) (cdv ct : Value) (us ws : List Value), us.length = 0 → ws.length = 1 → bindArgs (PySem.W.fnOf d52.name d52.qual d52.params d52.body d52.scope .none kV doc pm' an cdv ct) ⟨us, (["text"] : List Str).zip ws⟩ = pure (t52.ps.zip (([0] : List Nat).filterMap fun j => (us ++ ws)[j]?)) := fun _ _ _ _ _ _ us ws h1 h2 => match us, ws, h1, h2 with | [], [_], _, _ => rfl
theorem kw3 : ∀ (kV doc pm' : Value) (an : Option Addr) (cdv ct : Value) (us ws : List Value), us.length = 0 → ws.length = 1 → bindArgs (PySem.W.fnOf d51.name d51.qual d51.params d51.body d51.scope .none kV doc pm' an cdv ct) ⟨us, (["text"] : List Str).zip ws⟩ = pure (t51.ps.zip (([0] : List Nat).filterMap fun j => (us ++ ws)[j]?)) := fun _ _ _ _ _ _ us ws h1 h2 => match us, ws, h1, h2 with | [], [_], _, _ => rfl
theorem kw4 : ∀ (kV doc pm' : Value) (an : Option Addr) (cdv ct : Value) (us ws : List Value), us.length = 0 → ws.length = 1 → bindArgs (PySem.W.fnOf d49.name d49.qual d49.params d49.body d49.scope .none kV doc pm' an cdv ct) ⟨us, (["data"] : List Str).zip ws⟩ = pure (t49.ps.zip (([0] : List Nat).filterMap fun j => (us ++ ws)[j]?)) := fun _ _ _ _ _ _ us ws h1 h2 => match us, ws, h1, h2 with | [], [_], _, _ => rfl
theorem kw5 : ∀ (kV doc pm' : Value) (an : Option Addr) (cdv ct : Value) (us ws : List Value), us.length = 0 → ws.length = 1 → bindArgs (PySem.W.fnOf d48.name d48.qual d48.params d48.body d48.scope .none kV doc pm' an cdv ct) ⟨us, (["quotient"] : List Str).zip ws⟩ = pure (t48.ps.zip (([0] : List Nat).filterMap fun j => (us ++ ws)[j]?)) := fun _ _ _ _ _ _ us ws h1 h2 => match us, ws, h1, h2 with | [], [_], _, _ => rfl
theorem kw6 : ∀ (kV doc pm' : Value) (an : Option Addr) (cdv ct : Value) (us ws : List Value), us.length = 0 → ws.length = 1 → bindArgs (PySem.W.fnOf d47.name d47.qual d47.params d47.body d47.scope .none kV doc pm' an cdv ct) ⟨us, (["row"] : List Str).zip ws⟩ = pure (t47.ps.zip (([0] : List Nat).filterMap fun j => (us ++ ws)[j]?)) := fun _ _ _ _ _ _ us ws h1 h2 => match us, ws, h1, h2 with | [], [_], _, _ => rfl
theorem kw7 : ∀ (kV doc pm' : Value) (an : Option Addr) (cdv ct : Value) (us ws : List Value), us.length = 0 → ws.length = 1 → bindArgs (PySem.W.fnOf d46.name d46.qual d46.params d46.body d46.scope .none kV doc pm' an cdv ct) ⟨us, (["number"] : List Str).zip ws⟩ = pure (t46.ps.zip (([0] : List Nat).filterMap fun j => (us ++ ws)[j]?)) := fun _ _ _ _ _ _ us ws h1 h2 => match us, ws, h1, h2 with | [], [_], _, _ => rfl
theorem hkw : ∀ (i : Nat) (p : TD × He.DefD) (m : Nat) (ks : List Str) (pm : List Nat), ds[i]? = some p → (i, m, ks, pm) ∈ T.kws → ∀ (kV doc pm' : Value) (an : Option Addr) (cdv ct : Value) (us ws : List Value), us.length = m → ws.length = ks.length → bindArgs (PySem.W.fnOf p.2.name p.2.qual p.2.params p.2.body p.2.scope .none kV doc pm' an cdv ct) ⟨us, ks.zip ws⟩ = pure (p.1.ps.zip (pm.filterMap fun j => (us ++ ws)[j]?)) := by
  intro i p m ks pm hp hm
  replace hm : (i, m, ks, pm) ∈ ([(54, 0, ["text"], [0]), (53, 0, ["text"], [0]), (52, 0, ["text"], [0]), (51, 0, ["text"], [0]), (49, 0, ["data"], [0]), (48, 0, ["quotient"], [0]), (47, 0, ["row"], [0]), (46, 0, ["number"], [0])] : List (Nat × Nat × List Str × List Nat)) := hm
  simp only [List.mem_cons, List.not_mem_nil, or_false, Prod.mk.injEq] at hm
  rcases hm with ⟨rfl, rfl, rfl, rfl⟩ | ⟨rfl, rfl, rfl, rfl⟩ | ⟨rfl, rfl, rfl, rfl⟩ | ⟨rfl, rfl, rfl, rfl⟩ | ⟨rfl, rfl, rfl, rfl⟩ | ⟨rfl, rfl, rfl, rfl⟩ | ⟨rfl, rfl, rfl, rfl⟩ | ⟨rfl, rfl, rfl, rfl⟩
  · cases hp; exact kw0
  · cases hp; exact kw1
  · cases hp; exact kw2
  · cases hp; exact kw3
  · cases hp; exact kw4
  · cases hp; exact kw5
  · cases hp; exact kw6
  · cases hp; exact kw7
theorem hini : ∀ (c : Nat) (x : Str) (k : Cls), T.ecs[c]? = some (x, k) → k.fs ≠ [] → ∃ (j : Nat) (d : He.DefD), ins[j]? = some d ∧ IniOk x k d ∧ d.dfl = [] ∧ d.kwd = []
  | 0, _, _, h, hne => by cases h; exact absurd rfl hne
  | 1, _, _, h, _ => by cases h; exact ⟨0, i1, rfl, ini1, rfl, rfl⟩
  | 2, _, _, h, _ => by cases h; exact ⟨1, i2, rfl, ini2, rfl, rfl⟩
  | 3, _, _, h, _ => by cases h; exact ⟨2, i3, rfl, ini3, rfl, rfl⟩
  | 4, _, _, h, _ => by cases h; exact ⟨3, i4, rfl, ini4, rfl, rfl⟩
  | 5, _, _, h, _ => by cases h; exact ⟨4, i5, rfl, ini5, rfl, rfl⟩
  | n + 6, _, _, h, _ => by cases h
abbrev R : PySem.W.OpenRow := PySem.W.OpenLaw.row PySem.Challenge.rw_rimseries_k80_texts_there_and_back
abbrev hk : PySem.W.Hook := hookE T 4 (faOf ds) (fnsOf ds ins) (T.cns.zip cs)
def ob (s : PySem.W.SharedT) : He.AlD × Bool := obE T 4 (faOf ds) (fnsOf ds ins) (T.cns.zip cs) (HandSHeadRun.getT s)
theorem ob_eq (s : PySem.W.SharedT) : ob s = hk.obs s.abs := obE_eq (HandSHeadRun.getT_eq s)
def loose0 : List Str := ["__name__", "FRAC_NOUGHT", "FRAC_ONE", "NOUGHT", "ONE", "is_whole", "is_frac", "is_num", "frac_reduced", "frac_less", "frac_product", "frac_over", "num_less", "num_product", "num_scaled", "num_mirrored", "num_size", "num_over", "num_is_within", "is_place", "is_a_row", "row_trimmed", "row_scaled", "row_rest", "row_last_one", "row_divisor", "is_a_quote", "MOST_PLACES", "MOST_AT_ONE", "MOST_VALUES"]
def loose1 : List Str := ["is_pair", "count_values", "wrong_in_data", "places_of", "RimError", "InvalidNumber", "InvalidRow", "InvalidQuotient", "InvalidData", "InvalidText", "check_data", "check_value", "check_quote", "FIGURES", "MOST_FIGURES", "fraction_text", "number_written", "numbers_written", "row_written", "quote_written", "pair_written", "data_written", "whole_in", "fraction_in", "split_at", "number_in", "row_in", "quote_in", "place_in", "wrong_word"]
def loose2 : List Str := ["data_in", "check_text", "number_text", "row_text", "quotient_text", "data_text", "single", "read_number", "read_row", "read_quotient", "read_data", "_law_well", "_law_draw", "_law_one_of", "_law_near", "_law_num", "_law_add", "_law_sub", "_law_mul", "_law_over", "_law_part", "_law_out", "_law_outs", "_law_times", "_law_at", "_law_part_text", "_law_number_text", "_law_row_text", "_law_quotient_text", "_law_data_text"]
def loose3 : List Str := ["_law_great", "_law_piece", "_law_any", "_law_some", "_law_in", "_law_made", "_law_disc_place", "_law_drawn_data", "_law_right"]
def loose : List Str := loose0 ++ loose1 ++ loose2 ++ loose3
open HandSHeadRun PySem.W in
theorem run1 (w : World) : (wholeF (fun p => stepQ (denQ tabQ) p w) fenceQ 20000 R.prog).map (fun x => (looksF R.prog x.1.heap x.2.abs, seenQ (PySem.W.view R.prog [0, 108]) loose (importedModules R.prog.main.body) (fun s => xlAt (PySem.W.view R.prog [0, 108]) [] s && recOk R.toRowW.records s) x.2.abs)) = some (true, openGood (PySem.W.view R.prog [0, 108]) loose) := by
  kernel_rfl
open HandSHeadRun PySem.W in
theorem run2 (w : World) : (wholeF (fun p => stepQ (denQ tabQ) p w) fenceQ 20000 R.prog).map (fun x => ob x.2) = some (hk.val w) := by
  kernel_rfl
theorem run (w : World) : HandSHeadRun.RunEqI R (PySem.W.view R.prog [0, 108]) hk ob 20000 loose w := map_pair (run1 w) (run2 w)
end Tx
end
section
set_option Elab.async false
set_option linter.all false
set_option maxRecDepth 100000
set_option maxHeartbeats 4000000
set_option autoImplicit false
/-! Ev18: operations on plain data. -/
namespace Ev
open PySem

mutual
/-- how deep a datum without places is -/
def dpt : D → Nat
  | .tup xs => dptL xs + 1
  | .fl xs => dptL xs + 1
  | _ => 0
def dptL : List D → Nat
  | [] => 0
  | x :: r => max (dpt x) (dptL r)
end
mutual
/-- a datum without places or truths, its texts' signs within Unicode -/
def pl : D → Bool
  | .non => true
  | .int _ => true
  | .str l => l.all (· < 0x110000)
  | .tup xs => plL xs
  | _ => false
def plL : List D → Bool
  | [] => true
  | x :: r => pl x && plL r
end
mutual
def pd : D → PyData
  | .non => .none
  | .bl b => .bool b
  | .int i => .int i
  | .str l => .str ⟨l.toArray⟩
  | .tup xs => .tuple (pdL xs)
  | .fl xs => .list (pdL xs)
  | .ref _ => .none
def pdL : List D → List PyData
  | [] => []
  | x :: r => pd x :: pdL r
end
mutual
theorem toP_pl (S : Sto) : ∀ (d : D) (n : Nat), pl d = true → dpt d < n → toP S n d = some (pd d)
  | .non, n + 1, _, _ => rfl
  | .int i, n + 1, _, _ => rfl
  | .str l, n + 1, _, _ => rfl
  | .tup xs, n + 1, h, hd => by
    have h' : plL xs = true := h
    have hd' : dptL xs + 1 < n + 1 := hd
    show (mapO (toP S n) xs).map PyData.tuple = _
    rw [toPL_pl S xs n h' (by omega)]
    rfl
  | .non, 0, _, h => absurd h (by omega)
  | .int _, 0, _, h => absurd h (by omega)
  | .str _, 0, _, h => absurd h (by omega)
  | .tup _, 0, _, h => absurd h (by omega)
  | .bl _, _, h, _ => by cases h
  | .ref _, _, h, _ => by cases h
  | .fl _, _, h, _ => by cases h
theorem toPL_pl (S : Sto) : ∀ (xs : List D) (n : Nat), plL xs = true → dptL xs < n → mapO (toP S n) xs = some (pdL xs)
  | [], n, _, _ => rfl
  | x :: r, n, h, hd => by
    obtain ⟨h1, h2⟩ := Bool.and_eq_true_iff.mp (show (pl x && plL r) = true from h)
    have hd' : max (dpt x) (dptL r) < n := hd
    unfold mapO
    rw [toP_pl S x n h1 (by omega), toPL_pl S r n h2 (by omega)]
    rfl
end
mutual
theorem lay_pl : ∀ d : D, pl d = true → (pd d).canLay0 = true
  | .non, _ => rfl
  | .int _, _ => rfl
  | .str l, h => by
    have h' : l.all (· < 0x110000) = true := h
    show ((⟨l.toArray⟩ : Str).cps.all (· < 0x110000)) = true
    simpa using h'
  | .tup xs, h => by
    show PyData.canLayAll0 (pdL xs) = true
    exact layL_pl xs h
  | .bl _, h => by cases h
  | .ref _, h => by cases h
  | .fl _, h => by cases h
theorem layL_pl : ∀ xs : List D, plL xs = true → PyData.canLayAll0 (pdL xs) = true
  | [], _ => rfl
  | x :: r, h => by
    obtain ⟨h1, h2⟩ := Bool.and_eq_true_iff.mp (show (pl x && plL r) = true from h)
    show (PyData.canLay0 (pd x) && PyData.canLayAll0 (pdL r)) = true
    rw [lay_pl x h1, layL_pl r h2]
    rfl
end
mutual
/-- == is being the same -/
theorem eqv_pl : ∀ a b : D, pl a = true → pl b = true → (PyData.eqv (pd a) (pd b) = true ↔ a = b)
  | .non, b, _, h => by cases b <;> first | (cases h; done) | simp [pd, PyData.eqv]
  | .int i, b, _, h => by cases b <;> first | (cases h; done) | simp [pd, PyData.eqv]
  | .str l, b, _, h => by cases b <;> first | (cases h; done) | simp [pd, PyData.eqv]
  | .tup xs, b, h1, h => by
    cases b with
    | tup ys =>
      have := eqvL_pl xs ys h1 h
      simp [pd, PyData.eqv, this]
    | bl _ => cases h
    | ref _ => cases h
    | fl _ => cases h
    | _ => simp [pd, PyData.eqv]
  | .bl _, _, h, _ => by cases h
  | .ref _, _, h, _ => by cases h
  | .fl _, _, h, _ => by cases h
theorem eqvL_pl : ∀ xs ys : List D, plL xs = true → plL ys = true → (PyData.eqvAll (pdL xs) (pdL ys) = true ↔ xs = ys)
  | [], [], _, _ => by simp [pdL, PyData.eqvAll]
  | [], _ :: _, _, _ => by simp [pdL, PyData.eqvAll]
  | _ :: _, [], _, _ => by simp [pdL, PyData.eqvAll]
  | x :: xs, y :: ys, h, g => by
    obtain ⟨h1, h2⟩ := Bool.and_eq_true_iff.mp (show (pl x && plL xs) = true from h)
    obtain ⟨g1, g2⟩ := Bool.and_eq_true_iff.mp (show (pl y && plL ys) = true from g)
    have e1 := eqv_pl x y h1 g1
    have e2 := eqvL_pl xs ys h2 g2
    simp [pdL, PyData.eqvAll, e1, e2]
end
open Classical in
theorem eqD_pl {S : Sto} {a b : D} (ha : pl a = true) (hb : pl b = true) (da : dpt a < 20) (db : dpt b < 20) : eqD S a b = some (decide (a = b)) := by
  have key : ((toP S 20 a).bind fun p => (toP S 20 b).bind fun q => if p.canLay0 = true ∧ q.canLay0 = true then some (PyData.eqv p q) else none) = some (decide (a = b)) := by
    rw [toP_pl S a 20 ha da, toP_pl S b 20 hb db]
    simp only [Option.bind_some]
    rw [if_pos ⟨lay_pl a ha, lay_pl b hb⟩]
    congr 1
    exact Bool.eq_iff_iff.mpr ((eqv_pl a b ha hb).trans (by simp))
  cases a with
  | str l =>
    cases b with
    | str m => unfold eqD; simp
    | _ => exact key
  | _ => exact key
open Classical in
theorem inD_pl {S : Sto} {a : D} {xs : List D} (ha : pl a = true) (hb : plL xs = true) (da : dpt a < 20) (db : dptL xs < 19) : inD S a xs = some (decide (a ∈ xs)) := by
  unfold inD
  rw [toP_pl S a 20 ha da, toPL_pl S xs 19 hb db]
  simp only [Option.bind_some]
  rw [if_pos ⟨lay_pl a ha, layL_pl xs hb⟩]
  congr 1
  apply Bool.eq_iff_iff.mpr
  rw [decide_eq_true_eq]
  clear db da
  induction xs with
  | nil => simp [pdL]
  | cons y r ih =>
    obtain ⟨h1, h2⟩ := Bool.and_eq_true_iff.mp (show (pl y && plL r) = true from hb)
    have e := eqv_pl y a h1 ha
    have e2 := ih h2
    simp only [pdL, List.any_cons, Bool.or_eq_true, List.mem_cons]
    rw [e, e2]
    exact ⟨fun h => h.imp Eq.symm id, fun h => h.imp Eq.symm id⟩
open Classical in
/-- two lists -/
theorem eqD_ref {S : Sto} {m n : Nat} {xs ys : List D} (hm : S[m]? = some (.lst xs)) (hn : S[n]? = some (.lst ys)) (ha : plL xs = true) (hb : plL ys = true) (da : dptL xs < 19) (db : dptL ys < 19) : eqD S (.ref m) (.ref n) = some (decide (xs = ys)) := by
  have e : ∀ {k : Nat} {zs : List D}, S[k]? = some (.lst zs) → plL zs = true → dptL zs < 19 → toP S 20 (.ref k) = some (.list (pdL zs)) := fun {k zs} hk h d => by
    show (match S[k]? with
      | some (.lst xs) => (mapO (toP S 19) xs).map PyData.list
      | _ => none) = _
    rw [hk]
    show (mapO (toP S 19) zs).map PyData.list = _
    rw [toPL_pl S zs 19 h d]
    rfl
  show ((toP S 20 (.ref m)).bind fun p => (toP S 20 (.ref n)).bind fun q => if p.canLay0 = true ∧ q.canLay0 = true then some (PyData.eqv p q) else none) = _
  rw [e hm ha da, e hn hb db]
  simp only [Option.bind_some]
  rw [if_pos ⟨show PyData.canLayAll0 (pdL xs) = true from layL_pl xs ha, show PyData.canLayAll0 (pdL ys) = true from layL_pl ys hb⟩]
  congr 1
  exact Bool.eq_iff_iff.mpr ((eqvL_pl xs ys ha hb).trans (by simp))
@[simp] theorem seqOf_tup (S : Sto) (xs : List D) : seqOf S (.tup xs) = some xs := rfl
@[simp] theorem seqOf_fl (S : Sto) (xs : List D) : seqOf S (.fl xs) = some xs := rfl
@[simp] theorem ixD_tup (S : Sto) (xs : List D) (i : Int) : ixD S (.tup xs) (.int i) = L2.atI xs i := rfl
@[simp] theorem ixD_fl (S : Sto) (xs : List D) (i : Int) : ixD S (.fl xs) (.int i) = L2.atI xs i := rfl
@[simp] theorem eqD_int (S : Sto) (i j : Int) : eqD S (.int i) (.int j) = some (decide (i = j)) := by
  rw [eqD_pl rfl rfl (by simp [dpt]) (by simp [dpt])]
  congr 1
  simp
@[simp] theorem eqD_str' (S : Sto) (l m : List Nat) : eqD S (.str l) (.str m) = some (decide (l = m)) := rfl
@[simp] theorem cmp_eq (S : Sto) (a b : D) : cmpop .eq a b S = eqD S a b := rfl
@[simp] theorem cmp_ne (S : Sto) (a b : D) : cmpop .ne a b S = (eqD S a b).map (!·) := rfl
@[simp] theorem cmp_in (S : Sto) (a b : D) : cmpop .isin a b S = memS S a b := rfl
@[simp] theorem cmp_notin (S : Sto) (a b : D) : cmpop .notin a b S = (memS S a b).map (!·) := rfl
@[simp] theorem cmp_lt (S : Sto) (i j : Int) : cmpop .lt (.int i) (.int j) S = some (decide (i < j)) := rfl
@[simp] theorem cmp_le (S : Sto) (i j : Int) : cmpop .le (.int i) (.int j) S = some (decide (i ≤ j)) := rfl
@[simp] theorem cmp_gt (S : Sto) (i j : Int) : cmpop .gt (.int i) (.int j) S = some (decide (j < i)) := rfl
@[simp] theorem cmp_ge (S : Sto) (i j : Int) : cmpop .ge (.int i) (.int j) S = some (decide (j ≤ i)) := rfl
@[simp] theorem cmp_is (S : Sto) (a b : D) : cmpop .is a b S = isD a b := rfl
@[simp] theorem cmp_isnot (S : Sto) (a b : D) : cmpop .isnot a b S = (isD a b).map (!·) := rfl
@[simp] theorem bop_add (S : Sto) (i j : Int) : binop .add (.int i) (.int j) S = .ok (.int (i + j)) S := rfl
@[simp] theorem bop_sub (S : Sto) (i j : Int) : binop .sub (.int i) (.int j) S = .ok (.int (i - j)) S := rfl
theorem bop_mul (S : Sto) {i j : Int} (h : i.natAbs.log2 + j.natAbs.log2 < 100000000) : binop .mul (.int i) (.int j) S = .ok (.int (i * j)) S := if_pos h
theorem bop_fdiv (S : Sto) {i j : Int} (h : j ≠ 0) : binop .fdiv (.int i) (.int j) S = .ok (.int (i.fdiv j)) S := if_pos h
theorem bop_mod (S : Sto) {i j : Int} (h : j ≠ 0) : binop .mod (.int i) (.int j) S = .ok (.int (i.fmod j)) S := if_pos h
theorem bop_cat (S : Sto) {x y : List Nat} (h : x.length + y.length ≤ 16777216) : binop .add (.str x) (.str y) S = .ok (.str (x ++ y)) S := if_pos h
@[simp] theorem atI_0 {α : Type} (a : α) (l : List α) : L2.atI (a :: l) 0 = some a := by simp [L2.atI, L2.ixN]
@[simp] theorem atI_1 {α : Type} (a b : α) (l : List α) : L2.atI (a :: b :: l) 1 = some b := by
  have h : (1 : Int) < (l.length : Int) + 1 + 1 := by omega
  simp [L2.atI, L2.ixN, h]
theorem atI_nat {α : Type} (l : List α) (i : Nat) : L2.atI l (i : Int) = l[i]? := by
  unfold L2.atI L2.ixN
  by_cases h : i < l.length
  · simp [h]
  · simp [h]
end Ev
end
section
set_option Elab.async false
set_option linter.all false
set_option maxRecDepth 100000
set_option maxHeartbeats 4000000
set_option autoImplicit false
/-! Ev19: loops by an invariant, slices, joined truths. -/
namespace Ev
open PySem
open Classical in
theorem lcL_inv {s : Src} {f : D → Sto → R (Option D)} {g : D → Option D} {I : Sto → Prop} (hs : ∀ S, I S → s.ok S) :
    ∀ (its acc : List D), (∀ d ∈ its, ∀ S, I S → ∃ S', f d S = .ok (g d) S' ∧ I S') → ∀ S, I S → acc.length + its.length ≤ 16777216 → ∃ S', lcL s f its acc S = .ok (acc ++ its.filterMap g) S' ∧ I S'
  | [], acc, _, S, h, _ => ⟨S, by rw [lcL, if_pos (hs S h)]; simp, h⟩
  | d :: r, acc, hf, S, h, hl => by
    obtain ⟨S1, e1, h1⟩ := hf d (by simp) S h
    rw [lcL, if_pos (hs S h), e1, R.bind_ok]
    rw [List.length_cons] at hl
    cases hg : g d with
    | none =>
      obtain ⟨S', e, h'⟩ := lcL_inv hs r acc (fun d hd => hf d (List.mem_cons_of_mem _ hd)) S1 h1 (by omega)
      exact ⟨S', by simp only [e]; simp [hg], h'⟩
    | some y =>
      obtain ⟨S', e, h'⟩ := lcL_inv hs r (acc ++ [y]) (fun d hd => hf d (List.mem_cons_of_mem _ hd)) S1 h1 (by simp; omega)
      exact ⟨S', by simp only []; rw [if_pos (by omega), e]; simp [hg], h'⟩
/-- nothing is stored -/
theorem lcL_pure {s : Src} {f : D → Sto → R (Option D)} {g : D → Option D} {S : Sto} (its : List D) (hs : s.ok S) (hf : ∀ d ∈ its, f d S = .ok (g d) S) (hl : its.length ≤ 16777216) : lcL s f its [] S = .ok (its.filterMap g) S := by
  obtain ⟨S', e, rfl⟩ := lcL_inv (I := fun S' => S' = S) (fun S' h => h ▸ hs) its [] (fun d hd S' h => ⟨S', by subst h; exact hf d hd, h⟩) S rfl (by simpa using hl)
  simpa using e
open Classical in
theorem lcL1_inv {s : Src} {f : D → Sto → R D} {g : D → D} {I : Sto → Prop} (hs : ∀ S, I S → s.ok S) :
    ∀ (its acc : List D), (∀ d ∈ its, ∀ S, I S → ∃ S', f d S = .ok (g d) S' ∧ I S') → ∀ S, I S → acc.length + its.length ≤ 16777216 → ∃ S', lcL1 s f its acc S = .ok (acc ++ its.map g) S' ∧ I S'
  | [], acc, _, S, h, _ => ⟨S, by rw [lcL1, if_pos (hs S h)]; simp, h⟩
  | d :: r, acc, hf, S, h, hl => by
    obtain ⟨S1, e1, h1⟩ := hf d (by simp) S h
    rw [lcL1, if_pos (hs S h), e1, R.bind_ok]
    rw [List.length_cons] at hl
    obtain ⟨S', e, h'⟩ := lcL1_inv hs r (acc ++ [g d]) (fun d hd => hf d (List.mem_cons_of_mem _ hd)) S1 h1 (by simp; omega)
    exact ⟨S', by rw [if_pos (by omega), e]; simp, h'⟩
open Classical in
theorem lcL2_inv {s : Src} {f : D → List D → Sto → R (List D)} {g : D → List D} {I : Sto → Prop} (hs : ∀ S, I S → s.ok S) :
    ∀ (its acc : List D), (∀ d ∈ its, ∀ acc S, I S → acc.length + (g d).length ≤ 16777216 → ∃ S', f d acc S = .ok (acc ++ g d) S' ∧ I S') → ∀ S, I S → acc.length + (its.flatMap g).length ≤ 16777216 → ∃ S', lcL2 s f its acc S = .ok (acc ++ its.flatMap g) S' ∧ I S'
  | [], acc, _, S, h, _ => ⟨S, by rw [lcL2, if_pos (hs S h)]; simp, h⟩
  | d :: r, acc, hf, S, h, hl => by
    rw [List.flatMap_cons, List.length_append] at hl
    obtain ⟨S1, e1, h1⟩ := hf d (by simp) acc S h (by omega)
    rw [lcL2, if_pos (hs S h), e1, R.bind_ok]
    obtain ⟨S', e, h'⟩ := lcL2_inv hs r (acc ++ g d) (fun d hd => hf d (List.mem_cons_of_mem _ hd)) S1 h1 (by rw [List.length_append]; omega)
    exact ⟨S', by rw [e]; simp, h'⟩
/-- a loop whose body goes on -/
theorem forL_inv {s : Src} {f : D → En → Sto → O} {I : List D → En → Sto → Prop} (hs : ∀ l en S, I l en S → s.ok S)
    (hf : ∀ d r en S, I (d :: r) en S → ∃ en' S', (f d en S = .nx en' S' ∨ f d en S = .ct en' S') ∧ I r en' S') :
    ∀ (its : List D) en S, I its en S → ∃ en' S', forL s f its en S = .nx en' S' ∧ I [] en' S'
  | [], en, S, h => ⟨en, S, by rw [forL, if_pos (hs _ _ _ h)], h⟩
  | d :: r, en, S, h => by
    obtain ⟨en1, S1, e1, h1⟩ := hf d r en S h
    obtain ⟨en', S', e, h'⟩ := forL_inv hs hf r en1 S1 h1
    refine ⟨en', S', ?_, h'⟩
    rw [forL, if_pos (hs _ _ _ h)]
    rcases e1 with e1 | e1 <;> rw [e1]
    · rw [O.turn_nx, e]
    · rw [O.turn_ct, e]
theorem forL_nil {s : Src} {f : D → En → Sto → O} {en : En} {S : Sto} (h : s.ok S) : forL s f [] en S = .nx en S := by rw [forL, if_pos h]
theorem forL_cons {s : Src} {f : D → En → Sto → O} {d : D} {r : List D} {en : En} {S : Sto} (h : s.ok S) : forL s f (d :: r) en S = (f d en S).turn (forL s f r) := by rw [forL, if_pos h]
@[simp] theorem ok_nil (xs : List D) (S : Sto) : (Src.mk xs []).ok S := by intro p hp; cases hp
theorem ok_one {xs ys : List D} {n : Nat} {S : Sto} (h : S[n]? = some (.lst ys)) : (Src.mk xs [(n, ys)]).ok S := by
  intro p hp
  rw [List.mem_singleton.mp hp]
  simp [lstOf, h]
/-! ### the store grows -/
theorem pre_get {S S' : Sto} {n : Nat} {o : Ob} (h : S <+: S') (e : S[n]? = some o) : S'[n]? = some o := by
  obtain ⟨t, rfl⟩ := h
  rw [List.getElem?_append_left (List.getElem?_eq_some_iff.mp e).1]
  exact e
theorem pre_ok {s : Src} {S S' : Sto} (h : S <+: S') (e : s.ok S) : s.ok S' := by
  intro p hp
  have := e p hp
  cases hq : S[p.1]? with
  | none => simp [lstOf, hq] at this
  | some o =>
    have h2 := pre_get h hq
    simp only [lstOf, hq] at this
    simp only [lstOf, h2]
    exact this
theorem pre_snoc (S : Sto) (o : Ob) : S <+: S ++ [o] := ⟨[o], rfl⟩
@[simp] theorem last_get (S : Sto) (o : Ob) : (S ++ [o])[S.length]? = some o := by simp
/-- a list is given back, the store has grown -/
def Rl (r : R D) (S : Sto) (xs : List D) : Prop := ∃ k S', r = .ok (.ref k) S' ∧ S <+: S' ∧ S'[k]? = some (.lst xs)
/-- a value is given back, the store has grown -/
def Rv (r : R D) (S : Sto) (d : D) : Prop := ∃ S', r = .ok d S' ∧ S <+: S'
/-! ### slices -/
theorem cut_to {α : Type} (l : List α) (k : Nat) : cut l none (some (k : Int)) = l.take k := by
  unfold cut
  rw [HT.sIx_none, HT.sIx_nat]
  simp only [List.drop_zero, Nat.sub_zero]
  rcases Nat.le_total k l.length with h | h
  · rw [Nat.min_eq_left h]
  · rw [Nat.min_eq_right h, List.take_of_length_le (Nat.le_refl _), List.take_of_length_le h]
theorem cut_from {α : Type} (l : List α) (k : Nat) : cut l (some (k : Int)) none = l.drop k := by
  unfold cut
  rw [HT.sIx_none, HT.sIx_nat]
  rcases Nat.le_total k l.length with h | h
  · rw [Nat.min_eq_left h, List.take_of_length_le (by simp)]
  · rw [Nat.min_eq_right h, List.drop_eq_nil_of_le (Nat.le_refl _), List.drop_eq_nil_of_le h]; simp
@[simp] theorem cut_to1 {α : Type} (l : List α) : cut l none (some 1) = l.take 1 := cut_to l 1
@[simp] theorem cut_from1 {α : Type} (l : List α) : cut l (some 1) none = l.drop 1 := cut_from l 1
theorem sIx_m1 (n d : Nat) : HT.sIx n d (some (-1)) = n - 1 := by
  unfold HT.sIx
  simp
  omega
@[simp] theorem cut_last {α : Type} (l : List α) : cut l (some (-1)) none = l.drop (l.length - 1) := by
  unfold cut
  rw [sIx_m1, HT.sIx_none, List.take_of_length_le (by simp)]
@[simp] theorem cut_init {α : Type} (l : List α) : cut l none (some (-1)) = l.take (l.length - 1) := by
  unfold cut
  rw [sIx_m1, HT.sIx_none]
  simp
theorem cut_mid {α : Type} (l : List α) (k : Nat) : cut l (some (k : Int)) (some (-1)) = (l.take (l.length - 1)).drop k := by
  unfold cut
  rw [sIx_m1, HT.sIx_nat, List.drop_take]
  rcases Nat.le_total k l.length with h | h
  · rw [Nat.min_eq_left h]
  · rw [Nat.min_eq_right h, List.drop_eq_nil_of_le (Nat.le_refl _), List.drop_eq_nil_of_le h]; simp
theorem last_is {l : List Nat} {c : Nat} : l.drop (l.length - 1) = [c] ↔ l.getLast? = some c := by
  cases h : l.getLast? with
  | none =>
    have : l = [] := by simpa using h
    subst this
    simp
  | some d =>
    obtain ⟨u, rfl⟩ := List.getLast?_eq_some_iff.mp h
    simp
@[simp] theorem slD_str {l : List Nat} (h : l.length ≤ 16777216) (lo hi : Option Int) (S : Sto) : slD (.str l) lo hi S = .ok (.str (cut l lo hi)) S := if_pos h
@[simp] theorem slD_tup (l : List D) (lo hi : Option Int) (S : Sto) : slD (.tup l) lo hi S = .ok (.tup (cut l lo hi)) S := rfl
theorem slD_ref {l : List D} {n : Nat} {S : Sto} (h : S[n]? = some (.lst l)) (lo hi : Option Int) : slD (.ref n) lo hi S = .ok (.ref S.length) (S ++ [.lst (cut l lo hi)]) := by
  unfold slD
  simp [lstOf, h]
/-! ### texts' signs, truths -/
@[simp] theorem bls_map {α : Type} (l : List α) (p : α → Bool) : blsOf (l.map fun c => .bl (p c)) = some (l.map p) := by
  induction l with
  | nil => rfl
  | cons a r ih => simp [blsOf, ih]
@[simp] theorem strs_map {α : Type} (l : List α) (p : α → List Nat) : strsOf (l.map fun c => .str (p c)) = some (l.map p) := by
  induction l with
  | nil => rfl
  | cons a r ih => simp [strsOf, ih]
@[simp] theorem ints_map {α : Type} (l : List α) (p : α → Int) : intsOf (l.map fun c => .int (p c)) = some (l.map p) := by
  induction l with
  | nil => rfl
  | cons a r ih => simp [intsOf, ih]
@[simp] theorem mem_str (S : Sto) (c : Nat) (l : List Nat) : memS S (.str [c]) (.str l) = some (decide (c ∈ l)) := rfl
theorem seqOf_ref {S : Sto} {n : Nat} {xs : List D} (h : S[n]? = some (.lst xs)) : seqOf S (.ref n) = some xs := by simp [seqOf, h]
theorem lstOf_ref {S : Sto} {n : Nat} {xs : List D} (h : S[n]? = some (.lst xs)) : lstOf S (.ref n) = some xs := by simp [lstOf, h]
theorem ixD_ref {S : Sto} {n : Nat} {xs : List D} (h : S[n]? = some (.lst xs)) (i : Int) : ixD S (.ref n) (.int i) = L2.atI xs i := by simp [ixD, seqOf, h]
theorem ixD_str (S : Sto) {l : List Nat} (h : l.length ≤ 16777216) (i : Int) : ixD S (.str l) (.int i) = (L2.atI l i).map fun c => .str [c] := if_pos h
@[simp] theorem len_str {l : List Nat} (h : l.length ≤ 16777216) (S : Sto) : bi .len [.str l] S = .ok (.int l.length) S := if_pos h
@[simp] theorem len_tup (l : List D) (S : Sto) : bi .len [.tup l] S = .ok (.int l.length) S := rfl
@[simp] theorem len_fl (l : List D) (S : Sto) : bi .len [.fl l] S = .ok (.int l.length) S := rfl
theorem len_ref {S : Sto} {n : Nat} {xs : List D} (h : S[n]? = some (.lst xs)) : bi .len [.ref n] S = .ok (.int xs.length) S := by simp [bi, seqOf, h]
end Ev
end
section
set_option Elab.async false
set_option linter.all false
set_option maxRecDepth 100000
set_option maxHeartbeats 4000000
set_option autoImplicit false
/-! Ev20: the meaning, row by row. -/
namespace Ev
open PySem
def condR (x : D) (a b : R D) : R D := match x with
  | .bl true => a
  | .bl false => b
  | _ => .stuck
@[simp ↓] theorem condR_bl (p : Bool) (a b : R D) : condR (.bl p) a b = if p = true then a else b := by cases p <;> rfl
def condO (x : D) (a b : O) : O := match x with
  | .bl true => a
  | .bl false => b
  | _ => .stuck
@[simp ↓] theorem condO_bl (p : Bool) (a b : O) : condO (.bl p) a b = if p = true then a else b := by cases p <;> rfl
def negR (x : D) (S : Sto) : R D := match x with
  | .int i => .ok (.int (-i)) S
  | _ => .stuck
@[simp] theorem negR_int (i : Int) (S : Sto) : negR (.int i) S = .ok (.int (-i)) S := rfl
def notR (x : D) (S : Sto) : R D := match x with
  | .bl k => .ok (.bl (!k)) S
  | _ => .stuck
@[simp] theorem notR_bl (i : Bool) (S : Sto) : notR (.bl i) S = .ok (.bl (!i)) S := rfl
def intR (x : D) (S : Sto) : R (Option Int) := match x with
  | .int i => .ok (some i) S
  | _ => .stuck
@[simp] theorem intR_int (i : Int) (S : Sto) : intR (.int i) S = .ok (some i) S := rfl
def blR (x : D) (S : Sto) : R Bool := match x with
  | .bl i => .ok i S
  | _ => .stuck
@[simp] theorem blR_bl (i : Bool) (S : Sto) : blR (.bl i) S = .ok i S := rfl
@[simp] theorem toR_nx (en : En) (S : Sto) : (O.nx en S).toR = .ok .non S := rfl
@[simp] theorem toR_rt (d : D) (S : Sto) : (O.rt d S).toR = .ok d S := rfl
@[simp] theorem toR_ex (x : Xc) (en : En) (S : Sto) : (O.ex x en S).toR = .ex x S := rfl
theorem Rl_new {r : R D} {S S1 : Sto} {xs : List D} (h : r = .ok (.ref S1.length) (S1 ++ [.lst xs])) (p : S <+: S1) : Rl r S xs := ⟨_, _, h, p.trans (pre_snoc ..), by simp⟩
/-! what comes later has a name, so that it is not looked at ahead of time -/
@[simp ↓] theorem bind_ok' {α β : Type} (a : α) (S : Sto) (k : α → Sto → R β) : (R.ok a S).bind k = k a S := rfl
@[simp ↓] theorem bind_ex' {α β : Type} (x : Xc) (S : Sto) (k : α → Sto → R β) : (R.ex x S : R α).bind k = .ex x S := rfl
@[simp ↓] theorem then_ok' {α : Type} (a : α) (S : Sto) (en : En) (k : α → Sto → O) : (R.ok a S).then en k = k a S := rfl
@[simp ↓] theorem then_ex' {α : Type} (x : Xc) (S : Sto) (en : En) (k : α → Sto → O) : (R.ex x S : R α).then en k = .ex x en S := rfl
@[simp ↓] theorem seq_nx' (en : En) (S : Sto) (k : En → Sto → O) : (O.nx en S).seq k = k en S := rfl
@[simp ↓] theorem seq_rt' (d : D) (S : Sto) (k : En → Sto → O) : (O.rt d S).seq k = .rt d S := rfl
@[simp ↓] theorem seq_ex' (x : Xc) (en : En) (S : Sto) (k : En → Sto → O) : (O.ex x en S).seq k = .ex x en S := rfl
@[simp ↓] theorem turn_nx' (en : En) (S : Sto) (k : En → Sto → O) : (O.nx en S).turn k = k en S := rfl
@[simp ↓] theorem turn_rt' (d : D) (S : Sto) (k : En → Sto → O) : (O.rt d S).turn k = .rt d S := rfl
section
variable (G : Gm) (en : En) (S : Sto)
@[simp 500] theorem ev_var (i : Nat) : ev G (.var i) en S = R.of (en.getD i none) S := by rw [ev]
@[simp 500] theorem ev_cst (d : D) : ev G (.cst d) en S = .ok d S := by rw [ev]
@[simp 500] theorem ev_glb (i : Nat) : ev G (.glb i) en S = R.of (G.cs[i]?) S := by rw [ev]
noncomputable def kBin (o : Op2) (b : E) (x : D) (S : Sto) : R D := (ev G b en S).bind (binop o x)
@[simp 500] theorem kBin_eq (o : Op2) (b : E) (x : D) : kBin G en o b x S = (ev G b en S).bind (binop o x) := rfl
@[simp 500] theorem ev_bin (o : Op2) (a b : E) : ev G (.bin o a b) en S = (ev G a en S).bind (kBin G en o b) := by rw [ev]; rfl
@[simp 500] theorem ev_neg (a : E) : ev G (.neg a) en S = (ev G a en S).bind negR := by rw [ev]; rfl
@[simp 500] theorem ev_not (a : E) : ev G (.not a) en S = (ev G a en S).bind notR := by rw [ev]; rfl
noncomputable def kAnd (b : E) (x : D) (S : Sto) : R D := condR x (ev G b en S) (.ok (.bl false) S)
@[simp ↓ 500] theorem kAnd_eq (b : E) (x : D) : kAnd G en b x S = condR x (ev G b en S) (.ok (.bl false) S) := rfl
@[simp 500] theorem ev_and (a b : E) : ev G (.and a b) en S = (ev G a en S).bind (kAnd G en b) := by rw [ev]; rfl
noncomputable def kOr (b : E) (x : D) (S : Sto) : R D := condR x (.ok (.bl true) S) (ev G b en S)
@[simp ↓ 500] theorem kOr_eq (b : E) (x : D) : kOr G en b x S = condR x (.ok (.bl true) S) (ev G b en S) := rfl
@[simp 500] theorem ev_or (a b : E) : ev G (.or a b) en S = (ev G a en S).bind (kOr G en b) := by rw [ev]; rfl
noncomputable def kIte (a b : E) (x : D) (S : Sto) : R D := condR x (ev G a en S) (ev G b en S)
@[simp ↓ 500] theorem kIte_eq (a b : E) (x : D) : kIte G en a b x S = condR x (ev G a en S) (ev G b en S) := rfl
@[simp 500] theorem ev_ite (c a b : E) : ev G (.ite c a b) en S = (ev G c en S).bind (kIte G en a b) := by rw [ev]; rfl
noncomputable def kCmp2 (o : Cm) (x y : D) (S : Sto) : R D := R.of ((cmpop o x y S).map .bl) S
@[simp 500] theorem kCmp2_eq (o : Cm) (x y : D) : kCmp2 o x y S = R.of ((cmpop o x y S).map .bl) S := rfl
noncomputable def kCmp (o : Cm) (b : E) (x : D) (S : Sto) : R D := (ev G b en S).bind (kCmp2 o x)
@[simp 500] theorem kCmp_eq (o : Cm) (b : E) (x : D) : kCmp G en o b x S = (ev G b en S).bind (kCmp2 o x) := rfl
@[simp 500] theorem ev_cmp (o : Cm) (a b : E) : ev G (.cmp o a b) en S = (ev G a en S).bind (kCmp G en o b) := by rw [ev]; rfl
def kTup (xs : List D) (S : Sto) : R D := if xs.length ≤ 16777216 then .ok (.tup xs) S else .stuck
@[simp 500] theorem kTup_eq (xs : List D) : kTup xs S = if xs.length ≤ 16777216 then .ok (.tup xs) S else .stuck := rfl
@[simp 500] theorem ev_tup (es : Es) : ev G (.tup es) en S = (evs G es en S).bind kTup := by rw [ev]; rfl
def kLst (xs : List D) (S : Sto) : R D := if xs.length ≤ 16777216 then .ok (.ref S.length) (S ++ [.lst xs]) else .stuck
@[simp 500] theorem kLst_eq (xs : List D) : kLst xs S = if xs.length ≤ 16777216 then .ok (.ref S.length) (S ++ [.lst xs]) else .stuck := rfl
@[simp 500] theorem ev_lst (es : Es) : ev G (.lst es) en S = (evs G es en S).bind kLst := by rw [ev]; rfl
def kIx2 (x y : D) (S : Sto) : R D := R.of (ixD S x y) S
@[simp 500] theorem kIx2_eq (x y : D) : kIx2 x y S = R.of (ixD S x y) S := rfl
noncomputable def kIx (b : E) (x : D) (S : Sto) : R D := (ev G b en S).bind (kIx2 x)
@[simp 500] theorem kIx_eq (b : E) (x : D) : kIx G en b x S = (ev G b en S).bind (kIx2 x) := rfl
@[simp 500] theorem ev_ix (a b : E) : ev G (.ix a b) en S = (ev G a en S).bind (kIx G en b) := by rw [ev]; rfl
noncomputable def kSl2 (hi : Oe) (x : D) (l : Option Int) (S : Sto) : R D := (evo G hi en S).bind (slD x l)
@[simp 500] theorem kSl2_eq (hi : Oe) (x : D) (l : Option Int) : kSl2 G en hi x l S = (evo G hi en S).bind (slD x l) := rfl
noncomputable def kSl (lo hi : Oe) (x : D) (S : Sto) : R D := (evo G lo en S).bind (kSl2 G en hi x)
@[simp 500] theorem kSl_eq (lo hi : Oe) (x : D) : kSl G en lo hi x S = (evo G lo en S).bind (kSl2 G en hi x) := rfl
@[simp 500] theorem ev_sl (a : E) (lo hi : Oe) : ev G (.sl a lo hi) en S = (ev G a en S).bind (kSl G en lo hi) := by rw [ev]; rfl
@[simp 500] theorem ev_call (f : Nat) (es : Es) : ev G (.call f es) en S = (evs G es en S).bind (G.fn f) := by rw [ev]
noncomputable def kCk2 (f : Nat) (pm : List Nat) (xs zs : List D) (S : Sto) : R D := G.fn f (pm.filterMap fun i => (xs ++ zs)[i]?) S
@[simp 500] theorem kCk2_eq (f : Nat) (pm : List Nat) (xs zs : List D) : kCk2 G f pm xs zs S = G.fn f (pm.filterMap fun i => (xs ++ zs)[i]?) S := rfl
noncomputable def kCk (f : Nat) (ks : Es) (pm : List Nat) (xs : List D) (S : Sto) : R D := (evs G ks en S).bind (kCk2 G f pm xs)
@[simp 500] theorem kCk_eq (f : Nat) (ks : Es) (pm : List Nat) (xs : List D) : kCk G en f ks pm xs S = (evs G ks en S).bind (kCk2 G f pm xs) := rfl
@[simp 500] theorem ev_callk (f : Nat) (es ks : Es) (pm : List Nat) : ev G (.callk f es ks pm) en S = (evs G es en S).bind (kCk G en f ks pm) := by rw [ev]; rfl
@[simp 500] theorem ev_bi (b : Bi) (es : Es) : ev G (.bi b es) en S = (evs G es en S).bind (bi b) := by rw [ev]
noncomputable def kMt (m : Mt) (es : Es) (x : D) (S : Sto) : R D := if mtTy m x S = true then (evs G es en S).bind (mt m x) else .stuck
@[simp 500] theorem kMt_eq (m : Mt) (es : Es) (x : D) : kMt G en m es x S = if mtTy m x S = true then (evs G es en S).bind (mt m x) else .stuck := rfl
@[simp 500] theorem ev_mt (m : Mt) (a : E) (es : Es) : ev G (.mt m a es) en S = (ev G a en S).bind (kMt G en m es) := by rw [ev]; rfl
@[simp 500] theorem evs_nil : evs G .nil en S = .ok [] S := by rw [evs]
def kCons2 (x : D) (xs : List D) (S : Sto) : R (List D) := .ok (x :: xs) S
@[simp 500] theorem kCons2_eq (x : D) (xs : List D) : kCons2 x xs S = .ok (x :: xs) S := rfl
noncomputable def kCons (r : Es) (x : D) (S : Sto) : R (List D) := (evs G r en S).bind (kCons2 x)
@[simp 500] theorem kCons_eq (r : Es) (x : D) : kCons G en r x S = (evs G r en S).bind (kCons2 x) := rfl
@[simp 500] theorem evs_cons (a : E) (r : Es) : evs G (.cons a r) en S = (ev G a en S).bind (kCons G en r) := by rw [evs]; rfl
def starR (o : Option (List D)) (r : R (List D)) : R (List D) := match o with
  | some ys => r.bind fun xs S => .ok (ys ++ xs) S
  | none => .stuck
def kApp (ys xs : List D) (S : Sto) : R (List D) := .ok (ys ++ xs) S
@[simp 500] theorem kApp_eq (ys xs : List D) : kApp ys xs S = .ok (ys ++ xs) S := rfl
@[simp] theorem starR_some (ys : List D) (r : R (List D)) : starR (some ys) r = r.bind (kApp ys) := rfl
noncomputable def kStar (r : Es) (x : D) (S : Sto) : R (List D) := starR (seqOf S x) (evs G r en S)
@[simp 500] theorem kStar_eq (r : Es) (x : D) : kStar G en r x S = starR (seqOf S x) (evs G r en S) := rfl
@[simp 500] theorem evs_star (a : E) (r : Es) : evs G (.star a r) en S = (ev G a en S).bind (kStar G en r) := by
  rw [evs]
  rfl
@[simp 500] theorem evo_none : evo G .none en S = .ok none S := by rw [evo]
@[simp 500] theorem evo_some (a : E) : evo G (.some a) en S = (ev G a en S).bind intR := by rw [evo]; rfl
@[simp 500] theorem evc_none : evc G .none en S = .ok true S := by rw [evc]
@[simp 500] theorem evc_some (a : E) : evc G (.some a) en S = (ev G a en S).bind blR := by rw [evc]; rfl
def kSeq (x : D) (S : Sto) : R Src := R.of (srcSeq x S) S
@[simp 500] theorem kSeq_eq (x : D) : kSeq x S = R.of (srcSeq x S) S := rfl
@[simp 500] theorem evi_seq (a : E) : evi G (.seq a) en S = (ev G a en S).bind kSeq := by rw [evi]; rfl
def kEnum (x : D) (S : Sto) : R Src := R.of (srcEnum x S) S
@[simp 500] theorem kEnum_eq (x : D) : kEnum x S = R.of (srcEnum x S) S := rfl
@[simp 500] theorem evi_enum (a : E) : evi G (.enum a) en S = (ev G a en S).bind kEnum := by rw [evi]; rfl
def kZip2 (x y : D) (S : Sto) : R Src := R.of (srcZip x y S) S
@[simp 500] theorem kZip2_eq (x y : D) : kZip2 x y S = R.of (srcZip x y S) S := rfl
noncomputable def kZip (b : E) (x : D) (S : Sto) : R Src := (ev G b en S).bind (kZip2 x)
@[simp 500] theorem kZip_eq (b : E) (x : D) : kZip G en b x S = (ev G b en S).bind (kZip2 x) := rfl
@[simp 500] theorem evi_zip (a b : E) : evi G (.zip a b) en S = (ev G a en S).bind (kZip G en b) := by rw [evi]; rfl
theorem evi_rng1 {a : E} {j : Int} {S1 : Sto} (h : ev G a en S = .ok (.int j) S1) (hs : small j) : evi G (.rng1 a) en S = .ok ⟨rngD 0 j, []⟩ S1 := by rw [evi, h, R.bind_ok]; exact if_pos hs
theorem evi_rng2 {a b : E} {i j : Int} {S1 S2 : Sto} (h : ev G a en S = .ok (.int i) S1) (h2 : ev G b en S1 = .ok (.int j) S2) (hs : small i) (hs2 : small j) : evi G (.rng2 a b) en S = .ok ⟨rngD i j, []⟩ S2 := by rw [evi, h, R.bind_ok, h2, R.bind_ok]; exact if_pos ⟨hs, hs2⟩
variable (C : List Cls)
@[simp 500] theorem asgT_nm (i : Nat) (d : D) : asgT G (.nm i) d en S = .ok (en.set i (some d)) S := by rw [asgT]
@[simp 500] theorem asgT_tup (ts : List Tg) (xs : List D) : asgT G (.tup ts) (.tup xs) en S = asgTs G ts xs en S := by rw [asgT]
@[simp 500] theorem asgTs_nil : asgTs G [] [] en S = .ok en S := by rw [asgTs]
@[simp 500] theorem asgTs_cons (t : Tg) (ts : List Tg) (d : D) (ds : List D) : asgTs G (t :: ts) (d :: ds) en S = (asgT G t d en S).bind (asgTs G ts ds) := by rw [asgTs]
theorem asgT_sub {a i : E} {d x y : D} {S1 S2 S3 : Sto} (h : ev G a en S = .ok x S1) (h2 : ev G i en S1 = .ok y S2) (h3 : setSub x y d S2 = some S3) : asgT G (.sub a i) d en S = .ok en S3 := by
  rw [asgT, h]
  simp [h2, h3]
noncomputable def kSet (t : Tg) (d : D) (S : Sto) : O := (asgT G t d en S).noex.then en O.nx
@[simp 500] theorem kSet_eq (t : Tg) (d : D) : kSet G en t d S = (asgT G t d en S).noex.then en O.nx := rfl
@[simp 500] theorem exec_asg (t : Tg) (e : E) : exec G C (.asg t e) en S = (ev G e en S).then en (kSet G en t) := by rw [exec]; rfl
def parO (o : Option En) (S : Sto) : O := match o with
  | some en => .nx en S
  | none => .stuck
@[simp] theorem parO_some (en : En) (S : Sto) : parO (some en) S = .nx en S := rfl
def kPar (is : List Nat) (ds : List D) (S : Sto) : O := parO (parSet is ds en) S
@[simp 500] theorem kPar_eq (is : List Nat) (ds : List D) : kPar en is ds S = parO (parSet is ds en) S := rfl
@[simp 500] theorem exec_par (is : List Nat) (es : Es) : exec G C (.par is es) en S = (evs G es en S).then en (kPar en is) := by rw [exec]; rfl
def kExp (_ : D) (S : Sto) : O := .nx en S
@[simp 500] theorem kExp_eq (d : D) : kExp en d S = .nx en S := rfl
@[simp 500] theorem exec_exp (e : E) : exec G C (.exp e) en S = (ev G e en S).then en (kExp en) := by rw [exec]; rfl
@[simp 500] theorem exec_ret (e : E) : exec G C (.ret e) en S = (ev G e en S).then en O.rt := by rw [exec]
@[simp 500] theorem exec_retn : exec G C .retn en S = .rt .non S := by rw [exec]
noncomputable def kIf (a b : Ss) (x : D) (S : Sto) : O := condO x (execs G C a en S) (execs G C b en S)
@[simp ↓ 500] theorem kIf_eq (a b : Ss) (x : D) : kIf G en C a b x S = condO x (execs G C a en S) (execs G C b en S) := rfl
@[simp 500] theorem exec_ite (c : E) (a b : Ss) : exec G C (.ite c a b) en S = (ev G c en S).then en (kIf G en C a b) := by rw [exec]; rfl
@[simp 500] theorem exec_brk : exec G C .brk en S = .bk en S := by rw [exec]
@[simp 500] theorem exec_cnt : exec G C .cnt en S = .ct en S := by rw [exec]
@[simp 500] theorem exec_pas : exec G C .pas en S = .nx en S := by rw [exec]
def raiO (k : Option Cls) (c : Nat) (ds : List D) (en : En) (S : Sto) : O := match k with
  | some k => if ds.length = k.fs.length then .ex ⟨c, k.fs.zip ds⟩ en S else .stuck
  | none => .stuck
@[simp] theorem raiO_some (k : Cls) (c : Nat) (ds : List D) (en : En) (S : Sto) : raiO (some k) c ds en S = if ds.length = k.fs.length then .ex ⟨c, k.fs.zip ds⟩ en S else .stuck := rfl
def kRai (c : Nat) (ds : List D) (S : Sto) : O := raiO C[c]? c ds en S
@[simp 500] theorem kRai_eq (c : Nat) (ds : List D) : kRai en C c ds S = raiO C[c]? c ds en S := rfl
@[simp 500] theorem exec_rai (c : Nat) (es : Es) : exec G C (.rai c es) en S = (evs G es en S).then en (kRai en C c) := by rw [exec]; rfl
@[simp 500] theorem execs_nil : execs G C .nil en S = .nx en S := by rw [execs]
@[simp 500] theorem execs_cons (s : Sm) (r : Ss) : execs G C (.cons s r) en S = (exec G C s en S).seq (execs G C r) := by rw [execs]
/-- a loop's turn -/
noncomputable def lpF (t : Tg) (b : Ss) (d : D) (en : En) (S : Sto) : O := (asgT G t d en S).noex.then en (execs G C b)
@[simp 500] theorem lpF_eq (t : Tg) (b : Ss) (d : D) : lpF G C t b d en S = (asgT G t d en S).noex.then en (execs G C b) := rfl
theorem exec_for (t : Tg) (it : It) (b : Ss) : exec G C (.for t it b) en S = (evi G it en S).then en fun s S => forL s (lpF G C t b) s.its en S := by rw [exec]; rfl
/-! ### a comprehension -/
variable {G en S}
theorem ev_lc {own : List (Str × Nat)} {elt : E} {p : Pt} {it : It} {c : Oe} {s : Src} {S1 : Sto} {I : Sto → Prop} {g : D → Option D}
    (hi : evi G it en S = .ok s S1) (h1 : I S1) (hs : ∀ S, I S → s.ok S) (hl : s.its.length ≤ 16777216)
    (hf : ∀ d ∈ s.its, ∀ S, I S → ∃ en', p.set d (wipeE en (slots own)) = some en' ∧ ((∃ S', evc G c en' S = .ok false S' ∧ g d = none ∧ I S') ∨ ∃ S2 y S', evc G c en' S = .ok true S2 ∧ ev G elt en' S2 = .ok y S' ∧ g d = some y ∧ I S')) :
    ∃ S', ev G (.lc own elt p it c) en S = .ok (.ref S'.length) (S' ++ [.lst (s.its.filterMap g)]) ∧ I S' := by
  have key := lcL_inv (s := s) (g := g) (I := I) hs (f := fun d S => (match p.set d (wipeE en (slots own)) with
        | some en' => (evc G c en' S).bind fun b S => if b = true then (ev G elt en' S).bind fun y S => .ok (some y) S else .ok none S
        | none => .stuck).noex) s.its [] (fun d hd S h => by
      obtain ⟨en', e, h⟩ := hf d hd S h
      rcases h with ⟨S', e1, e2, h'⟩ | ⟨S2, y, S', e1, e2, e3, h'⟩
      · exact ⟨S', by simp [e, e1, e2], h'⟩
      · exact ⟨S', by simp [e, e1, e2, e3], h'⟩) S1 h1 (by simpa using hl)
  obtain ⟨S', e, h'⟩ := key
  refine ⟨S', ?_, h'⟩
  rw [ev, hi, R.bind_ok]
  refine (congrArg (fun r : R (List D) => r.bind fun acc S => R.ok (D.ref S.length) (S ++ [Ob.lst acc])) e).trans ?_
  simp
/-- without a test -/
theorem ev_lcm {own : List (Str × Nat)} {elt : E} {p : Pt} {it : It} {s : Src} {S1 : Sto} {I : Sto → Prop} {g : D → D}
    (hi : evi G it en S = .ok s S1) (h1 : I S1) (hs : ∀ S, I S → s.ok S) (hl : s.its.length ≤ 16777216)
    (hf : ∀ d ∈ s.its, ∀ S, I S → ∃ en' S', p.set d (wipeE en (slots own)) = some en' ∧ ev G elt en' S = .ok (g d) S' ∧ I S') :
    ∃ S', ev G (.lc own elt p it .none) en S = .ok (.ref S'.length) (S' ++ [.lst (s.its.map g)]) ∧ I S' := by
  obtain ⟨S', e, h'⟩ := ev_lc (c := .none) (own := own) (elt := elt) (p := p) (g := fun d => some (g d)) hi h1 hs hl fun d hd S h => by
    obtain ⟨en', S', e1, e2, h'⟩ := hf d hd S h
    exact ⟨en', e1, Or.inr ⟨S, _, S', evc_none .., e2, rfl, h'⟩⟩
  exact ⟨S', by simpa using e, h'⟩
/-- nothing stored -/
theorem ev_lcp {own : List (Str × Nat)} {elt : E} {p : Pt} {it : It} {s : Src} {S1 : Sto} {g : D → D}
    (hi : evi G it en S = .ok s S1) (hs : s.ok S1) (hl : s.its.length ≤ 16777216)
    (hf : ∀ d ∈ s.its, ∃ en', p.set d (wipeE en (slots own)) = some en' ∧ ev G elt en' S1 = .ok (g d) S1) :
    ev G (.lc own elt p it .none) en S = .ok (.ref S1.length) (S1 ++ [.lst (s.its.map g)]) := by
  obtain ⟨S', e, rfl⟩ := ev_lcm (own := own) (elt := elt) (p := p) (g := g) (I := fun S => S = S1) hi rfl (fun S h => h ▸ hs) hl fun d hd S h => by
    obtain ⟨en', e1, e2⟩ := hf d hd
    subst h
    exact ⟨en', _, e1, e2, rfl⟩
  exact e
theorem ev_lc2 {own : List (Str × Nat)} {own1 : List Nat} {elt : E} {p p1 : Pt} {it it1 : It} {s : Src} {S1 : Sto} {I : Sto → Prop} {g : D → List D}
    (hi : evi G it en S = .ok s S1) (h1 : I S1) (hs : ∀ S, I S → s.ok S) (hl : (s.its.flatMap g).length ≤ 16777216)
    (hf : ∀ d ∈ s.its, ∀ S, I S → ∃ en' s1 S1 k, p.set d (wipeE en (slots own)) = some en' ∧ evi G it1 en' S = .ok s1 S1 ∧ I S1 ∧ (∀ S, S1 <+: S → s1.ok S) ∧ g d = s1.its.map k ∧
      ∀ d1 ∈ s1.its, ∀ S, S1 <+: S → I S → ∃ en'' S', p1.set d1 (wipeE en' own1) = some en'' ∧ ev G elt en'' S = .ok (k d1) S' ∧ S <+: S' ∧ I S') :
    ∃ S', ev G (.lc2 own own1 elt p it p1 it1) en S = .ok (.ref S'.length) (S' ++ [.lst (s.its.flatMap g)]) ∧ I S' := by
  have key := lcL2_inv (s := s) (g := g) (I := I) hs (f := fun d acc S => (match p.set d (wipeE en (slots own)) with
        | some en' => (evi G it1 en' S).bind fun s1 S =>
            lcL1 s1 (fun d1 S => match p1.set d1 (wipeE en' own1) with
              | some en'' => ev G elt en'' S
              | none => .stuck) s1.its acc S
        | none => .stuck).noex) s.its [] (fun d hd acc S h hb => by
      obtain ⟨en', s1, S1, k, e, e1, hI, hok, hg, hh⟩ := hf d hd S h
      obtain ⟨S', e2, h2⟩ := lcL1_inv (s := s1) (g := k) (I := fun S => S1 <+: S ∧ I S) (fun S h => hok S h.1) (f := fun d1 S => match p1.set d1 (wipeE en' own1) with
              | some en'' => ev G elt en'' S
              | none => .stuck) s1.its acc (fun d1 hd1 S h => by
        obtain ⟨en'', S', q1, q2, q3, q4⟩ := hh d1 hd1 S h.1 h.2
        exact ⟨S', by simp [q1, q2], h.1.trans q3, q4⟩) S1 ⟨List.prefix_rfl, hI⟩ (by rw [hg, List.length_map] at hb; exact hb)
      exact ⟨S', by simp [e, e1, e2, hg], h2.2⟩) S1 h1 (by simpa using hl)
  obtain ⟨S', e, h'⟩ := key
  refine ⟨S', ?_, h'⟩
  rw [ev, hi, R.bind_ok]
  refine (congrArg (fun r : R (List D) => r.bind fun acc S => R.ok (D.ref S.length) (S ++ [Ob.lst acc])) e).trans ?_
  simp
end
end Ev
end
section
set_option Elab.async false
set_option linter.all false
set_option maxRecDepth 100000
set_option maxHeartbeats 4000000
set_option autoImplicit false
/-! Ev21: what stays in the store. -/
namespace Ev
open PySem
/-- all but the places of P stay -/
def Fr (P : Nat → Prop) (S S' : Sto) : Prop := ∀ n o, ¬ P n → S[n]? = some o → S'[n]? = some o
abbrev Nope : Nat → Prop := fun _ => False
theorem Fr.rfl' {P : Nat → Prop} {S : Sto} : Fr P S S := fun _ _ _ h => h
theorem Fr.tr {P : Nat → Prop} {S S' S'' : Sto} (h : Fr P S S') (g : Fr P S' S'') : Fr P S S'' := fun n o hp ho => g n o hp (h n o hp ho)
theorem Fr.mono {P Q : Nat → Prop} {S S' : Sto} (h : Fr P S S') (hq : ∀ n, P n → Q n) : Fr Q S S' := fun n o hp ho => h n o (fun p => hp (hq n p)) ho
theorem Fr.of_pre {P : Nat → Prop} {S S' : Sto} (h : S <+: S') : Fr P S S' := fun n o _ ho => pre_get h ho
theorem Fr.set {P : Nat → Prop} {S : Sto} {k : Nat} {o : Ob} (h : P k) : Fr P S (S.set k o) := fun n o' hp ho => by
  have : k ≠ n := fun e => hp (e ▸ h)
  rw [List.getElem?_set_ne this]
  exact ho
/-- of places that were not there yet -/
theorem Fr.new {P Q : Nat → Prop} {S S' : Sto} (h : Fr P S S') (hq : ∀ n, P n → n < S.length → Q n) : Fr Q S S' := fun n o hp ho => h n o (fun p => hp (hq n p (List.getElem?_eq_some_iff.mp ho).1)) ho
theorem Fr.pre {S S' : Sto} (h : Fr Nope S S') : S <+: S' := by
  rw [List.prefix_iff_getElem?]
  intro i hi
  exact h i _ (fun h => h) (List.getElem?_eq_getElem hi)
theorem Fr.ok {P : Nat → Prop} {S S' : Sto} {s : Src} (h : Fr P S S') (e : s.ok S) (hp : ∀ p ∈ s.live, ¬ P p.1) : s.ok S' := by
  intro p hm
  have := e p hm
  cases hq : S[p.1]? with
  | none => simp [lstOf, hq] at this
  | some o =>
    have h2 := h _ _ (hp p hm) hq
    simp only [lstOf, hq] at this
    simp only [lstOf, h2]
    exact this
theorem Fr.lt {P : Nat → Prop} {S S' : Sto} {n : Nat} (h : Fr P S S') (hp : ¬ P n) (hn : n < S.length) : n < S'.length := (List.getElem?_eq_some_iff.mp (h n _ hp (List.getElem?_eq_getElem hn))).1
theorem set_get {S : Sto} {k : Nat} {o o' : Ob} (h : S[k]? = some o') : (S.set k o)[k]? = some o := by
  simp [(List.getElem?_eq_some_iff.mp h).1]
theorem get_lt {S : Sto} {k : Nat} {o : Ob} (h : S[k]? = some o) : k < S.length := (List.getElem?_eq_some_iff.mp h).1
theorem mt_append {S : Sto} {k : Nat} {xs : List D} (h : S[k]? = some (.lst xs)) (hl : xs.length < 16777216) (x : D) : mt .append (.ref k) [x] S = .ok .non (S.set k (.lst (xs ++ [x]))) := by
  simp [mt, h, hl]
theorem ty_append {S : Sto} {k : Nat} {xs : List D} (h : S[k]? = some (.lst xs)) : mtTy .append (.ref k) S = true := by simp [mtTy, lstOf, h]
/-- a list beside [] that was made for it -/
theorem eqD_nil {S : Sto} {r : Nat} {xs : List D} (h : S[r]? = some (.lst xs)) (h1 : plL xs = true) (h2 : dptL xs < 19) : eqD (S ++ [.lst []]) (.ref r) (.ref S.length) = some xs.isEmpty := by
  have g1 : (S ++ [Ob.lst []])[r]? = some (.lst xs) := pre_get (pre_snoc ..) h
  rw [eqD_ref g1 (last_get ..) h1 rfl h2 (by decide)]
  cases xs <;> simp
@[simp] theorem isD_nn : isD .non .non = some true := rfl
@[simp] theorem isD_in (i : Int) : isD (.int i) .non = some false := rfl
@[simp] theorem isD_tn (xs : List D) : isD (.tup xs) .non = some false := rfl
/-- the items of an enumeration from a place on -/
def enumA (i : Nat) (xs : List D) : List D := (xs.zipIdx i).map fun p => .tup [.int (p.2 : Nat), p.1]
theorem enumD_A (xs : List D) : enumD xs = enumA 0 xs := rfl
@[simp] theorem enumA_nil (i : Nat) : enumA i [] = [] := rfl
@[simp] theorem enumA_cons (i : Nat) (x : D) (r : List D) : enumA i (x :: r) = .tup [.int i, x] :: enumA (i + 1) r := rfl
end Ev
end
section
set_option Elab.async false
set_option linter.all false
set_option maxRecDepth 100000
set_option maxHeartbeats 4000000
set_option autoImplicit false
set_option exponentiation.threshold 500
/-! Gr1: texts of whole numbers and fractions. -/
namespace Gr
open PySem
abbrev numL := TL.numL
abbrev spl (s : Nat) (l : List Nat) : List (List Nat) := TL.spl [s] 0 [] l
/-! ### figures -/
def dig (c : Nat) : Bool := decide (48 ≤ c ∧ c ≤ 57)
def rdW (w : List Nat) : Option Nat := if w ≠ [] ∧ w.length ≤ 400 ∧ w.all dig = true ∧ (w = [48] ∨ w.head? ≠ some 48) then some (NumText.digitsVal w) else none
theorem rev_ind {P : List Nat → Prop} (h0 : P []) (h1 : ∀ p c, P p → P (p ++ [c])) (l : List Nat) : P l := by
  have : ∀ l : List Nat, P l.reverse := fun l => by
    induction l with
    | nil => exact h0
    | cons c r ih => rw [List.reverse_cons]; exact h1 _ _ ih
  simpa using this l.reverse
theorem val_snoc (p : List Nat) (c : Nat) : NumText.digitsVal (p ++ [c]) = NumText.digitsVal p * 10 + (c - 48) := by
  simp [NumText.digitsVal, List.foldl_append]
theorem val_lt (w : List Nat) (h : w.all dig = true) : NumText.digitsVal w < 10 ^ w.length := by
  induction w using rev_ind with
  | h0 => simp [NumText.digitsVal]
  | h1 p c ih =>
    rw [List.all_append, Bool.and_eq_true] at h
    have i := ih h.1
    have hc : dig c = true := by simpa using h.2
    have hc' : 48 ≤ c ∧ c ≤ 57 := by simpa [dig] using hc
    rw [val_snoc, List.length_append, List.length_singleton, Nat.pow_succ]
    omega
theorem canon (w : List Nat) (h0 : w ≠ []) (h : w.all dig = true) (hc : w = [48] ∨ w.head? ≠ some 48) : numL (NumText.digitsVal w) = w ∧ (w = [48] ∨ 0 < NumText.digitsVal w) := by
  induction w using rev_ind with
  | h0 => exact absurd rfl h0
  | h1 p c ih =>
    rw [List.all_append, Bool.and_eq_true] at h
    have hd : dig c = true := by simpa using h.2
    have hd' : 48 ≤ c ∧ c ≤ 57 := by simpa [dig] using hd
    rw [val_snoc]
    by_cases hp : p = []
    · subst hp
      simp only [NumText.digitsVal, List.foldl_nil, Nat.zero_mul, Nat.zero_add, List.nil_append]
      refine ⟨?_, ?_⟩
      · show TL.numL _ = _
        rw [TL.numL_lt (by omega)]
        congr 1
        omega
      · rcases hc with e | e
        · exact Or.inl (by simpa using e)
        · refine Or.inr ?_
          have : c ≠ 48 := by simpa using e
          omega
    · have hpc : p.head? ≠ some 48 := by
        rcases hc with e | e
        · exfalso
          cases p with
          | nil => exact hp rfl
          | cons x r => simp at e
        · cases p with
          | nil => exact absurd rfl hp
          | cons x r => simpa using e
      have ⟨e1, e2⟩ := ih hp h.1 (Or.inr hpc)
      have pos : 0 < NumText.digitsVal p := by
        rcases e2 with e2 | e2
        · subst e2; exact absurd rfl hpc
        · exact e2
      refine ⟨?_, Or.inr (by omega)⟩
      show TL.numL _ = _
      rw [TL.numL_step (by omega), show (NumText.digitsVal p * 10 + (c - 48)) / 10 = NumText.digitsVal p by omega, show 48 + (NumText.digitsVal p * 10 + (c - 48)) % 10 = c by omega]
      exact congrArg (· ++ [c]) e1
theorem numL_dig (n : Nat) : (numL n).all dig = true := by
  rw [List.all_eq_true]
  intro c hc
  simpa [dig] using TL.numL_digits n c hc
theorem numL_head (n : Nat) : numL n = [48] ∨ (numL n).head? ≠ some 48 := by
  induction n using Nat.strongRecOn with
  | _ n ih =>
    by_cases h : n < 10
    · show TL.numL n = _ ∨ (TL.numL n).head? ≠ _
      rw [TL.numL_lt h]
      by_cases z : n = 0
      · subst z; exact Or.inl rfl
      · refine Or.inr ?_
        simp
        omega
    · right
      show (TL.numL n).head? ≠ _
      rw [TL.numL_step (by omega)]
      have := ih (n / 10) (by omega)
      rcases this with e | e
      · exfalso
        have v := TL.numL_val (n / 10)
        rw [show TL.numL (n / 10) = [48] from e] at v
        simp [NumText.digitsVal] at v
        omega
      · have ne := TL.numL_ne (n / 10)
        revert e ne
        show (TL.numL (n / 10)).head? ≠ _ → _ → _
        cases TL.numL (n / 10) with
        | nil => intro _ h; exact absurd rfl h
        | cons a b => intro h _; simpa using h
abbrev big (n : Nat) : Prop := n < 10 ^ 400
theorem rdW_some {w : List Nat} {n : Nat} : rdW w = some n ↔ w = numL n ∧ big n := by
  unfold rdW
  constructor
  · intro h
    split at h
    · rename_i hh
      obtain ⟨h0, h1, h2, h3⟩ := hh
      cases h
      exact ⟨(canon w h0 h2 h3).1.symm, Nat.lt_of_lt_of_le (val_lt w h2) (Nat.pow_le_pow_right (by decide) h1)⟩
    · cases h
  · rintro ⟨rfl, h⟩
    rw [if_pos ⟨TL.numL_ne n, TL.numL_len (by decide) h, numL_dig n, numL_head n⟩]
    exact congrArg some (TL.numL_val n)
theorem rdW_num {n : Nat} (h : big n) : rdW (numL n) = some n := rdW_some.mpr ⟨rfl, h⟩
/-! ### cuts -/
theorem pre1 (s c : Nat) (r : List Nat) : TL.pre [s] (c :: r) = decide (c = s) := by
  by_cases h : c = s
  · subst h
    simp [TL.pre]
  · rw [TL.pre_of_head [] r h]
    simp [h]
theorem spl_back' (s : Nat) : ∀ (l acc : List Nat), s ∉ acc → TL.spl [s] 0 acc l ≠ [] ∧ TL.joinL [s] (TL.spl [s] 0 acc l) = acc ++ l ∧ ∀ p ∈ TL.spl [s] 0 acc l, s ∉ p
  | [], acc, h => by
    rw [TL.spl_nil]
    exact ⟨by simp, by simp [TL.joinL], by simpa using h⟩
  | c :: r, acc, h => by
    by_cases hc : c = s
    · rw [TL.spl_hit (by rw [pre1]; simp [hc])]
      obtain ⟨a1, a2, a3⟩ := spl_back' s r [] (by simp)
      show acc :: TL.spl [s] 0 [] r ≠ [] ∧ TL.joinL [s] (acc :: TL.spl [s] 0 [] r) = _ ∧ ∀ p ∈ acc :: TL.spl [s] 0 [] r, s ∉ p
      refine ⟨by simp, ?_, ?_⟩
      · cases e : TL.spl [s] 0 [] r with
        | nil => exact absurd e a1
        | cons p q =>
          rw [e] at a2
          show acc ++ ([s] ++ TL.joinL [s] (p :: q)) = _
          rw [a2, hc]
          rfl
      · intro p hp
        rcases List.mem_cons.mp hp with e | e
        · subst e; exact h
        · exact a3 p e
    · rw [TL.spl_miss (by rw [pre1]; simp [hc])]
      have := spl_back' s r (acc ++ [c]) (by simp [h]; exact fun e => hc e.symm)
      simpa using this
theorem spl_back (s : Nat) (l : List Nat) : spl s l ≠ [] ∧ TL.joinL [s] (spl s l) = l ∧ ∀ p ∈ spl s l, s ∉ p := by
  simpa using spl_back' s l [] (by simp)
theorem spl_one {s : Nat} {p : List Nat} (h : s ∉ p) : spl s p = [p] := TL.spl_last1 h
theorem spl_two {s : Nat} {p q : List Nat} (h : s ∉ p) : spl s (p ++ s :: q) = p :: spl s q := TL.spl_part1 (S := []) h
/-! ### whole numbers below nought, fractions -/
def intL (i : Int) : List Nat := if i < 0 then 45 :: numL i.natAbs else numL i.natAbs
def frL (a b : Int) : List Nat := if b = 1 then intL a else intL a ++ 47 :: intL b
def isFr (a b : Int) : Prop := 0 < b ∧ Nat.gcd a.natAbs b.natAbs = 1
instance (a b : Int) : Decidable (isFr a b) := by unfold isFr; infer_instance
def good (a b : Int) : Prop := isFr a b ∧ big a.natAbs ∧ big b.natAbs
def neg (w : List Nat) : Bool := decide (w.take 1 = [45])
def body (w : List Nat) : List Nat := if neg w = true then w.drop 1 else w
def sgn (w : List Nat) (n : Nat) : Int := if neg w = true then -(n : Int) else n
def rdP (w : List Nat) : Option (Int × Int) := match spl 47 (body w) with
  | [p] => (rdW p).bind fun n => if w = [45, 48] then none else some (sgn w n, 1)
  | [p, q] => (rdW p).bind fun n => (rdW q).bind fun m => if m < 2 ∨ Nat.gcd n m ≠ 1 then none else some (sgn w n, (m : Int))
  | _ => none
theorem numL_free {n s : Nat} (h : s < 48 ∨ 57 < s) : s ∉ numL n := TL.numL_free h
theorem numL_cons (n : Nat) : ∃ c r, numL n = c :: r ∧ 48 ≤ c ∧ c ≤ 57 := by
  cases e : numL n with
  | nil => exact absurd e (TL.numL_ne n)
  | cons c r =>
    have := TL.numL_digits n c (by rw [show TL.numL n = c :: r from e]; simp)
    exact ⟨c, r, rfl, this.1, this.2⟩
/-- the figures of a fraction -/
def fbL (a b : Nat) : List Nat := if b = 1 then numL a else numL a ++ 47 :: numL b
theorem intL_nat (n : Nat) : intL (n : Int) = numL n := by
  unfold intL
  rw [if_neg (by omega), Int.natAbs_natCast]
theorem frL_eq {a b : Int} (hb : 0 < b) : frL a b = if a < 0 then 45 :: fbL a.natAbs b.natAbs else fbL a.natAbs b.natAbs := by
  obtain ⟨m, rfl⟩ := Int.eq_ofNat_of_zero_le (Int.le_of_lt hb)
  unfold frL fbL
  rw [intL_nat, Int.natAbs_natCast]
  unfold intL
  by_cases h1 : m = 1
  · subst h1; simp
  · rw [if_neg (by omega), if_neg h1]
    split <;> simp
theorem fb_free {a b s : Nat} (h : s < 47 ∨ 57 < s) : s ∉ fbL a b := by
  unfold fbL
  split
  · exact numL_free (by omega)
  · intro hm
    rcases List.mem_append.mp hm with e | e
    · exact numL_free (by omega) e
    · rcases List.mem_cons.mp e with e | e
      · omega
      · exact numL_free (by omega) e
theorem fb_cons (a b : Nat) : ∃ c r, fbL a b = c :: r ∧ 48 ≤ c ∧ c ≤ 57 := by
  obtain ⟨c, r, e, h⟩ := numL_cons a
  unfold fbL
  split
  · exact ⟨c, r, e, h⟩
  · exact ⟨c, r ++ 47 :: numL b, by rw [e]; rfl, h⟩
theorem body_neg (w : List Nat) : neg w = true → w = 45 :: body w := by
  intro h
  unfold body
  rw [if_pos h]
  cases w with
  | nil => simp [neg] at h
  | cons c r =>
    have : c = 45 := by simpa [neg] using h
    simp [this]
theorem body_frL {a b : Int} (hb : 0 < b) : body (frL a b) = fbL a.natAbs b.natAbs ∧ neg (frL a b) = decide (a < 0) := by
  rw [frL_eq hb]
  obtain ⟨c, r, e, h⟩ := fb_cons a.natAbs b.natAbs
  by_cases ha : a < 0
  · rw [if_pos ha]
    simp [body, neg, ha]
  · rw [if_neg ha, e]
    have hc : c ≠ 45 := by omega
    simp [body, neg, ha, hc]
theorem rdP_some {w : List Nat} {a b : Int} : rdP w = some (a, b) ↔ w = frL a b ∧ good a b := by
  constructor
  · intro h
    unfold rdP at h
    obtain ⟨_, hj, hf⟩ := spl_back 47 (body w)
    split at h
    · rename_i p e
      rw [e] at hj hf
      have hj : p = body w := hj
      cases hr : rdW p with
      | none => rw [hr] at h; simp at h
      | some n =>
        rw [hr, Option.bind_some] at h
        obtain ⟨e1, e2⟩ := rdW_some.mp hr
        split at h
        · cases h
        · rename_i hz
          have h' : (sgn w n, (1 : Int)) = (a, b) := by simpa using h
          obtain ⟨rfl, rfl⟩ := Prod.mk.inj h'
          have hw : w = if neg w = true then 45 :: numL n else numL n := by
            split
            · rename_i hn
              rw [← e1, hj]; exact body_neg w hn
            · rename_i hn
              rw [← e1, hj]; unfold body; rw [if_neg hn]
          have hs : neg w = true → n ≠ 0 := by
            rintro hn rfl
            rw [if_pos hn] at hw
            exact hz hw
          refine ⟨?_, ⟨by omega, by simp⟩, ?_, by decide⟩
          · rw [frL_eq (by omega)]
            unfold sgn fbL
            by_cases hn : neg w = true
            · have := hs hn
              rw [if_pos hn] at hw ⊢
              rw [if_pos (by omega), if_pos (by simp), Int.natAbs_neg, Int.natAbs_natCast]
              exact hw
            · rw [if_neg hn] at hw ⊢
              rw [if_neg (by omega), if_pos (by simp), Int.natAbs_natCast]
              exact hw
          · unfold sgn
            split
            · rw [Int.natAbs_neg, Int.natAbs_natCast]; exact e2
            · rw [Int.natAbs_natCast]; exact e2
    · rename_i p q e
      rw [e] at hj hf
      have hj : p ++ ([47] ++ q) = body w := hj
      cases hr : rdW p with
      | none => rw [hr] at h; simp at h
      | some n =>
        cases hr2 : rdW q with
        | none => rw [hr, hr2] at h; simp at h
        | some m =>
          rw [hr, Option.bind_some, hr2, Option.bind_some] at h
          obtain ⟨e1, e2⟩ := rdW_some.mp hr
          obtain ⟨g1, g2⟩ := rdW_some.mp hr2
          split at h
          · cases h
          · rename_i hz
            have h' : (sgn w n, (m : Int)) = (a, b) := by simpa using h
            obtain ⟨rfl, rfl⟩ := Prod.mk.inj h'
            have hm : 2 ≤ m := by omega
            have hg : Nat.gcd n m = 1 := by
              have := fun e => hz (Or.inr e)
              exact Classical.byContradiction this
            have hn0 : n ≠ 0 := by
              rintro rfl
              rw [Nat.gcd_zero_left] at hg
              omega
            have hw : w = if neg w = true then 45 :: fbL n m else fbL n m := by
              have hb : body w = fbL n m := by
                unfold fbL
                rw [if_neg (by omega), ← hj, e1, g1]
                rfl
              split
              · rename_i hn
                rw [← hb]; exact body_neg w hn
              · rename_i hn
                rw [← hb]; unfold body; rw [if_neg hn]
            refine ⟨?_, ⟨by omega, ?_⟩, ?_, by rw [Int.natAbs_natCast]; exact g2⟩
            · rw [frL_eq (by omega)]
              unfold sgn
              by_cases hn : neg w = true
              · rw [if_pos hn] at hw ⊢
                rw [if_pos (by omega), Int.natAbs_neg, Int.natAbs_natCast, Int.natAbs_natCast]
                exact hw
              · rw [if_neg hn] at hw ⊢
                rw [if_neg (by omega), Int.natAbs_natCast, Int.natAbs_natCast]
                exact hw
            · unfold sgn
              split
              · rw [Int.natAbs_neg, Int.natAbs_natCast, Int.natAbs_natCast]; exact hg
              · rw [Int.natAbs_natCast, Int.natAbs_natCast]; exact hg
            · unfold sgn
              split
              · rw [Int.natAbs_neg, Int.natAbs_natCast]; exact e2
              · rw [Int.natAbs_natCast]; exact e2
    · cases h
  · rintro ⟨rfl, ⟨hb, hg⟩, b1, b2⟩
    obtain ⟨e1, e2⟩ := body_frL (a := a) hb
    have hs : sgn (frL a b) a.natAbs = a := by
      unfold sgn
      rw [e2]
      by_cases h : a < 0 <;> simp [h] <;> omega
    unfold rdP
    rw [e1]
    by_cases h1 : b = 1
    · subst h1
      have : fbL a.natAbs (Int.natAbs 1) = numL a.natAbs := by simp [fbL]
      rw [this, spl_one (numL_free (by omega))]
      show (rdW (numL a.natAbs)).bind _ = _
      rw [rdW_num b1, Option.bind_some, if_neg, hs]
      intro hw
      have e3 := e2
      rw [hw] at e3 e1
      have ha : a < 0 := by simpa [neg] using e3
      have : numL a.natAbs = numL 0 := by
        rw [this] at e1
        rw [← e1]
        rfl
      have := TL.numL_inj this
      omega
    · have : fbL a.natAbs b.natAbs = numL a.natAbs ++ 47 :: numL b.natAbs := by
        unfold fbL
        rw [if_neg (by omega)]
      rw [this, spl_two (numL_free (by omega)), spl_one (numL_free (by omega))]
      show (rdW (numL a.natAbs)).bind _ = _
      rw [rdW_num b1, Option.bind_some, rdW_num b2, Option.bind_some, if_neg, hs]
      · congr 2
        omega
      · rintro (h | h)
        · omega
        · exact h hg
end Gr
end
section
set_option Elab.async false
set_option linter.all false
set_option maxRecDepth 100000
set_option maxHeartbeats 4000000
set_option autoImplicit false
set_option exponentiation.threshold 500
/-! Gr2: texts of numbers. -/
namespace Gr
open PySem
def isSg (c : Nat) : Bool := decide (c = 43 ∨ c = 45)
def nuL (a b c d : Int) : List Nat := if c = 0 then frL a b else (if a ≠ 0 then frL a b ++ (if 0 < c then [43] else []) else []) ++ (frL c d ++ [105])
/-- the places of signs behind the first place -/
def cutsL (w : List Nat) : List Nat := ((List.range (w.length - 1)).map (1 + ·)).filter fun k => isSg (w.getD k 0)
def cutAt (w : List Nat) : Nat := (cutsL w).headD 0
/-- the text of the second part -/
def secL (w : List Nat) (k : Nat) : List Nat := if w[k]? = some 43 ∧ 0 < k then (w.take (w.length - 1)).drop (k + 1) else (w.take (w.length - 1)).drop k
structure N4 where
  a : Int
  b : Int
  c : Int
  d : Int
  deriving DecidableEq
def N4.L (z : N4) : List Nat := nuL z.a z.b z.c z.d
def N4.good (z : N4) : Prop := Gr.good z.a z.b ∧ Gr.good z.c z.d
def join2 (k : Nat) (pl : Bool) (p q : Int × Int) : Option N4 := if p.1 = 0 ∨ q.1 = 0 ∨ (0 < k ∧ pl ≠ decide (0 < q.1)) then none else some (if 0 < k then ⟨p.1, p.2, q.1, q.2⟩ else ⟨0, 1, q.1, q.2⟩)
def rdN (w : List Nat) : Option N4 := if w.getLast? ≠ some 105 then (rdP w).map fun p => ⟨p.1, p.2, 0, 1⟩
  else (if 0 < cutAt w then rdP (w.take (cutAt w)) else some (1, 1)).bind fun p => (rdP (secL w (cutAt w))).bind fun q => join2 (cutAt w) (decide (w[cutAt w]? = some 43)) p q
theorem cutAt_zero {w : List Nat} (h : ∀ k, 0 < k → k < w.length → isSg (w.getD k 0) = false) : cutsL w = [] := by
  unfold cutsL
  rw [List.filter_eq_nil_iff]
  intro k hk
  obtain ⟨j, hj, rfl⟩ := List.mem_map.mp hk
  have := List.mem_range.mp hj
  rw [h (1 + j) (by omega) (by omega)]
  simp
theorem cuts_head {w : List Nat} {k : Nat} (h0 : 0 < k) (hk : k < w.length) (hs : isSg (w.getD k 0) = true) (h : ∀ j, 0 < j → j < k → isSg (w.getD j 0) = false) : (cutsL w).head? = some k := by
  unfold cutsL
  rw [List.head?_filter, List.find?_map]
  have : List.find? ((fun k => isSg (w.getD k 0)) ∘ fun x => 1 + x) (List.range (w.length - 1)) = some (k - 1) := by
    rw [List.find?_range_eq_some]
    refine ⟨?_, by simp; omega, ?_⟩
    · show isSg (w.getD (1 + (k - 1)) 0) = true
      rw [show 1 + (k - 1) = k by omega]; exact hs
    · intro j hj
      show (!isSg (w.getD (1 + j) 0)) = true
      rw [h (1 + j) (by omega) (by omega)]
      rfl
  rw [this]
  simp
  omega
theorem cutAt_of {w : List Nat} {k : Nat} (h : (cutsL w).head? = some k) : cutAt w = k := by
  unfold cutAt
  cases e : cutsL w with
  | nil => rw [e] at h; cases h
  | cons a r => rw [e] at h; simpa using h
theorem cutAt_spec {w : List Nat} (h : 0 < cutAt w) : cutAt w < w.length ∧ isSg (w.getD (cutAt w) 0) = true := by
  have hm : cutAt w ∈ cutsL w := by
    unfold cutAt at *
    cases e : cutsL w with
    | nil => rw [e] at h; simp at h
    | cons a r => simp
  unfold cutsL at hm
  obtain ⟨h1, h2⟩ := List.mem_filter.mp hm
  obtain ⟨j, hj, e⟩ := List.mem_map.mp h1
  have := List.mem_range.mp hj
  exact ⟨by omega, h2⟩
theorem fr_ends {a b : Int} (hb : 0 < b) : (frL a b).getLast? ≠ some 105 := by
  intro h
  have hm := List.mem_of_getLast? h
  rw [frL_eq hb] at hm
  split at hm
  · rcases List.mem_cons.mp hm with e | e
    · omega
    · exact fb_free (by omega) e
  · exact fb_free (by omega) hm
theorem fr_shape {a b : Int} (hb : 0 < b) : ∃ c r, frL a b = c :: r ∧ (∀ x ∈ r, isSg x = false) ∧ ((c = 45 ∧ a < 0 ∧ r = fbL a.natAbs b.natAbs) ∨ (48 ≤ c ∧ c ≤ 57 ∧ ¬ a < 0 ∧ c :: r = fbL a.natAbs b.natAbs)) := by
  rw [frL_eq hb]
  have free : ∀ x ∈ fbL a.natAbs b.natAbs, isSg x = false := fun x hx => by
    have h1 := fun (e : x = 43) => fb_free (a := a.natAbs) (b := b.natAbs) (s := 43) (by omega) (e ▸ hx)
    have h2 := fun (e : x = 45) => fb_free (a := a.natAbs) (b := b.natAbs) (s := 45) (by omega) (e ▸ hx)
    simp [isSg]
    exact ⟨h1, h2⟩
  by_cases ha : a < 0
  · rw [if_pos ha]
    exact ⟨45, _, rfl, free, Or.inl ⟨rfl, ha, rfl⟩⟩
  · rw [if_neg ha]
    obtain ⟨c, r, e, h⟩ := fb_cons a.natAbs b.natAbs
    rw [e] at free ⊢
    exact ⟨c, r, rfl, fun x hx => free x (List.mem_cons_of_mem _ hx), Or.inr ⟨h.1, h.2, ha, rfl⟩⟩
theorem isSg_iff {c : Nat} : isSg c = true ↔ c = 43 ∨ c = 45 := by simp [isSg]
theorem getD_mem {l : List Nat} {k : Nat} (h : k < l.length) : l.getD k 0 ∈ l := by
  rw [List.getD_eq_getElem?_getD, List.getElem?_eq_getElem h]
  exact List.getElem_mem h
/-- a number's text, either no sign within or one that parts it -/
theorem nu_cut {a b c d : Int} (hb : 0 < b) (hd : 0 < d) (hc : c ≠ 0) (ha : a ≠ 0) :
    nuL a b c d = frL a b ++ (if 0 < c then 43 else 45) :: (fbL c.natAbs d.natAbs ++ [105]) := by
  unfold nuL
  rw [if_neg hc, if_pos ha, frL_eq hd]
  by_cases h : 0 < c
  · rw [if_pos h, if_pos h, if_neg (by omega)]
    simp
  · rw [if_neg h, if_neg h, if_pos (by omega)]
    simp
theorem nu_one {a b c d : Int} (hc : c ≠ 0) (ha : a = 0) : nuL a b c d = frL c d ++ [105] := by
  unfold nuL
  rw [if_neg hc, if_neg (by simpa using ha)]
  rfl
/-- no sign behind the first place -/
theorem one_free {c d : Int} (hd : 0 < d) : ∀ k, 0 < k → isSg ((frL c d ++ [105]).getD k 0) = false := by
  intro k hk
  obtain ⟨x, r, e, hr, _⟩ := fr_shape (a := c) hd
  rw [e]
  by_cases hl : k < (x :: r ++ [105]).length
  · obtain ⟨j, rfl⟩ : ∃ j, k = j + 1 := ⟨k - 1, by omega⟩
    have : (x :: r ++ [105]).getD (j + 1) 0 = (r ++ [105]).getD j 0 := rfl
    rw [this]
    have hm := getD_mem (l := r ++ [105]) (k := j) (by simp at hl ⊢; omega)
    rcases List.mem_append.mp hm with h | h
    · exact hr _ h
    · rw [List.mem_singleton.mp h]; rfl
  · rw [List.getD_eq_getElem?_getD, List.getElem?_eq_none (by omega)]; rfl
theorem two_shape {a b c d : Int} (hb : 0 < b) (hd : 0 < d) (hc : c ≠ 0) (ha : a ≠ 0) :
    let w := nuL a b c d
    let m := (frL a b).length
    0 < m ∧ m < w.length ∧ w.getD m 0 = (if 0 < c then 43 else 45) ∧ (∀ k, 0 < k → k ≠ m → isSg (w.getD k 0) = false) := by
  intro w m
  obtain ⟨x, r, e, hr, _⟩ := fr_shape (a := a) hb
  have hw : w = frL a b ++ (if 0 < c then 43 else 45) :: (fbL c.natAbs d.natAbs ++ [105]) := nu_cut hb hd hc ha
  have hm : m = r.length + 1 := by show (frL a b).length = _; rw [e]; rfl
  refine ⟨by omega, by rw [hw]; simp [m], ?_, ?_⟩
  · rw [hw, List.getD_eq_getElem?_getD, List.getElem?_append_right (by simp [m])]
    simp [m]
  · intro k h0 hk
    rw [hw, List.getD_eq_getElem?_getD]
    by_cases hl : k < m
    · rw [List.getElem?_append_left hl, e]
      obtain ⟨j, rfl⟩ : ∃ j, k = j + 1 := ⟨k - 1, by omega⟩
      rw [List.getElem?_cons_succ, List.getElem?_eq_getElem (by omega)]
      exact hr _ (List.getElem_mem _)
    · rw [List.getElem?_append_right (by omega)]
      obtain ⟨j, hj⟩ : ∃ j, k - (frL a b).length = j + 1 := ⟨k - m - 1, by show k - m = _; omega⟩
      rw [hj, List.getElem?_cons_succ]
      cases hz : (fbL c.natAbs d.natAbs ++ [105])[j]? with
      | none => rfl
      | some y =>
        have hy := List.mem_of_getElem? hz
        rcases List.mem_append.mp hy with h | h
        · have h1 := fun (e : y = 43) => fb_free (a := c.natAbs) (b := d.natAbs) (s := 43) (by omega) (e ▸ h)
          have h2 := fun (e : y = 45) => fb_free (a := c.natAbs) (b := d.natAbs) (s := 45) (by omega) (e ▸ h)
          simp [isSg]
          exact ⟨h1, h2⟩
        · rw [List.mem_singleton.mp h]; rfl
theorem good01 : good 0 1 := ⟨⟨by decide, by decide⟩, by decide, by decide⟩
theorem rdN_some {w : List Nat} {z : N4} : rdN w = some z ↔ w = z.L ∧ z.good := by
  constructor
  · intro h
    unfold rdN at h
    by_cases hl : w.getLast? = some 105
    · rw [if_neg (by simpa using hl)] at h
      obtain ⟨u, rfl⟩ : ∃ u, w = u ++ [105] := List.getLast?_eq_some_iff.mp hl
      have htk : (u ++ [105]).take ((u ++ [105]).length - 1) = u := by simp
      by_cases hk : 0 < cutAt (u ++ [105])
      · obtain ⟨k1, k2⟩ := cutAt_spec hk
        unfold join2 secL at h
        rw [htk] at h
        generalize cutAt (u ++ [105]) = k at *
        rw [if_pos hk] at h
        cases h1 : rdP ((u ++ [105]).take k) with
        | none => rw [h1] at h; simp at h
        | some p =>
          rw [h1, Option.bind_some] at h
          have hku : k < u.length := by
            rcases Nat.lt_or_ge k u.length with h | h
            · exact h
            · have : k = u.length := by simp at k1; omega
              subst this
              simp [List.getD_eq_getElem?_getD, isSg] at k2
          have e1 : (u ++ [105]).take k = u.take k := List.take_append_of_le_length (by omega)
          have e2 : (u ++ [105])[k]? = u[k]? := List.getElem?_append_left hku
          have e3 : (u ++ [105]).getD k 0 = u[k] := by rw [List.getD_eq_getElem?_getD, e2, List.getElem?_eq_getElem hku]; rfl
          rw [e2] at h
          rw [e1] at h1
          rw [e3] at k2
          have hu : u = u.take k ++ u[k] :: u.drop (k + 1) := by
            conv => lhs; rw [← List.take_append_drop k u]
            rw [List.drop_eq_getElem_cons hku]
          obtain ⟨p1, p2⟩ := p
          obtain ⟨g1, g2⟩ := rdP_some.mp h1
          have hx : u[k]? = some u[k] := List.getElem?_eq_getElem hku
          rw [hx] at h
          by_cases hp : u[k] = 43
          · rw [if_pos ⟨by rw [hp], hk⟩] at h
            cases h2 : rdP (u.drop (k + 1)) with
            | none => rw [h2] at h; simp at h
            | some q =>
              rw [h2, Option.bind_some] at h
              obtain ⟨q1, q2⟩ := q
              obtain ⟨g3, g4⟩ := rdP_some.mp h2
              split at h
              · cases h
              · rename_i hn
                cases h
                have a0 : p1 ≠ 0 := fun e => hn (Or.inl e)
                have c0 : q1 ≠ 0 := fun e => hn (Or.inr (Or.inl e))
                have c1 : 0 < q1 := by
                  by_cases h : 0 < q1
                  · exact h
                  · exact absurd (Or.inr (Or.inr ⟨hk, by simp [hp, h]⟩)) hn
                refine ⟨?_, g2, g4⟩
                show _ = nuL _ _ _ _
                rw [nu_cut g2.1.1 g4.1.1 c0 a0, if_pos c1, ← g1]
                have : u.drop (k + 1) = fbL q1.natAbs q2.natAbs := by rw [g3, frL_eq g4.1.1, if_neg (by omega)]
                conv => lhs; rw [hu, hp, this]
                simp
          · have hp2 : u[k] = 45 := by rcases isSg_iff.mp k2 with e | e; exact absurd e hp; exact e
            rw [if_neg (by rintro ⟨e, _⟩; exact hp (by simpa using e))] at h
            cases h2 : rdP (u.drop k) with
            | none => rw [h2] at h; simp at h
            | some q =>
              rw [h2, Option.bind_some] at h
              obtain ⟨q1, q2⟩ := q
              obtain ⟨g3, g4⟩ := rdP_some.mp h2
              split at h
              · cases h
              · rename_i hn
                cases h
                have a0 : p1 ≠ 0 := fun e => hn (Or.inl e)
                have c0 : q1 ≠ 0 := fun e => hn (Or.inr (Or.inl e))
                have c1 : ¬ 0 < q1 := by
                  intro h
                  exact hn (Or.inr (Or.inr ⟨hk, by simp [hp, h]⟩))
                refine ⟨?_, g2, g4⟩
                show _ = nuL _ _ _ _
                rw [nu_cut g2.1.1 g4.1.1 c0 a0, if_neg c1, ← g1]
                have : u.drop k = 45 :: fbL q1.natAbs q2.natAbs := by rw [g3, frL_eq g4.1.1, if_pos (by omega)]
                conv => lhs; rw [← List.take_append_drop k u, this]
                simp
      · unfold join2 secL at h
        rw [htk] at h
        generalize cutAt (u ++ [105]) = k at *
        have : k = 0 := by omega
        subst this
        rw [if_neg hk, if_neg (by simp), Option.bind_some, List.drop_zero] at h
        cases h2 : rdP u with
        | none => rw [h2] at h; simp at h
        | some q =>
          rw [h2, Option.bind_some] at h
          obtain ⟨q1, q2⟩ := q
          obtain ⟨g3, g4⟩ := rdP_some.mp h2
          split at h
          · cases h
          · rename_i hn
            cases h
            refine ⟨?_, good01, g4⟩
            show _ = nuL _ _ _ _
            rw [nu_one (fun e => hn (Or.inr (Or.inl e))) rfl, ← g3]
    · rw [if_pos (by simpa using hl)] at h
      cases h1 : rdP w with
      | none => rw [h1] at h; simp at h
      | some p =>
        rw [h1] at h
        cases h
        obtain ⟨p1, p2⟩ := p
        obtain ⟨g1, g2⟩ := rdP_some.mp h1
        refine ⟨?_, g2, good01⟩
        show _ = nuL _ _ _ _
        unfold nuL
        rw [if_pos rfl]
        exact g1
  · rintro ⟨rfl, g1, g2⟩
    obtain ⟨a, b, c, d⟩ := z
    show rdN (nuL a b c d) = _
    have g1 : good a b := g1
    have g2 : good c d := g2
    unfold rdN
    by_cases hc : c = 0
    · have : nuL a b c d = frL a b := by unfold nuL; rw [if_pos hc]
      rw [this, if_pos (fr_ends g1.1.1), rdP_some.mpr ⟨rfl, g1⟩]
      have hd : d = 1 := by
        have h1 := g2.1.1
        have h2 := g2.1.2
        rw [hc] at h2
        simp at h2
        omega
      simp [hc, hd]
    · by_cases ha : a = 0
      · have e := nu_one (b := b) (d := d) hc ha
        have hb : b = 1 := by
          have h1 := g1.1.1
          have h2 := g1.1.2
          rw [ha] at h2
          simp at h2
          omega
        have z : cutAt (nuL a b c d) = 0 := by unfold cutAt; rw [cutAt_zero]; rfl; rw [e]; exact fun k h _ => one_free g2.1.1 k h
        rw [z, if_neg (by rw [e]; simp), if_neg (by omega), Option.bind_some]
        have s : secL (nuL a b c d) 0 = frL c d := by
          unfold secL
          rw [if_neg (by simp), e]
          simp
        rw [s, rdP_some.mpr ⟨rfl, g2⟩, Option.bind_some]
        unfold join2
        simp [hc, ha, hb]
      · obtain ⟨m0, m1, m2, m3⟩ := two_shape g1.1.1 g2.1.1 hc ha
        have e := nu_cut g1.1.1 g2.1.1 hc ha
        have z : cutAt (nuL a b c d) = (frL a b).length := cutAt_of (cuts_head m0 m1 (by rw [m2]; split <;> rfl) (fun j h1 h2 => m3 j h1 (by omega)))
        rw [z, if_pos m0]
        have t : (nuL a b c d).take (frL a b).length = frL a b := by rw [e]; simp
        have l : (nuL a b c d).getLast? = some 105 := by
          rw [e, ← List.cons_append, ← List.append_assoc, List.getLast?_append]
          simp
        have g : (nuL a b c d)[(frL a b).length]? = some (if 0 < c then 43 else 45) := by
          rw [e, List.getElem?_append_right (by omega)]
          simp
        have s : secL (nuL a b c d) (frL a b).length = frL c d := by
          have tk : (nuL a b c d).take ((nuL a b c d).length - 1) = frL a b ++ (if 0 < c then 43 else 45) :: fbL c.natAbs d.natAbs := by
            have h : ∀ u : List Nat, (u ++ [105]).take ((u ++ [105]).length - 1) = u := fun u => by simp
            rw [e, ← List.cons_append, ← List.append_assoc, h]
          unfold secL
          rw [tk, g, frL_eq g2.1.1]
          by_cases h : 0 < c
          · rw [if_pos h, if_pos ⟨rfl, m0⟩, if_neg (by omega)]
            rw [List.drop_append]
            simp
          · rw [if_neg h, if_neg (by simp), if_pos (by omega)]
            simp
        rw [if_neg (by rw [l]; simp), t, rdP_some.mpr ⟨rfl, g1⟩, Option.bind_some, s, rdP_some.mpr ⟨rfl, g2⟩, Option.bind_some, g]
        unfold join2
        rw [if_pos m0, if_neg]
        rintro (h | h | ⟨_, h⟩)
        · exact ha h
        · exact hc h
        · apply h
          by_cases hp : 0 < c <;> simp [hp]
end Gr
end
section
set_option Elab.async false
set_option linter.all false
set_option maxRecDepth 100000
set_option maxHeartbeats 4000000
set_option autoImplicit false
set_option exponentiation.threshold 10000
/-! Gr3: numbers' texts and the machine's operations. -/
namespace Gr
open PySem Ev
theorem big_log {n : Nat} (h : big n) : n.log2 < 1920 := by
  by_cases z : n = 0
  · subst z; decide
  · have : n < 2 ^ 1920 := Nat.lt_trans h (by decide)
    exact (Nat.log2_lt z).mpr this
theorem str_int (i : Int) : (Str.ofString (toString i)).cps.toList = intL i := by
  by_cases h : i < 0
  · obtain ⟨n, rfl⟩ : ∃ n : Nat, i = Int.negSucc n := by
      cases i with
      | ofNat n => exact absurd h (by simp)
      | negSucc n => exact ⟨n, rfl⟩
    have e : toString (Int.negSucc n) = "-" ++ toString (n + 1) := rfl
    have t : TL.tl (Str.ofString (toString (Int.negSucc n))) = 45 :: numL (n + 1) := by
      rw [TL.tl_ofString, e, String.toList_append, List.map_append]
      have := TL.tl_num (n + 1)
      rw [TL.tl_ofString] at this
      show 45 :: _ = 45 :: _
      congr 1
    unfold intL
    rw [if_pos h]
    exact t
  · obtain ⟨n, rfl⟩ := Int.eq_ofNat_of_zero_le (by omega : 0 ≤ i)
    rw [intL_nat]
    exact TL.tl_num n
@[simp] theorem bi_str {i : Int} (h : big i.natAbs) (S : Sto) : bi .str [.int i] S = .ok (.str (intL i)) S := by
  show (if i.natAbs.log2 < 1920 then R.ok (D.str (Str.ofString (toString i)).cps.toList) S else .stuck) = _
  rw [if_pos (big_log h), str_int]
theorem intL_len {i : Int} (h : big i.natAbs) : (intL i).length ≤ 401 := by
  have := TL.numL_len (by decide) h
  unfold intL
  split
  · simp; exact this
  · exact Nat.le_trans this (by decide)
theorem frL_len {a b : Int} (h : big a.natAbs) (g : big b.natAbs) : (frL a b).length ≤ 803 := by
  have := intL_len h
  have := intL_len g
  unfold frL
  split
  · omega
  · simp; omega
theorem nuL_len {a b c d : Int} (h1 : big a.natAbs) (h2 : big b.natAbs) (h3 : big c.natAbs) (h4 : big d.natAbs) : (nuL a b c d).length ≤ 1610 := by
  have := frL_len h1 h2
  have := frL_len h3 h4
  unfold nuL
  split
  · omega
  · split
    · split <;> simp <;> omega
    · simp; omega
abbrev fr (a b : Int) : D := .tup [.int a, .int b]
abbrev nu (a b c d : Int) : D := .tup [fr a b, fr c d]
def N4.D (z : N4) : D := nu z.a z.b z.c z.d
@[simp] theorem eqD_fr (S : Sto) (a b c d : Int) : eqD S (fr a b) (fr c d) = some (decide (a = c ∧ b = d)) := by
  rw [eqD_pl rfl rfl (by simp [dpt, dptL]) (by simp [dpt, dptL])]
  congr 1
  simp
theorem nought {c d : Int} (h : isFr c d) : (c = 0 ∧ d = 1) ↔ c = 0 := by
  constructor
  · exact fun h => h.1
  · intro e
    subst e
    have h1 := h.1
    have h2 := h.2
    simp at h2
    exact ⟨rfl, by omega⟩
theorem intL_ne (i : Int) : intL i ≠ [] := by
  unfold intL
  split
  · simp
  · exact TL.numL_ne _
theorem frL_ne (a b : Int) : frL a b ≠ [] := by
  unfold frL
  split
  · exact intL_ne a
  · simp
theorem cat_ok {x y : List Nat} (S : Sto) (h : x.length + y.length ≤ 16777216) : binop .add (.str x) (.str y) S = .ok (.str (x ++ y)) S := if_pos h
end Gr
end
section
set_option Elab.async false
set_option linter.all false
set_option maxRecDepth 100000
set_option maxHeartbeats 4000000
set_option autoImplicit false
set_option exponentiation.threshold 10000
/-! Gr4: more of cuts and checks. -/
namespace Gr
open PySem Ev
theorem join_mem {s : List Nat} : ∀ {ps : List (List Nat)} {p : List Nat}, p ∈ ps → p.length ≤ (TL.joinL s ps).length
  | [], _, h => by cases h
  | [q], p, h => by rw [List.mem_singleton.mp h]; exact Nat.le_refl _
  | q :: r :: t, p, h => by
    show _ ≤ (q ++ (s ++ TL.joinL s (r :: t))).length
    rcases List.mem_cons.mp h with e | e
    · subst e; simp
    · have := join_mem (s := s) e
      simp
      omega
theorem join_cnt {s : Nat} : ∀ (ps : List (List Nat)), ps.length ≤ (TL.joinL [s] ps).length + 1
  | [] => by simp
  | [q] => by simp
  | q :: r :: t => by
    show _ ≤ (q ++ ([s] ++ TL.joinL [s] (r :: t))).length + 1
    have := join_cnt (s := s) (r :: t)
    simp at this ⊢
    omega
theorem spl_len {s : Nat} {l p : List Nat} (h : p ∈ spl s l) : p.length ≤ l.length := by
  have := join_mem (s := [s]) h
  rwa [(spl_back s l).2.1] at this
theorem spl_cnt (s : Nat) (l : List Nat) : (spl s l).length ≤ l.length + 1 := by
  have := join_cnt (s := s) (spl s l)
  rwa [(spl_back s l).2.1] at this
@[simp] theorem mt_split {l : List Nat} {s : Nat} (hs : s < 256) (h : l.length + 2 ≤ 16777216) (S : Sto) : mt .split (.str l) [.str [s]] S = .ok (.ref S.length) (S ++ [.lst ((spl s l).map .str)]) := by
  show (if [s] ≠ [] ∧ l.length + 2 ≤ 16777216 ∧ [s].all (· < 256) = true then _ else R.stuck) = _
  rw [if_pos ⟨by simp, h, by simp [hs]⟩]
@[simp] theorem ty_split (l : List Nat) (S : Sto) : mtTy .split (.str l) S = true := rfl
@[simp] theorem ty_rfind (l : List Nat) (S : Sto) : mtTy .rfind (.str l) S = true := rfl
@[simp] theorem ty_join (l : List Nat) (S : Sto) : mtTy .join (.str l) S = true := rfl
theorem body_len (w : List Nat) : (body w).length ≤ w.length := by unfold body; split <;> simp
abbrev frP (p : Int × Int) : Ev.D := fr p.1 p.2
theorem rd_check {w : List Nat} {x y : Int} (h : good x y) (u : ∀ p, rdP w = some p → p = (x, y)) : (rdP w).toList.map frP = if frL x y = w then [fr x y] else [] := by
  split
  · rename_i e
    rw [rdP_some.mpr ⟨e.symm, h⟩]
    rfl
  · rename_i e
    cases hr : rdP w with
    | none => rfl
    | some p =>
      exfalso
      have := u p hr
      subst this
      exact e (rdP_some.mp hr).1.symm
theorem neg_ite (G : Gm) {w : List Nat} (hw : w.length ≤ 1000000) (a b : E) (en : En) (S : Sto) (h : en.getD 0 none = some (.str w)) : ev G (.ite (.cmp .eq (.sl (.var 0) .none (.some (.cst (.int 1)))) (.cst (.str [45]))) a b) en S = if neg w = true then ev G a en S else ev G b en S := by
  have hl : w.length ≤ 16777216 := by omega
  rw [ev_ite, ev_cmp, ev_sl, ev_var, h]
  simp [hl, neg]
/-- what is read whole of the parts -/
def whN (ps : List (List Nat)) : List Nat := ps.flatMap fun p => (rdW p).toList
theorem whN_le (ps : List (List Nat)) : (whN ps).length ≤ ps.length := by
  induction ps with
  | nil => simp [whN]
  | cons p r ih =>
    unfold whN at *
    rw [List.flatMap_cons, List.length_append]
    have : ((rdW p).toList).length ≤ 1 := by cases rdW p <;> simp
    simp only [List.length_cons]
    omega
theorem good_red {a : Int} {b : Nat} (hb : b ≠ 0) (h1 : big a.natAbs) (h2 : big b) : good (a / (Nat.gcd a.natAbs b : Nat)) ((b : Int) / (Nat.gcd a.natAbs b : Nat)) := by
  have hg : 0 < Nat.gcd a.natAbs b := Nat.gcd_pos_of_pos_right _ (by omega)
  have d1 : Nat.gcd a.natAbs b ∣ a.natAbs := Nat.gcd_dvd_left ..
  have d2 : Nat.gcd a.natAbs b ∣ b := Nat.gcd_dvd_right ..
  have e1 : (a / (Nat.gcd a.natAbs b : Nat)).natAbs = a.natAbs / Nat.gcd a.natAbs b := by
    rw [Int.natAbs_ediv_of_dvd (Int.ofNat_dvd_left.mpr d1), Int.natAbs_natCast]
  have e2 : ((b : Int) / (Nat.gcd a.natAbs b : Nat)).natAbs = b / Nat.gcd a.natAbs b := by
    rw [← Int.natCast_ediv, Int.natAbs_natCast]
  refine ⟨⟨?_, ?_⟩, ?_, ?_⟩
  · rw [← Int.natCast_ediv]
    have := Nat.div_pos (Nat.le_of_dvd (by omega) d2) hg
    omega
  · rw [e1, e2, Nat.gcd_div d1 d2, Nat.div_self hg]
  · rw [e1]; exact Nat.lt_of_le_of_lt (Nat.div_le_self ..) h1
  · rw [e2]; exact Nat.lt_of_le_of_lt (Nat.div_le_self ..) h2
theorem big_bt {n : Nat} (h : big n) : n < 2 ^ 1400 := Nat.lt_trans h (by decide)
theorem sgn_abs (w : List Nat) (n : Nat) : (sgn w n).natAbs = n := by unfold sgn; split <;> omega
theorem red_one {a : Int} {b : Nat} (h : Nat.gcd a.natAbs b = 1) : (a / (Nat.gcd a.natAbs b : Nat)) = a ∧ ((b : Int) / (Nat.gcd a.natAbs b : Nat)) = b := by
  rw [h]; simp
def rdPs (w : List Nat) (ps : List (List Nat)) : Option (Int × Int) := match ps with
  | [p] => (rdW p).bind fun n => if w = [45, 48] then none else some (sgn w n, 1)
  | [p, q] => (rdW p).bind fun n => (rdW q).bind fun m => if m < 2 ∨ Nat.gcd n m ≠ 1 then none else some (sgn w n, (m : Int))
  | _ => none
theorem rdP_eq (w : List Nat) : rdP w = rdPs w (spl 47 (body w)) := rfl
theorem rdPs_none {w : List Nat} {ps : List (List Nat)} (h : 2 < ps.length ∨ (whN ps).length ≠ ps.length) : rdPs w ps = none := by
  rcases ps with _ | ⟨p, _ | ⟨q, _ | ⟨r, t⟩⟩⟩
  · rfl
  · have : (whN [p]).length ≠ 1 := by simpa using h
    cases hp : rdW p with
    | none => simp [rdPs, hp]
    | some k => simp [whN, hp] at this
  · have : (whN [p, q]).length ≠ 2 := by simpa using h
    cases hp : rdW p with
    | none => simp [rdPs, hp]
    | some k =>
      cases hq : rdW q with
      | none => simp [rdPs, hp, hq]
      | some m => simp [whN, hp, hq] at this
  · rfl
theorem sgn_neg {w : List Nat} (h : w.take 1 = [45]) (k : Nat) : sgn w k = -(k : Int) := by simp [sgn, neg, h]
theorem sgn_pos {w : List Nat} (h : ¬ w.take 1 = [45]) (k : Nat) : sgn w k = (k : Int) := by simp [sgn, neg, h]
end Gr
end
section
set_option Elab.async false
set_option linter.all false
set_option maxRecDepth 100000
set_option maxHeartbeats 4000000
set_option autoImplicit false
set_option exponentiation.threshold 10000
/-! Gr5: where the program parts a number's text. -/
namespace Gr
open PySem Ev
def rf (w : List Nat) (s : Nat) : Int := Txt.rfind ⟨w.toArray⟩ ⟨[s].toArray⟩
theorem pre_at (w : List Nat) (s i : Nat) : TL.pre [s] (w.drop i) = true ↔ w[i]? = some s := by
  rcases Nat.lt_or_ge i w.length with h | h
  · rw [List.drop_eq_getElem_cons h, pre1, decide_eq_true_iff, List.getElem?_eq_getElem h, Option.some_inj]
  · rw [List.drop_eq_nil_of_le h, List.getElem?_eq_none h]
    simp [TL.pre]
theorem rf_spec (w : List Nat) (s : Nat) : (rf w s = -1 ∧ ∀ i : Nat, w[i]? ≠ some s) ∨ ∃ i : Nat, rf w s = i ∧ w[i]? = some s ∧ ∀ k, i < k → w[k]? ≠ some s := by
  have at_i : ∀ i, StrLaws.At (⟨w.toArray⟩ : Str) ⟨[s].toArray⟩ (⟨w.toArray⟩ : Str).length i ↔ w[i]? = some s := fun i => by
    rw [TL.at_iff (by simp [TL.tl]) i]
    exact pre_at w s i
  rcases StrLaws.last_spec (⟨w.toArray⟩ : Str) ⟨[s].toArray⟩ with ⟨e, h⟩ | ⟨i, e, h1, h2⟩
  · left
    refine ⟨?_, fun i hi => h i ((at_i i).mpr hi)⟩
    unfold rf Txt.rfind
    rw [e]
  · right
    refine ⟨i, ?_, (at_i i).mp h1, fun k hk hi => h2 k hk ((at_i k).mpr hi)⟩
    unfold rf Txt.rfind
    rw [e]
def splitAt (w : List Nat) : Nat := (maxI (rf w 43) [rf w 45, 0]).toNat
theorem max3 (i j : Int) : maxI i [j, 0] = ((maxI i [j, 0]).toNat : Int) ∧ (maxI i [j, 0] = 0 ∨ maxI i [j, 0] = i ∨ maxI i [j, 0] = j) ∧ i ≤ maxI i [j, 0] ∧ j ≤ maxI i [j, 0] := by
  simp only [maxI]
  split <;> split <;> omega
theorem splitAt_int (w : List Nat) : maxI (rf w 43) [rf w 45, 0] = (splitAt w : Int) := (max3 _ _).1
theorem splitAt_le (w : List Nat) : splitAt w ≤ w.length := by
  have h := max3 (rf w 43) (rf w 45)
  have l : ∀ s, rf w s ≤ w.length := fun s => by
    rcases rf_spec w s with ⟨e, _⟩ | ⟨i, e, h, _⟩
    · omega
    · have := (List.getElem?_eq_some_iff.mp h).1
      omega
  have := l 43
  have := l 45
  unfold splitAt
  omega
theorem splitAt_of {w : List Nat} {m : Nat} (h0 : m = 0 ∨ isSg (w.getD m 0) = true) (h : ∀ k, m < k → isSg (w.getD k 0) = false) : splitAt w = m := by
  have hx := max3 (rf w 43) (rf w 45)
  have e := splitAt_int w
  have le : ∀ s, s = 43 ∨ s = 45 → rf w s ≤ m := fun s hs => by
    rcases rf_spec w s with ⟨e, _⟩ | ⟨i, e, h1, _⟩
    · omega
    · rcases Nat.lt_or_ge m i with q | q
      · have := h i q
        rw [List.getD_eq_getElem?_getD, h1] at this
        rcases hs with rfl | rfl <;> simp [isSg] at this
      · omega
  have l1 := le 43 (Or.inl rfl)
  have l2 := le 45 (Or.inr rfl)
  have ge : 0 < m → rf w 43 = m ∨ rf w 45 = m := fun hm => by
    have hs : isSg (w.getD m 0) = true := by rcases h0 with h0 | h0; omega; exact h0
    have hl : m < w.length := by
      rcases Nat.lt_or_ge m w.length with q | q
      · exact q
      · rw [List.getD_eq_getElem?_getD, List.getElem?_eq_none q] at hs
        simp [isSg] at hs
    have hg : w[m]? = some (w.getD m 0) := by rw [List.getD_eq_getElem?_getD, List.getElem?_eq_getElem hl]; rfl
    have key : ∀ s, w.getD m 0 = s → (s = 43 ∨ s = 45) → rf w s = m := fun s e hs => by
      rcases rf_spec w s with ⟨_, h1⟩ | ⟨i, e1, h1, h2⟩
      · exact absurd (hg.trans (congrArg some e)) (h1 m)
      · have := le s hs
        rcases Nat.lt_or_ge i m with q | q
        · exact absurd (hg.trans (congrArg some e)) (h2 m q)
        · omega
    rcases isSg_iff.mp hs with q | q
    · exact Or.inl (key 43 q (Or.inl rfl))
    · exact Or.inr (key 45 q (Or.inr rfl))
  rcases Nat.eq_zero_or_pos m with q | q
  · omega
  · rcases ge q with r | r <;> omega
def aheadL (w : List Nat) : List (Int × Int) := if 0 < splitAt w then (rdP (w.take (splitAt w))).toList else [(0, 1)]
def restL (w : List Nat) : List Nat := (w.take (w.length - 1)).drop (splitAt w)
def behindT (w : List Nat) : List Nat := if (restL w).take 1 = [43] ∧ 0 < splitAt w then (restL w).drop 1 else restL w
def behindL (w : List Nat) : List (Int × Int) := (rdP (behindT w)).toList
def cand (w : List Nat) : List N4 := (aheadL w).flatMap fun p => (behindL w).map fun q => ⟨p.1, p.2, q.1, q.2⟩
theorem rdP_good {w : List Nat} {p : Int × Int} (h : p ∈ (rdP w).toList) : good p.1 p.2 := by
  have : rdP w = some (p.1, p.2) := by simpa using h
  exact (rdP_some.mp this).2
theorem cand_good {w : List Nat} {z : N4} (h : z ∈ cand w) : z.good := by
  obtain ⟨p, hp, hz⟩ := List.mem_flatMap.mp h
  obtain ⟨q, hq, rfl⟩ := List.mem_map.mp hz
  refine ⟨?_, rdP_good hq⟩
  unfold aheadL at hp
  split at hp
  · exact rdP_good hp
  · rw [List.mem_singleton.mp hp]; exact good01
theorem cand_of {z : N4} (hz : z.good) (hl : z.L.getLast? = some 105) : cand z.L = [z] := by
  obtain ⟨a, b, c, d⟩ := z
  obtain ⟨g1, g2⟩ := hz
  have g1 : good a b := g1
  have g2 : good c d := g2
  have hl : (nuL a b c d).getLast? = some 105 := hl
  show cand (nuL a b c d) = _
  by_cases hc : c = 0
  · exfalso
    have : nuL a b c d = frL a b := by unfold nuL; rw [if_pos hc]
    rw [this] at hl
    exact fr_ends g1.1.1 hl
  · by_cases ha : a = 0
    · have e := nu_one (b := b) (d := d) hc ha
      have hb : b = 1 := ((nought g1.1).mpr ha).2
      have z : splitAt (nuL a b c d) = 0 := splitAt_of (Or.inl rfl) (by rw [e]; exact fun k h => one_free g2.1.1 k h)
      have r : restL (nuL a b c d) = frL c d := by unfold restL; rw [z, e]; simp
      unfold cand aheadL behindL behindT
      rw [z, if_neg (by omega), if_neg (by omega), r, rdP_some.mpr ⟨rfl, g2⟩]
      simp [ha, hb]
    · obtain ⟨m0, m1, m2, m3⟩ := two_shape g1.1.1 g2.1.1 hc ha
      have e := nu_cut g1.1.1 g2.1.1 hc ha
      have z : splitAt (nuL a b c d) = (frL a b).length := splitAt_of (Or.inr (by rw [m2]; split <;> rfl)) (fun k h => m3 k (by omega) (by omega))
      have t : (nuL a b c d).take (frL a b).length = frL a b := by rw [e]; simp
      have r : restL (nuL a b c d) = (if 0 < c then 43 else 45) :: fbL c.natAbs d.natAbs := by
        have h : ∀ u : List Nat, (u ++ [105]).take ((u ++ [105]).length - 1) = u := fun u => by simp
        unfold restL
        rw [z, e, ← List.cons_append, ← List.append_assoc, h]
        simp
      have bt : behindT (nuL a b c d) = frL c d := by
        unfold behindT
        rw [r, z, frL_eq g2.1.1]
        by_cases h : 0 < c
        · rw [if_pos h, if_pos ⟨by simp, m0⟩, if_neg (by omega)]; rfl
        · rw [if_neg h, if_neg (by simp), if_pos (by omega)]
      unfold cand aheadL behindL
      rw [z, if_pos m0, t, bt, rdP_some.mpr ⟨rfl, g1⟩, rdP_some.mpr ⟨rfl, g2⟩]
      simp
theorem cand_eq {w : List Nat} (hl : w.getLast? = some 105) : (cand w).filter (fun z => decide (z.L = w)) = (rdN w).toList := by
  cases h : rdN w with
  | none =>
    rw [Option.toList_none, List.filter_eq_nil_iff]
    intro z hz e
    have : rdN w = some z := rdN_some.mpr ⟨(by simpa using e : z.L = w).symm, cand_good hz⟩
    rw [h] at this
    cases this
  | some z =>
    obtain ⟨e, g⟩ := rdN_some.mp h
    subst e
    rw [cand_of g hl]
    simp
theorem rdN_frac {w : List Nat} (hl : w.getLast? ≠ some 105) : rdN w = (rdP w).map fun p => ⟨p.1, p.2, 0, 1⟩ := by
  unfold rdN
  rw [if_pos hl]
theorem cand_len (w : List Nat) : (cand w).length ≤ 1 := by
  have h1 : ∀ o : Option (Int × Int), o.toList.length ≤ 1 := fun o => by cases o <;> simp
  have h2 : (behindL w).length ≤ 1 := h1 _
  have h3 : (aheadL w).length ≤ 1 := by unfold aheadL; split; exact h1 _; simp
  unfold cand
  match h : aheadL w, h3 with
  | [], _ => simp
  | [p], _ => simpa using h2
theorem N4.D_inj {y z : N4} (h : y.D = z.D) : y = z := by
  obtain ⟨a, b, c, d⟩ := y
  obtain ⟨a', b', c', d'⟩ := z
  simpa [N4.D, and_assoc] using h
end Gr
end
section
set_option Elab.async false
set_option linter.all false
set_option maxRecDepth 100000
set_option maxHeartbeats 4000000
set_option autoImplicit false
set_option exponentiation.threshold 10000
/-! Gr6: repr of data; signs of texts. -/
namespace Gr
open PySem Ev
mutual
def nodes : PyData → Nat
  | .list xs => nodesL xs + 1
  | .tuple xs => nodesL xs + 1
  | _ => 1
def nodesL : List PyData → Nat
  | [] => 0
  | x :: r => nodes x + nodesL r
end
mutual
/-- no texts, no dicts, whole numbers of the machine's size -/
def plain : PyData → Bool
  | .none => true
  | .bool _ => true
  | .int i => decide (i.natAbs.log2 < 1920)
  | .list xs => plainL xs
  | .tuple xs => plainL xs
  | _ => false
def plainL : List PyData → Bool
  | [] => true
  | x :: r => plain x && plainL r
end
theorem textFrom_le : ∀ (ts : List Str) (k : Nat) (acc : Str), (textFrom k acc ts).length ≤ acc.length + piled ts
  | [], k, acc => by simp [textFrom]
  | t :: r, k, acc => by
    have := textFrom_le r (k + 1) (acc ++ (if k > 0 then ", " else "" : String) ++ t)
    have e : (acc ++ (if k > 0 then ", " else "" : String) ++ t).length ≤ acc.length + 2 + t.length := by
      rw [strLen_append, strLen_append]
      have : (((if k > 0 then ", " else "" : String) : Str)).length ≤ 2 := by split <;> decide
      omega
    rw [piled_cons]
    show (textFrom (k + 1) _ r).length ≤ _
    omega
theorem listText_le (ts : List Str) : (listText ts).length ≤ 2 + piled ts := by
  have := textFrom_le ts 0 "["
  have e1 : ((("[" : String) : Str)).length = 1 := rfl
  have e2 : ((("]" : String) : Str)).length = 1 := rfl
  unfold listText
  rw [strLen_append]
  omega
theorem tupleText_le (ts : List Str) : (tupleText ts).length ≤ 4 + piled ts := by
  unfold tupleText
  rw [strLen_append, strLen_append]
  have e1 : ((("(" : String) : Str)).length = 1 := rfl
  have e3 : (((if ts.length == 1 then ",)" else ")" : String) : Str)).length ≤ 2 := by split <;> decide
  rw [e1]
  by_cases h : ts = []
  · subst h
    have : (Str.join ", " ([] : List Str)).length = 0 := rfl
    omega
  · have := join_length_add ts h
    omega
theorem int_len {i : Int} (h : i.natAbs.log2 < 1920) : (PyData.shown (.int i)).length ≤ 700 := by
  have hl : i.natAbs < 10 ^ 600 := by
    have := Nat.lt_log2_self (n := i.natAbs)
    have h2 : i.natAbs < 2 ^ 1920 := by
      by_cases z : i.natAbs = 0
      · rw [z]; decide
      · exact (Nat.log2_lt z).mp h
    exact Nat.lt_trans h2 (by decide)
  have e := str_int i
  have : (PyData.shown (.int i)).length = (intL i).length := by
    rw [← e]
    show (Str.ofString (toString i)).cps.size = _
    simp
  rw [this]
  have := TL.numL_len (by decide) hl
  unfold intL
  split
  · show (TL.numL _).length + 1 ≤ 700
    omega
  · show (TL.numL _).length ≤ 700
    omega
mutual
theorem shown_le : ∀ d : PyData, plain d = true → d.showable = true ∧ d.shown.length + 10 ≤ 720 * nodes d
  | .none, _ => ⟨rfl, by decide⟩
  | .bool b, _ => ⟨rfl, by cases b <;> decide⟩
  | .int i, h => by
    have h : decide (i.natAbs.log2 < 1920) = true := h
    refine ⟨h, ?_⟩
    have := int_len (by simpa using h)
    show _ ≤ 720 * 1
    omega
  | .list xs, h => by
    obtain ⟨a, b⟩ := shownL_le xs h
    refine ⟨a, ?_⟩
    have := listText_le (PyData.shownAll xs)
    show (listText (PyData.shownAll xs)).length + 10 ≤ 720 * (nodesL xs + 1)
    omega
  | .tuple xs, h => by
    obtain ⟨a, b⟩ := shownL_le xs h
    refine ⟨a, ?_⟩
    have := tupleText_le (PyData.shownAll xs)
    show (tupleText (PyData.shownAll xs)).length + 10 ≤ 720 * (nodesL xs + 1)
    omega
  | .str _, h => by cases h
  | .dict _, h => by cases h
theorem shownL_le : ∀ xs : List PyData, plainL xs = true → PyData.showableAll xs = true ∧ piled (PyData.shownAll xs) ≤ 720 * nodesL xs
  | [], _ => ⟨rfl, by decide⟩
  | x :: r, h => by
    obtain ⟨h1, h2⟩ := Bool.and_eq_true_iff.mp (show (plain x && plainL r) = true from h)
    obtain ⟨a1, b1⟩ := shown_le x h1
    obtain ⟨a2, b2⟩ := shownL_le r h2
    refine ⟨?_, ?_⟩
    · show (PyData.showable x && PyData.showableAll r) = true
      rw [a1, a2]; rfl
    · show piled (PyData.shown x :: PyData.shownAll r) ≤ 720 * (nodes x + nodesL r)
      rw [piled_cons]
      omega
end
/-- a word and data without texts -/
theorem word_shown {c : List Nat} {d : PyData} (h : plain d = true) (hn : nodes d ≤ 20000) (hc : (reprText ⟨c.toArray⟩).length ≤ 1000) : (PyData.tuple [.str ⟨c.toArray⟩, d]).showable = true ∧ (PyData.tuple [.str ⟨c.toArray⟩, d]).shown.length ≤ 16777216 := by
  obtain ⟨a, b⟩ := shown_le d h
  refine ⟨?_, ?_⟩
  · show (true && (d.showable && true)) = true
    rw [a]; rfl
  · have := tupleText_le [reprText ⟨c.toArray⟩, d.shown]
    rw [piled_cons, piled_cons, piled_nil] at this
    show (tupleText [reprText ⟨c.toArray⟩, d.shown]).length ≤ _
    omega
theorem repr_of {S : Sto} {a : Ev.D} {p : PyData} (h : toP S 20 a = some p) (h1 : p.showable = true) (h2 : p.shown.length ≤ 16777216) : reprD S a = some p.shown.cps.toList := by
  unfold reprD
  rw [h, Option.bind_some, if_pos ⟨h1, h2⟩]
/-! signs -/
def asc (l : List Nat) : Prop := ∀ c ∈ l, c < 128
theorem asc_app {a b : List Nat} (h : asc a) (g : asc b) : asc (a ++ b) := fun c hc => (List.mem_append.mp hc).elim (h c) (g c)
theorem asc_cons {a : Nat} {b : List Nat} (h : a < 128) (g : asc b) : asc (a :: b) := fun c hc => (List.mem_cons.mp hc).elim (fun e => e ▸ h) (g c)
theorem asc_num (n : Nat) : asc (numL n) := fun c hc => by have := TL.numL_digits n c hc; omega
theorem asc_int (i : Int) : asc (intL i) := by
  unfold intL
  split
  · exact asc_cons (by decide) (asc_num _)
  · exact asc_num _
theorem asc_fr (a b : Int) : asc (frL a b) := by
  unfold frL
  split
  · exact asc_int _
  · exact asc_app (asc_int _) (asc_cons (by decide) (asc_int _))
theorem asc_L (z : N4) : asc z.L := by
  unfold N4.L nuL
  split
  · exact asc_fr _ _
  · refine asc_app ?_ (asc_app (asc_fr _ _) (asc_cons (by decide) (fun c h => by cases h)))
    split
    · refine asc_app (asc_fr _ _) ?_
      split
      · exact asc_cons (by decide) (fun c h => by cases h)
      · exact fun c h => by cases h
    · exact fun c h => by cases h
theorem asc_take {l : List Nat} (h : asc l) (k : Nat) : asc (l.take k) := fun c hc => h c (List.mem_of_mem_take hc)
theorem asc_pl {l : List Nat} (h : asc l) : pl (.str l) = true := by
  show l.all (· < 0x110000) = true
  rw [List.all_eq_true]
  intro c hc
  have := h c hc
  simp
  omega
theorem strs_pl {ws : List (List Nat)} (h : ∀ w ∈ ws, asc w) : plL (ws.map .str) = true ∧ dptL (ws.map Ev.D.str) = 0 := by
  induction ws with
  | nil => exact ⟨rfl, rfl⟩
  | cons w r ih =>
    obtain ⟨a, b⟩ := ih fun w hw => h w (List.mem_cons_of_mem _ hw)
    have := asc_pl (h w (by simp))
    rw [List.map_cons]
    refine ⟨?_, ?_⟩
    · show (pl (.str w) && plL (r.map .str)) = true
      rw [this, a]; rfl
    · show max 0 (dptL (r.map .str)) = 0
      rw [b]; rfl
end Gr
end
section
set_option Elab.async false
set_option linter.all false
set_option maxRecDepth 100000
set_option maxHeartbeats 4000000
set_option autoImplicit false
set_option exponentiation.threshold 10000
/-! Qi: numbers a + b i of fractions. -/
namespace Gr
open PySem Ev
/-- fewer than B bits -/
def rb (q : Rat) (B : Nat) : Prop := q.num.natAbs < 2 ^ B ∧ q.den < 2 ^ B
theorem pow_mono {a B C : Nat} (h : a < 2 ^ B) (hC : B ≤ C) : a < 2 ^ C := Nat.lt_of_lt_of_le h (Nat.pow_le_pow_right (by decide) hC)
theorem rb.mono {q : Rat} {B C : Nat} (h : rb q B) (hC : B ≤ C) : rb q C := ⟨pow_mono h.1 hC, pow_mono h.2 hC⟩
theorem rb_mk {p : Int} {m B : Nat} (hm : m ≠ 0) (h1 : p.natAbs < 2 ^ B) (h2 : m < 2 ^ B) : rb (mkRat p m) B := by
  unfold rb
  rw [Rat.num_mkRat, Rat.den_mkRat, if_neg hm, if_neg hm]
  constructor
  · have : (m.gcd p.natAbs : Int) ∣ p := Int.ofNat_dvd_left.mpr (Nat.gcd_dvd_right ..)
    rw [Int.natAbs_ediv_of_dvd this, Int.natAbs_natCast]
    exact Nat.lt_of_le_of_lt (Nat.div_le_self ..) h1
  · exact Nat.lt_of_le_of_lt (Nat.div_le_self ..) h2
def frQ (q : Rat) : Ev.D := fr q.num q.den
theorem frQ_mk {p : Int} {m : Nat} (hm : m ≠ 0) : fr (p / (Nat.gcd p.natAbs m : Nat)) ((m : Int) / (Nat.gcd p.natAbs m : Nat)) = frQ (mkRat p m) := by
  unfold frQ
  rw [Rat.num_mkRat, Rat.den_mkRat, if_neg hm, if_neg hm, Nat.gcd_comm]
  rfl
structure Kq where
  re : Rat
  im : Rat
  deriving DecidableEq
def Kq.D (k : Kq) : Ev.D := .tup [frQ k.re, frQ k.im]
def Kq.n4 (k : Kq) : N4 := ⟨k.re.num, k.re.den, k.im.num, k.im.den⟩
theorem Kq.D_n4 (k : Kq) : k.D = k.n4.D := rfl
theorem isFr_rat (q : Rat) : isFr q.num q.den := ⟨by have := q.den_pos; omega, by rw [Int.natAbs_natCast]; exact q.reduced⟩
theorem frQ_inj {p q : Rat} (h : frQ p = frQ q) : p = q := by
  simp only [frQ, fr, Ev.D.tup.injEq, List.cons.injEq, Ev.D.int.injEq, and_true] at h
  exact Rat.ext h.1 (by omega)
theorem Kq.D_inj {p q : Kq} (h : p.D = q.D) : p = q := by
  simp only [Kq.D, Ev.D.tup.injEq, List.cons.injEq, and_true] at h
  cases p; cases q
  simp only [Kq.mk.injEq]
  exact ⟨frQ_inj h.1, frQ_inj h.2⟩
def kb (k : Kq) (B : Nat) : Prop := rb k.re B ∧ rb k.im B
theorem kb.mono {k : Kq} {B C : Nat} (h : kb k B) (hC : B ≤ C) : kb k C := ⟨h.1.mono hC, h.2.mono hC⟩
namespace Kq
def zero : Kq := ⟨0, 0⟩
def one : Kq := ⟨1, 0⟩
def sub (x y : Kq) : Kq := ⟨x.re - y.re, x.im - y.im⟩
def mul (x y : Kq) : Kq := ⟨x.re * y.re - x.im * y.im, x.re * y.im + x.im * y.re⟩
def add (x y : Kq) : Kq := ⟨x.re + y.re, x.im + y.im⟩
def size (x : Kq) : Rat := x.re * x.re + x.im * x.im
def inv (x : Kq) : Kq := ⟨x.re * x.size⁻¹, -x.im * x.size⁻¹⟩
end Kq
theorem mk_num_den (q : Rat) : mkRat q.num q.den = q := Rat.mkRat_self q
theorem sub_mk (a b : Int) (c d : Nat) (hc : c ≠ 0) (hd : d ≠ 0) : mkRat a c - mkRat b d = mkRat (a * d - b * c) (c * d) := by
  rw [← Rat.divInt_ofNat, ← Rat.divInt_ofNat, Rat.divInt_sub_divInt _ _ (by omega) (by omega), ← Int.natCast_mul, Rat.divInt_ofNat]
theorem add_mk (a b : Int) (c d : Nat) (hc : c ≠ 0) (hd : d ≠ 0) : mkRat a c + mkRat b d = mkRat (a * d + b * c) (c * d) := by
  rw [← Rat.divInt_ofNat, ← Rat.divInt_ofNat, Rat.divInt_add_divInt _ _ (by omega) (by omega), ← Int.natCast_mul, Rat.divInt_ofNat]
theorem mul_re (x y : Kq) : (x.mul y).re = mkRat (x.re.num * y.re.num * x.im.den * y.im.den - x.im.num * y.im.num * x.re.den * y.re.den) (x.re.den * x.im.den * y.re.den * y.im.den) := by
  have h : ∀ q : Rat, q.den ≠ 0 := fun q => q.den_nz
  show x.re * y.re - x.im * y.im = _
  rw [Rat.mul_def', Rat.mul_def', sub_mk _ _ _ _ (Nat.mul_ne_zero (h _) (h _)) (Nat.mul_ne_zero (h _) (h _))]
  congr 1
  · simp only [Int.natCast_mul]; grind
  · grind
theorem mul_im (x y : Kq) : (x.mul y).im = mkRat (x.re.num * y.im.num * x.im.den * y.re.den + x.im.num * y.re.num * x.re.den * y.im.den) (x.re.den * x.im.den * y.re.den * y.im.den) := by
  have h : ∀ q : Rat, q.den ≠ 0 := fun q => q.den_nz
  show x.re * y.im + x.im * y.re = _
  rw [Rat.mul_def', Rat.mul_def', add_mk _ _ _ _ (Nat.mul_ne_zero (h _) (h _)) (Nat.mul_ne_zero (h _) (h _))]
  congr 1
  · simp only [Int.natCast_mul]; grind
  · grind
theorem size_mk (x : Kq) : x.size = mkRat (x.re.num * x.re.num * x.im.den * x.im.den + x.im.num * x.im.num * x.re.den * x.re.den) (x.re.den * x.re.den * x.im.den * x.im.den) := by
  have h : ∀ q : Rat, q.den ≠ 0 := fun q => q.den_nz
  show x.re * x.re + x.im * x.im = _
  rw [Rat.mul_def', Rat.mul_def', add_mk _ _ _ _ (Nat.mul_ne_zero (h _) (h _)) (Nat.mul_ne_zero (h _) (h _))]
  congr 1
  · simp only [Int.natCast_mul]; grind
  · grind
/-! bits -/
theorem nb_mul {a b B C : Nat} (h : a < 2 ^ B) (g : b < 2 ^ C) : a * b < 2 ^ (B + C) := by
  rw [Nat.pow_add]; exact Nat.mul_lt_mul'' h g
theorem ib_mul {a b : Int} {B C : Nat} (h : a.natAbs < 2 ^ B) (g : b.natAbs < 2 ^ C) : (a * b).natAbs < 2 ^ (B + C) := by
  rw [Int.natAbs_mul]; exact nb_mul h g
theorem ib_add {a b : Int} {B : Nat} (h : a.natAbs < 2 ^ B) (g : b.natAbs < 2 ^ B) : (a + b).natAbs < 2 ^ (B + 1) := by
  have := Int.natAbs_add_le a b
  rw [Nat.pow_succ]
  omega
theorem ib_sub {a b : Int} {B : Nat} (h : a.natAbs < 2 ^ B) (g : b.natAbs < 2 ^ B) : (a - b).natAbs < 2 ^ (B + 1) := by
  have := Int.natAbs_sub_le a b
  rw [Nat.pow_succ]
  omega
theorem ib_nat {a B : Nat} (h : a < 2 ^ B) : ((a : Nat) : Int).natAbs < 2 ^ B := by rw [Int.natAbs_natCast]; exact h
theorem ib_mono {a : Int} {B C : Nat} (h : a.natAbs < 2 ^ B) (hC : B ≤ C) : a.natAbs < 2 ^ C := pow_mono h hC
theorem rb_mul {x y : Rat} {B C : Nat} (h : rb x B) (g : rb y C) : rb (x * y) (B + C) := by
  rw [Rat.mul_def']
  exact rb_mk (Nat.mul_ne_zero x.den_nz y.den_nz) (ib_mul h.1 g.1) (nb_mul h.2 g.2)
theorem rb_sub {x y : Rat} {B C : Nat} (h : rb x B) (g : rb y C) : rb (x - y) (B + C + 1) := by
  rw [Rat.sub_def']
  refine rb_mk (Nat.mul_ne_zero x.den_nz y.den_nz) (ib_sub (ib_mul h.1 (ib_nat g.2)) ?_) (pow_mono (nb_mul h.2 g.2) (by omega))
  rw [Nat.add_comm]
  exact ib_mul g.1 (ib_nat h.2)
theorem rb_add {x y : Rat} {B C : Nat} (h : rb x B) (g : rb y C) : rb (x + y) (B + C + 1) := by
  rw [Rat.add_def']
  refine rb_mk (Nat.mul_ne_zero x.den_nz y.den_nz) (ib_add (ib_mul h.1 (ib_nat g.2)) ?_) (pow_mono (nb_mul h.2 g.2) (by omega))
  rw [Nat.add_comm]
  exact ib_mul g.1 (ib_nat h.2)
theorem rb_neg {x : Rat} {B : Nat} (h : rb x B) : rb (-x) B := ⟨by rw [Rat.neg_num, Int.natAbs_neg]; exact h.1, h.2⟩
theorem kb_sub {x y : Kq} {B C : Nat} (h : kb x B) (g : kb y C) : kb (x.sub y) (B + C + 1) := ⟨rb_sub h.1 g.1, rb_sub h.2 g.2⟩
theorem kb_mul {x y : Kq} {B C : Nat} (h : kb x B) (g : kb y C) : kb (x.mul y) (2 * B + 2 * C + 1) :=
  ⟨(rb_sub (rb_mul h.1 g.1) (rb_mul h.2 g.2)).mono (by omega), (rb_add (rb_mul h.1 g.2) (rb_mul h.2 g.1)).mono (by omega)⟩
theorem rb_size {x : Kq} {B : Nat} (h : kb x B) : rb x.size (4 * B + 1) := (rb_add (rb_mul h.1 h.1) (rb_mul h.2 h.2)).mono (by omega)
theorem rb_inv {x : Rat} {B : Nat} (h : rb x B) (hx : 0 < x.num) : rb x⁻¹ B := by
  unfold rb
  rw [Rat.num_inv, Rat.den_inv, if_neg (by omega), Int.sign_eq_one_of_pos hx]
  exact ⟨by rw [Int.one_mul, Int.natAbs_natCast]; exact h.2, h.1⟩
/-! field -/
theorem sq_nonneg (q : Rat) : 0 ≤ q * q := by
  rcases Rat.nonneg_total q with h | h
  · exact Rat.mul_nonneg h h
  · have := Rat.mul_nonneg h h
    rwa [Rat.neg_mul, Rat.mul_neg, Rat.neg_neg] at this
theorem size_pos {x : Kq} (h : x ≠ Kq.zero) : 0 < x.size := by
  have h1 := sq_nonneg x.re
  have h2 := sq_nonneg x.im
  have hs : 0 ≤ x.size := Rat.add_nonneg h1 h2
  have hne : x.size ≠ 0 := by
    intro e
    apply h
    have e1 : x.re * x.re = 0 := by
      have : x.re * x.re + x.im * x.im = 0 := e
      grind
    have e2 : x.im * x.im = 0 := by
      have : x.re * x.re + x.im * x.im = 0 := e
      grind
    have r1 : x.re = 0 := by rcases Rat.mul_eq_zero.mp e1 with q | q <;> exact q
    have r2 : x.im = 0 := by rcases Rat.mul_eq_zero.mp e2 with q | q <;> exact q
    cases x
    simp only [Kq.zero, Kq.mk.injEq]
    exact ⟨r1, r2⟩
  grind
theorem kext {x y : Kq} (h1 : x.re = y.re) (h2 : x.im = y.im) : x = y := by cases x; cases y; simp_all
theorem inv_mul {x : Kq} (h : x ≠ Kq.zero) : x.inv.mul x = Kq.one := by
  have hp := size_pos h
  have hne : x.size ≠ 0 := by grind
  have hc := Rat.inv_mul_cancel x.size hne
  apply kext
  · show x.re * x.size⁻¹ * x.re - -x.im * x.size⁻¹ * x.im = 1
    have : x.size⁻¹ * (x.re * x.re + x.im * x.im) = 1 := hc
    grind
  · show x.re * x.size⁻¹ * x.im + -x.im * x.size⁻¹ * x.re = 0
    grind
theorem mul_assoc' (x y z : Kq) : (x.mul y).mul z = x.mul (y.mul z) := by
  apply kext
  · simp only [Kq.mul]; grind
  · simp only [Kq.mul]; grind
theorem mul_comm' (x y : Kq) : x.mul y = y.mul x := by
  apply kext
  · simp only [Kq.mul]; grind
  · simp only [Kq.mul]; grind
theorem one_mul' (x : Kq) : Kq.one.mul x = x := by
  apply kext
  · simp only [Kq.mul, Kq.one]; grind
  · simp only [Kq.mul, Kq.one]; grind
theorem mul_one' (x : Kq) : x.mul Kq.one = x := by rw [mul_comm', one_mul']
theorem zero_mul' (x : Kq) : Kq.zero.mul x = Kq.zero := by
  apply kext
  · simp only [Kq.mul, Kq.zero]; grind
  · simp only [Kq.mul, Kq.zero]; grind
theorem mul_zero' (x : Kq) : x.mul Kq.zero = Kq.zero := by rw [mul_comm', zero_mul']
theorem mul_ne {x y : Kq} (hx : x ≠ Kq.zero) (hy : y ≠ Kq.zero) : x.mul y ≠ Kq.zero := by
  intro e
  apply hy
  have : x.inv.mul (x.mul y) = Kq.zero := by rw [e, mul_zero']
  rw [← mul_assoc', inv_mul hx, one_mul'] at this
  exact this
theorem one_ne : Kq.one ≠ Kq.zero := by decide
theorem inv_ne {x : Kq} (h : x ≠ Kq.zero) : x.inv ≠ Kq.zero := by
  intro e
  have := inv_mul h
  rw [e, zero_mul'] at this
  exact one_ne this.symm
theorem inv_one : Kq.one.inv = Kq.one := by
  have := inv_mul one_ne
  rwa [mul_one'] at this
theorem kb_inv {x : Kq} {B : Nat} (h : kb x B) (hx : x ≠ Kq.zero) : kb x.inv (5 * B + 1) := by
  have hp := size_pos hx
  have hn : 0 < x.size.num := by
    rw [Rat.lt_iff] at hp
    simpa using hp
  have := rb_inv (rb_size h) hn
  exact ⟨(rb_mul h.1 this).mono (by omega), (rb_mul (rb_neg h.2) this).mono (by omega)⟩
/-! values of rows -/
def ev1 : List Kq → Kq → Kq
  | [], _ => Kq.zero
  | c :: r, x => c.add (x.mul (ev1 r x))
theorem add_zero' (x : Kq) : x.add Kq.zero = x := by
  apply kext
  · simp only [Kq.add, Kq.zero]; grind
  · simp only [Kq.add, Kq.zero]; grind
theorem ev1_app (p q : List Kq) (x : Kq) {q' : List Kq} (h : ev1 q x = ev1 q' x) : ev1 (p ++ q) x = ev1 (p ++ q') x := by
  induction p with
  | nil => exact h
  | cons c r ih => simp only [List.cons_append, ev1, ih]
theorem ev1_zip (n : Kq) (x : Kq) : ∀ t u : List Kq, t.length = u.length → ev1 (List.zipWith (fun c d => c.sub (n.mul d)) t u) x = (ev1 t x).sub (n.mul (ev1 u x))
  | [], [], _ => by
    simp only [List.zipWith_nil_left, ev1, mul_zero']
    apply kext
    · simp only [Kq.sub, Kq.zero]; grind
    · simp only [Kq.sub, Kq.zero]; grind
  | [], _ :: _, h => by simp at h
  | _ :: _, [], h => by simp at h
  | c :: t, d :: u, h => by
    have ih := ev1_zip n x t u (by simpa using h)
    simp only [List.zipWith_cons_cons, ev1, ih]
    apply kext
    · simp only [Kq.sub, Kq.mul, Kq.add]; grind
    · simp only [Kq.sub, Kq.mul, Kq.add]; grind
theorem ev1_snoc0 (p : List Kq) (x : Kq) : ev1 (p ++ [Kq.zero]) x = ev1 p x := by
  have : ev1 [Kq.zero] x = ev1 [] x := by
    simp only [ev1, mul_zero']
    apply kext
    · simp only [Kq.add, Kq.zero]; grind
    · simp only [Kq.add, Kq.zero]; grind
  have h := ev1_app p [Kq.zero] x this
  rwa [List.append_nil] at h
theorem ev1_scale (n : Kq) (x : Kq) : ∀ p : List Kq, ev1 (p.map fun c => c.mul n) x = (ev1 p x).mul n
  | [] => by simp only [List.map_nil, ev1, zero_mul']
  | c :: r => by
    simp only [List.map_cons, ev1, ev1_scale n x r]
    apply kext
    · simp only [Kq.mul, Kq.add]; grind
    · simp only [Kq.mul, Kq.add]; grind
end Gr
end
section
set_option Elab.async false
set_option linter.all false
set_option maxRecDepth 100000
set_option maxHeartbeats 4000000
set_option autoImplicit false
set_option exponentiation.threshold 10000
/-! W0: whole numbers, fractions, draws, the law's gcd. -/
namespace Pl
open Ev
abbrev Ex : List Cls := Tx.T.ecs.map Prod.snd
noncomputable abbrev fn (n i : Nat) (ds : List D) (S : Sto) : R D := fnN Tx.F Ex Tx.cs n i ds S
noncomputable abbrev GG (n : Nat) : Gm := ⟨fnN Tx.F Ex Tx.cs n, Tx.cs⟩
theorem fn_s {n i : Nat} {ds : List D} {S : Sto} {fd : Fd} (h : Tx.F[i]? = some fd) : fn (n + 1) i ds S = runF (GG n) Ex fd ds S := by
  show (match Tx.F[i]? with
    | some fd => runF (GG n) Ex fd ds S
    | none => .stuck) = _
  rw [h]
@[simp] theorem g_FN : Tx.cs[0]? = some (.tup [.int 0, .int 1]) := rfl
@[simp] theorem g_FG : Tx.cs[7]? = some (.str [48, 49, 50, 51, 52, 53, 54, 55, 56, 57]) := rfl
@[simp] theorem g_MF : Tx.cs[8]? = some (.int 400) := rfl
@[simp] theorem g_MP : Tx.cs[4]? = some (.int 6) := rfl
@[simp] theorem g_MA : Tx.cs[5]? = some (.int 3) := rfl
@[simp] theorem g_MV : Tx.cs[6]? = some (.int 6) := rfl
theorem is_whole_int (n : Nat) (i : Int) (S : Sto) : fn (n + 1) 0 [.int i] S = .ok (.bl true) S := by
  rw [fn_s (fd := Tx.t0.fd) rfl]
  simp [runF, Tx.t0, Tx.b0, execs, exec, ev, evs, bi, isTy, O.toR, O.seq, R.then, R.of]
theorem gcdD (S : Sto) (i j : Int) : bi .gcd [.int i, .int j] S = .ok (.int (Nat.gcd i.natAbs j.natAbs : Nat)) S := rfl
theorem is_frac_int (n : Nat) (i j : Int) (S : Sto) : fn (n + 2) 1 [.tup [.int i, .int j]] S = .ok (.bl (decide (0 < j) && decide (Nat.gcd i.natAbs j.natAbs = 1))) S := by
  rw [fn_s (fd := Tx.t1.fd) rfl]
  have w := is_whole_int n
  simp only [fn] at w
  simp [runF, Tx.t1, Tx.b1, execs, exec, ev, evs, bi, isTy, O.toR, O.seq, R.then, R.of, w]
  by_cases h : 0 < j
  · simp [h, R.of]
    norm_cast
  · simp [h]
abbrev fr (a b : Int) : D := .tup [.int a, .int b]
abbrev nu (a b c d : Int) : D := .tup [fr a b, fr c d]
def isFr (a b : Int) : Prop := 0 < b ∧ Nat.gcd a.natAbs b.natAbs = 1
instance (a b : Int) : Decidable (isFr a b) := by unfold isFr; infer_instance
theorem is_frac_fr {n : Nat} {i j : Int} {S : Sto} (h : isFr i j) : fn (n + 2) 1 [fr i j] S = .ok (.bl true) S := by
  rw [is_frac_int, decide_eq_true h.1, decide_eq_true h.2]
  rfl
theorem is_num_nu {n : Nat} {a b c d : Int} {S : Sto} (h : isFr a b) (g : isFr c d) : fn (n + 3) 2 [nu a b c d] S = .ok (.bl true) S := by
  rw [fn_s (fd := Tx.t2.fd) rfl]
  have w1 : ∀ S, fnN Tx.F Ex Tx.cs (n + 2) 1 [fr a b] S = .ok (.bl true) S := fun S => is_frac_fr h
  have w2 : ∀ S, fnN Tx.F Ex Tx.cs (n + 2) 1 [fr c d] S = .ok (.bl true) S := fun S => is_frac_fr g
  simp [runF, Tx.t2, Tx.b2, execs, exec, ev, evs, bi, isTy, O.toR, O.seq, R.then, R.of, w1, w2]
def sm (i : Int) : Prop := i.natAbs < 2 ^ 8000
theorem log_sm {i : Int} {k : Nat} (h : i.natAbs < 2 ^ k) (hk : 0 < k) : i.natAbs.log2 < k := by
  by_cases z : i.natAbs = 0
  · rw [z]; simpa using hk
  · exact (Nat.log2_lt z).mpr h
theorem frac_red {n : Nat} {p q : Int} {S : Sto} (hq : 0 < q) (hs : q.natAbs < 2 ^ 8000) : fn (n + 1) 3 [.int p, .int q] S = .ok (fr (p / (Nat.gcd p.natAbs q.natAbs : Nat)) (q / (Nat.gcd p.natAbs q.natAbs : Nat))) S := by
  rw [fn_s (fd := Tx.t3.fd) rfl]
  have hg : 0 < Nat.gcd p.natAbs q.natAbs := Nat.gcd_pos_of_pos_right _ (by omega)
  have hle : Nat.gcd p.natAbs q.natAbs ≤ q.natAbs := Nat.gcd_le_right _ (by omega)
  have hl : (((Nat.gcd p.natAbs q.natAbs : Nat) : Int)).natAbs.log2 < 9000 := Nat.lt_trans (log_sm (k := 8000) (by simpa using Nat.lt_of_le_of_lt hle hs) (by decide)) (by decide)
  have hne : ((Nat.gcd p.natAbs q.natAbs : Nat) : Int) ≠ 0 := by omega
  have f1 : ∀ (x : Int) S, binop .fdiv (.int x) (.int ((Nat.gcd p.natAbs q.natAbs : Nat) : Int)) S = .ok (.int (x / ((Nat.gcd p.natAbs q.natAbs : Nat) : Int))) S := fun x S => by
    rw [bop_fdiv S hne, Int.fdiv_eq_ediv_of_nonneg _ (by omega)]
  have f2 : ∀ S, bi .gcd [.int p, .int q] S = .ok (.int (Nat.gcd p.natAbs q.natAbs : Nat)) S := fun S => rfl
  simp [runF, Tx.t3, Tx.b3, execs, exec, ev, evs, O.toR, O.seq, R.then, R.of, asgT, hq, f1, f2]
abbrev bt (k : Nat) (i : Int) : Prop := i.natAbs < 2 ^ k
theorem bt_mul {i j : Int} {k m : Nat} (hi : bt k i) (hj : bt m j) : bt (k + m) (i * j) := by
  unfold bt
  rw [Int.natAbs_mul, Nat.pow_add]
  exact Nat.mul_lt_mul'' hi hj
theorem bt_add {i j : Int} {k : Nat} (hi : bt k i) (hj : bt k j) : bt (k + 1) (i + j) := by
  unfold bt at *
  have := Int.natAbs_add_le i j
  rw [Nat.pow_succ]
  omega
theorem bt_mono {i : Int} {k m : Nat} (h : bt k i) (hk : k ≤ m) : bt m i := Nat.lt_of_lt_of_le h (Nat.pow_le_pow_right (by decide) hk)
theorem mul_ok {i j : Int} {k m : Nat} {S : Sto} (hi : bt k i) (hj : bt m j) (h : k + m ≤ 100000) (h0 : 0 < k) (h1 : 0 < m) : binop .mul (.int i) (.int j) S = .ok (.int (i * j)) S :=
  bop_mul S (by have := log_sm hi h0; have := log_sm hj h1; omega)
theorem num_size_eq {n : Nat} {a b c d : Int} {S : Sto} (hb : 0 < b) (hd : 0 < d) (b1 : bt 1400 a) (b2 : bt 1400 b) (b3 : bt 1400 c) (b4 : bt 1400 d) :
    fn (n + 2) 11 [nu a b c d] S = .ok (fr ((a * a * d * d + c * c * b * b) / (Nat.gcd (a * a * d * d + c * c * b * b).natAbs (b * b * d * d).natAbs : Nat)) (b * b * d * d / (Nat.gcd (a * a * d * d + c * c * b * b).natAbs (b * b * d * d).natAbs : Nat))) S := by
  rw [fn_s (fd := Tx.t11.fd) rfl]
  have q : ∀ {x y : Int} S, bt 1400 x → bt 1400 y → binop .mul (.int x) (.int y) S = .ok (.int (x * y)) S := fun S h1 h2 => mul_ok h1 h2 (by decide) (by decide) (by decide)
  have q2 : ∀ {x y z : Int} S, bt 1400 x → bt 1400 y → bt 1400 z → binop .mul (.int (x * y)) (.int z) S = .ok (.int (x * y * z)) S := fun S h1 h2 h3 => mul_ok (bt_mul h1 h2) h3 (by decide) (by decide) (by decide)
  have q3 : ∀ {x y z w : Int} S, bt 1400 x → bt 1400 y → bt 1400 z → bt 1400 w → binop .mul (.int (x * y * z)) (.int w) S = .ok (.int (x * y * z * w)) S := fun S h1 h2 h3 h4 => mul_ok (bt_mul (bt_mul h1 h2) h3) h4 (by decide) (by decide) (by decide)
  have pos : 0 < b * b * d * d := Int.mul_pos (Int.mul_pos (Int.mul_pos hb hb) hd) hd
  have bnd : bt 8000 (b * b * d * d) := bt_mono (bt_mul (bt_mul (bt_mul b2 b2) b4) b4) (by decide)
  have fin : ∀ S, fnN Tx.F Ex Tx.cs (n + 1) 3 [.int (a * a * d * d + c * c * b * b), .int (b * b * d * d)] S = _ := fun S => frac_red (n := n) (p := a * a * d * d + c * c * b * b) (S := S) pos bnd
  simp [runF, Tx.t11, Tx.b11, execs, exec, ev, evs, O.toR, O.seq, R.then, R.of, asgT, asgTs, q, q2, q3, b1, b2, b3, b4, fin]
theorem div_lt {x y : Int} {g : Nat} (hg : 0 < g) (h1 : (g : Int) ∣ x) (h2 : (g : Int) ∣ y) : x / (g : Int) < y / (g : Int) ↔ x < y := by
  obtain ⟨u, rfl⟩ := h1
  obtain ⟨v, rfl⟩ := h2
  have hz : (g : Int) ≠ 0 := by omega
  rw [Int.mul_ediv_cancel_left _ hz, Int.mul_ediv_cancel_left _ hz]
  exact ⟨fun h => Int.mul_lt_mul_of_pos_left h (by omega), fun h => Int.lt_of_mul_lt_mul_left h (by omega)⟩
abbrev within (a b c d : Int) : Prop := a * a * d * d + c * c * b * b < b * b * d * d
theorem within_eq {n : Nat} {a b c d : Int} {S : Sto} (hb : 0 < b) (hd : 0 < d) (b1 : bt 1400 a) (b2 : bt 1400 b) (b3 : bt 1400 c) (b4 : bt 1400 d) :
    fn (n + 3) 13 [nu a b c d] S = .ok (.bl (decide (within a b c d))) S := by
  rw [fn_s (fd := Tx.t13.fd) rfl]
  have w : ∀ S, fnN Tx.F Ex Tx.cs (n + 2) 11 [nu a b c d] S = _ := fun S => num_size_eq (n := n) (S := S) hb hd b1 b2 b3 b4
  have pos : 0 < b * b * d * d := Int.mul_pos (Int.mul_pos (Int.mul_pos hb hb) hd) hd
  have hg : 0 < Nat.gcd (a * a * d * d + c * c * b * b).natAbs (b * b * d * d).natAbs := Nat.gcd_pos_of_pos_right _ (by omega)
  have e := div_lt hg (Int.ofNat_dvd_left.mpr (Nat.gcd_dvd_left (a * a * d * d + c * c * b * b).natAbs (b * b * d * d).natAbs)) (Int.ofNat_dvd_left.mpr (Nat.gcd_dvd_right (a * a * d * d + c * c * b * b).natAbs (b * b * d * d).natAbs))
  simp [runF, Tx.t13, Tx.b13, execs, exec, ev, evs, O.toR, O.seq, R.then, R.of, asgT, w, e]
def WellAt (S : Sto) (k m : Nat) : Prop := ∃ a b c : Int, S[k]? = some (.lst [.int a, .int b, .int c]) ∧ 0 ≤ a ∧ 0 ≤ b ∧ b < 2147483629 ∧ 0 ≤ c ∧ c ≤ m
theorem draw {n k m : Nat} {many : Int} {S : Sto} (w : WellAt S k m) (hm : m < 1000000) (h0 : 0 < many) (h1 : many < 1073741824) :
    ∃ (d : Int) (o : Ob), fn (n + 1) 56 [.ref k, .int many] S = .ok (.int d) (S.set k o) ∧ 0 ≤ d ∧ d < many ∧ WellAt (S.set k o) k (m + 1) := by
  obtain ⟨a, b, c, e, a0, b0, b1, c0, c1⟩ := w
  have hk : k < S.length := (List.getElem?_eq_some_iff.mp e).1
  rw [fn_s (fd := Tx.t56.fd) rfl]
  by_cases ha : 0 < a
  · refine ⟨a % many, .lst [.int (a / many), .int b, .int c], ?_, Int.emod_nonneg _ (by omega), Int.emod_lt_of_pos _ h0, a / many, b, c, by simp [hk], Int.ediv_nonneg a0 (by omega), b0, b1, c0, by omega⟩
    simp [runF, Tx.t56, Tx.b56, execs, exec, ev, evs, O.toR, O.seq, R.then, R.of, asgT, asgTs, ixD, seqOf, e, ha, bi, h0, h1, setSub, ixN]
  · have u : ∀ o : Ob, (S.set k o)[k]? = some o := fun o => by simp [hk]
    have at2 : ∀ x y z : D, L2.atI [x, y, z] 2 = some z := fun _ _ _ => rfl
    have m1 : ∀ S, binop .mul (.int b) (.int 48271) S = .ok (.int (b * 48271)) S := fun S => mul_ok (k := 40) (m := 40) (by unfold bt; omega) (by unfold bt; omega) (by decide) (by decide) (by decide)
    have m2 : ∀ S, binop .mul (.int 70003) (.int (c + 1)) S = .ok (.int (70003 * (c + 1))) S := fun S => mul_ok (k := 40) (m := 40) (by unfold bt; omega) (by unfold bt; omega) (by decide) (by decide) (by decide)
    have m3 : ∀ (x : Int) S, binop .mod (.int x) (.int 2147483629) S = .ok (.int (x % 2147483629)) S := fun x S => by rw [bop_mod S (by decide), Int.fmod_eq_emod_of_nonneg _ (by decide)]
    have m4 : ∀ (x : Int) S, binop .fdiv (.int x) (.int 211) S = .ok (.int (x / 211)) S := fun x S => by rw [bop_fdiv S (by decide), Int.fdiv_eq_ediv_of_nonneg _ (by decide)]
    have m5 : ∀ (x : Int) S, binop .mod (.int x) (.int many) S = .ok (.int (x % many)) S := fun x S => by rw [bop_mod S (by omega), Int.fmod_eq_emod_of_nonneg _ (by omega)]
    refine ⟨((b * 48271 + 70003 * (c + 1) + 11) % 2147483629 / 211) % many, .lst [.int a, .int ((b * 48271 + 70003 * (c + 1) + 11) % 2147483629), .int (c + 1)], ?_, Int.emod_nonneg _ (by omega), Int.emod_lt_of_pos _ h0, a, _, c + 1, by simp [hk]; exact rfl, a0, Int.emod_nonneg _ (by decide), Int.emod_lt_of_pos _ (by decide), by omega, by omega⟩
    simp [runF, Tx.t56, Tx.b56, execs, exec, ev, evs, O.toR, O.seq, R.then, R.of, asgT, asgTs, ixD, seqOf, e, ha, bi, h0, h1, setSub, ixN, u, m1, m2, m3, m4, m5, at2]
theorem gcd_loop {c : En → Sto → R Bool} {b : En → Sto → O} {S : Sto} (hc : ∀ x y : Nat, c [some (.int x), some (.int y)] S = .ok (decide (0 < y)) S) (hb : ∀ x y : Nat, 0 < y → b [some (.int x), some (.int y)] S = .nx [some (.int y), some (.int (x % y : Nat))] S) :
    ∀ y x : Nat, whlL c b [some (.int x), some (.int y)] S = .nx [some (.int (Nat.gcd x y)), some (.int (0 : Nat))] S := by
  intro y
  induction y using Nat.strongRecOn with
  | ind y ih =>
    intro x
    rw [whlL_eq, hc, R.then_ok]
    by_cases h : y = 0
    · subst h
      simp
    · rw [if_pos (by simp; omega), hb x y (by omega), O.turn_nx, ih (x % y) (Nat.mod_lt _ (by omega)) y, Nat.gcd_comm x y, Nat.gcd_rec y x, Nat.gcd_comm]
theorem near {n : Nat} {x y : Nat} {S : Sto} : fn (n + 1) 58 [.int x, .int y] S = .ok (.int (Nat.gcd x y)) S := by
  rw [fn_s (fd := Tx.t58.fd) rfl]
  have l := gcd_loop (S := S) (c := fun en S => (ev (GG n) (.cmp .gt (.var 1) (.cst (.int 0))) en S).bind fun x S => match x with
      | .bl k => .ok k S
      | _ => .stuck) (b := fun en S => execs (GG n) Ex (.cons (.par [0, 1] (.cons (.var 1) (.cons (.bin .mod (.bi .int (.cons (.var 0) .nil)) (.var 1)) .nil))) .nil) en S) (fun x y => by simp [ev, R.of]) (fun x y h => by
        have m : binop .mod (.int x) (.int y) S = .ok (.int ((x % y : Nat) : Int)) S := by
          rw [bop_mod S (by omega), Int.fmod_eq_emod_of_nonneg _ (by omega)]
          rfl
        simp [execs, exec, evs, ev, R.of, bi, m, R.then, parSet, O.seq]) y x
  have e : (exec (GG n) Ex (.whl (.cmp .gt (.var 1) (.cst (.int 0))) (.cons (.par [0, 1] (.cons (.var 1) (.cons (.bin .mod (.bi .int (.cons (.var 0) .nil)) (.var 1)) .nil))) .nil)) [some (.int x), some (.int y)] S) = _ := l
  have f : runF (GG n) Ex Tx.t58.fd [.int x, .int y] S = (execs (GG n) Ex Tx.b58 [some (.int x), some (.int y)] S).toR := rfl
  rw [f]
  unfold Tx.b58
  simp only [execs]
  rw [e]
  simp [exec, ev, R.of, R.then, O.toR, O.seq]
theorem part {n : Nat} {p : Int} {q : Nat} {S : Sto} (hq : 0 < q) (hs : q < 2 ^ 8000) : fn (n + 2) 64 [.int p, .int q] S = .ok (fr (p / (Nat.gcd p.natAbs q : Nat)) ((q : Int) / (Nat.gcd p.natAbs q : Nat))) S := by
  rw [fn_s (fd := Tx.t64.fd) rfl]
  have hg : 0 < Nat.gcd p.natAbs q := Nat.gcd_pos_of_pos_right _ hq
  have hle : Nat.gcd p.natAbs q ≤ q := Nat.gcd_le_right _ hq
  have hl : (((Nat.gcd p.natAbs q : Nat) : Int)).natAbs.log2 < 9000 := Nat.lt_trans (log_sm (k := 8000) (by simpa using Nat.lt_of_le_of_lt hle hs) (by decide)) (by decide)
  have f1 : ∀ (x : Int) S, binop .fdiv (.int x) (.int ((Nat.gcd p.natAbs q : Nat) : Int)) S = .ok (.int (x / ((Nat.gcd p.natAbs q : Nat) : Int))) S := fun x S => by
    rw [bop_fdiv S (by omega), Int.fdiv_eq_ediv_of_nonneg _ (by omega)]
  have ab : ∀ S, bi .abs [.int p] S = .ok (.int (p.natAbs : Nat)) S := fun S => by
    show R.ok (D.int (if p < 0 then -p else p)) S = _
    congr 2
    split <;> omega
  have w : ∀ S, fnN Tx.F Ex Tx.cs (n + 1) 58 [.int (p.natAbs : Nat), .int q] S = .ok (.int (Nat.gcd p.natAbs q : Nat)) S := fun S => near
  simp [runF, Tx.t64, Tx.b64, execs, exec, ev, evs, O.toR, O.seq, R.then, R.of, asgT, ab, w, f1]
end Pl
end
section
set_option Elab.async false
set_option linter.all false
set_option maxRecDepth 100000
set_option maxHeartbeats 4000000
set_option autoImplicit false
set_option exponentiation.threshold 10000
/-! W1: texts written and read. -/
namespace Pl
open Ev Gr
abbrev figs : List Nat := [48, 49, 50, 51, 52, 53, 54, 55, 56, 57]
theorem figs_dig (c : Nat) : decide (c ∈ figs) = dig c := by
  unfold dig
  congr 1
  simp [figs]
  omega
theorem whole_all (G : Gm) (hg : G.cs[7]? = some (.str figs)) (w : List Nat) (S : Sto) (hw : w.length ≤ 1000000) : ev G (.lc [("sign", 1)] (.cmp .isin (.var 1) (.glb 7)) (.nm 1) (.seq (.var 0)) .none) [some (.str w), none] S = .ok (.ref S.length) (S ++ [.lst (w.map fun c => .bl (dig c))]) := by
  have := ev_lcp (G := G) (en := [some (.str w), none]) (S := S) (own := [("sign", 1)]) (elt := .cmp .isin (.var 1) (.glb 7)) (p := .nm 1) (it := .seq (.var 0)) (s := ⟨w.map fun c => .str [c], []⟩) (S1 := S) (g := fun d => match d with | .str [c] => .bl (dig c) | _ => .non)
    (by simp [srcSeq]) (by simp) (by simp; omega) (by
      intro d hd
      obtain ⟨c, _, rfl⟩ := List.mem_map.mp hd
      refine ⟨[some (.str w), some (.str [c])], rfl, ?_⟩
      simp [hg]
      have := figs_dig c
      simpa [figs] using this)
  rw [this]
  simp [List.map_map, Function.comp_def]
theorem int_text {w : List Nat} {k : Nat} (h : rdW w = some k) : bi .int [.str w] = fun S => .ok (.int (k : Nat)) S := by
  funext S
  have hh := h
  unfold rdW at h
  split at h
  · rename_i q
    obtain ⟨h0, h1, h2, h3⟩ := q
    show (if w.length ≤ 640 then R.of ((PySem.intText? ⟨w.toArray⟩).map D.int) S else .stuck) = _
    rw [if_pos (by omega)]
    have hd : PySem.NumText.AllDigits w := fun c hc => by
      have := List.all_eq_true.mp h2 c hc
      simpa [dig] using this
    have := PySem.intText_digits (x := ⟨w.toArray⟩) (by simpa using hd) (by simpa using h0) (by show w.toArray.size ≤ 4300; simp; omega)
    rw [this]
    cases h
    simp
  · cases h
theorem whole_in {n : Nat} {w : List Nat} {S : Sto} (hw : w.length ≤ 1000000) : Rl (fn (n + 1) 36 [.str w] S) S ((rdW w).toList.map fun k => .int (k : Nat)) := by
  rw [fn_s (fd := Tx.t36.fd) rfl]
  have L := fun S => whole_all (GG n) rfl w S hw
  have hl : w.length ≤ 16777216 := by omega
  by_cases h0 : w = []
  · subst h0
    exact Rl_new (S1 := S) (by simp [runF, Tx.t36, Tx.b36, rdW]) List.prefix_rfl
  · by_cases h1 : 400 < w.length
    · have h1' : (400 : Int) < w.length := by omega
      have e : rdW w = none := by unfold rdW; rw [if_neg]; rintro ⟨_, h, _⟩; omega
      refine Rl_new (S1 := S) ?_ List.prefix_rfl
      simp [runF, Tx.t36, Tx.b36, h0, hl, h1', e]
    · have h1' : ¬ (400 : Int) < w.length := by omega
      have e : bi .all [.ref S.length] (S ++ [.lst (w.map fun c => .bl (dig c))]) = .ok (.bl (w.all dig)) (S ++ [.lst (w.map fun c => .bl (dig c))]) := by
        simp [bi, lstOf, List.all_map, Function.comp_def]
      by_cases h2 : w.all dig = true
      · obtain ⟨c, r, ew⟩ : ∃ c r, w = c :: r := by
          cases w with
          | nil => exact absurd rfl h0
          | cons c r => exact ⟨c, r, rfl⟩
        have i0 : ixD (S ++ [.lst (w.map fun c => .bl (dig c))]) (.str w) (.int 0) = some (.str [c]) := by rw [ixD_str _ hl, ew]; simp
        by_cases h3 : w = [48] ∨ c ≠ 48
        · have hr : rdW w = some (PySem.NumText.digitsVal w) := by
            unfold rdW
            rw [if_pos ⟨h0, by omega, h2, by rw [ew] at h3 ⊢; simpa using h3⟩]
          have it := int_text hr
          refine Rl_new (S1 := S ++ [.lst (w.map fun c => .bl (dig c))]) ?_ (pre_snoc ..)
          rw [hr]
          rcases h3 with h3 | h3
          · have h3 : decide (w = [48]) = true := by simp [h3]
            simp [runF, Tx.t36, Tx.b36, h0, hl, h1', L, e, h2, it, h3]
          · simp [runF, Tx.t36, Tx.b36, h0, hl, h1', L, e, h2, it, i0, h3]
        · have h4 : w ≠ [48] := fun e => h3 (Or.inl e)
          have h5 : c = 48 := Classical.byContradiction fun e => h3 (Or.inr e)
          have hr : rdW w = none := by
            unfold rdW
            rw [if_neg]
            rintro ⟨_, _, _, h | h⟩
            · exact h4 h
            · exact h (by rw [ew, h5]; rfl)
          refine Rl_new (S1 := S ++ [.lst (w.map fun c => .bl (dig c))]) ?_ (pre_snoc ..)
          simp [runF, Tx.t36, Tx.b36, h0, hl, h1', L, e, h2, i0, h4, h5, hr]
      · have hr : rdW w = none := by
          unfold rdW
          rw [if_neg]
          rintro ⟨_, _, h, _⟩
          exact h2 h
        refine Rl_new (S1 := S ++ [.lst (w.map fun c => .bl (dig c))]) ?_ (pre_snoc ..)
        simp [runF, Tx.t36, Tx.b36, h0, hl, h1', L, e, h2, hr]
end Pl
end
section
set_option Elab.async false
set_option linter.all false
set_option maxRecDepth 100000
set_option maxHeartbeats 4000000
set_option autoImplicit false
set_option exponentiation.threshold 10000
/-! W2: numbers written; whole numbers read by the law. -/
namespace Pl
open Ev Gr
theorem fraction_text {n : Nat} {a b : Int} {S : Sto} (h : big a.natAbs) (g : big b.natAbs) : fn (n + 1) 29 [Gr.fr a b] S = .ok (.str (frL a b)) S := by
  rw [fn_s (fd := Tx.t29.fd) rfl]
  have := intL_len h
  have := intL_len g
  have c1 : (intL a).length + 1 ≤ 16777216 := by omega
  have c2 : (intL a).length + 1 + (intL b).length ≤ 16777216 := by omega
  by_cases hb : b = 1
  · simp [runF, Tx.t29, Tx.b29, hb, h, frL]
  · simp [runF, Tx.t29, Tx.b29, hb, h, g, frL, cat_ok, c1, c2]
theorem part_text {n : Nat} {a b : Int} {S : Sto} (h : big a.natAbs) (g : big b.natAbs) : fn (n + 1) 69 [Gr.fr a b] S = .ok (.str (frL a b)) S := by
  rw [fn_s (fd := Tx.t69.fd) rfl]
  have := intL_len h
  have := intL_len g
  have c1 : (intL a).length + 1 ≤ 16777216 := by omega
  have c2 : (intL a).length + 1 + (intL b).length ≤ 16777216 := by omega
  by_cases hb : b = 1
  · simp [runF, Tx.t69, Tx.b69, hb, h, frL]
  · simp [runF, Tx.t69, Tx.b69, hb, h, g, frL, cat_ok, c1, c2]
theorem number_written {n : Nat} {z : N4} {S : Sto} (h : z.good) : fn (n + 2) 30 [z.D] S = .ok (.str z.L) S := by
  rw [fn_s (fd := Tx.t30.fd) rfl]
  obtain ⟨a, b, c, d⟩ := z
  obtain ⟨⟨f1, b1, b2⟩, f2, b3, b4⟩ := h
  simp only at f1 b1 b2 f2 b3 b4
  have w1 : ∀ S, fnN Tx.F Ex Tx.cs (n + 1) 29 [Gr.fr a b] S = _ := fun S => fraction_text b1 b2
  have w2 : ∀ S, fnN Tx.F Ex Tx.cs (n + 1) 29 [Gr.fr c d] S = _ := fun S => fraction_text b3 b4
  have e1 := nought f1
  have e2 := nought f2
  have l1 := frL_len b1 b2
  have l2 := frL_len b3 b4
  simp only [N4.D, N4.L]
  by_cases hc : c = 0
  · simp [runF, Tx.t30, Tx.b30, w1, hc, (e2.mpr hc).2, nuL]
  · by_cases ha : a = 0
    · have c1 : (frL c d).length + 1 ≤ 16777216 := by omega
      simp [runF, Tx.t30, Tx.b30, w2, hc, ha, (e1.mpr ha).2, nuL, cat_ok, c1]
    · have c2 : (frL a b).length + 1 ≤ 16777216 := by omega
      have c3 : (frL a b).length ≤ 16777216 := by omega
      have c4 : (frL a b).length + (frL c d).length ≤ 16777216 := by omega
      have c5 : (frL a b).length + 1 + (frL c d).length ≤ 16777216 := by omega
      have c6 : (frL a b).length + (frL c d).length + 1 ≤ 16777216 := by omega
      have c7 : (frL a b).length + 1 + (frL c d).length + 1 ≤ 16777216 := by omega
      have c8 : (frL a b).length + ((frL c d).length + 1) ≤ 16777216 := by omega
      have c9 : (frL a b).length + ((frL c d).length + 1) + 1 ≤ 16777216 := by omega
      by_cases hp : 0 < c
      · simp [runF, Tx.t30, Tx.b30, w1, w2, hc, ha, nuL, cat_ok, c2, c5, c7, c8, c9, hp]
      · simp [runF, Tx.t30, Tx.b30, w1, w2, hc, ha, nuL, cat_ok, c3, c4, c6, hp]
theorem number_text {n : Nat} {z : N4} {S : Sto} (h : z.good) : fn (n + 2) 70 [z.D] S = .ok (.str z.L) S := by
  rw [fn_s (fd := Tx.t70.fd) rfl]
  obtain ⟨a, b, c, d⟩ := z
  obtain ⟨⟨f1, b1, b2⟩, f2, b3, b4⟩ := h
  simp only at f1 b1 b2 f2 b3 b4
  have w1 : ∀ S, fnN Tx.F Ex Tx.cs (n + 1) 69 [Gr.fr a b] S = _ := fun S => part_text b1 b2
  have w2 : ∀ S, fnN Tx.F Ex Tx.cs (n + 1) 69 [Gr.fr c d] S = _ := fun S => part_text b3 b4
  have l1 := frL_len b1 b2
  have l2 := frL_len b3 b4
  have ne := frL_ne a b
  simp only [N4.D, N4.L]
  by_cases hc : c = 0
  · simp [runF, Tx.t70, Tx.b70, w1, hc, nuL]
  · by_cases ha : a = 0
    · have c0 : (frL c d).length ≤ 16777216 := by omega
      have c1 : (frL c d).length + 1 ≤ 16777216 := by omega
      simp [runF, Tx.t70, Tx.b70, w2, hc, ha, nuL, cat_ok, c0, c1]
    · have c2 : (frL a b).length + 1 ≤ 16777216 := by omega
      have c3 : (frL a b).length ≤ 16777216 := by omega
      have c4 : (frL a b).length + (frL c d).length ≤ 16777216 := by omega
      have c5 : (frL a b).length + 1 + (frL c d).length ≤ 16777216 := by omega
      have c6 : (frL a b).length + (frL c d).length + 1 ≤ 16777216 := by omega
      have c7 : (frL a b).length + 1 + (frL c d).length + 1 ≤ 16777216 := by omega
      have c8 : (frL a b).length + ((frL c d).length + 1) ≤ 16777216 := by omega
      have c9 : (frL a b).length + ((frL c d).length + 1) + 1 ≤ 16777216 := by omega
      by_cases hp : 0 < c
      · simp [runF, Tx.t70, Tx.b70, w1, w2, hc, ha, nuL, cat_ok, c2, c5, c7, c8, c9, hp, ne]
      · simp [runF, Tx.t70, Tx.b70, w1, w2, hc, ha, nuL, cat_ok, c3, c4, c6, hp, ne]
def optI (o : Option Nat) : D := match o with
  | some k => .int (k : Nat)
  | none => .non
theorem law_all (G : Gm) (w : List Nat) (S : Sto) (hw : w.length ≤ 1000000) : ev G (.lc [("each", 1)] (.cmp .isin (.var 1) (.cst (.str [48, 49, 50, 51, 52, 53, 54, 55, 56, 57]))) (.nm 1) (.seq (.var 0)) .none) [some (.str w), none] S = .ok (.ref S.length) (S ++ [.lst (w.map fun c => .bl (dig c))]) := by
  have := ev_lcp (G := G) (en := [some (.str w), none]) (S := S) (own := [("each", 1)]) (elt := .cmp .isin (.var 1) (.cst (.str [48, 49, 50, 51, 52, 53, 54, 55, 56, 57]))) (p := .nm 1) (it := .seq (.var 0)) (s := ⟨w.map fun c => .str [c], []⟩) (S1 := S) (g := fun d => match d with | .str [c] => .bl (dig c) | _ => .non)
    (by simp [srcSeq]) (by simp) (by simp; omega) (by
      intro d hd
      obtain ⟨c, _, rfl⟩ := List.mem_map.mp hd
      refine ⟨[some (.str w), some (.str [c])], rfl, ?_⟩
      have := figs_dig c
      simpa [figs] using this)
  rw [this]
  simp [List.map_map, Function.comp_def]
end Pl
end
section
set_option Elab.async false
set_option linter.all false
set_option maxRecDepth 100000
set_option maxHeartbeats 4000000
set_option autoImplicit false
set_option exponentiation.threshold 10000
/-! W3: fractions read. -/
namespace Pl
open Ev Gr
theorem frac_nums {n : Nat} {ps : List (List Nat)} {S : Sto} {r : Nat} {o3 o4 o5 o6 o7 o8 : Option D} (hr : S[r]? = some (.lst (ps.map .str))) (hp : ∀ p ∈ ps, p.length ≤ 1000000) (hl : ps.length ≤ 1000001) (w : D) :
    ∃ S', ev (GG (n + 1)) (.lc2 [("part", 6), ("each", 7)] [7] (.var 7) (.nm 6) (.seq (.var 1)) (.nm 7) (.seq (.call 36 (.cons (.var 6) .nil)))) [some w, some (.ref r), o3, o4, o5, o6, o7, o8] S = .ok (.ref S'.length) (S' ++ [.lst ((whN ps).map fun k => .int (k : Nat))]) ∧ S <+: S' := by
  obtain ⟨S', e, h⟩ := ev_lc2 (G := GG (n + 1)) (en := [some w, some (.ref r), o3, o4, o5, o6, o7, o8]) (S := S) (own := [("part", 6), ("each", 7)]) (own1 := [7]) (elt := .var 7) (p := .nm 6) (it := .seq (.var 1)) (p1 := .nm 7) (it1 := .seq (.call 36 (.cons (.var 6) .nil)))
    (s := ⟨ps.map .str, [(r, ps.map .str)]⟩) (S1 := S) (I := fun S' => S <+: S') (g := fun d => match d with | .str p => (rdW p).toList.map fun k => .int (k : Nat) | _ => [])
    (by simp [srcSeq, lstOf, hr]) List.prefix_rfl (fun S' h => pre_ok h (ok_one hr)) (by
      rw [List.flatMap_map]
      have := whN_le ps
      have e : (ps.flatMap fun a => (rdW a).toList.map fun k => D.int (k : Nat)) = (whN ps).map fun k => D.int (k : Nat) := by unfold whN; rw [List.map_flatMap]
      show (ps.flatMap fun a => (rdW a).toList.map fun k => D.int (k : Nat)).length ≤ _
      rw [e, List.length_map]
      omega) (by
      intro d hd S' hS
      obtain ⟨p, hpp, rfl⟩ := List.mem_map.mp hd
      obtain ⟨k, S2, e, h1, h2⟩ := whole_in (n := n) (S := S') (hp p hpp)
      refine ⟨[some w, some (.ref r), o3, o4, o5, o6, some (.str p), none], ⟨_, [(k, _)]⟩, S2, id, rfl, ?_, hS.trans h1, fun S3 h3 => pre_ok h3 (ok_one h2), by simp; exact rfl, ?_⟩
      · have e' : fnN Tx.F Ex Tx.cs (n + 1) 36 [.str p] S' = _ := e
        simp [e', srcSeq, lstOf, h2]
      · intro d1 hd1 S3 h3 h4
        exact ⟨[some w, some (.ref r), o3, o4, o5, o6, some (.str p), some d1], S3, rfl, by simp, List.prefix_rfl, h4⟩)
  refine ⟨S', ?_, h⟩
  rw [e]
  congr 4
  rw [List.flatMap_map]
  unfold whN
  rw [List.map_flatMap]
theorem fraction_in {n : Nat} {w : List Nat} {S : Sto} (hw : w.length ≤ 1000000) : Rl (fn (n + 2) 37 [.str w] S) S ((rdP w).toList.map frP) := by
  rw [fn_s (fd := Tx.t37.fd) rfl]
  have hb := body_len w
  have hcn := spl_cnt 47 (body w)
  have hl : w.length ≤ 16777216 := by omega
  have hl2 : (w.drop 1).length ≤ 16777216 := by simp; omega
  have sp : ∀ en S, en.getD 0 none = some (.str w) → ev (GG (n + 1)) (.mt .split (.ite (.cmp .eq (.sl (.var 0) .none (.some (.cst (.int 1)))) (.cst (.str [45]))) (.sl (.var 0) (.some (.cst (.int 1))) .none) (.var 0)) (.cons (.cst (.str [47])) .nil)) en S = .ok (.ref S.length) (S ++ [.lst ((spl 47 (body w)).map .str)]) := by
    intro en S h
    have e : ev (GG (n + 1)) (.ite (.cmp .eq (.sl (.var 0) .none (.some (.cst (.int 1)))) (.cst (.str [45]))) (.sl (.var 0) (.some (.cst (.int 1))) .none) (.var 0)) en S = .ok (.str (body w)) S := by
      rw [neg_ite _ hw _ _ _ _ h]
      unfold body
      have h' : en[0]?.getD none = some (.str w) := by simpa using h
      split
      · simp [h', hl]
      · simp [h']
    rw [ev_mt, e]
    have : (body w).length + 2 ≤ 16777216 := by omega
    simp [this]
  generalize hps : spl 47 (body w) = ps at sp hcn
  have hpl : ∀ p ∈ ps, p.length ≤ 1000000 := fun p hp => by
    rw [← hps] at hp
    have := spl_len hp
    omega
  obtain ⟨S2, e2, h2⟩ := frac_nums (n := n) (ps := ps) (S := S ++ [.lst (ps.map .str)]) (r := S.length) (o3 := none) (o4 := none) (o5 := none) (o6 := none) (o7 := none) (o8 := none) (by simp) hpl (by omega) (.str w)
  have hwn := whN_le ps
  have g1 : (S2 ++ [Ob.lst ((whN ps).map fun k => .int (k : Nat))])[S.length]? = some (.lst (ps.map .str)) := pre_get (h2.trans (pre_snoc ..)) (by simp)
  have pre : S <+: S2 := (pre_snoc ..).trans h2
  have pre3 : S <+: S2 ++ [Ob.lst ((whN ps).map fun k => .int (k : Nat))] := pre.trans (pre_snoc ..)
  have ln1 := len_ref g1
  have ln2 : bi .len [.ref S2.length] (S2 ++ [Ob.lst ((whN ps).map fun k => .int (k : Nat))]) = _ := len_ref (last_get ..)
  rw [List.length_map] at ln1 ln2
  have rp : rdP w = rdPs w ps := by rw [← hps]; rfl
  have hne : ps ≠ [] := by rw [← hps]; exact (spl_back 47 (body w)).1
  clear hps
  by_cases hA : 2 < ps.length ∨ (whN ps).length ≠ ps.length
  · have hr : rdP w = none := by rw [rp, rdPs_none hA]
    refine Rl_new (S1 := S2 ++ [Ob.lst ((whN ps).map fun k => .int (k : Nat))]) ?_ pre3
    rw [hr]
    by_cases h3 : 2 < ps.length
    · have h3' : (2 : Int) < ps.length := by omega
      simp [runF, Tx.t37, Tx.b37, sp, e2, ln1, ln2, h3']
    · have h3' : ¬ (2 : Int) < ps.length := by omega
      have h4 : ¬ ((whN ps).length : Int) = ps.length := by
        rcases hA with h | h
        · exact absurd h h3
        · omega
      simp [runF, Tx.t37, Tx.b37, sp, e2, ln1, ln2, h3', h4]
  · have h3 : ¬ 2 < ps.length := fun h => hA (Or.inl h)
    have h4 : (whN ps).length = ps.length := Classical.byContradiction fun h => hA (Or.inr h)
    rcases ps with _ | ⟨p, _ | ⟨q, _ | ⟨r, t⟩⟩⟩
    · exact absurd rfl hne
    · cases hp : rdW p with
      | none => simp [whN, hp] at h4
      | some k =>
        have bk := (rdW_some.mp hp).2
        have hwh : whN [p] = [k] := by simp [whN, hp]
        rw [hwh] at e2 ln1 ln2 g1
        have rp' : rdP w = if w = [45, 48] then none else some (sgn w k, 1) := by rw [rp]; simp [rdPs, hp]
        have fr0 := fun S => frac_red (n := n) (p := sgn w k) (q := 1) (S := S) (by decide) (by decide)
        simp only [Int.natAbs_one, Nat.gcd_one_right, Int.natCast_one, Int.ediv_one] at fr0
        have gd : good (sgn w k) 1 := ⟨⟨by decide, by simp⟩, by rw [sgn_abs]; exact bk, by decide⟩
        have ck := rd_check gd (w := w) (fun p hp => by rw [rp'] at hp; split at hp; cases hp; exact (Option.some.inj hp).symm)
        have ft := fun S => fraction_text (n := n) (S := S) gd.2.1 gd.2.2
        refine Rl_new (S1 := S2 ++ [.lst [.int (k : Nat)]]) ?_ (pre.trans (pre_snoc ..))
        rw [ck]
        have ix : ixD (S2 ++ [.lst [.int (k : Nat)]]) (.ref S2.length) (.int 0) = some (.int (k : Nat)) := by rw [ixD_ref (last_get ..)]; simp
        simp only [List.map_cons, List.map_nil, List.length_cons, List.length_nil] at e2 ln1 ln2 g1 sp
        by_cases hn : w.take 1 = [45]
        · rw [sgn_neg hn] at fr0 ft ⊢
          by_cases ht : frL (-(k : Int)) 1 = w
          · have htd : decide (frL (-(k : Int)) 1 = w) = true := by simp [ht]
            simp [runF, Tx.t37, Tx.b37, sp, e2, ln1, ln2, ix, hn, hl, fr0, ft, ht]
          · simp [runF, Tx.t37, Tx.b37, sp, e2, ln1, ln2, ix, hn, hl, fr0, ft, ht]
        · rw [sgn_pos hn] at fr0 ft ⊢
          by_cases ht : frL (k : Int) 1 = w
          · simp [runF, Tx.t37, Tx.b37, sp, e2, ln1, ln2, ix, hn, hl, fr0, ft, ht]
          · simp [runF, Tx.t37, Tx.b37, sp, e2, ln1, ln2, ix, hn, hl, fr0, ft, ht]
    · cases hp : rdW p with
      | none =>
        have : (rdW q).toList.length ≤ 1 := by cases rdW q <;> simp
        have h5 : (rdW q).toList.length = 2 := by simpa [whN, hp] using h4
        omega
      | some k =>
        cases hq : rdW q with
        | none => simp [whN, hp, hq] at h4
        | some m =>
          have bk := (rdW_some.mp hp).2
          have bm := (rdW_some.mp hq).2
          have hwh : whN [p, q] = [k, m] := by simp [whN, hp, hq]
          rw [hwh] at e2 ln1 ln2 g1
          have rp' : rdP w = if m < 2 ∨ Nat.gcd k m ≠ 1 then none else some (sgn w k, (m : Int)) := by rw [rp]; simp [rdPs, hp, hq]
          refine Rl_new (S1 := S2 ++ [.lst [.int (k : Nat), .int (m : Nat)]]) ?_ (pre.trans (pre_snoc ..))
          have ix0 : ixD (S2 ++ [.lst [.int (k : Nat), .int (m : Nat)]]) (.ref S2.length) (.int 0) = some (.int (k : Nat)) := by rw [ixD_ref (last_get ..)]; simp
          have ix1 : ixD (S2 ++ [.lst [.int (k : Nat), .int (m : Nat)]]) (.ref S2.length) (.int 1) = some (.int (m : Nat)) := by rw [ixD_ref (last_get ..)]; simp
          simp only [List.map_cons, List.map_nil, List.length_cons, List.length_nil] at e2 ln1 ln2 g1 sp
          by_cases m0 : m = 0
          · have hr : rdP w = none := by rw [rp', if_pos (by omega)]
            subst m0
            rw [hr]
            simp only [Int.natCast_zero] at e2 ln1 ln2 ix0 ix1
            simp [runF, Tx.t37, Tx.b37, sp, e2, ln1, ln2, ix0, ix1]
          · have fr0 := fun S => frac_red (n := n) (p := sgn w k) (q := (m : Int)) (S := S) (by omega) (by rw [Int.natAbs_natCast]; exact Nat.lt_trans (big_bt bm) (by decide))
            have gd := good_red (a := sgn w k) (b := m) m0 (by rw [sgn_abs]; exact bk) bm
            rw [Int.natAbs_natCast] at fr0
            have ck := rd_check gd (w := w) (fun p hp => by
              rw [rp'] at hp
              split at hp
              · cases hp
              · rename_i hg
                have hg : Nat.gcd k m = 1 := Classical.byContradiction fun e => hg (Or.inr e)
                have := red_one (a := sgn w k) (b := m) (by rw [sgn_abs]; exact hg)
                rw [this.1, this.2]
                exact (Option.some.inj hp).symm)
            have ft := fun S => fraction_text (n := n) (S := S) gd.2.1 gd.2.2
            rw [ck]
            generalize (sgn w k / (Nat.gcd (sgn w k).natAbs m : Nat)) = x at *
            generalize ((m : Int) / (Nat.gcd (sgn w k).natAbs m : Nat)) = y at *
            by_cases hn : w.take 1 = [45]
            · rw [sgn_neg hn] at fr0
              by_cases ht : frL x y = w
              · simp [runF, Tx.t37, Tx.b37, sp, e2, ln1, ln2, ix0, ix1, hn, hl, fr0, ft, ht, m0]
              · simp [runF, Tx.t37, Tx.b37, sp, e2, ln1, ln2, ix0, ix1, hn, hl, fr0, ft, ht, m0]
            · rw [sgn_pos hn] at fr0
              by_cases ht : frL x y = w
              · simp [runF, Tx.t37, Tx.b37, sp, e2, ln1, ln2, ix0, ix1, hn, hl, fr0, ft, ht, m0]
              · simp [runF, Tx.t37, Tx.b37, sp, e2, ln1, ln2, ix0, ix1, hn, hl, fr0, ft, ht, m0]
    · simp at h3
end Pl
end
section
set_option Elab.async false
set_option linter.all false
set_option maxRecDepth 100000
set_option maxHeartbeats 4000000
set_option autoImplicit false
set_option exponentiation.threshold 10000
/-! W4: fractions read by the law. -/
namespace Pl
open Ev Gr
def optP (o : Option (Int × Int)) : D := match o with
  | some p => frP p
  | none => .non
@[simp] theorem pl_optI (o : Option Nat) : pl (optI o) = true := by cases o <;> rfl
@[simp] theorem dpt_optI (o : Option Nat) : dpt (optI o) = 0 := by cases o <;> rfl
theorem plL_opts (l : List (Option Nat)) : plL (l.map optI) = true ∧ dptL (l.map optI) = 0 := by
  induction l with
  | nil => exact ⟨rfl, rfl⟩
  | cons o r ih => simp [plL, dptL, ih]
theorem none_in {l : List (Option Nat)} {S : Sto} {r : Nat} (h : S[r]? = some (.lst (l.map optI))) : memS S .non (.ref r) = some (decide (none ∈ l)) := by
  show (seqOf S (.ref r)).bind _ = _
  rw [seqOf_ref h, Option.bind_some, inD_pl rfl (plL_opts l).1 (by simp [dpt]) (by rw [(plL_opts l).2]; decide)]
  congr 1
  have : (D.non ∈ l.map optI) ↔ none ∈ l := by
    rw [List.mem_map]
    constructor
    · rintro ⟨o, h1, h2⟩
      cases o with
      | none => exact h1
      | some k => cases h2
    · exact fun h => ⟨none, h, rfl⟩
  exact decide_eq_decide.mpr this
end Pl
end
section
set_option Elab.async false
set_option linter.all false
set_option maxRecDepth 100000
set_option maxHeartbeats 4000000
set_option autoImplicit false
set_option exponentiation.threshold 10000
/-! W5: numbers read. -/
namespace Pl
open Ev Gr
theorem mt_rf (w : List Nat) (s : Nat) (S : Sto) : mt .rfind (.str w) [.str [s]] S = .ok (.int (rf w s)) S := rfl
theorem split_at {n : Nat} {w : List Nat} {S : Sto} : fn (n + 1) 38 [.str w] S = .ok (.int (splitAt w : Nat)) S := by
  rw [fn_s (fd := Tx.t38.fd) rfl]
  have e : ∀ S, bi .max [.int (rf w 43), .int (rf w 45), .int 0] S = .ok (.int (splitAt w : Nat)) S := fun S => by
    show R.ok (D.int (maxI (rf w 43) [rf w 45, 0])) S = _
    rw [splitAt_int]
  simp [runF, Tx.t38, Tx.b38, mt_rf, e]
theorem num_pairs {n : Nat} {w : Option D} {xs ys : List (Int × Int)} {S : Sto} {r1 r2 : Nat} {o1 o2 o3 o6 o7 o8 o9 : Option D} (h1 : S[r1]? = some (.lst (xs.map frP))) (h2 : S[r2]? = some (.lst (ys.map frP))) (hl : (xs.flatMap fun p => ys.map fun q => (⟨p.1, p.2, q.1, q.2⟩ : N4)).length ≤ 1) :
    ∃ S', ev (GG n) (.lc2 [("one", 8), ("two", 9)] [9] (.tup (.cons (.var 8) (.cons (.var 9) .nil))) (.nm 8) (.seq (.var 4)) (.nm 9) (.seq (.var 5))) [w, o1, o2, o3, some (.ref r1), some (.ref r2), o6, o7, o8, o9] S = .ok (.ref S'.length) (S' ++ [.lst ((xs.flatMap fun p => ys.map fun q => (⟨p.1, p.2, q.1, q.2⟩ : N4)).map N4.D)]) ∧ S <+: S' := by
  have eqn : (xs.map frP).flatMap (fun d => (ys.map frP).map fun e => D.tup [d, e]) = (xs.flatMap fun p => ys.map fun q => (⟨p.1, p.2, q.1, q.2⟩ : N4)).map N4.D := by
    rw [List.flatMap_map, List.map_flatMap]
    congr 1
    funext p
    rw [List.map_map, List.map_map]
    rfl
  obtain ⟨S', e, h⟩ := ev_lc2 (G := GG n) (en := [w, o1, o2, o3, some (.ref r1), some (.ref r2), o6, o7, o8, o9]) (S := S) (own := [("one", 8), ("two", 9)]) (own1 := [9]) (elt := .tup (.cons (.var 8) (.cons (.var 9) .nil))) (p := .nm 8) (it := .seq (.var 4)) (p1 := .nm 9) (it1 := .seq (.var 5))
    (s := ⟨xs.map frP, [(r1, xs.map frP)]⟩) (S1 := S) (I := fun S' => S <+: S') (g := fun d => (ys.map frP).map fun e => D.tup [d, e])
    (by simp [srcSeq, lstOf, h1]) List.prefix_rfl (fun S' h => pre_ok h (ok_one h1)) (by
      show ((xs.map frP).flatMap (fun d => (ys.map frP).map fun e => D.tup [d, e])).length ≤ _
      rw [eqn, List.length_map]; omega) (by
      intro d hd S' hS
      refine ⟨[w, o1, o2, o3, some (.ref r1), some (.ref r2), o6, o7, some d, none], ⟨ys.map frP, [(r2, ys.map frP)]⟩, S', fun e => .tup [d, e], rfl, ?_, hS, fun S3 h3 => pre_ok (hS.trans h3) (ok_one h2), rfl, ?_⟩
      · have := pre_get hS h2
        simp [srcSeq, lstOf, this]
      · intro d1 hd1 S3 h3 h4
        exact ⟨[w, o1, o2, o3, some (.ref r1), some (.ref r2), o6, o7, some d, some d1], S3, rfl, by simp, List.prefix_rfl, h4⟩)
  exact ⟨S', by rw [e]; congr 4, h⟩
open Classical in
theorem num_check {n : Nat} {w : List Nat} {zs : List N4} {S : Sto} {r : Nat} {o1 o2 o3 o4 o5 o7 o8 o9 : Option D} (h1 : S[r]? = some (.lst (zs.map N4.D))) (hg : ∀ z ∈ zs, z.good) (hl : zs.length ≤ 1) :
    ∃ S', ev (GG (n + 2)) (.lc [("each", 7)] (.var 7) (.nm 7) (.seq (.var 6)) (.some (.cmp .eq (.call 30 (.cons (.var 7) .nil)) (.var 0)))) [some (.str w), o1, o2, o3, o4, o5, some (.ref r), o7, o8, o9] S = .ok (.ref S'.length) (S' ++ [.lst ((zs.filter fun z => decide (z.L = w)).map N4.D)]) ∧ S <+: S' := by
  obtain ⟨S', e, h⟩ := ev_lc (G := GG (n + 2)) (en := [some (.str w), o1, o2, o3, o4, o5, some (.ref r), o7, o8, o9]) (S := S) (own := [("each", 7)]) (elt := .var 7) (p := .nm 7) (it := .seq (.var 6)) (c := .some (.cmp .eq (.call 30 (.cons (.var 7) .nil)) (.var 0)))
    (s := ⟨zs.map N4.D, [(r, zs.map N4.D)]⟩) (S1 := S) (I := fun S' => S <+: S') (g := fun d => if ∃ z : N4, z.D = d ∧ z.L = w then some d else none)
    (by simp [srcSeq, lstOf, h1]) List.prefix_rfl (fun S' h => pre_ok h (ok_one h1)) (by simp; omega) (by
      intro d hd S' hS
      obtain ⟨z, hz, rfl⟩ := List.mem_map.mp hd
      refine ⟨[some (.str w), o1, o2, o3, o4, o5, some (.ref r), some z.D, o8, o9], rfl, ?_⟩
      have nw : ∀ S, fnN Tx.F Ex Tx.cs (n + 2) 30 [z.D] S = _ := fun S => number_written (hg z hz)
      by_cases hw : z.L = w
      · right
        exact ⟨S', z.D, S', by simp [nw, hw], by simp, if_pos ⟨z, rfl, hw⟩, hS⟩
      · left
        refine ⟨S', by simp [nw, hw], if_neg ?_, hS⟩
        rintro ⟨y, hy, hyw⟩
        exact hw (N4.D_inj hy ▸ hyw))
  refine ⟨S', ?_, h⟩
  rw [e]
  congr 4
  show (zs.map N4.D).filterMap _ = _
  rw [List.filterMap_map]
  clear e h h1 hl hg
  induction zs with
  | nil => rfl
  | cons z r ih =>
    rw [List.filterMap_cons, List.filter_cons, ih]
    by_cases hw : z.L = w
    · have : (∃ y : N4, y.D = z.D ∧ y.L = w) := ⟨z, rfl, hw⟩
      simp [hw, this]
    · have : ¬ (∃ y : N4, y.D = z.D ∧ y.L = w) := by
        rintro ⟨y, hy, hyw⟩
        exact hw (N4.D_inj hy ▸ hyw)
      simp [hw, this]
theorem num_fracs {n : Nat} {w : List Nat} {S : Sto} {o1 o2 o3 o4 o5 o6 o7 o8 o9 : Option D} (hw : w.length ≤ 1000000) :
    ∃ S', ev (GG (n + 2)) (.lc [("each", 7)] (.tup (.cons (.var 7) (.cons (.glb 0) .nil))) (.nm 7) (.seq (.call 37 (.cons (.var 0) .nil))) .none) [some (.str w), o1, o2, o3, o4, o5, o6, o7, o8, o9] S = .ok (.ref S'.length) (S' ++ [.lst (((rdP w).map fun p => (⟨p.1, p.2, 0, 1⟩ : N4)).toList.map N4.D)]) ∧ S <+: S' := by
  obtain ⟨k, S2, e, h1, h2⟩ := fraction_in (n := n) (S := S) hw
  have e' : fnN Tx.F Ex Tx.cs (n + 2) 37 [.str w] S = _ := e
  obtain ⟨S', e, h⟩ := ev_lcm (G := GG (n + 2)) (en := [some (.str w), o1, o2, o3, o4, o5, o6, o7, o8, o9]) (S := S) (own := [("each", 7)]) (elt := .tup (.cons (.var 7) (.cons (.glb 0) .nil))) (p := .nm 7) (it := .seq (.call 37 (.cons (.var 0) .nil)))
    (s := ⟨(rdP w).toList.map frP, [(k, (rdP w).toList.map frP)]⟩) (S1 := S2) (I := fun S' => S2 <+: S') (g := fun d => .tup [d, Gr.fr 0 1])
    (by simp [e', srcSeq, lstOf, h2]) List.prefix_rfl (fun S' h => pre_ok h (ok_one h2)) (by cases rdP w <;> simp) (by
      intro d hd S' hS
      exact ⟨[some (.str w), o1, o2, o3, o4, o5, o6, some d, o8, o9], S', rfl, by simp, hS⟩)
  refine ⟨S', ?_, h1.trans h⟩
  rw [e]
  congr 4
  cases rdP w <;> rfl
theorem number_in {n : Nat} {w : List Nat} {S : Sto} (hw : w.length ≤ 1000000) : Rl (fn (n + 3) 39 [.str w] S) S ((rdN w).toList.map N4.D) := by
  rw [fn_s (fd := Tx.t39.fd) rfl]
  have hl : w.length ≤ 16777216 := by omega
  have la := last_is (l := w) (c := 105)
  by_cases h : w.getLast? = some 105
  · have h' : w.drop (w.length - 1) = [105] := la.mpr h
    have hs := splitAt_le w
    have tk := cut_to w (splitAt w)
    have md := cut_mid w (splitAt w)
    have sa : ∀ S, fnN Tx.F Ex Tx.cs (n + 2) 38 [.str w] S = _ := fun S => split_at (n := n + 1)
    have l1 : (w.take (splitAt w)).length ≤ 1000000 := by simp; omega
    have l2 : (behindT w).length ≤ 1000000 := by unfold behindT restL; split <;> simp <;> omega
    have l3 : (restL w).length ≤ 16777216 := by unfold restL; simp; omega
    -- what is ahead
    have A : ∀ S o3 o4 o5 o6 o7 o8 o9, Rl (ev (GG (n + 2)) (.ite (.cmp .gt (.var 1) (.cst (.int 0))) (.call 37 (.cons (.var 2) .nil)) (.lst (.cons (.glb 0) .nil))) [some (.str w), some (.int (splitAt w : Nat)), some (.str (w.take (splitAt w))), o3, o4, o5, o6, o7, o8, o9] S) S ((aheadL w).map frP) := by
      intro S o3 o4 o5 o6 o7 o8 o9
      unfold aheadL
      by_cases h0 : 0 < splitAt w
      · have h0' : (0 : Int) < (splitAt w : Nat) := by omega
        have := fraction_in (n := n) (S := S) l1
        rw [if_pos h0]
        simpa [h0, h0'] using this
      · have h0' : ¬ (0 : Int) < (splitAt w : Nat) := by omega
        rw [if_neg h0]
        exact Rl_new (S1 := S) (by simp [h0, h0']) List.prefix_rfl
    have B : ∀ S o2 o4 o5 o6 o7 o8 o9, Rl (ev (GG (n + 2)) (.call 37 (.cons (.ite (.and (.cmp .eq (.sl (.var 3) .none (.some (.cst (.int 1)))) (.cst (.str [43]))) (.cmp .gt (.var 1) (.cst (.int 0)))) (.sl (.var 3) (.some (.cst (.int 1))) .none) (.var 3)) .nil)) [some (.str w), some (.int (splitAt w : Nat)), o2, some (.str (restL w)), o4, o5, o6, o7, o8, o9] S) S ((behindL w).map frP) := by
      intro S o2 o4 o5 o6 o7 o8 o9
      have := fraction_in (n := n) (S := S) l2
      unfold behindL
      by_cases h0 : 0 < splitAt w
      · have h0' : (0 : Int) < (splitAt w : Nat) := by omega
        by_cases h1 : (restL w).take 1 = [43]
        · have e : behindT w = (restL w).drop 1 := if_pos ⟨h1, h0⟩
          rw [e] at this ⊢
          simpa [h0, h0', h1, l3] using this
        · have e : behindT w = restL w := if_neg (fun h => h1 h.1)
          rw [e] at this ⊢
          simpa [h0, h0', h1, l3] using this
      · have h0' : ¬ (0 : Int) < (splitAt w : Nat) := by omega
        have e : behindT w = restL w := if_neg (fun h => h0 h.2)
        rw [e] at this ⊢
        by_cases h1 : (restL w).take 1 = [43]
        · simpa [h0, h0', h1, l3] using this
        · simpa [h0, h0', h1, l3] using this
    obtain ⟨k1, S1, a1, a2, a3⟩ := A S (some (.str (restL w))) none none none none none none
    obtain ⟨k2, S2, b1, b2, b3⟩ := B S1 (some (.str (w.take (splitAt w)))) (some (.ref k1)) none none none none none
    obtain ⟨S3, c1, c2⟩ := num_pairs (n := n + 2) (w := some (.str w)) (o1 := some (.int (splitAt w : Nat))) (o2 := some (.str (w.take (splitAt w)))) (o3 := some (.str (restL w))) (o6 := none) (o7 := none) (o8 := none) (o9 := none) (pre_get b2 a3) b3 (cand_len w)
    obtain ⟨S4, d1, d2⟩ := num_check (n := n) (w := w) (zs := cand w) (o1 := some (.int (splitAt w : Nat))) (o2 := some (.str (w.take (splitAt w)))) (o3 := some (.str (restL w))) (o4 := some (.ref k1)) (o5 := some (.ref k2)) (o7 := none) (o8 := none) (o9 := none) (last_get S3 (.lst ((cand w).map N4.D))) (fun z hz => cand_good hz) (cand_len w)
    rw [cand_eq h] at d1
    refine Rl_new (S1 := S4) ?_ (a2.trans (b2.trans (c2.trans ((pre_snoc ..).trans d2))))
    have md' : cut w (some (splitAt w : Int)) (some (-1)) = restL w := md
    unfold cand at d1
    simp [runF, Tx.t39, Tx.b39, hl, h', sa, parSet, tk, md', a1, b1, c1, d1]
  · have h' : ¬ w.drop (w.length - 1) = [105] := fun e => h (la.mp e)
    obtain ⟨S', e, hp⟩ := num_fracs (n := n) (w := w) (S := S) (o1 := none) (o2 := none) (o3 := none) (o4 := none) (o5 := none) (o6 := none) (o7 := none) (o8 := none) (o9 := none) hw
    rw [← rdN_frac h] at e
    refine Rl_new (S1 := S') ?_ hp
    simp [runF, Tx.t39, Tx.b39, hl, h', e]
end Pl
end
section
set_option Elab.async false
set_option linter.all false
set_option maxRecDepth 100000
set_option maxHeartbeats 4000000
set_option autoImplicit false
set_option exponentiation.threshold 10000
/-! W6: numbers read by the law. -/
namespace Pl
open Ev Gr
def optN (o : Option N4) : D := match o with
  | some z => z.D
  | none => .non
@[simp] theorem eqD_bl (S : Sto) (a b : Bool) : eqD S (.bl a) (.bl b) = some (decide (a = b)) := by
  cases a <;> cases b <;> rfl
theorem sg_mem (c : Nat) : decide (c ∈ [43, 45]) = isSg c := by
  unfold isSg
  congr 1
  simp
theorem num_cuts {n : Nat} {w : List Nat} {S : Sto} {o1 o2 o3 o4 o5 : Option D} (hw : w.length ≤ 1000000) (h0 : 0 < w.length) :
    ev (GG n) (.lc [("k", 5)] (.var 5) (.nm 5) (.rng2 (.cst (.int 1)) (.bi .len (.cons (.var 0) .nil))) (.some (.cmp .isin (.ix (.var 0) (.var 5)) (.cst (.str [43, 45]))))) [some (.str w), o1, o2, o3, o4, o5] S = .ok (.ref S.length) (S ++ [.lst ((cutsL w).map fun (k : Nat) => .int k)]) := by
  have hl : w.length ≤ 16777216 := by omega
  obtain ⟨S', e, rfl⟩ := ev_lc (G := GG n) (en := [some (.str w), o1, o2, o3, o4, o5]) (S := S) (own := [("k", 5)]) (elt := .var 5) (p := .nm 5) (it := .rng2 (.cst (.int 1)) (.bi .len (.cons (.var 0) .nil))) (c := .some (.cmp .isin (.ix (.var 0) (.var 5)) (.cst (.str [43, 45]))))
    (s := ⟨rngD 1 w.length, []⟩) (S1 := S) (I := fun S' => S' = S) (g := fun d => match d with | .int i => if isSg (w.getD i.toNat 0) = true then some d else none | _ => none)
    (evi_rng2 (S1 := S) (GG n) _ S (by simp) (by simp [hl]) (by decide) (by unfold small; omega)) rfl (fun _ _ => ok_nil _ _) (by simp [rngD]; omega) (by
      intro d hd S' hS
      subst hS
      obtain ⟨j, hj, rfl⟩ := List.mem_map.mp hd
      have hj := List.mem_range.mp hj
      have hlt : 1 + j < w.length := by omega
      have ix : ixD S' (.str w) (.int (1 + (j : Int))) = some (.str [w.getD (1 + j) 0]) := by
        rw [ixD_str _ hl, show (1 + (j : Int)) = ((1 + j : Nat) : Int) by omega, atI_nat, List.getD_eq_getElem?_getD, List.getElem?_eq_getElem hlt]
        rfl
      have tn : (1 + (j : Int)).toNat = 1 + j := by omega
      refine ⟨[some (.str w), o1, o2, o3, o4, some (.int (1 + (j : Int)))], rfl, ?_⟩
      have sm := sg_mem (w.getD (1 + j) 0)
      by_cases h : isSg (w.getD (1 + j) 0) = true
      · right
        rw [h] at sm
        refine ⟨S', _, S', ?_, by simp; exact rfl, ?_, rfl⟩
        · have sm' : w.getD (1 + j) 0 = 43 ∨ w.getD (1 + j) 0 = 45 := by simpa using sm
          rw [evc_some, ev_cmp]
          simp only [ev_ix, ev_var, List.getD_cons_zero, List.getD_cons_succ, R.of_some, R.bind_ok, ix, ev_cst, cmp_in, mem_str, sm, Option.map_some, blR_bl, kBin_eq, kAnd_eq, kOr_eq, kIte_eq, kCmp_eq, kCmp2_eq, kTup_eq, kLst_eq, kIx_eq, kIx2_eq, kSl_eq, kSl2_eq, kMt_eq, kCons_eq, kCons2_eq, kSeq_eq, kEnum_eq, kSet_eq, kIf_eq, kExp_eq]
        · simp only [tn, h, if_true]
      · left
        have h' : isSg (w.getD (1 + j) 0) = false := by simpa using h
        rw [h'] at sm
        refine ⟨S', ?_, ?_, rfl⟩
        · rw [evc_some, ev_cmp]
          simp only [ev_ix, ev_var, List.getD_cons_zero, List.getD_cons_succ, R.of_some, R.bind_ok, ix, ev_cst, cmp_in, mem_str, sm, Option.map_some, blR_bl, kBin_eq, kAnd_eq, kOr_eq, kIte_eq, kCmp_eq, kCmp2_eq, kTup_eq, kLst_eq, kIx_eq, kIx2_eq, kSl_eq, kSl2_eq, kMt_eq, kCons_eq, kCons2_eq, kSeq_eq, kEnum_eq, kSet_eq, kIf_eq, kExp_eq]
        · simp only [tn, h', if_false, Bool.false_eq_true])
  rw [e]
  congr 4
  unfold rngD cutsL
  rw [show ((w.length : Int) - 1).toNat = w.length - 1 by omega]
  generalize List.range (w.length - 1) = rs
  induction rs with
  | nil => rfl
  | cons j r ih =>
    simp only [List.map_cons, List.filterMap_cons, List.filter_cons]
    have tn : (1 + (j : Int)).toNat = 1 + j := by omega
    rw [tn]
    by_cases h : isSg (w.getD (1 + j) 0) = true
    · simp only [h, if_true]
      rw [ih]
      simp
    · simp only [h, if_false]
      rw [ih]
      simp
end Pl
end
section
set_option Elab.async false
set_option linter.all false
set_option maxRecDepth 100000
set_option maxHeartbeats 4000000
set_option autoImplicit false
set_option exponentiation.threshold 10000
/-! W7: places, DATA's parts. -/
namespace Pl
open Ev Gr
def inDisc (z : N4) : Bool := decide (within z.a z.b z.c z.d)
theorem good_bt {a b : Int} (h : good a b) : 0 < b ∧ bt 1400 a ∧ bt 1400 b := ⟨h.1.1, big_bt h.2.1, big_bt h.2.2⟩
theorem num_within {n : Nat} {z : N4} {S : Sto} (h : z.good) : fn (n + 3) 13 [z.D] S = .ok (.bl (inDisc z)) S := by
  obtain ⟨a, b, c, d⟩ := z
  obtain ⟨h1, h2⟩ := h
  have g1 := good_bt (show good a b from h1)
  have g2 := good_bt (show good c d from h2)
  exact within_eq g1.1 g2.1 g1.2.1 g1.2.2 g2.2.1 g2.2.2
def rdPl (w : List Nat) : Option N4 := if w.getLast? = some 58 then (rdN (w.take (w.length - 1))).filter inDisc else none
theorem rdN_good {w : List Nat} {z : N4} (h : rdN w = some z) : z.good := (rdN_some.mp h).2
theorem place_in {n : Nat} {w : List Nat} {S : Sto} (hw : w.length ≤ 1000000) : Rl (fn (n + 4) 42 [.str w] S) S ((rdPl w).toList.map N4.D) := by
  rw [fn_s (fd := Tx.t42.fd) rfl]
  have hl : w.length ≤ 16777216 := by omega
  have la := last_is (l := w) (c := 58)
  -- the test
  have fin : ∀ (zs : List N4) S r, S[r]? = some (.lst (zs.map N4.D)) → (∀ z ∈ zs, z.good) → zs.length ≤ 1 → ∃ S', ev (GG (n + 3)) (.lc [("each", 2)] (.var 2) (.nm 2) (.seq (.var 1)) (.some (.call 13 (.cons (.var 2) .nil)))) [some (.str w), some (.ref r), none] S = .ok (.ref S'.length) (S' ++ [.lst ((zs.filter inDisc).map N4.D)]) ∧ S <+: S' := by
    intro zs S r h1 hg hl
    classical
    obtain ⟨S', e, h⟩ := ev_lc (G := GG (n + 3)) (en := [some (.str w), some (.ref r), none]) (S := S) (own := [("each", 2)]) (elt := .var 2) (p := .nm 2) (it := .seq (.var 1)) (c := .some (.call 13 (.cons (.var 2) .nil)))
      (s := ⟨zs.map N4.D, [(r, zs.map N4.D)]⟩) (S1 := S) (I := fun S' => S <+: S') (g := fun d => if ∃ z : N4, z.D = d ∧ inDisc z = true then some d else none)
      (by simp [srcSeq, lstOf, h1]) List.prefix_rfl (fun S' h => pre_ok h (ok_one h1)) (by simp; omega) (by
        intro d hd S' hS
        obtain ⟨z, hz, rfl⟩ := List.mem_map.mp hd
        refine ⟨[some (.str w), some (.ref r), some z.D], rfl, ?_⟩
        have nw : ∀ S, fnN Tx.F Ex Tx.cs (n + 3) 13 [z.D] S = _ := fun S => num_within (hg z hz)
        by_cases hw : inDisc z = true
        · right
          exact ⟨S', z.D, S', by simp [nw, hw], by simp, if_pos ⟨z, rfl, hw⟩, hS⟩
        · left
          refine ⟨S', by simp [nw, hw], if_neg ?_, hS⟩
          rintro ⟨y, hy, hyw⟩
          exact hw (N4.D_inj hy ▸ hyw))
    refine ⟨S', ?_, h⟩
    rw [e]
    congr 4
    show (zs.map N4.D).filterMap _ = _
    rw [List.filterMap_map]
    clear e h h1 hl hg
    induction zs with
    | nil => rfl
    | cons z r ih =>
      rw [List.filterMap_cons, List.filter_cons, ih]
      by_cases hw : inDisc z = true
      · have : (∃ y : N4, y.D = z.D ∧ inDisc y = true) := ⟨z, rfl, hw⟩
        simp [hw, this]
      · have : ¬ (∃ y : N4, y.D = z.D ∧ inDisc y = true) := by
          rintro ⟨y, hy, hyw⟩
          exact hw (N4.D_inj hy ▸ hyw)
        simp [hw, this]
  have fl : ∀ o : Option N4, o.toList.filter inDisc = (o.filter inDisc).toList := fun o => by
    cases o with
    | none => rfl
    | some z => by_cases h : inDisc z = true <;> simp [h, Option.filter]
  unfold rdPl
  by_cases h : w.getLast? = some 58
  · have h' : w.drop (w.length - 1) = [58] := la.mpr h
    have l1 : (w.take (w.length - 1)).length ≤ 1000000 := by simp; omega
    obtain ⟨k, S1, e1, p1, g1⟩ := number_in (n := n) (S := S) l1
    have e1' : fnN Tx.F Ex Tx.cs (n + 3) 39 [.str (w.take (w.length - 1))] S = _ := e1
    obtain ⟨S2, e2, p2⟩ := fin _ S1 k g1 (fun z hz => by
      have : rdN (w.take (w.length - 1)) = some z := by simpa using hz
      exact rdN_good this) (by cases rdN (w.take (w.length - 1)) <;> simp)
    rw [fl] at e2
    rw [if_pos h]
    refine Rl_new (S1 := S2) ?_ (p1.trans p2)
    simp [runF, Tx.t42, Tx.b42, hl, h', e1', e2]
  · have h' : ¬ w.drop (w.length - 1) = [58] := fun e => h (la.mp e)
    obtain ⟨S2, e2, p2⟩ := fin [] (S ++ [.lst []]) S.length (by simp) (by simp) (by simp)
    rw [if_neg h]
    refine Rl_new (S1 := S2) ?_ ((pre_snoc ..).trans p2)
    simp only [List.filter_nil, List.map_nil] at e2
    simp [runF, Tx.t42, Tx.b42, hl, h', e2]
abbrev PR := N4 × List N4
def pD (p : PR) : D := .tup [p.1.D, .tup (p.2.map N4.D)]
theorem places_of {n : Nat} {ps : List PR} {S : Sto} (hl : ps.length ≤ 16777216) : fn (n + 1) 25 [.tup (ps.map pD)] S = .ok (.ref S.length) (S ++ [.lst (ps.map fun p => p.1.D)]) := by
  rw [fn_s (fd := Tx.t25.fd) rfl]
  have e := ev_lcp (G := GG n) (en := [some (.tup (ps.map pD)), none, none]) (S := S) (own := [("place", 1), ("_", 2)]) (elt := .var 1) (p := .tup [.nm 1, .nm 2]) (it := .seq (.var 0)) (s := ⟨ps.map pD, []⟩) (S1 := S) (g := fun d => match d with | .tup [a, _] => a | _ => .non)
    (by simp [srcSeq]) (by simp) (by simpa using hl) (by
      intro d hd
      obtain ⟨p, _, rfl⟩ := List.mem_map.mp hd
      exact ⟨[some (.tup (ps.map pD)), some p.1.D, some (.tup (p.2.map N4.D))], rfl, by simp [pD]⟩)
  simp [runF, Tx.t25, Tx.b25, e]
  intro a b _
  rfl
def cntV (ps : List PR) : Nat := (ps.map fun p => p.2.length).sum
theorem cntV_sum (ps : List PR) : (ps.map fun p => ((p.2.length : Nat) : Int)).sum = ((cntV ps : Nat) : Int) := by
  unfold cntV
  induction ps with
  | nil => rfl
  | cons p r ih =>
    simp only [List.map_cons, List.sum_cons]
    omega
theorem count_values {n : Nat} {ps : List PR} {S : Sto} (hl : ps.length ≤ 16777216) : Rv (fn (n + 1) 23 [.tup (ps.map pD)] S) S (.int (cntV ps : Nat)) := by
  rw [fn_s (fd := Tx.t23.fd) rfl]
  have e := ev_lcp (G := GG n) (en := [some (.tup (ps.map pD)), none, none]) (S := S) (own := [("_", 1), ("values", 2)]) (elt := .bi .len (.cons (.var 2) .nil)) (p := .tup [.nm 1, .nm 2]) (it := .seq (.var 0)) (s := ⟨ps.map pD, []⟩) (S1 := S) (g := fun d => match d with | .tup [_, .tup xs] => .int xs.length | _ => .non)
    (by simp [srcSeq]) (by simp) (by simpa using hl) (by
      intro d hd
      obtain ⟨p, _, rfl⟩ := List.mem_map.mp hd
      exact ⟨[some (.tup (ps.map pD)), some p.1.D, some (.tup (p.2.map N4.D))], rfl, by simp [pD]⟩)
  have e2 : ((ps.map pD).map fun d => match d with | .tup [_, .tup xs] => D.int xs.length | _ => .non) = ps.map fun p => .int ((p.2.length : Nat) : Int) := by
    rw [List.map_map]
    congr 1
    funext p
    simp [pD]
  have e3 : bi .sum [.ref S.length] (S ++ [.lst (ps.map fun p => .int ((p.2.length : Nat) : Int))]) = .ok (.int (cntV ps : Nat)) (S ++ [.lst (ps.map fun p => .int ((p.2.length : Nat) : Int))]) := by
    have : (ps.map fun p => ((p.2.length : Nat) : Int)).sum = ((cntV ps : Nat) : Int) := cntV_sum ps
    simp [bi, lstOf, this]
  refine ⟨_, ?_, pre_snoc S (.lst (ps.map fun p => .int ((p.2.length : Nat) : Int)))⟩
  have e4 : ev (GG n) _ _ S = _ := e.trans (by rw [e2])
  simp [runF, Tx.t23, Tx.b23, e4, e3]
end Pl
end
section
set_option Elab.async false
set_option linter.all false
set_option maxRecDepth 100000
set_option maxHeartbeats 4000000
set_option autoImplicit false
set_option exponentiation.threshold 10000
/-! W8: lines of DATA read. -/
namespace Pl
open Ev Gr
theorem plL_nums (zs : List N4) : plL (zs.map N4.D) = true ∧ dptL (zs.map N4.D) ≤ 2 := by
  induction zs with
  | nil => exact ⟨rfl, by decide⟩
  | cons z r ih =>
    have h1 : pl z.D = true := rfl
    have h2 : dpt z.D = 2 := by simp [N4.D, dpt, dptL]
    simp only [List.map_cons, plL, dptL, h1, h2, ih.1, Bool.and_self, true_and]
    omega
theorem num_in {S : Sto} {r : Nat} {zs : List N4} {z : N4} (h : S[r]? = some (.lst (zs.map N4.D))) [Decidable (z ∈ zs)] : memS S z.D (.ref r) = some (decide (z ∈ zs)) := by
  show (seqOf S (.ref r)).bind _ = _
  have h2 : dpt z.D = 2 := by simp [N4.D, dpt, dptL]
  have := (plL_nums zs).2
  rw [seqOf_ref h, Option.bind_some, inD_pl rfl (plL_nums zs).1 (by rw [h2]; decide) (by omega)]
  congr 1
  apply decide_eq_decide.mpr
  rw [List.mem_map]
  constructor
  · rintro ⟨y, h1, h2⟩
    exact N4.D_inj h2 ▸ h1
  · exact fun h => ⟨z, h, rfl⟩
def rdVals (cnt : Nat) : Nat → List (List Nat) → Nat ⊕ List N4
  | _, [] => .inr []
  | i, w :: r => match rdN w with
    | none => .inl (i + 1)
    | some z => if i = 3 ∨ cnt + i = 6 then .inl (i + 1) else match rdVals cnt (i + 1) r with
      | .inl k => .inl k
      | .inr zs => .inr (z :: zs)
theorem vals_loop {n : Nat} {ps : List PR} (hps : ps.length ≤ 100) {wd pl : Option D} {vr r1 : Nat} {xs1 : List D} (hne : r1 ≠ vr) :
    ∀ (ws : List (List Nat)) (i : Nat) (acc : List N4) (o4 o5 o6 : Option D) (S : Sto), (∀ w ∈ ws, w.length ≤ 1000000) → acc.length + ws.length ≤ 10000000 → S[vr]? = some (.lst (acc.map N4.D)) → S[r1]? = some (.lst xs1) →
      match rdVals (cntV ps) i ws with
      | .inl k => ∃ S', forL ⟨enumD xs1, [(r1, xs1)]⟩ (lpF (GG (n + 3)) Ex (.tup [.nm 4, .nm 5]) (.cons (.asg (.nm 6) (.call 39 (.cons (.var 5) .nil))) (.cons (.ite (.or (.cmp .eq (.var 6) (.lst .nil)) (.or (.cmp .eq (.var 4) (.glb 5)) (.cmp .eq (.bin .add (.call 23 (.cons (.var 1) .nil)) (.var 4)) (.glb 6)))) (.cons (.ret (.tup (.cons (.bin .add (.var 4) (.cst (.int 1))) (.cons (.tup .nil) .nil)))) .nil) .nil) (.cons (.exp (.mt .append (.var 3) (.cons (.ix (.var 6) (.cst (.int 0))) .nil))) .nil)))) (enumA i (ws.map .str)) [wd, some (.tup (ps.map pD)), pl, some (.ref vr), o4, o5, o6] S = .rt (.tup [.int (k : Nat), .tup []]) S' ∧ Fr (· = vr) S S'
      | .inr zs => ∃ p4 p5 p6 S', forL ⟨enumD xs1, [(r1, xs1)]⟩ (lpF (GG (n + 3)) Ex (.tup [.nm 4, .nm 5]) (.cons (.asg (.nm 6) (.call 39 (.cons (.var 5) .nil))) (.cons (.ite (.or (.cmp .eq (.var 6) (.lst .nil)) (.or (.cmp .eq (.var 4) (.glb 5)) (.cmp .eq (.bin .add (.call 23 (.cons (.var 1) .nil)) (.var 4)) (.glb 6)))) (.cons (.ret (.tup (.cons (.bin .add (.var 4) (.cst (.int 1))) (.cons (.tup .nil) .nil)))) .nil) .nil) (.cons (.exp (.mt .append (.var 3) (.cons (.ix (.var 6) (.cst (.int 0))) .nil))) .nil)))) (enumA i (ws.map .str)) [wd, some (.tup (ps.map pD)), pl, some (.ref vr), o4, o5, o6] S = .nx [wd, some (.tup (ps.map pD)), pl, some (.ref vr), p4, p5, p6] S' ∧ S'[vr]? = some (.lst ((acc ++ zs).map N4.D)) ∧ Fr (· = vr) S S' := by
  intro ws
  induction ws with
  | nil =>
    intro i acc o4 o5 o6 S _ _ hv h1
    refine ⟨o4, o5, o6, S, ?_, by simpa using hv, Fr.rfl'⟩
    exact forL_nil (ok_one h1)
  | cons w r ih =>
    intro i acc o4 o5 o6 S hw hl hv h1
    rw [List.length_cons] at hl
    obtain ⟨k, S1, e1, p1, g1⟩ := number_in (n := n) (S := S) (hw w (by simp))
    have e1' : fnN Tx.F Ex Tx.cs (n + 3) 39 [.str w] S = _ := e1
    have pn := plL_nums (rdN w).toList
    have en := eqD_nil g1 pn.1 (by omega)
    obtain ⟨S2, e2, p2⟩ := count_values (n := n + 2) (ps := ps) (S := S1 ++ [.lst []]) (by omega)
    have e2' : fnN Tx.F Ex Tx.cs (n + 3) 23 [.tup (ps.map pD)] (S1 ++ [.lst []]) = _ := e2
    have f1 : Fr (· = vr) S S1 := Fr.of_pre p1
    have f1' : Fr (· = vr) S (S1 ++ [.lst []]) := Fr.of_pre (p1.trans (pre_snoc ..))
    have f2 : Fr (· = vr) S S2 := Fr.of_pre (p1.trans ((pre_snoc ..).trans p2))
    rw [rdVals, List.map_cons, enumA_cons]
    simp only [forL_cons (ok_one h1)]
    cases hz : rdN w with
    | none =>
      rw [hz] at en
      simp only [Option.toList_none, List.map_nil, List.isEmpty_nil] at en
      refine ⟨S1 ++ [.lst []], ?_, f1'⟩
      simp [e1', en]
    | some z =>
      rw [hz] at en g1
      simp only [Option.toList_some, List.map_cons, List.map_nil, List.isEmpty_cons] at en g1
      simp only []
      by_cases h3 : i = 3
      · rw [if_pos (Or.inl h3)]
        subst h3
        refine ⟨S1 ++ [.lst []], ?_, f1'⟩
        simp [e1', en]
      · have h3' : ¬ (i : Int) = 3 := by omega
        by_cases h6 : cntV ps + i = 6
        · rw [if_pos (Or.inr h6)]
          have h6' : ((cntV ps : Nat) : Int) + i = 6 := by omega
          refine ⟨S2, ?_, f2⟩
          simp [e1', en, e2', h3', h6']
        · rw [if_neg (by omega)]
          have h6' : ¬ ((cntV ps : Nat) : Int) + i = 6 := by omega
          have g2 : S2[k]? = some (.lst [z.D]) := pre_get ((pre_snoc ..).trans p2) g1
          have v2 : S2[vr]? = some (.lst (acc.map N4.D)) := pre_get (p1.trans ((pre_snoc ..).trans p2)) hv
          have ix := ixD_ref g2 0
          simp only [atI_0] at ix
          have ap := mt_append v2 (by simp; omega) z.D
          have ty := ty_append v2
          have v3 : (S2.set vr (.lst (acc.map N4.D ++ [z.D])))[vr]? = some (.lst ((acc ++ [z]).map N4.D)) := by rw [set_get v2]; simp
          have f3 : Fr (· = vr) S (S2.set vr (.lst (acc.map N4.D ++ [z.D]))) := f2.tr (Fr.set rfl)
          have ih' := ih (i + 1) (acc ++ [z]) (some (.int (i : Nat))) (some (.str w)) (some (.ref k)) _ (fun w hw' => hw w (List.mem_cons_of_mem _ hw')) (by simp; omega) v3 (f3 _ _ hne h1)
          cases hr : rdVals (cntV ps) (i + 1) r with
          | inl q =>
            rw [hr] at ih'
            obtain ⟨S', e, f⟩ := ih'
            refine ⟨S', ?_, f3.tr f⟩
            rw [← e]
            simp [e1', en, e2', h3', h6', ix, ap, ty]
          | inr zs =>
            rw [hr] at ih'
            obtain ⟨p4, p5, p6, S', e, v, f⟩ := ih'
            refine ⟨p4, p5, p6, S', ?_, by simpa using v, f3.tr f⟩
            rw [← e]
            simp [e1', en, e2', h3', h6', ix, ap, ty]
end Pl
end
section
set_option Elab.async false
set_option linter.all false
set_option maxRecDepth 100000
set_option maxHeartbeats 4000000
set_option autoImplicit false
set_option exponentiation.threshold 10000
/-! W9: a line of DATA read, all lines. -/
namespace Pl
open Ev Gr
def lineS (ps : List PR) (ws : List (List Nat)) : Nat ⊕ PR := match ws with
  | [] => .inl 0
  | w0 :: r => match rdPl w0 with
    | none => .inl 0
    | some z => if z ∈ ps.map (fun p => p.1) ∨ ps.length = 6 then .inl 0 else match rdVals (cntV ps) 0 r with
      | .inl k => .inl k
      | .inr zs => if zs = [] then .inl 1 else .inr (z, zs)
theorem tuple_ref {S : Sto} {r : Nat} {xs : List D} (h : S[r]? = some (.lst xs)) : bi .tuple [.ref r] S = .ok (.tup xs) S := by simp [bi, lstOf, h]
def LineR (r : R D) (S : Sto) : Nat ⊕ PR → Prop
  | .inl k => ∃ X, Rv r S (.tup [.int (k : Nat), X])
  | .inr p => Rv r S (.tup [.non, pD p])
theorem wrong_word {n : Nat} {ps : List PR} {ws : List (List Nat)} {S : Sto} {rw_ : Nat} (hps : ps.length ≤ 100) (hr : S[rw_]? = some (.lst (ws.map .str))) (h0 : ws ≠ []) (hw : ∀ w ∈ ws, w.length ≤ 1000000) (hl : ws.length ≤ 1000001) :
    LineR (fn (n + 5) 43 [.ref rw_, .tup (ps.map pD)] S) S (lineS ps ws) := by
  rw [fn_s (n := n + 4) (i := 43) (ds := [.ref rw_, .tup (ps.map pD)]) (S := S) (fd := Tx.t43.fd) rfl]
  obtain ⟨w0, r, rfl⟩ : ∃ w0 r, ws = w0 :: r := by
    cases ws with
    | nil => exact absurd rfl h0
    | cons a b => exact ⟨a, b, rfl⟩
  have ix0 := ixD_ref hr 0
  simp only [List.map_cons, atI_0] at ix0
  obtain ⟨k1, S1, e1, p1, g1⟩ := place_in (n := n) (S := S) (hw w0 (by simp))
  have e1' : fnN Tx.F Ex Tx.cs (n + 4) 42 [.str w0] S = _ := e1
  have pn := plL_nums (rdPl w0).toList
  have en := eqD_nil g1 pn.1 (by omega)
  cases hz : rdPl w0 with
  | none =>
    rw [hz] at en
    simp only [Option.toList_none, List.map_nil, List.isEmpty_nil] at en
    have hS : lineS ps (w0 :: r) = .inl 0 := by simp [lineS, hz]
    rw [hS]
    refine ⟨.tup [], S1 ++ [.lst []], ?_, p1.trans (pre_snoc ..)⟩
    simp [runF, Tx.t43, Tx.b43, ix0, e1', en]
  | some z =>
    rw [hz] at en g1
    simp only [Option.toList_some, List.map_cons, List.map_nil, List.isEmpty_cons] at en g1
    have po := places_of (n := n + 3) (ps := ps) (S := S1 ++ [.lst []]) (by omega)
    have po' : fnN Tx.F Ex Tx.cs (n + 4) 25 [.tup (ps.map pD)] (S1 ++ [.lst []]) = _ := po
    have g2 : ((S1 ++ [.lst []]) ++ [.lst ((ps.map fun p => p.1).map N4.D)])[(S1 ++ [Ob.lst []]).length]? = some (.lst ((ps.map fun p => p.1).map N4.D)) := last_get ..
    have mm : (ps.map fun p => p.1).map N4.D = ps.map fun p => p.1.D := by rw [List.map_map]; rfl
    have ni := num_in (z := z) g2
    rw [mm] at ni g2
    have ix1 : ixD (S1 ++ [.lst []]) (.ref k1) (.int 0) = some z.D := by rw [ixD_ref (pre_get (pre_snoc ..) g1) 0]; simp
    obtain ⟨S2, hS2⟩ : ∃ S2 : Sto, S2 = (S1 ++ [.lst []]) ++ [.lst (ps.map fun p => p.1.D)] := ⟨_, rfl⟩
    rw [← hS2] at po' ni g2
    simp only [List.length_append, List.length_cons, List.length_nil, Nat.zero_add] at ni
    have p2 : S <+: S2 := by rw [hS2]; exact p1.trans ((pre_snoc ..).trans (pre_snoc ..))
    have q2 : S1 <+: S2 := by rw [hS2]; exact (pre_snoc ..).trans (pre_snoc ..)
    by_cases hm : z ∈ ps.map (fun p => p.1)
    · have hS : lineS ps (w0 :: r) = .inl 0 := by simp only [lineS, hz]; rw [if_pos (Or.inl hm)]
      rw [hS]
      rw [decide_eq_true hm] at ni
      refine ⟨.tup [], S2, ?_, p2⟩
      simp [runF, Tx.t43, Tx.b43, ix0, e1', en, ix1, po', ni]
    · rw [decide_eq_false hm] at ni
      by_cases h6 : ps.length = 6
      · have hS : lineS ps (w0 :: r) = .inl 0 := by simp only [lineS, hz]; rw [if_pos (Or.inr h6)]
        rw [hS]
        have h6' : (ps.length : Int) = 6 := by omega
        refine ⟨.tup [], S2, ?_, p2⟩
        simp [runF, Tx.t43, Tx.b43, ix0, e1', en, ix1, po', ni, h6, h6']
      · have h6' : ¬ (ps.length : Int) = 6 := by omega
        have hS : lineS ps (w0 :: r) = (match rdVals (cntV ps) 0 r with
      | .inl k => .inl k
      | .inr zs => if zs = [] then .inl 1 else .inr (z, zs)) := by simp only [lineS, hz]; rw [if_neg (fun h => h.elim hm h6)]
        rw [hS]
        -- the values
        have sl := slD_ref (l := (w0 :: r).map D.str) (n := rw_) (S := S2 ++ [.lst []]) (pre_get (p2.trans (pre_snoc ..)) hr) (some 1) none
        have sl2 : cut ((w0 :: r).map D.str) (some 1) none = r.map .str := by rw [cut_from1]; rfl
        rw [sl2] at sl
        have lp := vals_loop (n := n + 1) (ps := ps) hps (wd := some (.ref rw_)) (pl := some (.ref k1)) (vr := S2.length) (r1 := (S2 ++ [Ob.lst []]).length) (xs1 := r.map .str) (by simp) r 0 [] none none none (S2 ++ [.lst []] ++ [.lst (r.map .str)]) (fun w h => hw w (List.mem_cons_of_mem _ h)) (by simp at hl ⊢; omega) (pre_get (pre_snoc ..) (last_get ..)) (last_get ..)
        have fr : ∀ S', Fr (· = S2.length) (S2 ++ [.lst []] ++ [.lst (r.map .str)]) S' → S <+: S' := fun S' h => by
          apply Fr.pre
          have f0 : Fr Nope S (S2 ++ [.lst []] ++ [.lst (r.map .str)]) := Fr.of_pre (p2.trans ((pre_snoc ..).trans (pre_snoc ..)))
          have le : S.length ≤ S2.length := p2.length_le
          refine ((f0.mono (Q := (· = S2.length)) (fun _ h => h.elim)).tr h).new fun n hn hl => ?_
          have hn : n = S2.length := hn
          omega
        have se : srcEnum (.ref (S2 ++ [Ob.lst []]).length) (S2 ++ [.lst []] ++ [.lst (r.map .str)]) = some ⟨enumD (r.map .str), [((S2 ++ [Ob.lst []]).length, r.map .str)]⟩ := by
          simp [srcEnum, lstOf]
        have ef := exec_for (GG (n + 4)) [some (.ref rw_), some (.tup (ps.map pD)), some (.ref k1), some (.ref S2.length), none, none, none] (S2 ++ [.lst []]) Ex (.tup [.nm 4, .nm 5]) (.enum (.sl (.var 0) (.some (.cst (.int 1))) .none)) (.cons (.asg (.nm 6) (.call 39 (.cons (.var 5) .nil))) (.cons (.ite (.or (.cmp .eq (.var 6) (.lst .nil)) (.or (.cmp .eq (.var 4) (.glb 5)) (.cmp .eq (.bin .add (.call 23 (.cons (.var 1) .nil)) (.var 4)) (.glb 6)))) (.cons (.ret (.tup (.cons (.bin .add (.var 4) (.cst (.int 1))) (.cons (.tup .nil) .nil)))) .nil) .nil) (.cons (.exp (.mt .append (.var 3) (.cons (.ix (.var 6) (.cst (.int 0))) .nil))) .nil)))
        have ev0 : evi (GG (n + 4)) (.enum (.sl (.var 0) (.some (.cst (.int 1))) .none)) [some (.ref rw_), some (.tup (ps.map pD)), some (.ref k1), some (.ref S2.length), none, none, none] (S2 ++ [.lst []]) = .ok ⟨enumD (r.map .str), [((S2 ++ [Ob.lst []]).length, r.map .str)]⟩ (S2 ++ [.lst []] ++ [.lst (r.map .str)]) := by
          simp only [evi_enum, ev_sl, ev_var, List.getD_cons_zero, R.of_some, R.bind_ok, evo_some, ev_cst, intR_int, evo_none, sl, se, kBin_eq, kAnd_eq, kOr_eq, kIte_eq, kCmp_eq, kCmp2_eq, kTup_eq, kLst_eq, kIx_eq, kIx2_eq, kSl_eq, kSl2_eq, kMt_eq, kCons_eq, kCons2_eq, kSeq_eq, kEnum_eq, kSet_eq, kIf_eq, kExp_eq]
        rw [ev0, R.then_ok] at ef
        cases hv : rdVals (cntV ps) 0 r with
        | inl k =>
          rw [hv] at lp
          obtain ⟨S', e, f⟩ := lp
          have ef' := ef.trans e
          refine ⟨.tup [], S', ?_, fr _ f⟩
          simp [runF, Tx.t43, Tx.b43, ix0, e1', en, ix1, po', ni, h6, h6', ef']
        | inr zs =>
          rw [hv] at lp
          obtain ⟨o4, o5, o6, S', e, v, f⟩ := lp
          have ef' := ef.trans e
          simp only [List.nil_append] at v
          have pz := plL_nums zs
          have en2 := eqD_nil v pz.1 (by omega)
          have v' : (S' ++ [.lst []])[S2.length]? = some (.lst (zs.map N4.D)) := pre_get (pre_snoc ..) v
          have k1' : S'[k1]? = some (.lst [z.D]) := f k1 _ (by have := get_lt (pre_get q2 g1); omega) (pre_get (q2.trans ((pre_snoc ..).trans (pre_snoc ..))) g1)
          have ix2 : ixD (S' ++ [.lst []]) (.ref k1) (.int 0) = some z.D := by rw [ixD_ref (pre_get (pre_snoc ..) k1') 0]; simp
          have tp := tuple_ref v'
          show LineR _ S (if zs = [] then .inl 1 else .inr (z, zs))
          by_cases hzs : zs = []
          · rw [if_pos hzs]
            subst hzs
            simp only [List.map_nil, List.isEmpty_nil] at en2 tp
            refine ⟨.tup [z.D, .tup []], S' ++ [.lst []], ?_, (fr _ f).trans (pre_snoc ..)⟩
            simp [runF, Tx.t43, Tx.b43, ix0, e1', en, ix1, po', ni, h6, h6', ef', en2, ix2, tp]
          · rw [if_neg hzs]
            have en3 : (zs.map N4.D).isEmpty = false := by
              cases zs with
              | nil => exact absurd rfl hzs
              | cons a b => rfl
            rw [en3] at en2
            refine ⟨S' ++ [.lst []], ?_, (fr _ f).trans (pre_snoc ..)⟩
            simp [runF, Tx.t43, Tx.b43, ix0, e1', en, ix1, po', ni, h6, h6', ef', en2, ix2, tp, pD]
end Pl
end
section
set_option Elab.async false
set_option linter.all false
set_option maxRecDepth 100000
set_option maxHeartbeats 4000000
set_option autoImplicit false
set_option exponentiation.threshold 10000
/-! W10: DATA read. -/
namespace Pl
open Ev Gr
def textS : Nat → List PR → List (List Nat) → (Nat × Nat) ⊕ List PR
  | _, ps, [] => .inr ps
  | i, ps, l :: r => if r = [] ∧ l = [] then .inr ps else match lineS ps (spl 32 l) with
    | .inl k => .inl (i, k)
    | .inr p => if r = [] then .inl (i, (spl 32 l).length) else textS (i + 1) (ps ++ [p]) r
def DataV : (Nat × Nat) ⊕ List PR → D
  | .inl (i, k) => .tup [.tup [.int (i : Nat), .int (k : Nat)], .tup []]
  | .inr ps => .tup [.non, .tup (ps.map pD)]
theorem lineS_six {ps : List PR} {ws : List (List Nat)} {p : PR} (h : lineS ps ws = .inr p) : ps.length ≠ 6 := by
  unfold lineS at h
  split at h
  · cases h
  · split at h
    · cases h
    · split at h
      · cases h
      · rename_i hn
        exact fun e => hn (Or.inr e)
theorem lines_loop {n : Nat} {tx : Option D} {r1 tot : Nat} {ls : List (List Nat)} :
    ∀ (r : List (List Nat)) (i : Nat) (ps : List PR) (o3 o4 o5 o6 o7 o8 : Option D) (S : Sto), r ≠ [] → i + r.length = ls.length → ls.length ≤ 1000001 → (∀ l ∈ r, l.length ≤ 1000000) → ps.length ≤ 6 → S[r1]? = some (.lst (ls.map .str)) →
      ∃ S', forL ⟨enumD (ls.map .str), [(r1, ls.map .str)]⟩ (lpF (GG (n + 5)) Ex (.tup [.nm 3, .nm 4]) (.cons (.asg (.nm 5) (.cmp .eq (.var 3) (.bin .sub (.bi .len (.cons (.var 1) .nil)) (.cst (.int 1))))) (.cons (.ite (.and (.var 5) (.cmp .eq (.var 4) (.cst (.str [])))) (.cons (.ret (.tup (.cons (.cst .non) (.cons (.var 2) .nil)))) .nil) .nil) (.cons (.asg (.nm 6) (.mt .split (.var 4) (.cons (.cst (.str [32])) .nil))) (.cons (.asg (.tup [.nm 7, .nm 8]) (.call 43 (.cons (.var 6) (.cons (.var 2) .nil)))) (.cons (.ite (.or (.cmp .isnot (.var 7) (.cst .non)) (.var 5)) (.cons (.ret (.tup (.cons (.tup (.cons (.var 3) (.cons (.ite (.cmp .is (.var 7) (.cst .non)) (.bi .len (.cons (.var 6) .nil)) (.var 7)) .nil))) (.cons (.tup .nil) .nil)))) .nil) .nil) (.cons (.asg (.nm 2) (.tup (.star (.var 2) (.cons (.var 8) .nil)))) .nil))))))) (enumA i (r.map .str)) [tx, some (.ref r1), some (.tup (ps.map pD)), o3, o4, o5, o6, o7, o8] S = .rt (DataV (textS i ps r)) S' ∧ S <+: S' := by
  intro r
  induction r with
  | nil => intro i ps o3 o4 o5 o6 o7 o8 S h; exact absurd rfl h
  | cons l r ih =>
    intro i ps o3 o4 o5 o6 o7 o8 S _ hi ht hl hp h1
    rw [List.length_cons] at hi
    have ln := len_ref h1
    rw [List.length_map] at ln
    have ll := hl l (by simp)
    have l2 : l.length + 2 ≤ 16777216 := by omega
    rw [List.map_cons, enumA_cons]
    simp only [forL_cons (ok_one h1)]
    have g1 : (S ++ [Ob.lst ((spl 32 l).map .str)])[S.length]? = some (.lst ((spl 32 l).map .str)) := last_get ..
    have sc := spl_cnt 32 l
    have ww := wrong_word (n := n) (ps := ps) (by omega) g1 (spl_back 32 l).1 (fun w hw => by have := spl_len hw; omega) (by omega)
    have pl1 : ps.length ≤ 16777215 := by omega
    by_cases hr : r = []
    · subst hr
      have hi' : (i : Int) = (ls.length : Int) - 1 := by simp at hi; omega
      by_cases h0 : l = []
      · subst h0
        have e : textS i ps [[]] = .inr ps := by simp [textS]
        rw [e]
        refine ⟨S, ?_, List.prefix_rfl⟩
        simp [ln, hi', DataV]
      · cases hq : lineS ps (spl 32 l) with
        | inl k =>
          have e : textS i ps [l] = .inl (i, k) := by simp [textS, h0, hq]
          rw [e]
          rw [hq] at ww
          obtain ⟨X, S', e2, p2⟩ := ww
          have e2' : fnN Tx.F Ex Tx.cs (n + 5) 43 [.ref S.length, .tup (ps.map pD)] (S ++ [.lst ((spl 32 l).map .str)]) = _ := e2
          refine ⟨S', ?_, (pre_snoc ..).trans p2⟩
          simp [ln, hi', DataV, h0, l2, e2']
        | inr p =>
          have e : textS i ps [l] = .inl (i, (spl 32 l).length) := by simp [textS, h0, hq]
          rw [e]
          rw [hq] at ww
          obtain ⟨S', e2, p2⟩ := ww
          have e2' : fnN Tx.F Ex Tx.cs (n + 5) 43 [.ref S.length, .tup (ps.map pD)] (S ++ [.lst ((spl 32 l).map .str)]) = _ := e2
          have ln2 := len_ref (pre_get p2 g1)
          rw [List.length_map] at ln2
          refine ⟨S', ?_, (pre_snoc ..).trans p2⟩
          simp [ln, hi', DataV, h0, l2, e2', ln2]
    · have hrl : 0 < r.length := List.length_pos_iff.mpr hr
      have hi' : ¬ (i : Int) = (ls.length : Int) - 1 := by omega
      cases hq : lineS ps (spl 32 l) with
      | inl k =>
        have e : textS i ps (l :: r) = .inl (i, k) := by simp [textS, hr, hq]
        rw [e]
        rw [hq] at ww
        obtain ⟨X, S', e2, p2⟩ := ww
        have e2' : fnN Tx.F Ex Tx.cs (n + 5) 43 [.ref S.length, .tup (ps.map pD)] (S ++ [.lst ((spl 32 l).map .str)]) = _ := e2
        refine ⟨S', ?_, (pre_snoc ..).trans p2⟩
        simp [ln, hi', DataV, l2, e2']
      | inr p =>
        have e : textS i ps (l :: r) = textS (i + 1) (ps ++ [p]) r := by simp [textS, hr, hq]
        rw [e]
        rw [hq] at ww
        obtain ⟨S', e2, p2⟩ := ww
        have e2' : fnN Tx.F Ex Tx.cs (n + 5) 43 [.ref S.length, .tup (ps.map pD)] (S ++ [.lst ((spl 32 l).map .str)]) = _ := e2
        have six := lineS_six hq
        obtain ⟨S2, e3, p3⟩ := ih (i + 1) (ps ++ [p]) (some (.int (i : Nat))) (some (.str l)) (some (.bl false)) (some (.ref S.length)) (some .non) (some (pD p)) S' hr (by omega) ht (fun l hl' => hl l (List.mem_cons_of_mem _ hl')) (by simp; omega) (pre_get ((pre_snoc ..).trans p2) h1)
        refine ⟨S2, ?_, (pre_snoc ..).trans (p2.trans p3)⟩
        rw [← e3]
        simp [ln, hi', l2, e2', pl1]
theorem data_in {n : Nat} {w : List Nat} {S : Sto} (hw : w.length ≤ 1000000) : Rv (fn (n + 6) 44 [.str w] S) S (DataV (textS 0 [] (spl 10 w))) := by
  rw [fn_s (fd := Tx.t44.fd) rfl]
  have l2 : w.length + 2 ≤ 16777216 := by omega
  have sc := spl_cnt 10 w
  have g1 : (S ++ [Ob.lst ((spl 10 w).map .str)])[S.length]? = some (.lst ((spl 10 w).map .str)) := last_get ..
  obtain ⟨S', e, p⟩ := lines_loop (n := n) (tx := some (.str w)) (tot := 0) (ls := spl 10 w) (spl 10 w) 0 [] none none none none none none _ (spl_back 10 w).1 (by omega) (by omega) (fun l hl => by have := spl_len hl; omega) (by simp) g1
  refine ⟨S', ?_, (pre_snoc ..).trans p⟩
  have ef := exec_for (GG (n + 5)) [some (.str w), some (.ref S.length), some (.tup []), none, none, none, none, none, none] (S ++ [.lst ((spl 10 w).map .str)]) Ex (.tup [.nm 3, .nm 4]) (.enum (.var 1)) (.cons (.asg (.nm 5) (.cmp .eq (.var 3) (.bin .sub (.bi .len (.cons (.var 1) .nil)) (.cst (.int 1))))) (.cons (.ite (.and (.var 5) (.cmp .eq (.var 4) (.cst (.str [])))) (.cons (.ret (.tup (.cons (.cst .non) (.cons (.var 2) .nil)))) .nil) .nil) (.cons (.asg (.nm 6) (.mt .split (.var 4) (.cons (.cst (.str [32])) .nil))) (.cons (.asg (.tup [.nm 7, .nm 8]) (.call 43 (.cons (.var 6) (.cons (.var 2) .nil)))) (.cons (.ite (.or (.cmp .isnot (.var 7) (.cst .non)) (.var 5)) (.cons (.ret (.tup (.cons (.tup (.cons (.var 3) (.cons (.ite (.cmp .is (.var 7) (.cst .non)) (.bi .len (.cons (.var 6) .nil)) (.var 7)) .nil))) (.cons (.tup .nil) .nil)))) .nil) .nil) (.cons (.asg (.nm 2) (.tup (.star (.var 2) (.cons (.var 8) .nil)))) .nil))))))
  have se : srcEnum (.ref S.length) (S ++ [.lst ((spl 10 w).map .str)]) = some ⟨enumD ((spl 10 w).map .str), [(S.length, (spl 10 w).map .str)]⟩ := by simp [srcEnum, lstOf]
  have ev0 : evi (GG (n + 5)) (.enum (.var 1)) [some (.str w), some (.ref S.length), some (.tup []), none, none, none, none, none, none] (S ++ [.lst ((spl 10 w).map .str)]) = .ok ⟨enumD ((spl 10 w).map .str), [(S.length, (spl 10 w).map .str)]⟩ (S ++ [.lst ((spl 10 w).map .str)]) := by
    simp only [evi_enum, ev_var, List.getD_cons_zero, List.getD_cons_succ, R.of_some, R.bind_ok, se, kBin_eq, kAnd_eq, kOr_eq, kIte_eq, kCmp_eq, kCmp2_eq, kTup_eq, kLst_eq, kIx_eq, kIx2_eq, kSl_eq, kSl2_eq, kMt_eq, kCons_eq, kCons2_eq, kSeq_eq, kEnum_eq, kSet_eq, kIf_eq, kExp_eq]
  rw [ev0, R.then_ok] at ef
  have ef' := ef.trans e
  simp [runF, Tx.t44, Tx.b44, l2, ef']
theorem check_text {n : Nat} {w : List Nat} {S : Sto} : fn (n + 1) 45 [.str w] S = .ok .non S := by
  rw [fn_s (fd := Tx.t45.fd) rfl]
  simp [runF, Tx.t45, Tx.b45, bi, isTy]
def ReadR (r : R D) (S : Sto) : (Nat × Nat) ⊕ List PR → Prop
  | .inl (i, k) => ∃ S', r = .ex ⟨5, [("line", .int (i : Nat)), ("word", .int (k : Nat))]⟩ S' ∧ S <+: S'
  | .inr ps => Rv r S (.tup (ps.map pD))
theorem read_data {n : Nat} {w : List Nat} {S : Sto} (hw : w.length ≤ 1000000) : ReadR (fn (n + 7) 54 [.str w] S) S (textS 0 [] (spl 10 w)) := by
  rw [fn_s (fd := Tx.t54.fd) rfl]
  obtain ⟨S', e, p⟩ := data_in (n := n) (S := S) hw
  have e' : fnN Tx.F Ex Tx.cs (n + 6) 44 [.str w] S = _ := e
  have ct : ∀ S, fnN Tx.F Ex Tx.cs (n + 6) 45 [.str w] S = _ := fun S => check_text (n := n + 5)
  cases h : textS 0 [] (spl 10 w) with
  | inl q =>
    obtain ⟨i, k⟩ := q
    rw [h] at e'
    simp only [DataV] at e'
    refine ⟨S', ?_, p⟩
    simp [runF, Tx.t54, Tx.b54, ct, e', Tx.T, Tx.clE]
  | inr ps =>
    rw [h] at e'
    simp only [DataV] at e'
    refine ⟨S', ?_, p⟩
    simp [runF, Tx.t54, Tx.b54, ct, e']
end Pl
end
section
set_option Elab.async false
set_option linter.all false
set_option maxRecDepth 100000
set_option maxHeartbeats 4000000
set_option autoImplicit false
set_option exponentiation.threshold 10000
/-! W11: a line read by the law. -/
namespace Pl
open Ev Gr
def rngN (i n : Nat) : List D := (List.range' i n).map fun (k : Nat) => D.int k
theorem rngD_N (n : Nat) : rngD 0 (n : Nat) = rngN 0 n := by
  unfold rngD rngN
  rw [List.range_eq_range', show ((n : Int) - 0).toNat = n by omega]
  congr 1
  funext k
  simp
@[simp] theorem rngN_zero (i : Nat) : rngN i 0 = [] := rfl
@[simp] theorem rngN_succ (i n : Nat) : rngN i (n + 1) = .int (i : Nat) :: rngN (i + 1) n := rfl
@[simp] theorem isD_N (z : N4) : isD z.D .non = some false := rfl
theorem rdVals_len {c : Nat} : ∀ {r : List (List Nat)} {i : Nat} {zs : List N4}, rdVals c i r = .inr zs → zs.length = r.length
  | [], i, zs, h => by cases h; rfl
  | w :: r, i, zs, h => by
    rw [rdVals] at h
    cases hz : rdN w with
    | none => rw [hz] at h; cases h
    | some z =>
      rw [hz] at h
      simp only [] at h
      split at h
      · cases h
      · cases hr : rdVals c (i + 1) r with
        | inl k => rw [hr] at h; cases h
        | inr ys =>
          rw [hr] at h
          cases h
          rw [List.length_cons, List.length_cons, rdVals_len hr]
def ValsR (o : O) (S : Sto) (tr : Nat) (fx : List (Option D)) (acc : List N4) : Nat ⊕ List N4 → Prop
  | .inl j => ∃ S', o = .rt (.tup [.non, .int (j : Nat)]) S' ∧ Fr (· = tr) S S'
  | .inr zs => ∃ p6 p7 p8 p9 S', o = .nx (fx ++ [p6, p7, p8, p9]) S' ∧ S'[tr]? = some (.lst ((acc ++ zs).map N4.D)) ∧ Fr (· = tr) S S'
end Pl
end
section
set_option Elab.async false
set_option linter.all false
set_option maxRecDepth 100000
set_option maxHeartbeats 4000000
set_option autoImplicit false
set_option exponentiation.threshold 10000
/-! W12: a line read by the law, whole. -/
namespace Pl
open Ev Gr
def LawL (r : R D) (S : Sto) : Nat ⊕ PR → Prop
  | .inl k => Rv r S (.tup [.non, .int (k : Nat)])
  | .inr p => Rv r S (.tup [pD p, .non])
theorem first_turn {w0 : List Nat} {r : List (List Nat)} {f : D → En → Sto → O} {en : En} {S : Sto} : forL ⟨rngD 0 ((w0 :: r).length : Nat), []⟩ f (Src.its ⟨rngD 0 ((w0 :: r).length : Nat), []⟩) en S = (f (.int (0 : Nat)) en S).turn fun en S => forL ⟨rngD 0 ((w0 :: r).length : Nat), []⟩ f (rngN 1 r.length) en S := by
  have e : Src.its ⟨rngD 0 ((w0 :: r).length : Nat), []⟩ = .int (0 : Nat) :: rngN 1 r.length := by
    show rngD 0 ((w0 :: r).length : Nat) = _
    rw [rngD_N, List.length_cons, rngN_succ]
  rw [e, forL_cons (ok_nil _ _)]
end Pl
end
section
set_option Elab.async false
set_option linter.all false
set_option maxRecDepth 100000
set_option maxHeartbeats 4000000
set_option autoImplicit false
set_option exponentiation.threshold 10000
/-! W13: the law's own reading of a text. -/
namespace Pl
open Ev Gr
theorem rdVals_cnt {c : Nat} : ∀ {r : List (List Nat)} {i : Nat} {zs : List N4}, rdVals c i r = .inr zs → c + i ≤ 6 → i ≤ 3 → c + i + zs.length ≤ 6 ∧ i + zs.length ≤ 3
  | [], i, zs, h, hc, hi => by cases h; simp; omega
  | w :: r, i, zs, h, hc, hi => by
    rw [rdVals] at h
    cases hz : rdN w with
    | none => rw [hz] at h; cases h
    | some z =>
      rw [hz] at h
      simp only [] at h
      split at h
      · cases h
      · rename_i hn
        cases hr : rdVals c (i + 1) r with
        | inl k => rw [hr] at h; cases h
        | inr ys =>
          rw [hr] at h
          cases h
          have := rdVals_cnt hr (by omega) (by omega)
          rw [List.length_cons]
          omega
theorem lineS_cnt {ps : List PR} {ws : List (List Nat)} {p : PR} (h : lineS ps ws = .inr p) (hc : cntV ps ≤ 6) : cntV ps + p.2.length ≤ 6 ∧ p.2.length ≤ 3 ∧ p.2 ≠ [] := by
  cases ws with
  | nil => cases h
  | cons w0 r =>
    cases hz : rdPl w0 with
    | none => simp [lineS, hz] at h
    | some z =>
      simp only [lineS, hz] at h
      split at h
      · cases h
      · cases hr : rdVals (cntV ps) 0 r with
        | inl k => rw [hr] at h; cases h
        | inr ys =>
          rw [hr] at h
          simp only [] at h
          split at h
          · cases h
          · cases h
            have := rdVals_cnt hr (by omega) (by omega)
            rename_i hne
            exact ⟨by simpa using this.1, by simpa using this.2, hne⟩
theorem cntV_app (ps : List PR) (p : PR) : cntV (ps ++ [p]) = cntV ps + p.2.length := by simp [cntV]
def OwnR (o : O) (S : Sto) (fr : Nat) (f0 f3 : Option D) : (Nat × Nat) ⊕ List PR → Prop
  | .inl (i, k) => ∃ S' q, o = .rt (.tup [.str [119, 114, 111, 110, 103], .ref q]) S' ∧ S'[q]? = some (.lst [.int (i : Nat), .int (k : Nat), .bl true, .bl true]) ∧ Fr (· = fr) S S'
  | .inr ps => ∃ p2 p4 p5 p6 p7 S', o = .nx [f0, some (.ref fr), p2, f3, p4, p5, p6, p7] S' ∧ S'[fr]? = some (.lst (ps.map pD)) ∧ Fr (· = fr) S S'
end Pl
end
section
set_option Elab.async false
set_option linter.all false
set_option maxRecDepth 100000
set_option maxHeartbeats 4000000
set_option autoImplicit false
set_option exponentiation.threshold 10000
/-! W14: what the law reads and what it is told. -/
namespace Pl
open Ev Gr
def ResR (r : R D) (S : Sto) : (Nat × Nat) ⊕ List PR → Prop
  | .inl (i, k) => ∃ S' q, r = .ok (.tup [.str [119, 114, 111, 110, 103], .ref q]) S' ∧ S'[q]? = some (.lst [.int (i : Nat), .int (k : Nat), .bl true, .bl true]) ∧ S <+: S'
  | .inr ps => ∃ S', r = .ok (.tup [.str [114, 101, 97, 100], .tup (ps.map pD)]) S' ∧ S <+: S'
theorem eqD_ways {S : Sto} {q i k : Nat} (h : S[q]? = some (.lst [.int (i : Nat), .int (k : Nat), .bl true, .bl true])) : eqD (S ++ [.lst []]) (.ref q) (.ref S.length) = some false := by
  have g1 := pre_get (pre_snoc S (.lst [])) h
  have g2 := last_get S (.lst [])
  have e1 : toP (S ++ [Ob.lst []]) 20 (.ref q) = some (.list [.int i, .int k, .bool true, .bool true]) := by
    show (match (S ++ [Ob.lst []])[q]? with
      | some (.lst xs) => (mapO (toP (S ++ [Ob.lst []]) 19) xs).map PySem.PyData.list
      | _ => none) = _
    rw [g1]
    rfl
  have e2 : toP (S ++ [Ob.lst []]) 20 (.ref S.length) = some (.list []) := by
    show (match (S ++ [Ob.lst []])[S.length]? with
      | some (.lst xs) => (mapO (toP (S ++ [Ob.lst []]) 19) xs).map PySem.PyData.list
      | _ => none) = _
    rw [g2]
    rfl
  show ((toP (S ++ [Ob.lst []]) 20 (.ref q)).bind fun p => (toP (S ++ [Ob.lst []]) 20 (.ref S.length)).bind fun q => if p.canLay0 = true ∧ q.canLay0 = true then some (PySem.PyData.eqv p q) else none) = _
  rw [e1, e2]
  rfl
end Pl
end
section
set_option Elab.async false
set_option linter.all false
set_option maxRecDepth 100000
set_option maxHeartbeats 4000000
set_option autoImplicit false
set_option exponentiation.threshold 10000
/-! W15: DATA written. -/
namespace Pl
open Ev Gr
theorem goodL_len {z : N4} (h : z.good) : z.L.length ≤ 1610 := nuL_len h.1.2.1 h.1.2.2 h.2.2.1 h.2.2.2
theorem is_num_ok {n : Nat} {z : N4} {S : Sto} (h : z.good) : fn (n + 3) 2 [z.D] S = .ok (.bl true) S := is_num_nu ⟨h.1.1.1, h.1.1.2⟩ ⟨h.2.1.1, h.2.1.2⟩
theorem is_place_ok {n : Nat} {z : N4} {S : Sto} (h : z.good) (hd : inDisc z = true) : fn (n + 4) 14 [z.D] S = .ok (.bl true) S := by
  rw [fn_s (fd := Tx.t14.fd) rfl]
  have e1 : ∀ S, fnN Tx.F Ex Tx.cs (n + 3) 2 [z.D] S = _ := fun S => is_num_ok (n := n) h
  have e2 : ∀ S, fnN Tx.F Ex Tx.cs (n + 3) 13 [z.D] S = _ := fun S => num_within (n := n) h
  simp [runF, Tx.t14, Tx.b14, e1, e2, hd]
def okP (p : PR) : Prop := p.1.good ∧ inDisc p.1 = true ∧ 1 ≤ p.2.length ∧ p.2.length ≤ 3 ∧ ∀ v ∈ p.2, v.good
theorem blsOf_true : ∀ (l : List D), (∀ d ∈ l, d = .bl true) → blsOf l = some (List.replicate l.length true)
  | [], _ => rfl
  | d :: r, h => by
    have e := h d (by simp)
    subst e
    show (blsOf r).map (true :: ·) = _
    rw [blsOf_true r fun d hd => h d (List.mem_cons_of_mem _ hd)]
    rfl
theorem is_pair_ok {n : Nat} {p : PR} {S : Sto} (h : okP p) : Rv (fn (n + 5) 22 [pD p] S) S (.bl true) := by
  rw [fn_s (fd := Tx.t22.fd) rfl]
  obtain ⟨g, hd, l1, l3, gv⟩ := h
  have e1 : ∀ S, fnN Tx.F Ex Tx.cs (n + 4) 14 [p.1.D] S = _ := fun S => is_place_ok (n := n) g hd
  have lc := ev_lcp (G := GG (n + 4)) (en := [some (pD p), none]) (S := S) (own := [("each", 1)]) (elt := .call 2 (.cons (.var 1) .nil)) (p := .nm 1) (it := .seq (.ix (.var 0) (.cst (.int 1)))) (s := ⟨p.2.map N4.D, []⟩) (S1 := S) (g := fun _ => .bl true)
    (by simp [srcSeq, pD]) (by simp) (by simp; omega) (by
      intro d hd
      obtain ⟨z, hz, rfl⟩ := List.mem_map.mp hd
      have e2 : ∀ S, fnN Tx.F Ex Tx.cs (n + 4) 2 [z.D] S = _ := fun S => is_num_ok (n := n + 1) (gv z hz)
      exact ⟨[some (pD p), some z.D], rfl, by simp [e2]⟩)
  simp only [] at lc
  obtain ⟨S1, hS1⟩ : ∃ S1 : Sto, S1 = S ++ [.lst ((p.2.map N4.D).map fun _ => .bl true)] := ⟨_, rfl⟩
  rw [← hS1] at lc
  have g1 : S1[S.length]? = some (.lst ((p.2.map N4.D).map fun _ => .bl true)) := by rw [hS1]; exact last_get ..
  have al : bi .all [.ref S.length] S1 = .ok (.bl true) S1 := by
    have := blsOf_true ((p.2.map N4.D).map fun _ => D.bl true) (fun d hd => by obtain ⟨_, _, rfl⟩ := List.mem_map.mp hd; rfl)
    unfold bi
    simp only [lstOf_ref g1, Option.bind_some, this]
    simp
  have c1 : (1 : Int) ≤ (p.2.length : Nat) := by omega
  have c2 : ((p.2.length : Nat) : Int) ≤ 3 := by omega
  have ch : ev (GG (n + 4)) (.chain .le .le (.cst (.int 1)) (.bi .len (.cons (.ix (.var 0) (.cst (.int 1))) .nil)) (.glb 5)) [some (pD p), none] S = .ok (.bl true) S := by
    rw [ev]
    simp [pD, c1, c2]
  refine ⟨S1, ?_, by rw [hS1]; exact pre_snoc ..⟩
  have it : bi (.isin .tuple) [pD p] = fun S => .ok (.bl true) S := rfl
  have it2 : bi (.isin .tuple) [.tup (p.2.map N4.D)] = fun S => .ok (.bl true) S := rfl
  have ln : bi .len [pD p] = fun S => .ok (.int 2) S := rfl
  have ix0 : ∀ S, ixD S (pD p) (.int 0) = some p.1.D := fun S => by simp [pD]
  have ix1 : ∀ S, ixD S (pD p) (.int 1) = some (.tup (p.2.map N4.D)) := fun S => by simp [pD]
  simp [runF, Tx.t22, Tx.b22, it, it2, ln, ix0, ix1, e1, ch, lc, al]
structure OkD (ps : List PR) : Prop where
  all : ∀ p ∈ ps, okP p
  nd : (ps.map fun p => p.1).Nodup
  cnt : cntV ps ≤ 6
  len : ps.length ≤ 6
theorem cntV_take (ps : List PR) (k : Nat) : cntV (ps.take k) ≤ cntV ps := by
  induction ps generalizing k with
  | nil => simp
  | cons p r ih =>
    cases k with
    | zero => simp [cntV]
    | succ k => have := ih k; simp [cntV] at this ⊢; omega
theorem wrong_data {n : Nat} {ps : List PR} {S : Sto} (h : OkD ps) : Rl (fn (n + 6) 24 [.tup (ps.map pD)] S) S [] := by
  rw [fn_s (fd := Tx.t24.fd) rfl]
  have hl := h.len
  have key : ∀ (r pre : List PR) (o1 o2 : Option D) (S : Sto), ps = pre ++ r → ∃ p1 p2 S', forL ⟨enumD (ps.map pD), []⟩ (lpF (GG (n + 5)) Ex (.tup [.nm 1, .nm 2]) (.cons (.ite (.or (.not (.call 22 (.cons (.var 2) .nil))) (.or (.cmp .isin (.ix (.var 2) (.cst (.int 0))) (.call 25 (.cons (.sl (.var 0) .none (.some (.var 1))) .nil))) (.cmp .gt (.call 23 (.cons (.sl (.var 0) .none (.some (.bin .add (.var 1) (.cst (.int 1))))) .nil)) (.glb 6)))) (.cons (.ret (.lst (.cons (.var 1) .nil))) .nil) .nil) .nil)) (enumA pre.length (r.map pD)) [some (.tup (ps.map pD)), o1, o2] S = .nx [some (.tup (ps.map pD)), p1, p2] S' ∧ S <+: S' := by
    intro r
    induction r with
    | nil => intro pre o1 o2 S _; exact ⟨o1, o2, S, forL_nil (ok_nil _ _), List.prefix_rfl⟩
    | cons p r ih =>
      intro pre o1 o2 S hp
      obtain ⟨S1, e1, p1⟩ := is_pair_ok (n := n) (S := S) (h.all p (by rw [hp]; simp))
      have e1' : fnN Tx.F Ex Tx.cs (n + 5) 22 [pD p] S = _ := e1
      have tk : cut (ps.map pD) none (some (pre.length : Nat)) = pre.map pD := by rw [cut_to, hp]; simp
      have tk2 : cut (ps.map pD) none (some ((pre.length : Nat) + 1)) = (ps.take (pre.length + 1)).map pD := by
        rw [show ((pre.length : Nat) : Int) + 1 = ((pre.length + 1 : Nat) : Int) by omega, cut_to, List.map_take]
      have pl : pre.length ≤ ps.length := by rw [hp]; simp
      have po := places_of (n := n + 4) (ps := pre) (S := S1) (by omega)
      have po' : fnN Tx.F Ex Tx.cs (n + 5) 25 [.tup (pre.map pD)] S1 = _ := po
      have mm : (pre.map fun p => p.1).map N4.D = pre.map fun p => p.1.D := by rw [List.map_map]; rfl
      have ni := num_in (z := p.1) (last_get S1 (.lst ((pre.map fun p => p.1).map N4.D)))
      have nm : p.1 ∉ pre.map (fun p => p.1) := by
        have := h.nd
        rw [hp, List.map_append, List.map_cons] at this
        have := (List.nodup_append.mp this).2.2
        intro hm
        exact this _ hm _ (by simp) rfl
      rw [decide_eq_false nm, mm] at ni
      obtain ⟨S2, e2, p2⟩ := count_values (n := n + 4) (ps := ps.take (pre.length + 1)) (S := S1 ++ [.lst (pre.map fun p => p.1.D)]) (by simp; omega)
      have e2' : fnN Tx.F Ex Tx.cs (n + 5) 23 [.tup ((ps.take (pre.length + 1)).map pD)] (S1 ++ [.lst (pre.map fun p => p.1.D)]) = _ := e2
      have c6 : ¬ (6 : Int) < (cntV (ps.take (pre.length + 1)) : Nat) := by have := cntV_take ps (pre.length + 1); have := h.cnt; omega
      have ix0 : ∀ S, ixD S (pD p) (.int 0) = some p.1.D := fun S => by simp [pD]
      obtain ⟨q1, q2, S', e3, p3⟩ := ih (pre ++ [p]) (some (.int (pre.length : Nat))) (some (pD p)) S2 (by rw [hp]; simp)
      rw [List.length_append, List.length_singleton] at e3
      refine ⟨q1, q2, S', ?_, p1.trans ((pre_snoc ..).trans (p2.trans p3))⟩
      rw [List.map_cons, enumA_cons]
      simp only [forL_cons (ok_nil _ _)]
      rw [← e3]
      simp only [List.map_take] at e2' tk2
      simp [e1', tk, po', ni, tk2, e2', c6, ix0]
  obtain ⟨q1, q2, S', e, p⟩ := key ps [] none none S rfl
  have ef := exec_for (GG (n + 5)) [some (.tup (ps.map pD)), none, none] S Ex (.tup [.nm 1, .nm 2]) (.enum (.var 0)) (.cons (.ite (.or (.not (.call 22 (.cons (.var 2) .nil))) (.or (.cmp .isin (.ix (.var 2) (.cst (.int 0))) (.call 25 (.cons (.sl (.var 0) .none (.some (.var 1))) .nil))) (.cmp .gt (.call 23 (.cons (.sl (.var 0) .none (.some (.bin .add (.var 1) (.cst (.int 1))))) .nil)) (.glb 6)))) (.cons (.ret (.lst (.cons (.var 1) .nil))) .nil) .nil) .nil)
  have ev0 : evi (GG (n + 5)) (.enum (.var 0)) [some (.tup (ps.map pD)), none, none] S = .ok ⟨enumD (ps.map pD), []⟩ S := by simp [srcEnum]
  rw [ev0, R.then_ok] at ef
  have ef2 := ef.trans e
  have l6 : ¬ (6 : Int) < (ps.length : Nat) := by omega
  have it : bi (.isin .tuple) [.tup (ps.map pD)] = fun S => .ok (.bl true) S := rfl
  refine Rl_new (S1 := S') ?_ p
  simp [runF, Tx.t24, Tx.b24, it, l6, ef2]
theorem check_data {n : Nat} {ps : List PR} {S : Sto} (h : OkD ps) : Rv (fn (n + 7) 26 [.tup (ps.map pD)] S) S .non := by
  rw [fn_s (fd := Tx.t26.fd) rfl]
  obtain ⟨k, S', e, p, g⟩ := wrong_data (n := n) (S := S) h
  have e' : fnN Tx.F Ex Tx.cs (n + 6) 24 [.tup (ps.map pD)] S = _ := e
  have ef := exec_for (GG (n + 6)) [some (.tup (ps.map pD)), none] S Ex (.nm 1) (.seq (.call 24 (.cons (.var 0) .nil))) (.cons (.rai 4 (.cons (.var 1) .nil)) .nil)
  have ev0 : evi (GG (n + 6)) (.seq (.call 24 (.cons (.var 0) .nil))) [some (.tup (ps.map pD)), none] S = .ok ⟨[], [(k, [])]⟩ S' := by simp [e', srcSeq, lstOf, g]
  rw [ev0, R.then_ok, forL_nil (ok_one g)] at ef
  refine ⟨S', ?_, p⟩
  simp [runF, Tx.t26, Tx.b26, ef]
end Pl
end
section
set_option Elab.async false
set_option linter.all false
set_option maxRecDepth 100000
set_option maxHeartbeats 4000000
set_option autoImplicit false
set_option exponentiation.threshold 10000
/-! W16: DATA written, and that what is read is written again. -/
namespace Pl
open Ev Gr
def numsL (zs : List N4) : List Nat := TL.joinL [32] (zs.map N4.L)
theorem mt_join {S : Sto} {r : Nat} {sep : List Nat} {ys : List (List Nat)} (h : S[r]? = some (.lst (ys.map .str))) (hl : (ys.map List.length).sum + ys.length * sep.length ≤ 16777216) : mt .join (.str sep) [.ref r] S = .ok (.str (TL.joinL sep ys)) S := by
  have e : strsOf (ys.map .str) = some ys := by simpa using strs_map ys id
  simp only [Ev.mt, seqOf_ref h, Option.bind_some, e]
  rw [if_pos hl]
  rfl
theorem sum_len (ys : List (List Nat)) (b : Nat) (h : ∀ y ∈ ys, y.length ≤ b) : (ys.map List.length).sum ≤ ys.length * b := by
  induction ys with
  | nil => simp
  | cons y r ih =>
    have := ih fun y hy => h y (List.mem_cons_of_mem _ hy)
    have := h y (by simp)
    rw [List.map_cons, List.sum_cons, List.length_cons, Nat.succ_mul]
    omega
theorem join_len (s : List Nat) : ∀ ys : List (List Nat), (TL.joinL s ys).length ≤ (ys.map List.length).sum + ys.length * s.length
  | [] => by simp [TL.joinL]
  | [y] => by simp [TL.joinL]
  | y :: z :: r => by
    have := join_len s (z :: r)
    show (y ++ (s ++ TL.joinL s (z :: r))).length ≤ _
    rw [List.length_append, List.length_append, List.map_cons, List.sum_cons, List.length_cons (a := y), Nat.succ_mul]
    omega
theorem numbers_written {n : Nat} {zs : List N4} {S : Sto} (hg : ∀ z ∈ zs, z.good) (hl : zs.length ≤ 10) : Rv (fn (n + 3) 31 [.tup (zs.map N4.D)] S) S (.str (numsL zs)) := by
  rw [fn_s (fd := Tx.t31.fd) rfl]
  classical
  have lc := ev_lcp (G := GG (n + 2)) (en := [some (.tup (zs.map N4.D)), none]) (S := S) (own := [("each", 1)]) (elt := .call 30 (.cons (.var 1) .nil)) (p := .nm 1) (it := .seq (.var 0)) (s := ⟨zs.map N4.D, []⟩) (S1 := S) (g := fun d => if h : ∃ z : N4, z.D = d then .str (Classical.choose h).L else .non)
    (by simp [srcSeq]) (by simp) (by simp; omega) (by
      intro d hd
      obtain ⟨z, hz, rfl⟩ := List.mem_map.mp hd
      have e2 : ∀ S, fnN Tx.F Ex Tx.cs (n + 2) 30 [z.D] S = _ := fun S => number_written (n := n) (hg z hz)
      have hx : ∃ y : N4, y.D = z.D := ⟨z, rfl⟩
      have hy : Classical.choose hx = z := N4.D_inj (Classical.choose_spec hx)
      exact ⟨[some (.tup (zs.map N4.D)), some z.D], rfl, by simp only [dif_pos hx, hy]; simp [e2]⟩)
  have eqn : (zs.map N4.D).map (fun d => if h : ∃ z : N4, z.D = d then D.str (Classical.choose h).L else .non) = (zs.map N4.L).map .str := by
    rw [List.map_map, List.map_map]
    apply List.map_congr_left
    intro z _
    have hx : ∃ y : N4, y.D = z.D := ⟨z, rfl⟩
    have hy : Classical.choose hx = z := N4.D_inj (Classical.choose_spec hx)
    show (if h : ∃ y : N4, y.D = z.D then D.str (Classical.choose h).L else .non) = .str z.L
    rw [dif_pos hx, hy]
  simp only [] at lc
  rw [eqn] at lc
  have jn := mt_join (sep := [32]) (last_get S (.lst ((zs.map N4.L).map .str))) (by
    have := sum_len (zs.map N4.L) 1610 (fun y hy => by obtain ⟨z, hz, rfl⟩ := List.mem_map.mp hy; exact goodL_len (hg z hz))
    simp only [List.length_map, List.length_cons, List.length_nil] at this ⊢
    omega)
  refine ⟨_, ?_, pre_snoc S (.lst ((zs.map N4.L).map .str))⟩
  simp only [runF, Tx.t31, Tx.b31, List.length_cons, List.length_nil, Nat.zero_add, if_true, execs_cons, execs_nil, exec_ret, ev_mt, ev_cst, R.bind_ok, ty_join, evs_cons, evs_nil, List.map_cons, List.map_nil, List.cons_append, List.nil_append, Nat.reduceSub, List.replicate_succ, List.replicate_zero, lc, jn, R.then_ok, O.seq_rt, toR_rt, kBin_eq, kAnd_eq, kOr_eq, kIte_eq, kCmp_eq, kCmp2_eq, kTup_eq, kLst_eq, kIx_eq, kIx2_eq, kSl_eq, kSl2_eq, kMt_eq, kCons_eq, kCons2_eq, kSeq_eq, kEnum_eq, kSet_eq, kIf_eq, kExp_eq]
  rfl
def pairL (p : PR) : List Nat := p.1.L ++ ([58, 32] ++ numsL p.2)
theorem numsL_len {zs : List N4} (hg : ∀ z ∈ zs, z.good) : (numsL zs).length ≤ zs.length * 1611 := by
  have := sum_len (zs.map N4.L) 1610 (fun y hy => by obtain ⟨z, hz, rfl⟩ := List.mem_map.mp hy; exact goodL_len (hg z hz))
  have := join_len [32] (zs.map N4.L)
  simp only [List.length_map, List.length_cons, List.length_nil] at *
  unfold numsL
  omega
theorem pairL_len {p : PR} (h : okP p) : (pairL p).length ≤ 10000 := by
  have := goodL_len h.1
  have := numsL_len h.2.2.2.2
  have := h.2.2.2.1
  unfold pairL
  simp
  omega
theorem pair_written {n : Nat} {p : PR} {S : Sto} (h : okP p) : Rv (fn (n + 4) 34 [pD p] S) S (.str (pairL p)) := by
  rw [fn_s (fd := Tx.t34.fd) rfl]
  have e1 : fnN Tx.F Ex Tx.cs (n + 3) 30 [p.1.D] S = _ := number_written (n := n + 1) h.1
  have l3 := h.2.2.2.1
  obtain ⟨S', e, pp⟩ := numbers_written (n := n) (S := S) h.2.2.2.2 (by omega)
  have e' : fnN Tx.F Ex Tx.cs (n + 3) 31 [.tup (p.2.map N4.D)] S = _ := e
  have ix0 : ∀ S, ixD S (pD p) (.int 0) = some p.1.D := fun S => by simp [pD]
  have ix1 : ∀ S, ixD S (pD p) (.int 1) = some (.tup (p.2.map N4.D)) := fun S => by simp [pD]
  have g1 := goodL_len h.1
  have g2 := numsL_len h.2.2.2.2
  have c1 : p.1.L.length + 2 ≤ 16777216 := by omega
  have c2 : p.1.L.length + 2 + (numsL p.2).length ≤ 16777216 := by omega
  have c3 : p.1.L.length + ((numsL p.2).length + 1 + 1) ≤ 16777216 := by omega
  refine ⟨S', ?_, pp⟩
  simp [runF, Tx.t34, Tx.b34, ix0, e1, cat_ok, c1, ix1, e', c2, pairL]
def dataL (ps : List PR) : List Nat := (ps.map fun p => pairL p ++ [10]).flatten
theorem join_nil (ys : List (List Nat)) : TL.joinL [] ys = ys.flatten := by
  induction ys with
  | nil => rfl
  | cons y r ih =>
    cases r with
    | nil => simp [TL.joinL]
    | cons z r => show y ++ ([] ++ TL.joinL [] (z :: r)) = _; rw [ih]; rfl
theorem numsD_inj : ∀ vs us : List N4, vs.map N4.D = us.map N4.D → vs = us
  | [], [], _ => rfl
  | [], _ :: _, h => by simp at h
  | _ :: _, [], h => by simp at h
  | a :: b, c :: d, h => by
    rw [List.map_cons, List.map_cons] at h
    injection h with q1 q2
    rw [N4.D_inj q1, numsD_inj b d q2]
theorem pD_inj {p q : PR} (h : pD p = pD q) : p = q := by
  obtain ⟨z, vs⟩ := p
  obtain ⟨y, us⟩ := q
  have h : D.tup [z.D, .tup (vs.map N4.D)] = D.tup [y.D, .tup (us.map N4.D)] := h
  injection h with h
  injection h with h1 h2
  injection h2 with h2 _
  injection h2 with h2
  have e1 := N4.D_inj h1
  have e2 : vs = us := numsD_inj vs us h2
  rw [e1, e2]
theorem data_written {n : Nat} {ps : List PR} {S : Sto} (h : OkD ps) : Rv (fn (n + 5) 35 [.tup (ps.map pD)] S) S (.str (dataL ps)) := by
  rw [fn_s (fd := Tx.t35.fd) rfl]
  have hl := h.len
  classical
  obtain ⟨S1, lc, hp⟩ := ev_lcm (G := GG (n + 4)) (en := [some (.tup (ps.map pD)), none]) (S := S) (own := [("pair", 1)]) (elt := .bin .add (.call 34 (.cons (.var 1) .nil)) (.cst (.str [10]))) (p := .nm 1) (it := .seq (.var 0)) (s := ⟨ps.map pD, []⟩) (S1 := S) (I := fun S' => S <+: S') (g := fun d => if h : ∃ p : PR, pD p = d then .str (pairL (Classical.choose h) ++ [10]) else .non)
    (by simp [srcSeq]) List.prefix_rfl (fun _ _ => ok_nil _ _) (by simp; omega) (by
      intro d hd S' hS
      obtain ⟨p, hm, rfl⟩ := List.mem_map.mp hd
      obtain ⟨S2, e2, p2⟩ := pair_written (n := n) (S := S') (h.all p hm)
      have e2' : fnN Tx.F Ex Tx.cs (n + 4) 34 [pD p] S' = _ := e2
      have hx : ∃ y : PR, pD y = pD p := ⟨p, rfl⟩
      have hy : Classical.choose hx = p := pD_inj (Classical.choose_spec hx)
      have c1 : (pairL p).length + 1 ≤ 16777216 := by have := pairL_len (h.all p hm); omega
      exact ⟨[some (.tup (ps.map pD)), some (pD p)], S2, rfl, by simp only [dif_pos hx, hy]; simp [e2', cat_ok, c1], hS.trans p2⟩)
  have eqn : (ps.map pD).map (fun d => if h : ∃ p : PR, pD p = d then D.str (pairL (Classical.choose h) ++ [10]) else .non) = (ps.map fun p => pairL p ++ [10]).map .str := by
    rw [List.map_map, List.map_map]
    apply List.map_congr_left
    intro p _
    have hx : ∃ y : PR, pD y = pD p := ⟨p, rfl⟩
    have hy : Classical.choose hx = p := pD_inj (Classical.choose_spec hx)
    show (if h : ∃ y : PR, pD y = pD p then D.str (pairL (Classical.choose h) ++ [10]) else .non) = .str (pairL p ++ [10])
    rw [dif_pos hx, hy]
  simp only [] at lc
  rw [eqn] at lc
  have jn := mt_join (sep := []) (last_get S1 (.lst ((ps.map fun p => pairL p ++ [10]).map .str))) (by
    have := sum_len (ps.map fun p => pairL p ++ [10]) 10001 (fun y hy => by obtain ⟨p, hp, rfl⟩ := List.mem_map.mp hy; have := pairL_len (h.all p hp); simp; omega)
    simp only [List.length_map, List.length_nil] at this ⊢
    omega)
  rw [join_nil] at jn
  refine ⟨_, ?_, hp.trans (pre_snoc S1 (.lst ((ps.map fun p => pairL p ++ [10]).map .str)))⟩
  simp only [runF, Tx.t35, Tx.b35, List.length_cons, List.length_nil, Nat.zero_add, if_true, execs_cons, execs_nil, exec_ret, ev_mt, ev_cst, R.bind_ok, ty_join, evs_cons, evs_nil, List.map_cons, List.map_nil, List.cons_append, List.nil_append, Nat.reduceSub, List.replicate_succ, List.replicate_zero, lc, jn, R.then_ok, O.seq_rt, toR_rt, kBin_eq, kAnd_eq, kOr_eq, kIte_eq, kCmp_eq, kCmp2_eq, kTup_eq, kLst_eq, kIx_eq, kIx2_eq, kSl_eq, kSl2_eq, kMt_eq, kCons_eq, kCons2_eq, kSeq_eq, kEnum_eq, kSet_eq, kIf_eq, kExp_eq]
  rfl
theorem data_text {n : Nat} {ps : List PR} {S : Sto} (h : OkD ps) : Rv (fn (n + 8) 49 [.tup (ps.map pD)] S) S (.str (dataL ps)) := by
  rw [fn_s (fd := Tx.t49.fd) rfl]
  obtain ⟨S1, e1, p1⟩ := check_data (n := n) (S := S) h
  have e1' : fnN Tx.F Ex Tx.cs (n + 7) 26 [.tup (ps.map pD)] S = _ := e1
  obtain ⟨S2, e2, p2⟩ := data_written (n := n + 2) (S := S1) h
  have e2' : fnN Tx.F Ex Tx.cs (n + 7) 35 [.tup (ps.map pD)] S1 = _ := e2
  exact ⟨S2, by simp [runF, Tx.t49, Tx.b49, e1', e2'], p1.trans p2⟩
/-! what is read is written again -/
theorem rdVals_words {c : Nat} : ∀ {r : List (List Nat)} {i : Nat} {zs : List N4}, rdVals c i r = .inr zs → r = zs.map N4.L ∧ ∀ z ∈ zs, z.good
  | [], i, zs, h => by cases h; exact ⟨rfl, by simp⟩
  | w :: r, i, zs, h => by
    rw [rdVals] at h
    cases hz : rdN w with
    | none => rw [hz] at h; cases h
    | some z =>
      rw [hz] at h
      simp only [] at h
      split at h
      · cases h
      · cases hr : rdVals c (i + 1) r with
        | inl k => rw [hr] at h; cases h
        | inr ys =>
          rw [hr] at h
          cases h
          obtain ⟨e, g⟩ := rdVals_words hr
          obtain ⟨e1, g1⟩ := rdN_some.mp hz
          refine ⟨by rw [e, e1]; rfl, ?_⟩
          intro y hy
          rcases List.mem_cons.mp hy with q | q
          · rw [q]; exact g1
          · exact g y q
theorem lineS_ok {ps : List PR} {ws : List (List Nat)} {p : PR} (h : lineS ps ws = .inr p) (hc : cntV ps ≤ 6) : okP p ∧ p.1 ∉ ps.map (fun p => p.1) ∧ TL.joinL [32] ws = pairL p := by
  have cn := lineS_cnt h hc
  cases ws with
  | nil => cases h
  | cons w0 r =>
    cases hz : rdPl w0 with
    | none => simp [lineS, hz] at h
    | some z =>
      simp only [lineS, hz] at h
      split at h
      · cases h
      · rename_i hn
        cases hr : rdVals (cntV ps) 0 r with
        | inl k => rw [hr] at h; cases h
        | inr ys =>
          rw [hr] at h
          simp only [] at h
          split at h
          · cases h
          · rename_i hne
            cases h
            obtain ⟨e, g⟩ := rdVals_words hr
            unfold rdPl at hz
            split at hz
            · rename_i hl
              cases hq : rdN (w0.take (w0.length - 1)) with
              | none => rw [hq] at hz; simp at hz
              | some y =>
                rw [hq] at hz
                have hy : inDisc y = true ∧ y = z := by
                  by_cases hd : inDisc y = true <;> simp [Option.filter, hd] at hz
                  exact ⟨hd, hz⟩
                obtain ⟨hd, rfl⟩ := hy
                obtain ⟨e1, g1⟩ := rdN_some.mp hq
                refine ⟨⟨g1, hd, ?_, cn.2.1, g⟩, fun hm => hn (Or.inl hm), ?_⟩
                · have := List.length_pos_iff.mpr cn.2.2
                  exact this
                · have hw : w0 = y.L ++ [58] := by
                    obtain ⟨u, hu⟩ := List.getLast?_eq_some_iff.mp hl
                    rw [hu] at e1 ⊢
                    simp at e1
                    rw [e1]
                  subst e
                  cases ys with
                  | nil => exact absurd rfl hne
                  | cons v vs =>
                    rw [hw]
                    show (y.L ++ [58]) ++ ([32] ++ TL.joinL [32] ((v :: vs).map N4.L)) = _
                    unfold pairL numsL
                    simp
            · cases hz
theorem OkD.nil : OkD [] := ⟨by simp, by simp, by decide, by simp⟩
theorem OkD.snoc {ps : List PR} {p : PR} (h : OkD ps) (hp : okP p) (hn : p.1 ∉ ps.map (fun p => p.1)) (hc : cntV ps + p.2.length ≤ 6) (h6 : ps.length ≠ 6) : OkD (ps ++ [p]) := by
  refine ⟨?_, ?_, by rw [cntV_app]; exact hc, by have := h.len; simp; omega⟩
  · intro q hq
    rcases List.mem_append.mp hq with e | e
    · exact h.all q e
    · rw [List.mem_singleton.mp e]; exact hp
  · rw [List.map_append, List.nodup_append]
    refine ⟨h.nd, by simp, ?_⟩
    intro a ha b hb
    rw [List.map_cons, List.map_nil, List.mem_singleton] at hb
    rintro rfl
    exact hn (hb ▸ ha)
theorem textS_ok : ∀ {r : List (List Nat)} {i : Nat} {ps qs : List PR}, r ≠ [] → OkD ps → textS i ps r = .inr qs → OkD qs ∧ dataL qs = dataL ps ++ TL.joinL [10] r
  | [], _, _, _, h, _, _ => absurd rfl h
  | l :: r, i, ps, qs, _, ho, h => by
    rw [textS] at h
    split at h
    · rename_i hh
      cases h
      rw [hh.1, hh.2]
      exact ⟨ho, by simp [TL.joinL]⟩
    · cases hq : lineS ps (spl 32 l) with
      | inl k => rw [hq] at h; cases h
      | inr p =>
        rw [hq] at h
        simp only [] at h
        split at h
        · cases h
        · rename_i hr
          obtain ⟨o1, o2, o3⟩ := lineS_ok hq ho.cnt
          have cn := lineS_cnt hq ho.cnt
          have six := lineS_six hq
          obtain ⟨a1, a2⟩ := textS_ok hr (ho.snoc o1 o2 cn.1 six) h
          refine ⟨a1, ?_⟩
          rw [a2]
          rw [(spl_back 32 l).2.1] at o3
          cases r with
          | nil => exact absurd rfl hr
          | cons m t =>
            show _ = dataL ps ++ (l ++ ([10] ++ TL.joinL [10] (m :: t)))
            rw [o3]
            simp [dataL]
theorem text_back {w : List Nat} {qs : List PR} (h : textS 0 [] (spl 10 w) = .inr qs) : OkD qs ∧ dataL qs = w := by
  obtain ⟨a, b⟩ := textS_ok (spl_back 10 w).1 OkD.nil h
  refine ⟨a, ?_⟩
  rw [b, (spl_back 10 w).2.1]
  rfl
end Pl
end
section
set_option Elab.async false
set_option linter.all false
set_option maxRecDepth 100000
set_option maxHeartbeats 4000000
set_option autoImplicit false
set_option exponentiation.threshold 10000
/-! W17: drawn words. -/
namespace Pl
open Ev Gr
theorem WellAt.mono {S : Sto} {k m m' : Nat} (h : WellAt S k m) (hm : m ≤ m') : WellAt S k m' := by
  obtain ⟨a, b, c, e, h1, h2, h3, h4, h5⟩ := h
  exact ⟨a, b, c, e, h1, h2, h3, h4, by omega⟩
theorem WellAt.pre {S S' : Sto} {k m : Nat} (h : WellAt S k m) (hp : S <+: S') : WellAt S' k m := by
  obtain ⟨a, b, c, e, hh⟩ := h
  exact ⟨a, b, c, pre_get hp e, hh⟩
theorem WellAt.fr {P : Nat → Prop} {S S' : Sto} {k m : Nat} (h : WellAt S k m) (hf : Fr P S S') (hk : ¬ P k) : WellAt S' k m := by
  obtain ⟨a, b, c, e, hh⟩ := h
  exact ⟨a, b, c, hf _ _ hk e, hh⟩
theorem WellAt.lt {S : Sto} {k m : Nat} (h : WellAt S k m) : k < S.length := by
  obtain ⟨a, b, c, e, hh⟩ := h
  exact get_lt e
theorem drawn {n k m : Nat} {many : Int} {S : Sto} (w : WellAt S k m) (hm : m < 1000000) (h0 : 0 < many) (h1 : many < 1073741824) :
    ∃ (d : Nat) (S' : Sto), fn (n + 1) 56 [.ref k, .int many] S = .ok (.int d) S' ∧ (d : Int) < many ∧ WellAt S' k (m + 1) ∧ Fr (· = k) S S' ∧ S'.length = S.length := by
  obtain ⟨d, o, e, a, b, c⟩ := draw (n := n) w hm h0 h1
  obtain ⟨d', rfl⟩ := Int.eq_ofNat_of_zero_le a
  exact ⟨d', _, e, b, c, Fr.set rfl, by simp⟩
theorem one_of {n k m r : Nat} {xs : List D} {S : Sto} (w : WellAt S k m) (hm : m < 1000000) (hr : S[r]? = some (.lst xs)) (hne : r ≠ k) (hx : xs ≠ []) (hl : xs.length < 1000000) :
    ∃ (d : D) (S' : Sto), fn (n + 2) 57 [.ref k, .ref r] S = .ok d S' ∧ d ∈ xs ∧ WellAt S' k (m + 1) ∧ Fr (· = k) S S' ∧ S'.length = S.length := by
  rw [fn_s (fd := Tx.t57.fd) rfl]
  have hp := List.length_pos_iff.mpr hx
  obtain ⟨d, S', e, a, b, c, l⟩ := drawn (n := n) (many := (xs.length : Nat)) w hm (by omega) (by omega)
  have e' : fnN Tx.F Ex Tx.cs (n + 1) 56 [.ref k, .int (xs.length : Nat)] S = _ := e
  have hd : d < xs.length := by omega
  have ix := ixD_ref (c _ _ hne hr) (d : Nat)
  rw [atI_nat, List.getElem?_eq_getElem hd] at ix
  exact ⟨xs[d], S', by simp [runF, Tx.t57, Tx.b57, len_ref hr, e', ix], List.getElem_mem _, b, c, l⟩
theorem part_good {n : Nat} {p q : Int} {S : Sto} (hq : 0 < q) (hp : p.natAbs < 1000000) (hs : q < 1000000) : ∃ a b, fn (n + 2) 64 [.int p, .int q] S = .ok (Gr.fr a b) S ∧ good a b := by
  obtain ⟨q, rfl⟩ := Int.eq_ofNat_of_zero_le (Int.le_of_lt hq)
  have hq : 0 < q := by omega
  have hs : q < 1000000 := by omega
  have b1 : big p.natAbs := Nat.lt_trans hp (by decide)
  have b2 : big q := Nat.lt_trans hs (by decide)
  exact ⟨_, _, part (n := n) hq (Nat.lt_trans hs (by decide)), good_red (by omega) b1 b2⟩
def Wd (r : R D) (S : Sto) (k m : Nat) : Prop := ∃ (z : N4) (S' : Sto), r = .ok (.str z.L) S' ∧ z.good ∧ WellAt S' k m ∧ Fr (· = k) S S' ∧ S'.length = S.length
end Pl
end
section
set_option Elab.async false
set_option linter.all false
set_option maxRecDepth 100000
set_option maxHeartbeats 4000000
set_option autoImplicit false
set_option exponentiation.threshold 10000
/-! V1: the package's numbers. -/
namespace Pl
open Ev Gr
theorem log_of {i : Int} {B : Nat} (h : i.natAbs < 2 ^ B) : i.natAbs.log2 ≤ B := by
  by_cases z : i.natAbs = 0
  · rw [z]; exact Nat.zero_le _
  · exact Nat.le_of_lt ((Nat.log2_lt z).mpr h)
theorem mulB {i j : Int} {B C : Nat} (S : Sto) (h : i.natAbs < 2 ^ B) (g : j.natAbs < 2 ^ C) (hs : B + C ≤ 90000000) : binop .mul (.int i) (.int j) S = .ok (.int (i * j)) S :=
  bop_mul S (by have := log_of h; have := log_of g; omega)
theorem fracR {n : Nat} {p : Int} {m : Nat} {S : Sto} (hm : m ≠ 0) : fn (n + 1) 3 [.int p, .int (m : Nat)] S = .ok (frQ (mkRat p m)) S := by
  rw [fn_s (fd := Tx.t3.fd) rfl]
  have hg : 0 < Nat.gcd p.natAbs m := Nat.gcd_pos_of_pos_right _ (by omega)
  have f1 : ∀ (x : Int) S, binop .fdiv (.int x) (.int ((Nat.gcd p.natAbs m : Nat) : Int)) S = .ok (.int (x / ((Nat.gcd p.natAbs m : Nat) : Int))) S := fun x S => by
    rw [bop_fdiv S (by omega), Int.fdiv_eq_ediv_of_nonneg _ (by omega)]
  have f2 : ∀ S, bi .gcd [.int p, .int (m : Nat)] S = .ok (.int (Nat.gcd p.natAbs m : Nat)) S := fun S => rfl
  have h0 : (0 : Int) < (m : Nat) := by omega
  have h0' : 0 < m := by omega
  rw [← frQ_mk hm]
  simp [runF, Tx.t3, Tx.b3, h0, h0', f1, f2, Gr.fr]
theorem den_ib {q : Rat} {B : Nat} (h : rb q B) : ((q.den : Nat) : Int).natAbs < 2 ^ B := ib_nat h.2
theorem frac_less {n : Nat} {x y : Rat} {B C : Nat} {S : Sto} (h : rb x B) (g : rb y C) (hs : B + C ≤ 80000000) : fn (n + 2) 4 [frQ x, frQ y] S = .ok (frQ (x - y)) S := by
  rw [fn_s (fd := Tx.t4.fd) rfl]
  have m1 : ∀ S, binop .mul (.int x.num) (.int y.den) S = _ := fun S => mulB S h.1 (den_ib g) (by omega)
  have m2 : ∀ S, binop .mul (.int y.num) (.int x.den) S = _ := fun S => mulB S g.1 (den_ib h) (by omega)
  have m3 : ∀ S, binop .mul (.int x.den) (.int y.den) S = _ := fun S => mulB S (den_ib h) (den_ib g) (by omega)
  have f : ∀ S, fnN Tx.F Ex Tx.cs (n + 1) 3 [.int (x.num * y.den - y.num * x.den), .int ((x.den : Int) * (y.den : Int))] S = .ok (frQ (x - y)) S := fun S => by
    have := fracR (n := n) (p := x.num * y.den - y.num * x.den) (m := x.den * y.den) (S := S) (Nat.mul_ne_zero x.den_nz y.den_nz)
    rw [Rat.sub_def']
    rw [Int.natCast_mul] at this
    exact this
  generalize frQ (x - y) = r at *
  simp [runF, Tx.t4, Tx.b4, frQ, Gr.fr, m1, m2, m3, f]
theorem frac_product {n : Nat} {x y : Rat} {B C : Nat} {S : Sto} (h : rb x B) (g : rb y C) (hs : B + C ≤ 80000000) : fn (n + 2) 5 [frQ x, frQ y] S = .ok (frQ (x * y)) S := by
  rw [fn_s (fd := Tx.t5.fd) rfl]
  have m1 : ∀ S, binop .mul (.int x.num) (.int y.num) S = _ := fun S => mulB S h.1 g.1 (by omega)
  have m3 : ∀ S, binop .mul (.int x.den) (.int y.den) S = _ := fun S => mulB S (den_ib h) (den_ib g) (by omega)
  have f : ∀ S, fnN Tx.F Ex Tx.cs (n + 1) 3 [.int (x.num * y.num), .int ((x.den : Int) * (y.den : Int))] S = .ok (frQ (x * y)) S := fun S => by
    have := fracR (n := n) (p := x.num * y.num) (m := x.den * y.den) (S := S) (Nat.mul_ne_zero x.den_nz y.den_nz)
    rw [Rat.mul_def']
    rw [Int.natCast_mul] at this
    exact this
  generalize frQ (x * y) = r at *
  simp [runF, Tx.t5, Tx.b5, frQ, Gr.fr, m1, m3, f]
theorem frac_over1 {n : Nat} {y : Rat} {C : Nat} {S : Sto} (g : rb y C) (hy : 0 < y.num) (hs : C ≤ 80000000) : fn (n + 2) 6 [frQ 1, frQ y] S = .ok (frQ y⁻¹) S := by
  rw [fn_s (fd := Tx.t6.fd) rfl]
  obtain ⟨k, hk⟩ := Int.eq_ofNat_of_zero_le (Int.le_of_lt hy)
  have o1 : (1 : Int).natAbs < 2 ^ 1 := by decide
  have m1 : ∀ S, binop .mul (.int 1) (.int y.den) S = .ok (.int (1 * (y.den : Int))) S := fun S => mulB S o1 (den_ib g) (by omega)
  have m3 : ∀ S, binop .mul (.int 1) (.int y.num) S = .ok (.int (1 * y.num)) S := fun S => mulB S o1 g.1 (by omega)
  have f : ∀ S, fnN Tx.F Ex Tx.cs (n + 1) 3 [.int (y.den : Int), .int y.num] S = .ok (frQ y⁻¹) S := fun S => by
    have := fracR (n := n) (p := (y.den : Int)) (m := k) (S := S) (by omega)
    rw [Rat.inv_def, hk, Rat.divInt_ofNat]
    exact this
  generalize frQ y⁻¹ = r at *
  simp [runF, Tx.t6, Tx.b6, frQ, Gr.fr, m1, m3, f]
theorem num_less {n : Nat} {x y : Kq} {B C : Nat} {S : Sto} (h : kb x B) (g : kb y C) (hs : B + C ≤ 80000000) : fn (n + 3) 7 [x.D, y.D] S = .ok (x.sub y).D S := by
  rw [fn_s (fd := Tx.t7.fd) rfl]
  have f1 : ∀ S, fnN Tx.F Ex Tx.cs (n + 2) 4 [frQ x.re, frQ y.re] S = _ := fun S => frac_less h.1 g.1 hs
  have f2 : ∀ S, fnN Tx.F Ex Tx.cs (n + 2) 4 [frQ x.im, frQ y.im] S = _ := fun S => frac_less h.2 g.2 hs
  simp [runF, Tx.t7, Tx.b7, Kq.D, f1, f2, Kq.sub]
theorem num_scaled {n : Nat} {x : Kq} {q : Rat} {B C : Nat} {S : Sto} (h : kb x B) (g : rb q C) (hs : B + C ≤ 80000000) : fn (n + 3) 9 [x.D, frQ q] S = .ok (.tup [frQ (x.re * q), frQ (x.im * q)]) S := by
  rw [fn_s (fd := Tx.t9.fd) rfl]
  have f1 : ∀ S, fnN Tx.F Ex Tx.cs (n + 2) 5 [frQ x.re, frQ q] S = _ := fun S => frac_product h.1 g hs
  have f2 : ∀ S, fnN Tx.F Ex Tx.cs (n + 2) 5 [frQ x.im, frQ q] S = _ := fun S => frac_product h.2 g hs
  simp [runF, Tx.t9, Tx.b9, Kq.D, f1, f2]
theorem num_mirrored {n : Nat} {x : Kq} {S : Sto} : fn (n + 1) 10 [x.D] S = .ok (Kq.mk x.re (-x.im)).D S := by
  rw [fn_s (fd := Tx.t10.fd) rfl]
  simp [runF, Tx.t10, Tx.b10, Kq.D, frQ, Gr.fr]
theorem m4B {a b c d : Int} {A B C E : Nat} (ha : a.natAbs < 2 ^ A) (hb : b.natAbs < 2 ^ B) (hc : c.natAbs < 2 ^ C) (hd : d.natAbs < 2 ^ E) (hs : A + B + C + E ≤ 90000000) :
    (∀ S, binop .mul (.int a) (.int b) S = .ok (.int (a * b)) S) ∧ (∀ S, binop .mul (.int (a * b)) (.int c) S = .ok (.int (a * b * c)) S) ∧ (∀ S, binop .mul (.int (a * b * c)) (.int d) S = .ok (.int (a * b * c * d)) S) :=
  ⟨fun S => mulB S ha hb (by omega), fun S => mulB S (ib_mul ha hb) hc (by omega), fun S => mulB S (ib_mul (ib_mul ha hb) hc) hd (by omega)⟩
theorem num_product {n : Nat} {x y : Kq} {B C : Nat} {S : Sto} (h : kb x B) (g : kb y C) (hs : 2 * B + 2 * C ≤ 80000000) : fn (n + 2) 8 [x.D, y.D] S = .ok (x.mul y).D S := by
  rw [fn_s (fd := Tx.t8.fd) rfl]
  obtain ⟨u1, u2, u3⟩ := m4B (den_ib h.1) (den_ib h.2) (den_ib g.1) (den_ib g.2) (by omega)
  obtain ⟨a1, a2, a3⟩ := m4B h.1.1 g.1.1 (den_ib h.2) (den_ib g.2) (by omega)
  obtain ⟨b1, b2, b3⟩ := m4B h.2.1 g.2.1 (den_ib h.1) (den_ib g.1) (by omega)
  obtain ⟨c1, c2, c3⟩ := m4B h.1.1 g.2.1 (den_ib h.2) (den_ib g.1) (by omega)
  obtain ⟨d1, d2, d3⟩ := m4B h.2.1 g.1.1 (den_ib h.1) (den_ib g.2) (by omega)
  have nz : x.re.den * x.im.den * y.re.den * y.im.den ≠ 0 := Nat.mul_ne_zero (Nat.mul_ne_zero (Nat.mul_ne_zero x.re.den_nz x.im.den_nz) y.re.den_nz) y.im.den_nz
  have f1 : ∀ S, fnN Tx.F Ex Tx.cs (n + 1) 3 [.int (x.re.num * y.re.num * x.im.den * y.im.den - x.im.num * y.im.num * x.re.den * y.re.den), .int ((x.re.den : Int) * x.im.den * y.re.den * y.im.den)] S = .ok (frQ (x.mul y).re) S := fun S => by
    have := fracR (n := n) (p := x.re.num * y.re.num * x.im.den * y.im.den - x.im.num * y.im.num * x.re.den * y.re.den) (S := S) nz
    rw [mul_re]
    simp only [Int.natCast_mul] at this
    exact this
  have f2 : ∀ S, fnN Tx.F Ex Tx.cs (n + 1) 3 [.int (x.re.num * y.im.num * x.im.den * y.re.den + x.im.num * y.re.num * x.re.den * y.im.den), .int ((x.re.den : Int) * x.im.den * y.re.den * y.im.den)] S = .ok (frQ (x.mul y).im) S := fun S => by
    have := fracR (n := n) (p := x.re.num * y.im.num * x.im.den * y.re.den + x.im.num * y.re.num * x.re.den * y.im.den) (S := S) nz
    rw [mul_im]
    simp only [Int.natCast_mul] at this
    exact this
  simp only [Kq.D] at *
  unfold frQ Gr.fr at f1 f2
  simp [runF, Tx.t8, Tx.b8, frQ, Gr.fr, u1, u2, u3, a1, a2, a3, b1, b2, b3, c1, c2, c3, d1, d2, d3, f1, f2]
theorem num_size' {n : Nat} {x : Kq} {B : Nat} {S : Sto} (h : kb x B) (hs : 4 * B ≤ 80000000) : fn (n + 2) 11 [x.D] S = .ok (frQ x.size) S := by
  rw [fn_s (fd := Tx.t11.fd) rfl]
  obtain ⟨a1, a2, a3⟩ := m4B h.1.1 h.1.1 (den_ib h.2) (den_ib h.2) (by omega)
  obtain ⟨b1, b2, b3⟩ := m4B h.2.1 h.2.1 (den_ib h.1) (den_ib h.1) (by omega)
  obtain ⟨c1, c2, c3⟩ := m4B (den_ib h.1) (den_ib h.1) (den_ib h.2) (den_ib h.2) (by omega)
  have nz : x.re.den * x.re.den * x.im.den * x.im.den ≠ 0 := Nat.mul_ne_zero (Nat.mul_ne_zero (Nat.mul_ne_zero x.re.den_nz x.re.den_nz) x.im.den_nz) x.im.den_nz
  have f1 : ∀ S, fnN Tx.F Ex Tx.cs (n + 1) 3 [.int (x.re.num * x.re.num * x.im.den * x.im.den + x.im.num * x.im.num * x.re.den * x.re.den), .int ((x.re.den : Int) * x.re.den * x.im.den * x.im.den)] S = .ok (frQ x.size) S := fun S => by
    have := fracR (n := n) (p := x.re.num * x.re.num * x.im.den * x.im.den + x.im.num * x.im.num * x.re.den * x.re.den) (S := S) nz
    rw [size_mk]
    simp only [Int.natCast_mul] at this
    exact this
  simp only [Kq.D] at *
  unfold frQ Gr.fr at f1
  simp [runF, Tx.t11, Tx.b11, frQ, Gr.fr, a1, a2, a3, b1, b2, b3, c1, c2, c3, f1]
theorem g_ONE : Tx.cs[3]? = some Kq.one.D := rfl
theorem g_NO : Tx.cs[2]? = some Kq.zero.D := rfl
theorem g_FO : Tx.cs[1]? = some (frQ 1) := rfl
theorem num_over1 {n : Nat} {y : Kq} {C : Nat} {S : Sto} (g : kb y C) (hy : y ≠ Kq.zero) (hs : C ≤ 9000000) : fn (n + 4) 12 [Kq.one.D, y.D] S = .ok y.inv.D S := by
  rw [fn_s (fd := Tx.t12.fd) rfl]
  have hp := size_pos hy
  have hn : 0 < y.size.num := by
    rw [Rat.lt_iff] at hp
    simpa using hp
  have b1 : kb Kq.one 1 := ⟨⟨by decide, by decide⟩, by decide, by decide⟩
  have gm : kb (Kq.mk y.re (-y.im)) C := ⟨g.1, rb_neg g.2⟩
  have bs := rb_size g
  have f1 : ∀ S, fnN Tx.F Ex Tx.cs (n + 3) 10 [y.D] S = _ := fun S => num_mirrored
  have f2 : ∀ S, fnN Tx.F Ex Tx.cs (n + 3) 8 [Kq.one.D, (Kq.mk y.re (-y.im)).D] S = .ok (Kq.mk y.re (-y.im)).D S := fun S => by
    have := num_product (n := n + 1) (S := S) b1 gm (by omega)
    rw [one_mul'] at this
    exact this
  have f3 : ∀ S, fnN Tx.F Ex Tx.cs (n + 3) 11 [y.D] S = _ := fun S => num_size' (n := n + 1) g (by omega)
  have f4 : ∀ S, fnN Tx.F Ex Tx.cs (n + 3) 6 [frQ 1, frQ y.size] S = _ := fun S => frac_over1 (n := n + 1) bs hn (by omega)
  have f5 : ∀ S, fnN Tx.F Ex Tx.cs (n + 3) 9 [(Kq.mk y.re (-y.im)).D, frQ y.size⁻¹] S = .ok y.inv.D S := fun S => num_scaled (n := n) gm (rb_inv bs hn) (by omega)
  simp [runF, Tx.t12, Tx.b12, f1, f2, g_FO, f3, f4, f5]
theorem nought_D (z : Kq) : z.D = Kq.zero.D ↔ z = Kq.zero := ⟨Kq.D_inj, fun h => by rw [h]⟩
theorem is_num_k {n : Nat} {z : Kq} {S : Sto} : fn (n + 3) 2 [z.D] S = .ok (.bl true) S := is_num_nu (isFr_rat z.re) (isFr_rat z.im)
end Pl
end
section
set_option Elab.async false
set_option linter.all false
set_option maxRecDepth 100000
set_option maxHeartbeats 4000000
set_option autoImplicit false
set_option exponentiation.threshold 10000
/-! V2: rows trimmed, scaled. -/
namespace Pl
open Ev Gr
theorem exec_whl (G : Gm) (C : List Cls) (c : E) (b : Ss) (en : En) (S : Sto) : exec G C (.whl c b) en S = whlL (fun en S => (ev G c en S).bind blR) (execs G C b) en S := by
  rw [exec]
  rfl
def augO (o : Op2) (i : Nat) (x : D) (en : En) (y : D) (S : Sto) : O := match augI o x y with
  | some z => .nx (en.set i (some z)) S
  | none => .stuck
theorem exec_aug {G : Gm} {C : List Cls} {i : Nat} {o : Op2} {e : E} {en : En} {S : Sto} {x : D} (h : en.getD i none = some x) : exec G C (.aug i o e) en S = (ev G e en S).then en (augO o i x en) := by
  rw [exec, h]
  rfl
@[simp] theorem augO_sub (i : Nat) (a b : Int) (en : En) (S : Sto) : augO .sub i (.int a) en (.int b) S = .nx (en.set i (some (.int (a - b)))) S := rfl
theorem plL_ks (zs : List Kq) : plL (zs.map Kq.D) = true ∧ dptL (zs.map Kq.D) ≤ 2 := by
  have := plL_nums (zs.map Kq.n4)
  rw [List.map_map] at this
  exact this
theorem eqD_k (S : Sto) (x y : Kq) : eqD S x.D y.D = some (decide (x = y)) := by
  have h := plL_ks [x, y]
  have h1 : pl x.D = true := rfl
  have h2 : pl y.D = true := rfl
  have d1 : dpt x.D = 2 := by simp [Kq.D, frQ, Gr.fr, dpt, dptL]
  have d2 : dpt y.D = 2 := by simp [Kq.D, frQ, Gr.fr, dpt, dptL]
  rw [eqD_pl h1 h2 (by rw [d1]; decide) (by rw [d2]; decide)]
  congr 1
  exact decide_eq_decide.mpr ⟨Kq.D_inj, fun h => by rw [h]⟩
def tln (l : List Kq) : Nat → Nat
  | 0 => 0
  | k + 1 => if l[k]? = some Kq.zero then tln l k else k + 1
def trimK (l : List Kq) : List Kq := l.take (tln l l.length)
theorem tln_le (l : List Kq) : ∀ k, tln l k ≤ k
  | 0 => Nat.le_refl _
  | k + 1 => by
    unfold tln
    split
    · have := tln_le l k; omega
    · exact Nat.le_refl _
theorem trim_loop {n r : Nat} {l : List Kq} {S : Sto} (h : S[r]? = some (.lst (l.map Kq.D))) : ∀ k, k ≤ l.length → whlL (fun en S => (ev (GG n) (.and (.cmp .gt (.var 1) (.cst (.int 0))) (.cmp .eq (.ix (.var 0) (.bin .sub (.var 1) (.cst (.int 1)))) (.glb 2))) en S).bind blR) (execs (GG n) Ex (.cons (.aug 1 .sub (.cst (.int 1))) .nil)) [some (.ref r), some (.int (k : Nat))] S = .nx [some (.ref r), some (.int (tln l k : Nat))] S := by
  intro k
  induction k with
  | zero =>
    intro _
    rw [whlL_eq]
    simp [tln]
  | succ k ih =>
    intro hk
    have hlt : k < l.length := by omega
    have ix : ixD S (.ref r) (.int (((k + 1 : Nat) : Int) - 1)) = some l[k].D := by
      rw [show (((k + 1 : Nat) : Int) - 1) = (k : Nat) by omega, ixD_ref h, atI_nat, List.getElem?_map, List.getElem?_eq_getElem hlt]
      rfl
    have p1 : (0 : Int) < ((k + 1 : Nat) : Int) := by omega
    have eq := eqD_k S l[k] Kq.zero
    have ag := exec_aug (G := GG n) (C := Ex) (i := 1) (o := .sub) (e := .cst (.int 1)) (en := [some (.ref r), some (.int ((k + 1 : Nat) : Int))]) (S := S) (x := .int ((k + 1 : Nat) : Int)) rfl
    have cond : ev (GG n) (.and (.cmp .gt (.var 1) (.cst (.int 0))) (.cmp .eq (.ix (.var 0) (.bin .sub (.var 1) (.cst (.int 1)))) (.glb 2))) [some (.ref r), some (.int ((k + 1 : Nat) : Int))] S = .ok (.bl (decide (l[k] = Kq.zero))) S := by
      generalize ((k + 1 : Nat) : Int) = q at *
      simp [p1, ix, g_NO, eq]
    rw [whlL_eq, cond]
    unfold tln
    rw [List.getElem?_eq_getElem hlt]
    by_cases hz : l[k] = Kq.zero
    · have e2 : (execs (GG n) Ex (.cons (.aug 1 .sub (.cst (.int 1))) .nil) [some (.ref r), some (.int ((k + 1 : Nat) : Int))] S) = .nx [some (.ref r), some (.int (k : Nat))] S := by
        rw [execs_cons, ag]
        simp
      simp only [hz, decide_true, R.bind_ok, blR_bl, R.then_ok, if_true]
      rw [e2, O.turn_nx]
      exact ih (by omega)
    · have hz' : ¬ some l[k] = some Kq.zero := by simpa using hz
      simp only [hz, decide_false, R.bind_ok, blR_bl, R.then_ok, if_neg hz', Bool.false_eq_true, if_false]
theorem row_trimmed {n r : Nat} {l : List Kq} {S : Sto} (h : S[r]? = some (.lst (l.map Kq.D))) : ∃ S', fn (n + 1) 16 [.ref r] S = .ok (.tup ((trimK l).map Kq.D)) S' ∧ S <+: S' := by
  rw [fn_s (fd := Tx.t16.fd) rfl]
  have ln := len_ref h
  rw [List.length_map] at ln
  have lp := trim_loop (n := n) h l.length (Nat.le_refl _)
  have ew := (exec_whl (GG n) Ex (.and (.cmp .gt (.var 1) (.cst (.int 0))) (.cmp .eq (.ix (.var 0) (.bin .sub (.var 1) (.cst (.int 1)))) (.glb 2))) (.cons (.aug 1 .sub (.cst (.int 1))) .nil) [some (.ref r), some (.int (l.length : Nat))] S).trans lp
  have sl := slD_ref h none (some (tln l l.length : Nat))
  rw [cut_to, ← List.map_take] at sl
  have tp := tuple_ref (last_get S (.lst ((l.take (tln l l.length)).map Kq.D)))
  refine ⟨S ++ [.lst ((l.take (tln l l.length)).map Kq.D)], ?_, pre_snoc ..⟩
  generalize S ++ [Ob.lst ((l.take (tln l l.length)).map Kq.D)] = S1 at *
  simp [runF, Tx.t16, Tx.b16, ln, ew, sl, tp, trimK]
theorem row_scaled {n B C : Nat} {l : List Kq} {z : Kq} {S : Sto} (hl : l.length ≤ 1000) (hb : ∀ c ∈ l, kb c B) (hz : kb z C) (hs : 2 * B + 2 * C ≤ 80000000) : Rv (fn (n + 3) 17 [.tup (l.map Kq.D), z.D] S) S (.tup ((trimK (l.map fun c => c.mul z)).map Kq.D)) := by
  rw [fn_s (fd := Tx.t17.fd) rfl]
  classical
  let g : D → D := fun d => if h : ∃ c : Kq, c.D = d then ((Classical.choose h).mul z).D else .non
  have gv : ∀ c : Kq, g c.D = (c.mul z).D := fun c => by
    have hx : ∃ y : Kq, y.D = c.D := ⟨c, rfl⟩
    have hy : Classical.choose hx = c := Kq.D_inj (Classical.choose_spec hx)
    show (if h : ∃ y : Kq, y.D = c.D then ((Classical.choose h).mul z).D else .non) = _
    rw [dif_pos hx, hy]
  have lc := ev_lcp (G := GG (n + 2)) (en := [some (.tup (l.map Kq.D)), some z.D, none]) (S := S) (own := [("each", 2)]) (elt := .call 8 (.cons (.var 2) (.cons (.var 1) .nil))) (p := .nm 2) (it := .seq (.var 0)) (s := ⟨l.map Kq.D, []⟩) (S1 := S) (g := g)
    (by simp [srcSeq]) (by simp) (by simp; omega) (by
      intro d hd
      obtain ⟨c, hc, rfl⟩ := List.mem_map.mp hd
      have pr : ∀ S, fnN Tx.F Ex Tx.cs (n + 2) 8 [c.D, z.D] S = _ := fun S => num_product (n := n) (hb c hc) hz hs
      exact ⟨[some (.tup (l.map Kq.D)), some z.D, some c.D], rfl, by rw [gv]; simp [pr]⟩)
  have eqn : (l.map Kq.D).map g = (l.map fun c => c.mul z).map Kq.D := by
    rw [List.map_map, List.map_map]
    exact List.map_congr_left fun c _ => gv c
  simp only [] at lc
  rw [eqn] at lc
  obtain ⟨S', e, p⟩ := row_trimmed (n := n + 1) (last_get S (.lst ((l.map fun c => c.mul z).map Kq.D)))
  have e' : fnN Tx.F Ex Tx.cs (n + 2) 16 [.ref S.length] (S ++ [.lst ((l.map fun c => c.mul z).map Kq.D)]) = _ := e
  refine ⟨S', ?_, (pre_snoc ..).trans p⟩
  generalize S ++ [Ob.lst ((l.map fun c => c.mul z).map Kq.D)] = S1 at *
  simp [runF, Tx.t17, Tx.b17, lc, e']
theorem eqD_unit (S : Sto) (l : List Kq) : eqD S (.tup (l.map Kq.D)) (.tup []) = some l.isEmpty := by
  have h := plL_ks l
  rw [eqD_pl (by exact h.1) rfl (by show dptL (l.map Kq.D) + 1 < 20; omega) (by decide)]
  cases l <;> simp
def lastOne (l : List Kq) : List Kq := match l.getLast? with
  | none => []
  | some z => trimK (l.map fun c => c.mul z.inv)
theorem row_last_one {n B : Nat} {l : List Kq} {S : Sto} (hl : l.length ≤ 1000) (hb : ∀ c ∈ l, kb c B) (hn : l.getLast? ≠ some Kq.zero) (hs : B ≤ 5000000) : Rv (fn (n + 5) 19 [.tup (l.map Kq.D)] S) S (.tup ((lastOne l).map Kq.D)) := by
  rw [fn_s (fd := Tx.t19.fd) rfl]
  have eu := eqD_unit S l
  cases hg : l.getLast? with
  | none =>
    have : l = [] := by simpa using hg
    subst this
    simp only [List.map_nil, List.isEmpty_nil] at eu
    exact ⟨S, by simp [runF, Tx.t19, Tx.b19, lastOne, eu], List.prefix_rfl⟩
  | some z =>
    have hne : l.isEmpty = false := by cases l <;> simp_all
    rw [hne] at eu
    have zm : z ∈ l := List.mem_of_getLast? hg
    have z0 : z ≠ Kq.zero := fun e => hn (by rw [hg, e])
    have ix : ixD S (.tup (l.map Kq.D)) (.int (-1)) = some z.D := by
      obtain ⟨u, rfl⟩ := List.getLast?_eq_some_iff.mp hg
      rw [ixD_tup]
      unfold L2.atI L2.ixN
      simp
      rw [if_pos (by omega)]
      simp
      rw [show ((-1 : Int) + ((u.length : Int) + 1)).toNat = u.length by omega]
      simp
    have ov : ∀ S, fnN Tx.F Ex Tx.cs (n + 4) 12 [Kq.one.D, z.D] S = _ := fun S => num_over1 (n := n) (hb z zm) z0 (by omega)
    obtain ⟨S', e, p⟩ := row_scaled (n := n + 1) (S := S) hl hb (kb_inv (hb z zm) z0) (by omega)
    have e' : fnN Tx.F Ex Tx.cs (n + 4) 17 [.tup (l.map Kq.D), z.inv.D] S = _ := e
    refine ⟨S', ?_, p⟩
    simp [runF, Tx.t19, Tx.b19, eu, ix, g_ONE, ov, e', lastOne, hg]
end Pl
end
section
set_option Elab.async false
set_option linter.all false
set_option maxRecDepth 100000
set_option maxHeartbeats 4000000
set_option autoImplicit false
set_option exponentiation.threshold 10000
/-! V3: rows divided. -/
namespace Pl
open Ev Gr
theorem setSub_ref {S : Sto} {f i : Nat} {xs : List D} (h : S[f]? = some (.lst xs)) (hi : i < xs.length) (d : D) : setSub (.ref f) (.int (i : Nat)) d S = some (S.set f (.lst (xs.set i d))) := by
  unfold setSub
  simp only [h]
  have : ixN xs.length (i : Nat) = some i := by
    unfold ixN
    rw [if_pos (by omega), if_pos (by omega)]
    simp
  rw [this]
  rfl
def zipS (n : Kq) (t u : List Kq) : List Kq := List.zipWith (fun c d => c.sub (n.mul d)) t u
theorem inner_loop {n rr st B b : Nat} {L : List D} {nu : Kq} {o0 o1 o3 o4 : Option D} (hd : List Kq) (hst : hd.length = st) (hnu : kb nu B) (hbig : 3 * B + 2 * b + 2 ≤ 70000000) :
    ∀ (us tl dn : List Kq) (o7 o8 : Option D) (S : Sto), tl.length = us.length → (∀ c ∈ tl, kb c B) → (∀ c ∈ us, kb c b) → S[rr]? = some (.lst ((hd ++ (dn ++ tl)).map Kq.D)) →
      ∃ p7 p8 S', forL ⟨L, []⟩ (lpF (GG (n + 4)) Ex (.tup [.nm 7, .nm 8]) (.cons (.asg (.sub (.var 2) (.bin .add (.var 5) (.var 7))) (.call 7 (.cons (.ix (.var 2) (.bin .add (.var 5) (.var 7))) (.cons (.call 8 (.cons (.var 6) (.cons (.var 8) .nil))) .nil)))) .nil)) (enumA dn.length (us.map Kq.D)) [o0, o1, some (.ref rr), o3, o4, some (.int (st : Nat)), some nu.D, o7, o8] S = .nx [o0, o1, some (.ref rr), o3, o4, some (.int (st : Nat)), some nu.D, p7, p8] S' ∧
        S'[rr]? = some (.lst ((hd ++ (dn ++ zipS nu tl us)).map Kq.D)) ∧ Fr (· = rr) S S' ∧ S'.length = S.length := by
  intro us
  induction us with
  | nil =>
    intro tl dn o7 o8 S hl _ _ h
    have : tl = [] := by simpa using hl
    subst this
    exact ⟨o7, o8, S, forL_nil (ok_nil _ _), by simpa [zipS] using h, Fr.rfl', rfl⟩
  | cons u us ih =>
    intro tl dn o7 o8 S hl ht hu h
    obtain ⟨c, tl, rfl⟩ : ∃ c t, tl = c :: t := by
      cases tl with
      | nil => simp at hl
      | cons c t => exact ⟨c, t, rfl⟩
    have kc := ht c (by simp)
    have ku := hu u (by simp)
    have ix : ixD S (.ref rr) (.int ((st : Int) + (dn.length : Nat))) = some c.D := by
      rw [show ((st : Int) + (dn.length : Nat)) = ((st + dn.length : Nat) : Int) by omega, ixD_ref h, atI_nat, List.getElem?_map, List.getElem?_append_right (by omega), List.getElem?_append_right (by omega)]
      rw [show st + dn.length - hd.length - dn.length = 0 by omega]
      rfl
    have pr : ∀ S, fnN Tx.F Ex Tx.cs (n + 4) 8 [nu.D, u.D] S = _ := fun S => num_product (n := n + 2) hnu ku (by omega)
    have le : ∀ S, fnN Tx.F Ex Tx.cs (n + 4) 7 [c.D, (nu.mul u).D] S = _ := fun S => num_less (n := n + 1) kc (kb_mul hnu ku) (by omega)
    have sz : st + dn.length < ((hd ++ (dn ++ (c :: tl))).map Kq.D).length := by simp; omega
    have ss := setSub_ref h sz (c.sub (nu.mul u)).D
    have nl : ((hd ++ (dn ++ (c :: tl))).map Kq.D).set (st + dn.length) (c.sub (nu.mul u)).D = (hd ++ ((dn ++ [c.sub (nu.mul u)]) ++ tl)).map Kq.D := by
      rw [← List.map_set]
      congr 1
      rw [List.set_append, if_neg (by omega), List.set_append, if_neg (by omega), show st + dn.length - hd.length - dn.length = 0 by omega]
      simp
    rw [nl] at ss
    have h2 : (S.set rr (.lst ((hd ++ ((dn ++ [c.sub (nu.mul u)]) ++ tl)).map Kq.D)))[rr]? = some (.lst ((hd ++ ((dn ++ [c.sub (nu.mul u)]) ++ tl)).map Kq.D)) := set_get h
    obtain ⟨p7, p8, S', e, g, f, l⟩ := ih tl (dn ++ [c.sub (nu.mul u)]) (some (.int (dn.length : Nat))) (some u.D) _ (by simpa using hl) (fun c hc => ht c (List.mem_cons_of_mem _ hc)) (fun c hc => hu c (List.mem_cons_of_mem _ hc)) h2
    refine ⟨p7, p8, S', ?_, by rw [g]; simp [zipS], (Fr.set (P := (· = rr)) rfl).tr f, by rw [l]; simp⟩
    rw [List.map_cons, enumA_cons]
    simp only [forL_cons (ok_nil _ _)]
    rw [List.length_append, List.length_singleton] at e
    rw [← e]
    have as := asgT_sub (G := GG (n + 4)) (a := .var 2) (i := .bin .add (.var 5) (.var 7)) (d := (c.sub (nu.mul u)).D) (en := [o0, o1, some (.ref rr), o3, o4, some (.int (st : Nat)), some nu.D, some (.int (dn.length : Nat)), some u.D]) (S := S) (x := .ref rr) (y := .int ((st + dn.length : Nat) : Int)) (S1 := S) (S2 := S) (by simp) (by simp) ss
    simp [ix, pr, le, as]
def elim1 (two rest : List Kq) : List Kq := match rest.getLast? with
  | none => []
  | some nu => (rest.take (rest.length - two.length) ++ zipS nu (rest.drop (rest.length - two.length)) two).dropLast
def elimN (two : List Kq) : Nat → List Kq → List Kq
  | 0, r => elim1 two r
  | s + 1, r => elimN two s (elim1 two r)
theorem zipS_len {nu : Kq} {t u : List Kq} (h : t.length = u.length) : (zipS nu t u).length = u.length := by
  unfold zipS
  rw [List.length_zipWith]
  omega
theorem elim1_len {two rest : List Kq} {s : Nat} (h : rest.length = s + two.length) (h0 : 0 < two.length) : (elim1 two rest).length + 1 = s + two.length := by
  unfold elim1
  cases hg : rest.getLast? with
  | none =>
    have : rest = [] := by simpa using hg
    subst this
    simp at h
    omega
  | some nu =>
    simp only []
    have zl : (zipS nu (rest.drop (rest.length - two.length)) two).length = two.length := zipS_len (by simp; omega)
    rw [List.length_dropLast, List.length_append, zl, List.length_take]
    omega
theorem sub_self' (x : Kq) : x.sub x = Kq.zero := by
  apply kext
  · simp only [Kq.sub, Kq.zero]; grind
  · simp only [Kq.sub, Kq.zero]; grind
theorem zipS_snoc (nu a b : Kq) (t u : List Kq) (h : t.length = u.length) : zipS nu (t ++ [a]) (u ++ [b]) = zipS nu t u ++ [a.sub (nu.mul b)] := by
  unfold zipS
  rw [List.zipWith_append h]
  rfl
theorem elim1_eq {two rest : List Kq} {s : Nat} {nu : Kq} (h : rest.length = s + two.length) (hg : rest.getLast? = some nu) (h1 : two.getLast? = some Kq.one) : rest.take s ++ zipS nu (rest.drop s) two = elim1 two rest ++ [Kq.zero] := by
  unfold elim1
  rw [hg]
  simp only []
  rw [show rest.length - two.length = s by omega]
  obtain ⟨u, rfl⟩ := List.getLast?_eq_some_iff.mp h1
  obtain ⟨r, rfl⟩ := List.getLast?_eq_some_iff.mp hg
  have hr : r.length = s + u.length := by simp at h; omega
  have hd : (r ++ [nu]).drop s = r.drop s ++ [nu] := by rw [List.drop_append_of_le_length (by omega)]
  rw [hd, zipS_snoc _ _ _ _ _ (by simp; omega), mul_one', sub_self', ← List.append_assoc, List.dropLast_concat]
theorem elim1_ev {two rest : List Kq} {s : Nat} {a : Kq} (h : rest.length = s + two.length) (h0 : 0 < two.length) (h1 : two.getLast? = some Kq.one) (ha : ev1 two a = Kq.zero) : ev1 (elim1 two rest) a = ev1 rest a := by
  cases hg : rest.getLast? with
  | none =>
    have : rest = [] := by simpa using hg
    subst this
    simp at h
    omega
  | some nu =>
    have e := elim1_eq h hg h1
    rw [← ev1_snoc0, ← e]
    have : ev1 (zipS nu (rest.drop s) two) a = ev1 (rest.drop s) a := by
      unfold zipS
      rw [ev1_zip nu a _ _ (by simp; omega), ha, mul_zero']
      apply kext
      · simp only [Kq.sub, Kq.zero]; grind
      · simp only [Kq.sub, Kq.zero]; grind
    rw [ev1_app _ _ _ this, List.take_append_drop]
theorem elim1_kb {two rest : List Kq} {B b : Nat} (hr : ∀ c ∈ rest, kb c B) (ht : ∀ c ∈ two, kb c b) : ∀ c ∈ elim1 two rest, kb c (3 * B + 2 * b + 2) := by
  intro c hc
  unfold elim1 at hc
  cases hg : rest.getLast? with
  | none => rw [hg] at hc; cases hc
  | some nu =>
    rw [hg] at hc
    have hnu := hr nu (List.mem_of_getLast? hg)
    rcases List.mem_append.mp ((List.dropLast_sublist _).subset hc) with q | q
    · exact (hr c (List.mem_of_mem_take q)).mono (by omega)
    · unfold zipS at q
      obtain ⟨i, hi, e⟩ := List.getElem_of_mem q
      rw [List.getElem_zipWith] at e
      rw [← e]
      have h1 : i < (rest.drop (rest.length - two.length)).length := by rw [List.length_zipWith] at hi; omega
      have h2 : i < two.length := by rw [List.length_zipWith] at hi; omega
      have k1 := hr _ (List.mem_of_mem_drop (List.getElem_mem h1))
      have k2 := ht _ (List.getElem_mem h2)
      exact (kb_sub k1 (kb_mul hnu k2)).mono (by omega)
theorem elimN_len {two : List Kq} (h0 : 0 < two.length) : ∀ (s : Nat) (rest : List Kq), rest.length = s + two.length → (elimN two s rest).length + 1 = two.length
  | 0, rest, h => by have := elim1_len h h0; simpa [elimN] using this
  | s + 1, rest, h => by
    have := elim1_len h h0
    exact elimN_len h0 s (elim1 two rest) (by omega)
theorem elimN_ev {two : List Kq} {a : Kq} (h0 : 0 < two.length) (h1 : two.getLast? = some Kq.one) (ha : ev1 two a = Kq.zero) : ∀ (s : Nat) (rest : List Kq), rest.length = s + two.length → ev1 (elimN two s rest) a = ev1 rest a
  | 0, rest, h => elim1_ev h h0 h1 ha
  | s + 1, rest, h => by
    have l := elim1_len h h0
    show ev1 (elimN two s (elim1 two rest)) a = _
    rw [elimN_ev h0 h1 ha s _ (by omega), elim1_ev h h0 h1 ha]
def bitN (b : Nat) : Nat → Nat → Nat
  | 0, B => 3 * B + 2 * b + 2
  | s + 1, B => bitN b s (3 * B + 2 * b + 2)
theorem elimN_kb {two : List Kq} {b : Nat} (ht : ∀ c ∈ two, kb c b) : ∀ (s B : Nat) (rest : List Kq), (∀ c ∈ rest, kb c B) → ∀ c ∈ elimN two s rest, kb c (bitN b s B)
  | 0, B, rest, hr => elim1_kb hr ht
  | s + 1, B, rest, hr => elimN_kb ht s _ _ (elim1_kb hr ht)
theorem bitN_ge (b : Nat) : ∀ s B, 3 * B + 2 * b + 2 ≤ bitN b s B
  | 0, B => Nat.le_refl _
  | s + 1, B => by have := bitN_ge b s (3 * B + 2 * b + 2); unfold bitN; omega
def dnN : Nat → List D
  | 0 => [.int (0 : Nat)]
  | s + 1 => .int ((s + 1 : Nat) : Int) :: dnN s
theorem rngDn_N (s : Nat) : rngDn (s : Nat) (-1) = dnN s := by
  unfold rngDn
  rw [show ((s : Int) - (-1)).toNat = s + 1 by omega]
  induction s with
  | zero => rfl
  | succ s ih =>
    rw [List.range_succ_eq_map, List.map_cons, List.map_map]
    unfold dnN
    rw [← ih]
    congr 1
    apply List.map_congr_left
    intro k _
    simp
    omega
theorem mt_pop {S : Sto} {r : Nat} {xs : List D} {x : D} (h : S[r]? = some (.lst (xs ++ [x]))) : Ev.mt .pop (.ref r) [] S = .ok x (S.set r (.lst xs)) := by
  simp [Ev.mt, h]
theorem ty_pop {S : Sto} {k : Nat} {xs : List D} (h : S[k]? = some (.lst xs)) : mtTy .pop (.ref k) S = true := by simp [mtTy, lstOf, h]
theorem outer_loop {n rr b : Nat} {L : List D} {two : List Kq} {o0 : Option D} (h0 : 0 < two.length) (h1 : two.getLast? = some Kq.one) (h10 : two.length ≤ 1000) (ht : ∀ c ∈ two, kb c b) :
    ∀ (s B : Nat) (rest : List Kq) (fr : Nat) (fs : List Kq) (o5 o6 o7 o8 : Option D) (S : Sto), rest.length = s + two.length → (∀ c ∈ rest, kb c B) → bitN b s B ≤ 70000000 → fs.length + s ≤ 10000 → S[rr]? = some (.lst (rest.map Kq.D)) → S[fr]? = some (.lst (fs.map Kq.D)) → rr ≠ fr →
      ∃ fr' fs' p5 p6 p7 p8 S', forL ⟨L, []⟩ (lpF (GG (n + 4)) Ex (.nm 5) (.cons (.asg (.nm 6) (.call 8 (.cons (.ix (.var 2) (.neg (.cst (.int 1)))) (.cons (.var 4) .nil)))) (.cons (.asg (.nm 3) (.lst (.cons (.var 6) (.star (.var 3) .nil)))) (.cons (.for (.tup [.nm 7, .nm 8]) (.enum (.var 1)) (.cons (.asg (.sub (.var 2) (.bin .add (.var 5) (.var 7))) (.call 7 (.cons (.ix (.var 2) (.bin .add (.var 5) (.var 7))) (.cons (.call 8 (.cons (.var 6) (.cons (.var 8) .nil))) .nil)))) .nil)) (.cons (.exp (.mt .pop (.var 2) .nil)) .nil))))) (dnN s) [o0, some (.tup (two.map Kq.D)), some (.ref rr), some (.ref fr), some Kq.one.D, o5, o6, o7, o8] S = .nx [o0, some (.tup (two.map Kq.D)), some (.ref rr), some (.ref fr'), some Kq.one.D, p5, p6, p7, p8] S' ∧
        S'[rr]? = some (.lst ((elimN two s rest).map Kq.D)) ∧ S'[fr']? = some (.lst (List.map Kq.D fs')) ∧ Fr (· = rr) S S' := by
  intro s
  have step : ∀ (s B : Nat) (rest : List Kq) (fr : Nat) (fs : List Kq) (o5 o6 o7 o8 : Option D) (S : Sto), rest.length = s + two.length → (∀ c ∈ rest, kb c B) → 3 * B + 2 * b + 2 ≤ 70000000 → fs.length ≤ 10000 → S[rr]? = some (.lst (rest.map Kq.D)) → S[fr]? = some (.lst (fs.map Kq.D)) → rr ≠ fr →
      ∃ fr' fs' p6 p7 p8 S', lpF (GG (n + 4)) Ex (.nm 5) (.cons (.asg (.nm 6) (.call 8 (.cons (.ix (.var 2) (.neg (.cst (.int 1)))) (.cons (.var 4) .nil)))) (.cons (.asg (.nm 3) (.lst (.cons (.var 6) (.star (.var 3) .nil)))) (.cons (.for (.tup [.nm 7, .nm 8]) (.enum (.var 1)) (.cons (.asg (.sub (.var 2) (.bin .add (.var 5) (.var 7))) (.call 7 (.cons (.ix (.var 2) (.bin .add (.var 5) (.var 7))) (.cons (.call 8 (.cons (.var 6) (.cons (.var 8) .nil))) .nil)))) .nil)) (.cons (.exp (.mt .pop (.var 2) .nil)) .nil)))) (.int (s : Nat)) [o0, some (.tup (two.map Kq.D)), some (.ref rr), some (.ref fr), some Kq.one.D, o5, o6, o7, o8] S = .nx [o0, some (.tup (two.map Kq.D)), some (.ref rr), some (.ref fr'), some Kq.one.D, some (.int (s : Nat)), p6, p7, p8] S' ∧
        S'[rr]? = some (.lst ((elim1 two rest).map Kq.D)) ∧ S'[fr']? = some (.lst (List.map Kq.D fs')) ∧ rr ≠ fr' ∧ List.length fs' = fs.length + 1 ∧ Fr (· = rr) S S' := by
    intro s B rest fr fs o5 o6 o7 o8 S hl hr hB hf hS hF hne
    obtain ⟨u, nu, rfl⟩ : ∃ u nu, rest = u ++ [nu] := by
      cases hg : rest.getLast? with
      | none =>
        have : rest = [] := by simpa using hg
        subst this
        simp at hl
        omega
      | some nu =>
        obtain ⟨u, hu⟩ := List.getLast?_eq_some_iff.mp hg
        exact ⟨u, nu, hu⟩
    have hnu := hr nu (by simp)
    have b1 : kb Kq.one 1 := ⟨⟨by decide, by decide⟩, by decide, by decide⟩
    have ix : ixD S (.ref rr) (.int (-1)) = some nu.D := by
      rw [ixD_ref hS]
      unfold L2.atI L2.ixN
      simp
      rw [if_pos (by omega)]
      simp
      rw [show ((-1 : Int) + ((u.length : Int) + 1)).toNat = u.length by omega]
      simp
    have pr : ∀ S, fnN Tx.F Ex Tx.cs (n + 4) 8 [nu.D, Kq.one.D] S = .ok nu.D S := fun S => by
      have := num_product (n := n + 2) (S := S) hnu b1 (by omega)
      rw [mul_one'] at this
      exact this
    have sF := seqOf_ref hF
    have rl := get_lt hS
    have hS1 : (S ++ [Ob.lst ((nu :: fs).map Kq.D)])[rr]? = some (.lst ((u ++ [nu]).map Kq.D)) := pre_get (pre_snoc ..) hS
    have tk : (u ++ [nu]) = (u ++ [nu]).take s ++ ([] ++ (u ++ [nu]).drop s) := by simp
    have tl1 : ((u ++ [nu]).take s).length = s := by simp at hl ⊢; omega
    have tl2 : ((u ++ [nu]).drop s).length = two.length := by rw [List.length_drop, hl]; omega
    rw [tk] at hS1
    obtain ⟨p7, p8, S2, e, g, f, l⟩ := inner_loop (n := n) (rr := rr) (st := s) (B := B) (b := b) (L := enumD (two.map Kq.D)) (nu := nu) (o0 := o0) (o1 := some (.tup (two.map Kq.D))) (o3 := some (.ref S.length)) (o4 := some Kq.one.D) ((u ++ [nu]).take s) tl1 hnu hB two ((u ++ [nu]).drop s) [] o7 o8 _ tl2 (fun c hc => hr c (List.mem_of_mem_drop hc)) ht hS1
    have ee := elim1_eq hl (nu := nu) (by simp) h1
    rw [List.nil_append, ee, List.map_append] at g
    have ff : exec (GG (n + 4)) Ex (.for (.tup [.nm 7, .nm 8]) (.enum (.var 1)) (.cons (.asg (.sub (.var 2) (.bin .add (.var 5) (.var 7))) (.call 7 (.cons (.ix (.var 2) (.bin .add (.var 5) (.var 7))) (.cons (.call 8 (.cons (.var 6) (.cons (.var 8) .nil))) .nil)))) .nil)) [o0, some (.tup (two.map Kq.D)), some (.ref rr), some (.ref S.length), some Kq.one.D, some (.int (s : Nat)), some nu.D, o7, o8] (S ++ [Ob.lst ((nu :: fs).map Kq.D)]) = .nx [o0, some (.tup (two.map Kq.D)), some (.ref rr), some (.ref S.length), some Kq.one.D, some (.int (s : Nat)), some nu.D, p7, p8] S2 := by
      rw [exec_for]
      have ev0 : evi (GG (n + 4)) (.enum (.var 1)) [o0, some (.tup (two.map Kq.D)), some (.ref rr), some (.ref S.length), some Kq.one.D, some (.int (s : Nat)), some nu.D, o7, o8] (S ++ [Ob.lst ((nu :: fs).map Kq.D)]) = .ok ⟨enumD (two.map Kq.D), []⟩ (S ++ [Ob.lst ((nu :: fs).map Kq.D)]) := by simp [srcEnum]
      rw [ev0, R.then_ok]
      exact e
    have po := mt_pop g
    have ty := ty_pop g
    have fS : S2[S.length]? = some (.lst ((nu :: fs).map Kq.D)) := f _ _ (by omega) (last_get ..)
    refine ⟨S.length, nu :: fs, some nu.D, p7, p8, S2.set rr (.lst ((elim1 two (u ++ [nu])).map Kq.D)), ?_, set_get g, by rw [List.getElem?_set_ne (by omega)]; exact fS, by omega, by simp, ((Fr.of_pre (pre_snoc ..)).tr f).tr (Fr.set (P := (· = rr)) rfl)⟩
    have cz : (nu :: fs).length ≤ 16777216 := by simp; omega
    have cz' : fs.length ≤ 16777215 := by omega
    simp only [List.map_cons] at ff
    simp [ix, pr, sF, cz', ff, po, ty]
  induction s with
  | zero =>
    intro B rest fr fs o5 o6 o7 o8 S hl hr hB hf hS hF hne
    obtain ⟨fr', fs', p6, p7, p8, S', e, g, g2, g3, g4, f⟩ := step 0 B rest fr fs o5 o6 o7 o8 S hl hr hB (by omega) hS hF hne
    refine ⟨fr', fs', some (.int ((0 : Nat) : Int)), p6, p7, p8, S', ?_, g, g2, f⟩
    unfold dnN
    simp only [forL_cons (ok_nil _ _)]
    rw [e, O.turn_nx, forL_nil (ok_nil _ _)]
  | succ s ih =>
    intro B rest fr fs o5 o6 o7 o8 S hl hr hB hf hS hF hne
    have ge := bitN_ge b (s + 1) B
    obtain ⟨fr1, fs1, p6, p7, p8, S1, e, g, g2, g3, g4, f⟩ := step (s + 1) B rest fr fs o5 o6 o7 o8 S hl hr (by omega) (by omega) hS hF hne
    have l1 := elim1_len hl h0
    obtain ⟨fr', fs', q5, q6, q7, q8, S', e2, g5, g6, f2⟩ := ih (3 * B + 2 * b + 2) (elim1 two rest) fr1 fs1 (some (.int ((s + 1 : Nat) : Int))) p6 p7 p8 S1 (by omega) (elim1_kb hr ht) hB (by omega) g g2 g3
    refine ⟨fr', fs', q5, q6, q7, q8, S', ?_, g5, g6, f.tr f2⟩
    unfold dnN
    simp only [forL_cons (ok_nil _ _)]
    rw [e, O.turn_nx, e2]
end Pl
end
section
set_option Elab.async false
set_option linter.all false
set_option maxRecDepth 100000
set_option maxHeartbeats 4000000
set_option autoImplicit false
set_option exponentiation.threshold 10000
/-! V4: the rest and the divisor. -/
namespace Pl
open Ev Gr
def restK (row two : List Kq) : List Kq := if row.length < two.length then row else elimN two (row.length - two.length) row
theorem list_tup (xs : List D) (S : Sto) : bi .list [.tup xs] S = .ok (.ref S.length) (S ++ [.lst xs]) := by simp [bi]
theorem ix_last {S : Sto} {l : List Kq} {z : Kq} (hg : l.getLast? = some z) : ixD S (.tup (l.map Kq.D)) (.int (-1)) = some z.D := by
  obtain ⟨u, rfl⟩ := List.getLast?_eq_some_iff.mp hg
  rw [ixD_tup]
  unfold L2.atI L2.ixN
  simp
  rw [if_pos (by omega)]
  simp
  rw [show ((-1 : Int) + ((u.length : Int) + 1)).toNat = u.length by omega]
  simp
theorem rngDn_nil {i : Int} (h : i < 0) : rngDn i (-1) = [] := by
  unfold rngDn
  rw [show (i - (-1)).toNat = 0 by omega]
  rfl
theorem row_rest {n B b : Nat} {row two : List Kq} {S : Sto} (h0 : 0 < two.length) (h1 : two.getLast? = some Kq.one) (hr : ∀ c ∈ row, kb c B) (ht : ∀ c ∈ two, kb c b) (hB : bitN b (row.length - two.length) B ≤ 70000000) (hl : row.length ≤ 1000) (hl2 : two.length ≤ 1000) :
    ∃ X, Rv (fn (n + 5) 18 [.tup (row.map Kq.D), .tup (two.map Kq.D)] S) S (.tup [.tup X, .tup ((trimK (restK row two)).map Kq.D)]) := by
  rw [fn_s (fd := Tx.t18.fd) rfl]
  have b1 : kb Kq.one 1 := ⟨⟨by decide, by decide⟩, by decide, by decide⟩
  have ix := fun S => ix_last (S := S) h1
  have ov : ∀ S, fnN Tx.F Ex Tx.cs (n + 4) 12 [Kq.one.D, Kq.one.D] S = .ok Kq.one.D S := fun S => by
    have := num_over1 (n := n) (S := S) b1 one_ne (by decide)
    rw [inv_one] at this
    exact this
  have l1 := list_tup (row.map Kq.D) S
  have h2 : (S ++ [Ob.lst (row.map Kq.D)] ++ [Ob.lst []])[S.length]? = some (.lst (row.map Kq.D)) := pre_get (pre_snoc ..) (last_get ..)
  have h3 : (S ++ [Ob.lst (row.map Kq.D)] ++ [Ob.lst []])[S.length + 1]? = some (.lst (([] : List Kq).map Kq.D)) := by
    have := last_get (S ++ [Ob.lst (row.map Kq.D)]) (.lst [])
    rw [List.length_append, List.length_singleton] at this
    exact this
  have p0 : S <+: S ++ [Ob.lst (row.map Kq.D)] ++ [Ob.lst []] := (pre_snoc ..).trans (pre_snoc ..)
  have lp : ∃ fr fs p5 p6 p7 p8 S', exec (GG (n + 4)) Ex (.for (.nm 5) (.rng3 (.bin .sub (.bi .len (.cons (.var 0) .nil)) (.bi .len (.cons (.var 1) .nil))) (.neg (.cst (.int 1))) (.neg (.cst (.int 1)))) (.cons (.asg (.nm 6) (.call 8 (.cons (.ix (.var 2) (.neg (.cst (.int 1)))) (.cons (.var 4) .nil)))) (.cons (.asg (.nm 3) (.lst (.cons (.var 6) (.star (.var 3) .nil)))) (.cons (.for (.tup [.nm 7, .nm 8]) (.enum (.var 1)) (.cons (.asg (.sub (.var 2) (.bin .add (.var 5) (.var 7))) (.call 7 (.cons (.ix (.var 2) (.bin .add (.var 5) (.var 7))) (.cons (.call 8 (.cons (.var 6) (.cons (.var 8) .nil))) .nil)))) .nil)) (.cons (.exp (.mt .pop (.var 2) .nil)) .nil))))) [some (.tup (row.map Kq.D)), some (.tup (two.map Kq.D)), some (.ref S.length), some (.ref (S.length + 1)), some Kq.one.D, none, none, none, none] (S ++ [Ob.lst (row.map Kq.D)] ++ [Ob.lst []]) = .nx [some (.tup (row.map Kq.D)), some (.tup (two.map Kq.D)), some (.ref S.length), some (.ref fr), some Kq.one.D, p5, p6, p7, p8] S' ∧
      S'[S.length]? = some (.lst ((restK row two).map Kq.D)) ∧ S'[fr]? = some (.lst (List.map Kq.D fs)) ∧ Fr (· = S.length) (S ++ [Ob.lst (row.map Kq.D)] ++ [Ob.lst []]) S' := by
    have it : ∀ en S, en.getD 0 none = some (.tup (row.map Kq.D)) → en.getD 1 none = some (.tup (two.map Kq.D)) → evi (GG (n + 4)) (.rng3 (.bin .sub (.bi .len (.cons (.var 0) .nil)) (.bi .len (.cons (.var 1) .nil))) (.neg (.cst (.int 1))) (.neg (.cst (.int 1)))) en S = .ok ⟨rngDn ((row.length : Int) - (two.length : Nat)) (-1), []⟩ S := by
      intro en S e0 e1
      have sm : small ((row.length : Int) - (two.length : Int)) ∧ small (-1) := by unfold small; omega
      rw [List.getD_eq_getElem?_getD] at e0 e1
      have a1 : ev (GG (n + 4)) (.bin .sub (.bi .len (.cons (.var 0) .nil)) (.bi .len (.cons (.var 1) .nil))) en S = .ok (.int ((row.length : Int) - (two.length : Nat))) S := by simp [e0, e1]
      have a2 : ev (GG (n + 4)) (.neg (.cst (.int 1))) en S = .ok (.int (-1)) S := by simp
      rw [evi, a1, R.bind_ok, a2, R.bind_ok, a2, R.bind_ok]
      show (if _ then _ else _) = _
      rw [if_pos ⟨sm.1, sm.2, rfl⟩]
    rw [exec_for, it _ _ rfl rfl, R.then_ok]
    by_cases hs : row.length < two.length
    · refine ⟨S.length + 1, [], none, none, none, none, _, ?_, by rw [restK, if_pos hs]; exact h2, h3, Fr.rfl'⟩
      rw [rngDn_nil (by omega)]
      exact forL_nil (ok_nil _ _)
    · have q := outer_loop (n := n) (rr := S.length) (b := b) (L := rngDn ((row.length : Int) - (two.length : Nat)) (-1)) (o0 := some (.tup (row.map Kq.D))) h0 h1 hl2 ht (row.length - two.length) B row (S.length + 1) [] none none none none _ (by omega) hr hB (by simp; omega) h2 h3 (by omega)
      obtain ⟨fr', fs', p5, p6, p7, p8, S', e, g, g2, f⟩ := q
      refine ⟨fr', fs', p5, p6, p7, p8, S', ?_, by rw [restK, if_neg hs]; exact g, g2, f⟩
      rw [← e]
      congr 1
      rw [show ((row.length : Int) - (two.length : Nat)) = ((row.length - two.length : Nat) : Int) by omega]
      exact rngDn_N _
  obtain ⟨fr, fs, p5, p6, p7, p8, S1, e, g, g2, f⟩ := lp
  have pS : S <+: S1 := Fr.pre ((Fr.of_pre p0).tr f |>.new (fun n h hn => by omega))
  obtain ⟨S2, e2, p2⟩ := row_trimmed (n := n + 3) g2
  obtain ⟨S3, e3, p3⟩ := row_trimmed (n := n + 3) (pre_get p2 g)
  have e2' : fnN Tx.F Ex Tx.cs (n + 4) 16 [.ref fr] S1 = _ := e2
  have e3' : fnN Tx.F Ex Tx.cs (n + 4) 16 [.ref S.length] S2 = _ := e3
  refine ⟨(trimK fs).map Kq.D, S3, ?_, pS.trans (p2.trans p3)⟩
  simp only [List.append_assoc, List.cons_append, List.nil_append] at e
  simp [runF, Tx.t18, Tx.b18, l1, ix, g_ONE, ov, e, e2', e3']
end Pl
end
section
set_option Elab.async false
set_option linter.all false
set_option maxRecDepth 100000
set_option maxHeartbeats 4000000
set_option autoImplicit false
set_option exponentiation.threshold 10000
/-! V5: the divisor of two rows. -/
namespace Pl
open Ev Gr
theorem tln_at (l : List Kq) : ∀ k, k ≤ l.length → tln l k = 0 ∨ ∃ h : tln l k - 1 < l.length, 0 < tln l k ∧ l[tln l k - 1] ≠ Kq.zero
  | 0, _ => Or.inl rfl
  | k + 1, hk => by
    unfold tln
    split
    · exact tln_at l k (by omega)
    · rename_i h
      refine Or.inr ⟨by omega, by omega, fun e => h ?_⟩
      rw [List.getElem?_eq_getElem (by omega)]
      simpa using e
theorem trim_last (l : List Kq) : (trimK l).getLast? ≠ some Kq.zero := by
  rcases tln_at l l.length (Nat.le_refl _) with h | ⟨h, h2, h3⟩
  · unfold trimK
    rw [h]
    simp
  · have hle := tln_le l l.length
    unfold trimK
    rw [List.getLast?_eq_getElem?, List.length_take, Nat.min_eq_left hle, List.getElem?_take, if_pos (by omega), List.getElem?_eq_getElem h]
    simpa using h3
theorem tln_drop (l : List Kq) (a : Kq) : ∀ k, k ≤ l.length → ev1 (l.take (tln l k)) a = ev1 (l.take k) a
  | 0, _ => rfl
  | k + 1, hk => by
    unfold tln
    split
    · rename_i h
      rw [tln_drop l a k (by omega), List.take_add_one, h]
      exact (ev1_snoc0 _ _).symm
    · rfl
theorem trim_ev (l : List Kq) (a : Kq) : ev1 (trimK l) a = ev1 l a := by
  unfold trimK
  rw [tln_drop l a _ (Nat.le_refl _), List.take_length]
theorem trim_len (l : List Kq) : (trimK l).length ≤ l.length := by
  unfold trimK
  rw [List.length_take]
  omega
theorem trim_mem {l : List Kq} {c : Kq} (h : c ∈ trimK l) : c ∈ l := List.mem_of_mem_take h
theorem trim_same {l : List Kq} (h : l.getLast? ≠ some Kq.zero) : trimK l = l := by
  unfold trimK
  cases hn : l.length with
  | zero =>
    have : l = [] := by simpa using hn
    subst this
    rfl
  | succ n =>
    unfold tln
    rw [List.getLast?_eq_getElem?, hn] at h
    rw [if_neg (by simpa using h), ← hn, List.take_length]
theorem lastOne_some {l : List Kq} {z : Kq} (h : l.getLast? = some z) (hz : z ≠ Kq.zero) : lastOne l = l.map (fun c => c.mul z.inv) ∧ (lastOne l).getLast? = some Kq.one := by
  have hl : (l.map fun c => c.mul z.inv).getLast? = some Kq.one := by
    rw [List.getLast?_map, h]
    simp only [Option.map_some]
    rw [mul_comm', inv_mul hz]
  have e : lastOne l = l.map (fun c => c.mul z.inv) := by
    unfold lastOne
    rw [h]
    exact trim_same (by rw [hl]; intro e; exact one_ne (Option.some.inj e))
  exact ⟨e, by rw [e, hl]⟩
theorem lastOne_len {l : List Kq} (h : l.getLast? ≠ some Kq.zero) : (lastOne l).length = l.length := by
  cases hg : l.getLast? with
  | none =>
    have : l = [] := by simpa using hg
    subst this
    rfl
  | some z => rw [(lastOne_some hg (fun e => h (by rw [hg, e]))).1, List.length_map]
theorem lastOne_ev {l : List Kq} {a : Kq} (h : l.getLast? ≠ some Kq.zero) : ev1 (lastOne l) a = Kq.zero ↔ ev1 l a = Kq.zero := by
  cases hg : l.getLast? with
  | none =>
    have : l = [] := by simpa using hg
    subst this
    exact Iff.rfl
  | some z =>
    have hz : z ≠ Kq.zero := fun e => h (by rw [hg, e])
    rw [(lastOne_some hg hz).1, ev1_scale]
    constructor
    · intro e
      by_cases h0 : ev1 l a = Kq.zero
      · exact h0
      · exact absurd e (mul_ne h0 (inv_ne hz))
    · intro e
      rw [e, zero_mul']
theorem lastOne_kb {l : List Kq} {B : Nat} (h : l.getLast? ≠ some Kq.zero) (hb : ∀ c ∈ l, kb c B) : ∀ c ∈ lastOne l, kb c (12 * B + 3) := by
  cases hg : l.getLast? with
  | none =>
    have : l = [] := by simpa using hg
    subst this
    intro c hc
    cases hc
  | some z =>
    have hz : z ≠ Kq.zero := fun e => h (by rw [hg, e])
    rw [(lastOne_some hg hz).1]
    intro c hc
    obtain ⟨d, hd, rfl⟩ := List.mem_map.mp hc
    exact (kb_mul (hb d hd) (kb_inv (hb z (List.mem_of_getLast? hg)) hz)).mono (by omega)
def nextK (one two : List Kq) : List Kq := lastOne (trimK (restK one two))
theorem rest_len {one two : List Kq} (h0 : 0 < two.length) : (restK one two).length < two.length := by
  unfold restK
  split
  · assumption
  · have := elimN_len h0 (one.length - two.length) one (by omega)
    omega
theorem rest_ev {one two : List Kq} {a : Kq} (h0 : 0 < two.length) (h1 : two.getLast? = some Kq.one) (ha : ev1 two a = Kq.zero) : ev1 (restK one two) a = ev1 one a := by
  unfold restK
  split
  · rfl
  · exact elimN_ev h0 h1 ha _ _ (by omega)
theorem rest_kb {one two : List Kq} {B b : Nat} (hr : ∀ c ∈ one, kb c B) (ht : ∀ c ∈ two, kb c b) : ∀ c ∈ restK one two, kb c (bitN b (one.length - two.length) B) := by
  unfold restK
  split
  · intro c hc
    exact (hr c hc).mono (by have := bitN_ge b (one.length - two.length) B; omega)
  · exact elimN_kb ht _ _ _ hr
theorem next_len {one two : List Kq} (h0 : 0 < two.length) : (nextK one two).length < two.length := by
  unfold nextK
  rw [lastOne_len (trim_last _)]
  have := trim_len (restK one two)
  have := rest_len (one := one) h0
  omega
theorem next_ev {one two : List Kq} {a : Kq} (h0 : 0 < two.length) (h1 : two.getLast? = some Kq.one) (ha : ev1 two a = Kq.zero) (hn : ev1 (nextK one two) a = Kq.zero) : ev1 one a = Kq.zero := by
  unfold nextK at hn
  rw [lastOne_ev (trim_last _), trim_ev, rest_ev h0 h1 ha] at hn
  exact hn
theorem next_last {one two : List Kq} (h : nextK one two ≠ []) : (nextK one two).getLast? = some Kq.one := by
  unfold nextK at *
  cases hg : (trimK (restK one two)).getLast? with
  | none =>
    have : trimK (restK one two) = [] := by simpa using hg
    rw [this] at h
    exact absurd rfl h
  | some z => exact (lastOne_some hg (fun e => trim_last (restK one two) (by rw [hg, e]))).2
def Apart (one two : List Kq) : Prop := ∀ x, ev1 two x = Kq.zero → ev1 one x ≠ Kq.zero
theorem next_apart {one two : List Kq} (h0 : 0 < two.length) (h1 : two.getLast? = some Kq.one) (h : Apart one two) : Apart two (nextK one two) :=
  fun x hx ht => h x ht (next_ev h0 h1 ht hx)
theorem next_some {one two : List Kq} (h0 : 0 < two.length) (h1 : two.getLast? = some Kq.one) (h : Apart one two) {a : Kq} (ha : ev1 two a = Kq.zero) : nextK one two ≠ [] := by
  intro e
  exact h a ha (next_ev h0 h1 ha (by rw [e]; rfl))
theorem next_unit {one : List Kq} : nextK one [Kq.one] = [] := by
  have := next_len (one := one) (two := [Kq.one]) (by decide)
  simpa using this
theorem last_one1 {l : List Kq} (h : l.length = 1) (hl : l.getLast? = some Kq.one) : l = [Kq.one] := by
  match l, h with
  | [x], _ => simpa using hl
theorem root2 {l : List Kq} (h : l.length = 2) (hl : l.getLast? = some Kq.one) : ∃ a, ev1 l a = Kq.zero := by
  match l, h with
  | [y, x], _ =>
    have : x = Kq.one := by simpa using hl
    subst this
    refine ⟨Kq.zero.sub y, ?_⟩
    apply kext
    · simp only [ev1, Kq.add, Kq.mul, Kq.sub, Kq.zero, Kq.one]; grind
    · simp only [ev1, Kq.add, Kq.mul, Kq.sub, Kq.zero, Kq.one]; grind
def divC : E := .cmp .ne (.var 3) (.tup .nil)
def divB : Ss := .cons (.par [2, 3] (.cons (.var 3) (.cons (.call 19 (.cons (.ix (.call 18 (.cons (.var 2) (.cons (.var 3) .nil))) (.cst (.int 1))) .nil)) .nil))) .nil
noncomputable def divW (n : Nat) (o0 o1 : Option D) (one two : List Kq) (S : Sto) : O := whlL (fun en S => (ev (GG n) divC en S).bind blR) (execs (GG n) Ex divB) [o0, o1, some (.tup (one.map Kq.D)), some (.tup (two.map Kq.D))] S
theorem div_cond {n : Nat} {o0 o1 o2 : Option D} {two : List Kq} {S : Sto} : (ev (GG n) divC [o0, o1, o2, some (.tup (two.map Kq.D))] S).bind blR = .ok (!two.isEmpty) S := by
  have eu := eqD_unit S two
  simp [divC, eu]
theorem div_end {n : Nat} {o0 o1 : Option D} {one : List Kq} {S : Sto} : divW n o0 o1 one [] S = .nx [o0, o1, some (.tup (one.map Kq.D)), some (.tup [])] S := by
  unfold divW
  rw [whlL_eq, div_cond]
  rfl
theorem div_step {n B b : Nat} {o0 o1 : Option D} {one two : List Kq} {S : Sto} (h0 : two ≠ []) (h1 : two.getLast? = some Kq.one) (hr : ∀ c ∈ one, kb c B) (ht : ∀ c ∈ two, kb c b) (hB : bitN b (one.length - two.length) B ≤ 5000000) (hl : one.length ≤ 1000) (hl2 : two.length ≤ 1000) :
    ∃ S', divW (n + 5) o0 o1 one two S = divW (n + 5) o0 o1 two (nextK one two) S' ∧ S <+: S' := by
  have h0' : 0 < two.length := List.length_pos_iff.mpr h0
  obtain ⟨X, S1, e1, p1⟩ := row_rest (n := n) (S := S) h0' h1 hr ht (by omega) hl hl2
  have tl : (trimK (restK one two)).length ≤ 1000 := by
    have := trim_len (restK one two)
    have := rest_len (one := one) h0'
    omega
  obtain ⟨S2, e2, p2⟩ := row_last_one (n := n) (S := S1) tl (fun c hc => rest_kb hr ht c (trim_mem hc)) (trim_last _) hB
  have e1' : fnN Tx.F Ex Tx.cs (n + 5) 18 [.tup (one.map Kq.D), .tup (two.map Kq.D)] S = _ := e1
  have e2' : fnN Tx.F Ex Tx.cs (n + 5) 19 [.tup ((trimK (restK one two)).map Kq.D)] S1 = _ := e2
  refine ⟨S2, ?_, p1.trans p2⟩
  have ne : two.isEmpty = false := by cases two <;> simp_all
  unfold divW
  rw [whlL_eq, div_cond, ne]
  have bd : execs (GG (n + 5)) Ex divB [o0, o1, some (.tup (one.map Kq.D)), some (.tup (two.map Kq.D))] S = .nx [o0, o1, some (.tup (two.map Kq.D)), some (.tup ((nextK one two).map Kq.D))] S2 := by
    simp [divB, e1', e2', parSet, nextK]
  simp only [Bool.not_false, R.then_ok, if_true]
  rw [bd, O.turn_nx]
theorem div_unit {n B : Nat} {o0 o1 : Option D} {one : List Kq} {S : Sto} (hr : ∀ c ∈ one, kb c B) (hB : bitN 1 (one.length - 1) B ≤ 5000000) (hl : one.length ≤ 1000) :
    ∃ S', divW (n + 5) o0 o1 one [Kq.one] S = .nx [o0, o1, some (.tup [Kq.one.D]), some (.tup [])] S' ∧ S <+: S' := by
  have b1 : kb Kq.one 1 := ⟨⟨by decide, by decide⟩, by decide, by decide⟩
  obtain ⟨S', e, p⟩ := div_step (n := n) (o0 := o0) (o1 := o1) (two := [Kq.one]) (S := S) (by simp) rfl hr (b := 1) (by simpa using b1) hB hl (by decide)
  exact ⟨S', by rw [e, next_unit, div_end]; rfl, p⟩
theorem bitN_mono {b c : Nat} (hb : b ≤ c) : ∀ {s : Nat} {B C : Nat}, B ≤ C → bitN b s B ≤ bitN c s C
  | 0, B, C, h => by unfold bitN; omega
  | s + 1, B, C, h => by unfold bitN; exact bitN_mono hb (by omega)
theorem bitN_succ (b s B : Nat) : bitN b s B ≤ bitN b (s + 1) B := by
  show bitN b s B ≤ bitN b s (3 * B + 2 * b + 2)
  exact bitN_mono (Nat.le_refl _) (by omega)
theorem bitN_up {b s t : Nat} {B : Nat} (h : s ≤ t) : bitN b s B ≤ bitN b t B := by
  induction t with
  | zero =>
    have : s = 0 := by omega
    rw [this]
    exact Nat.le_refl _
  | succ t ih =>
    by_cases e : s = t + 1
    · rw [e]
      exact Nat.le_refl _
    · exact Nat.le_trans (ih (by omega)) (bitN_succ b t B)
theorem div_two {n B b : Nat} {o0 o1 : Option D} {one two : List Kq} {S : Sto} (h2 : two.length = 2) (h1 : two.getLast? = some Kq.one) (ap : Apart one two) (hr : ∀ c ∈ one, kb c B) (ht : ∀ c ∈ two, kb c b) (hB : bitN b (one.length - 2) B ≤ 5000000) (hl : one.length ≤ 1000) (hb : b ≤ 500000) :
    ∃ S', divW (n + 5) o0 o1 one two S = .nx [o0, o1, some (.tup [Kq.one.D]), some (.tup [])] S' ∧ S <+: S' := by
  obtain ⟨a, ha⟩ := root2 h2 h1
  obtain ⟨S1, e, p⟩ := div_step (n := n) (o0 := o0) (o1 := o1) (two := two) (S := S) (by intro e; rw [e] at h2; cases h2) h1 hr ht (by rw [h2]; exact hB) hl (by omega)
  have nn := next_some (one := one) (by omega) h1 ap ha
  have nl := next_len (one := one) (two := two) (by omega)
  have nx : nextK one two = [Kq.one] := last_one1 (by have := List.length_pos_iff.mpr nn; omega) (next_last nn)
  have b1 : bitN 1 (two.length - 1) b ≤ 5000000 := by
    rw [h2]
    show 3 * (3 * b + 2 * 1 + 2) + 2 * 1 + 2 ≤ 5000000
    omega
  obtain ⟨S2, e2, p2⟩ := div_unit (n := n) (o0 := o0) (o1 := o1) (one := two) (S := S1) ht b1 (by omega)
  exact ⟨S2, by rw [e, nx, e2], p.trans p2⟩
theorem div_three {n B b : Nat} {o0 o1 : Option D} {one two : List Kq} {S : Sto} (h3 : two.length = 3) (h1 : two.getLast? = some Kq.one) (ap : Apart one two) (hroot : ∃ a, ev1 two a = Kq.zero) (hr : ∀ c ∈ one, kb c B) (ht : ∀ c ∈ two, kb c b) (hl : one.length ≤ 4) (hb : b ≤ 1400) (hB : B ≤ 1000) :
    ∃ S', divW (n + 5) o0 o1 one two S = .nx [o0, o1, some (.tup [Kq.one.D]), some (.tup [])] S' ∧ S <+: S' := by
  obtain ⟨a, ha⟩ := hroot
  have le : bitN b (one.length - two.length) B ≤ 9 * B + 8 * b + 8 := by
    refine Nat.le_trans (bitN_up (t := 1) (by omega)) ?_
    show 3 * (3 * B + 2 * b + 2) + 2 * b + 2 ≤ _
    omega
  obtain ⟨S1, e, p⟩ := div_step (n := n) (o0 := o0) (o1 := o1) (two := two) (S := S) (by intro e; rw [e] at h3; cases h3) h1 hr ht (by omega) (by omega) (by omega)
  have nn := next_some (one := one) (by omega) h1 ap ha
  have nl := next_len (one := one) (two := two) (by omega)
  have np := List.length_pos_iff.mpr nn
  have lo := next_last nn
  by_cases hn : (nextK one two).length = 1
  · have nx : nextK one two = [Kq.one] := last_one1 hn lo
    have b1 : bitN 1 (two.length - 1) b ≤ 5000000 := by
      rw [h3]
      show 3 * (3 * (3 * b + 2 * 1 + 2) + 2 * 1 + 2) + 2 * 1 + 2 ≤ 5000000
      omega
    obtain ⟨S2, e2, p2⟩ := div_unit (n := n) (o0 := o0) (o1 := o1) (one := two) (S := S1) ht b1 (by omega)
    exact ⟨S2, by rw [e, nx, e2], p.trans p2⟩
  · have kb2 : ∀ c ∈ nextK one two, kb c (12 * (9 * B + 8 * b + 8) + 3) := lastOne_kb (trim_last _) (fun c hc => (rest_kb hr ht c (trim_mem hc)).mono le)
    have b2 : bitN (12 * (9 * B + 8 * b + 8) + 3) (two.length - 2) b ≤ 5000000 := by
      rw [h3]
      show 3 * (3 * b + 2 * (12 * (9 * B + 8 * b + 8) + 3) + 2) + 2 * (12 * (9 * B + 8 * b + 8) + 3) + 2 ≤ 5000000
      omega
    obtain ⟨S2, e2, p2⟩ := div_two (n := n) (o0 := o0) (o1 := o1) (S := S1) (by omega) lo (next_apart (by omega) h1 ap) ht kb2 b2 (by omega) (by omega)
    exact ⟨S2, by rw [e, e2], p.trans p2⟩
theorem row_divisor_of {n B b : Nat} {over under : List Kq} {S : Sto} (hu : under ≠ []) (hul : under.getLast? ≠ some Kq.zero) (hol : over.getLast? ≠ some Kq.zero) (ho : over.length ≤ 4) (bo : ∀ c ∈ over, kb c B) (bu : ∀ c ∈ under, kb c b)
    (h : (under = [Kq.one] ∧ B ≤ 1400) ∨ (under.length = 2 ∧ Apart over under ∧ B ≤ 80 ∧ b ≤ 110) ∨ (under.length = 3 ∧ Apart over under ∧ (∃ a, ev1 under a = Kq.zero) ∧ B ≤ 80 ∧ b ≤ 110)) :
    Rv (fn (n + 6) 20 [.tup (over.map Kq.D), .tup (under.map Kq.D)] S) S (.tup [Kq.one.D]) := by
  rw [fn_s (fd := Tx.t20.fd) rfl]
  obtain ⟨z, hz⟩ : ∃ z, under.getLast? = some z := by
    cases hg : under.getLast? with
    | none => exact absurd (by simpa using hg) hu
    | some z => exact ⟨z, rfl⟩
  have uo := (lastOne_some hz (fun e => hul (by rw [hz, e]))).2
  have ul := lastOne_len hul
  have ol := lastOne_len hol
  have uk := lastOne_kb hul bu
  have ok := lastOne_kb hol bo
  have ap : Apart over under → Apart (lastOne over) (lastOne under) := fun a x hx hy => a x ((lastOne_ev hul).mp hx) ((lastOne_ev hol).mp hy)
  have bB : B ≤ 1400 := by omega
  have bb : (∀ c ∈ under, kb c 110) := by
    rcases h with q | q | q
    · rw [q.1]
      intro c hc
      have : c = Kq.one := by simpa using hc
      rw [this]
      exact ⟨⟨by decide, by decide⟩, by decide, by decide⟩
    · exact fun c hc => (bu c hc).mono q.2.2.2
    · exact fun c hc => (bu c hc).mono q.2.2.2.2
  have l3 : under.length ≤ 3 := by
    rcases h with q | q | q
    · rw [q.1]; decide
    · omega
    · omega
  obtain ⟨S1, e1, p1⟩ := row_last_one (n := n) (S := S) (by omega) bo hol (by omega)
  obtain ⟨S2, e2, p2⟩ := row_last_one (n := n) (S := S1) (l := under) (by omega) bb hul (by omega)
  have e1' : fnN Tx.F Ex Tx.cs (n + 5) 19 [.tup (over.map Kq.D)] S = _ := e1
  have e2' : fnN Tx.F Ex Tx.cs (n + 5) 19 [.tup (under.map Kq.D)] S1 = _ := e2
  have uk' := lastOne_kb hul bb
  have w : ∃ S', divW (n + 5) (some (.tup (over.map Kq.D))) (some (.tup (under.map Kq.D))) (lastOne over) (lastOne under) S2 = .nx [some (.tup (over.map Kq.D)), some (.tup (under.map Kq.D)), some (.tup [Kq.one.D]), some (.tup [])] S' ∧ S2 <+: S' := by
    rcases h with ⟨q, q2⟩ | ⟨q, q2, q3, q4⟩ | ⟨q, q2, q3, q4, q5⟩
    · have : lastOne under = [Kq.one] := last_one1 (by rw [ul, q]; rfl) uo
      rw [this]
      refine div_unit ok ?_ (by omega)
      refine Nat.le_trans (bitN_up (t := 3) (by omega)) ?_
      show 3 * (3 * (3 * (3 * (12 * B + 3) + 2 * 1 + 2) + 2 * 1 + 2) + 2 * 1 + 2) + 2 * 1 + 2 ≤ 5000000
      omega
    · refine div_two (by omega) uo (ap q2) ok uk' ?_ (by omega) (by omega)
      refine Nat.le_trans (bitN_up (t := 2) (by omega)) ?_
      show 3 * (3 * (3 * (12 * B + 3) + 2 * (12 * 110 + 3) + 2) + 2 * (12 * 110 + 3) + 2) + 2 * (12 * 110 + 3) + 2 ≤ 5000000
      omega
    · obtain ⟨a, ha⟩ := q3
      exact div_three (by omega) uo (ap q2) ⟨a, (lastOne_ev hul).mpr ha⟩ ok uk' (by omega) (by omega) (by omega)
  obtain ⟨S3, e3, p3⟩ := w
  have ew := (exec_whl (GG (n + 5)) Ex divC divB [some (.tup (over.map Kq.D)), some (.tup (under.map Kq.D)), some (.tup ((lastOne over).map Kq.D)), some (.tup ((lastOne under).map Kq.D))] S2).trans e3
  unfold divC divB at ew
  refine ⟨S3, ?_, p1.trans (p2.trans p3)⟩
  simp [runF, Tx.t20, Tx.b20, e1', e2', parSet, ew]
end Pl
end
section
set_option Elab.async false
set_option linter.all false
set_option maxRecDepth 100000
set_option maxHeartbeats 4000000
set_option autoImplicit false
set_option exponentiation.threshold 10000
/-! V6: rows, quotients of rows. -/
namespace Pl
open Ev Gr
theorem isin_tup (xs : List D) (S : Sto) : bi (.isin .tuple) [.tup xs] S = .ok (.bl true) S := rfl
theorem is_a_row {n : Nat} {l : List Kq} {S : Sto} (hl : l.length ≤ 1000) (h : l.getLast? ≠ some Kq.zero) : Rv (fn (n + 4) 15 [.tup (l.map Kq.D)] S) S (.bl true) := by
  rw [fn_s (fd := Tx.t15.fd) rfl]
  obtain ⟨S1, e, h1⟩ := ev_lc (G := GG (n + 3)) (en := [some (.tup (l.map Kq.D)), none]) (S := S) (own := [("each", 1)]) (elt := .var 1) (p := .nm 1) (it := .seq (.var 0)) (c := .some (.not (.call 2 (.cons (.var 1) .nil)))) (s := ⟨l.map Kq.D, []⟩) (S1 := S) (I := fun S' => S' = S) (g := fun _ => none)
    (by simp [srcSeq]) rfl (fun S h => by simp) (by simp; omega) (by
      intro d hd S h
      obtain ⟨z, hz, rfl⟩ := List.mem_map.mp hd
      have e2 : ∀ S, fnN Tx.F Ex Tx.cs (n + 3) 2 [z.D] S = _ := fun S => is_num_k (n := n)
      exact ⟨[some (.tup (l.map Kq.D)), some z.D], rfl, Or.inl ⟨S, by simp [e2], rfl, h⟩⟩)
  subst h1
  rw [List.filterMap_eq_nil_iff.mpr (fun _ _ => rfl)] at e
  have en := eqD_nil (last_get S1 (.lst [])) rfl (by decide)
  simp only [List.length_append, List.length_singleton, List.isEmpty_nil] at en
  rw [List.append_assoc, List.cons_append, List.nil_append] at en
  refine ⟨S1 ++ [.lst [], .lst []], ?_, ⟨[.lst [], .lst []], rfl⟩⟩
  have eu := eqD_unit (S1 ++ [.lst [], .lst []]) l
  cases hg : l.getLast? with
  | none =>
    have : l = [] := by simpa using hg
    subst this
    simp only [List.map_nil, List.isEmpty_nil] at eu e
    simp [runF, Tx.t15, Tx.b15, isin_tup, e, en, eu]
  | some z =>
    have hz : z ≠ Kq.zero := fun q => h (by rw [hg, q])
    have ix := ix_last (S := S1 ++ [.lst [], .lst []]) hg
    have ne : l.isEmpty = false := by cases l <;> simp_all
    rw [ne] at eu
    have ek := eqD_k (S1 ++ [.lst [], .lst []]) z Kq.zero
    rw [decide_eq_false hz] at ek
    simp [runF, Tx.t15, Tx.b15, isin_tup, e, en, eu, ix, ek, g_NO]
structure OkQ (over under : List Kq) (B b : Nat) : Prop where
  over1 : over.getLast? ≠ some Kq.zero
  under1 : under.getLast? ≠ some Kq.zero
  head : under.head? = some Kq.one
  lo : over.length ≤ 4
  bo : ∀ c ∈ over, kb c B
  bu : ∀ c ∈ under, kb c b
  way : (under = [Kq.one] ∧ B ≤ 1400) ∨ (under.length = 2 ∧ Apart over under ∧ B ≤ 80 ∧ b ≤ 110) ∨ (under.length = 3 ∧ Apart over under ∧ (∃ a, ev1 under a = Kq.zero) ∧ B ≤ 80 ∧ b ≤ 110)
theorem OkQ.ne {over under : List Kq} {B b : Nat} (h : OkQ over under B b) : under ≠ [] := by
  intro e
  have := h.head
  rw [e] at this
  cases this
theorem OkQ.lu {over under : List Kq} {B b : Nat} (h : OkQ over under B b) : under.length ≤ 3 := by
  rcases h.way with q | q | q
  · rw [q.1]; decide
  · omega
  · omega
def quoD (over under : List Kq) : D := .tup [.tup (over.map Kq.D), .tup (under.map Kq.D)]
theorem is_a_quote {n B b : Nat} {over under : List Kq} {S : Sto} (h : OkQ over under B b) : Rv (fn (n + 7) 21 [quoD over under] S) S (.bl true) := by
  rw [fn_s (fd := Tx.t21.fd) rfl]
  have hlo := h.lo
  have hlu := h.lu
  obtain ⟨S1, e1, p1⟩ := is_a_row (n := n + 2) (S := S) (l := over) (by omega) h.over1
  obtain ⟨S2, e2, p2⟩ := is_a_row (n := n + 2) (S := S1) (l := under) (by omega) h.under1
  obtain ⟨S3, e3, p3⟩ := row_divisor_of (n := n) (S := S2) h.ne h.under1 h.over1 h.lo h.bo h.bu h.way
  have e1' : fnN Tx.F Ex Tx.cs (n + 6) 15 [.tup (over.map Kq.D)] S = _ := e1
  have e2' : fnN Tx.F Ex Tx.cs (n + 6) 15 [.tup (under.map Kq.D)] S1 = _ := e2
  have e3' : fnN Tx.F Ex Tx.cs (n + 6) 20 [.tup (over.map Kq.D), .tup (under.map Kq.D)] S2 = _ := e3
  obtain ⟨r, hr⟩ : ∃ r, under = Kq.one :: r := by
    have := h.head
    cases hu : under with
    | nil => exact absurd hu h.ne
    | cons c r =>
      rw [hu] at this
      have : c = Kq.one := by simpa using this
      exact ⟨r, by rw [this]⟩
  have pos : 0 < under.length := List.length_pos_iff.mpr h.ne
  have ix : ∀ S, ixD S (.tup (under.map Kq.D)) (.int 0) = some Kq.one.D := fun S => by rw [hr]; simp
  have ek := eqD_k S2 Kq.one Kq.one
  rw [decide_eq_true rfl] at ek
  refine ⟨S3, ?_, p1.trans (p2.trans p3)⟩
  unfold quoD
  have qt : ∀ S, bi (.isin .tuple) [.tup [.tup (over.map Kq.D), .tup (under.map Kq.D)]] S = .ok (.bl true) S := fun S => rfl
  simp [runF, Tx.t21, Tx.b21, qt, e1', e2', e3', pos, ix, ek, g_ONE]
theorem check_quote {n B b : Nat} {over under : List Kq} {S : Sto} (h : OkQ over under B b) : Rv (fn (n + 8) 28 [quoD over under] S) S .non := by
  rw [fn_s (fd := Tx.t28.fd) rfl]
  obtain ⟨S1, e1, p1⟩ := is_a_quote (n := n) (S := S) h
  have e1' : fnN Tx.F Ex Tx.cs (n + 7) 21 [quoD over under] S = _ := e1
  refine ⟨S1, ?_, p1⟩
  simp [runF, Tx.t28, Tx.b28, e1']
end Pl
end
section
set_option Elab.async false
set_option linter.all false
set_option maxRecDepth 100000
set_option maxHeartbeats 4000000
set_option autoImplicit false
set_option exponentiation.threshold 10000
/-! V7: what is written is read as the same again. -/
namespace Pl
open Ev Gr
theorem chr_int (i : Int) : ∀ c ∈ intL i, c = 45 ∨ (48 ≤ c ∧ c ≤ 57) := by
  intro c hc
  unfold intL at hc
  split at hc
  · rcases List.mem_cons.mp hc with e | e
    · exact Or.inl e
    · have := TL.numL_digits _ c e; omega
  · have := TL.numL_digits _ c hc; omega
theorem chr_fr (a b : Int) : ∀ c ∈ frL a b, c = 45 ∨ c = 47 ∨ (48 ≤ c ∧ c ≤ 57) := by
  intro c hc
  unfold frL at hc
  split at hc
  · have := chr_int a c hc; omega
  · rcases List.mem_append.mp hc with e | e
    · have := chr_int a c e; omega
    · rcases List.mem_cons.mp e with e | e
      · omega
      · have := chr_int b c e; omega
theorem chr_L (z : N4) : ∀ c ∈ z.L, c = 43 ∨ c = 45 ∨ c = 47 ∨ (48 ≤ c ∧ c ≤ 57) ∨ c = 105 := by
  intro c hc
  unfold N4.L nuL at hc
  split at hc
  · have := chr_fr _ _ c hc; omega
  · rcases List.mem_append.mp hc with e | e
    · split at e
      · rcases List.mem_append.mp e with e | e
        · have := chr_fr _ _ c e; omega
        · split at e
          · have : c = 43 := by simpa using e
            omega
          · cases e
      · cases e
    · rcases List.mem_append.mp e with e | e
      · have := chr_fr _ _ c e; omega
      · have : c = 105 := by simpa using e
        omega
theorem L_free {s : Nat} (z : N4) (h : s = 10 ∨ s = 32 ∨ s = 58 ∨ s = 91 ∨ s = 93) : s ∉ z.L := fun hc => by
  have := chr_L z s hc
  omega
theorem L_ne (z : N4) : z.L ≠ [] := by
  unfold N4.L nuL
  split
  · exact frL_ne _ _
  · simp
theorem spl_join {s : Nat} : ∀ {ws : List (List Nat)}, ws ≠ [] → (∀ w ∈ ws, s ∉ w) → spl s (TL.joinL [s] ws) = ws
  | [], h, _ => absurd rfl h
  | [w], _, h => spl_one (h w (by simp))
  | w :: v :: r, _, h => by
    show spl s (w ++ ([s] ++ TL.joinL [s] (v :: r))) = _
    rw [List.cons_append, List.nil_append, spl_two (h w (by simp)), spl_join (by simp) (fun x hx => h x (List.mem_cons_of_mem _ hx))]
theorem spl_nums {zs : List N4} (h : zs ≠ []) : spl 32 (numsL zs) = zs.map N4.L := by
  unfold numsL
  refine spl_join (by simpa using h) ?_
  intro w hw
  obtain ⟨z, _, rfl⟩ := List.mem_map.mp hw
  exact L_free z (by simp)
theorem rdVals_back {c : Nat} : ∀ {zs : List N4} {i : Nat}, (∀ z ∈ zs, z.good) → i + zs.length ≤ 3 → c + i + zs.length ≤ 6 → rdVals c i (zs.map N4.L) = .inr zs
  | [], _, _, _, _ => rfl
  | z :: r, i, hg, h3, h6 => by
    rw [List.length_cons] at h3 h6
    rw [List.map_cons, rdVals, rdN_some.mpr ⟨rfl, hg z (by simp)⟩]
    simp only []
    rw [if_neg (by omega), rdVals_back (fun x hx => hg x (List.mem_cons_of_mem _ hx)) (by omega) (by omega)]
theorem pair_spl {p : PR} (h : okP p) : spl 32 (pairL p) = (p.1.L ++ [58]) :: p.2.map N4.L := by
  have hne : p.2 ≠ [] := List.length_pos_iff.mp h.2.2.1
  have e : pairL p = (p.1.L ++ [58]) ++ 32 :: numsL p.2 := by unfold pairL; simp
  rw [e, spl_two (by
    intro hc
    rcases List.mem_append.mp hc with q | q
    · exact L_free p.1 (by simp) q
    · simp at q), spl_nums hne]
theorem line_back {ps : List PR} {p : PR} (h : okP p) (hn : p.1 ∉ ps.map (fun p => p.1)) (h6 : ps.length ≠ 6) (hc : cntV ps + p.2.length ≤ 6) : lineS ps (spl 32 (pairL p)) = .inr p := by
  rw [pair_spl h]
  obtain ⟨g, hd, l1, l3, gv⟩ := h
  have rp : rdPl (p.1.L ++ [58]) = some p.1 := by
    unfold rdPl
    rw [if_pos (by simp)]
    have : (p.1.L ++ [58]).take ((p.1.L ++ [58]).length - 1) = p.1.L := by simp
    rw [this, rdN_some.mpr ⟨rfl, g⟩]
    simp [Option.filter, hd]
  simp only [lineS, rp]
  rw [if_neg (by intro q; rcases q with q | q; exact hn q; exact h6 q), rdVals_back gv (by omega) (by omega)]
  simp only []
  rw [if_neg (List.length_pos_iff.mp l1)]
theorem text_back2 : ∀ {qs ps : List PR} {i : Nat}, OkD (ps ++ qs) → textS i ps (qs.map pairL ++ [[]]) = .inr (ps ++ qs)
  | [], ps, i, _ => by
    show textS i ps [[]] = _
    rw [textS, if_pos ⟨rfl, rfl⟩, List.append_nil]
  | p :: r, ps, i, h => by
    rw [List.map_cons, List.cons_append, textS]
    have hp := h.all p (by simp)
    have hn : p.1 ∉ ps.map (fun p => p.1) := by
      have := h.nd
      rw [List.map_append, List.map_cons] at this
      intro hm
      exact (List.nodup_append.mp this).2.2 _ hm _ (by simp) rfl
    have h6 : ps.length ≠ 6 := by have := h.len; simp at this; omega
    have hc : cntV ps + p.2.length ≤ 6 := by
      have := h.cnt
      unfold cntV at this ⊢
      simp at this ⊢
      omega
    have hw : pairL p ≠ [] := by unfold pairL; simp
    rw [if_neg (fun q => hw q.2), line_back hp hn h6 hc]
    simp only []
    rw [if_neg (by simp)]
    have := text_back2 (qs := r) (ps := ps ++ [p]) (i := i + 1) (by simpa using h)
    simpa using this
theorem dataL_join : ∀ qs : List PR, dataL qs = TL.joinL [10] (qs.map pairL ++ [[]])
  | [] => rfl
  | p :: r => by
    have ih := dataL_join r
    have e : dataL (p :: r) = pairL p ++ [10] ++ dataL r := by unfold dataL; simp
    rw [e, ih, List.map_cons, List.cons_append]
    cases hr : r.map pairL ++ [[]] with
    | nil => simp at hr
    | cons a b =>
      show _ = pairL p ++ ([10] ++ TL.joinL [10] (a :: b))
      simp
theorem pair_free (p : PR) : 10 ∉ pairL p := by
  intro h
  unfold pairL at h
  rcases List.mem_append.mp h with q | q
  · exact L_free p.1 (by simp) q
  · rcases List.mem_append.mp q with q | q
    · simp at q
    · have : ∀ zs : List N4, 10 ∉ numsL zs := by
        intro zs
        induction zs with
        | nil => simp [numsL, TL.joinL]
        | cons z r ih =>
          cases r with
          | nil => exact L_free z (by simp)
          | cons y t =>
            show 10 ∉ z.L ++ ([32] ++ numsL (y :: t))
            intro hm
            rcases List.mem_append.mp hm with q | q
            · exact L_free z (by simp) q
            · rcases List.mem_append.mp q with q | q
              · simp at q
              · exact ih q
      exact this _ q
theorem text_told {qs : List PR} (h : OkD qs) : textS 0 [] (spl 10 (dataL qs)) = .inr qs := by
  rw [dataL_join, spl_join (by simp) (by
    intro w hw
    rcases List.mem_append.mp hw with q | q
    · obtain ⟨p, _, rfl⟩ := List.mem_map.mp q
      exact pair_free p
    · have : w = [] := by simpa using q
      rw [this]
      simp)]
  exact text_back2 (by simpa using h)
end Pl
end
section
set_option Elab.async false
set_option linter.all false
set_option maxRecDepth 100000
set_option maxHeartbeats 4000000
set_option autoImplicit false
set_option exponentiation.threshold 10000
/-! V8: rows and quotients written, by the package and by the law. -/
namespace Pl
open Ev Gr
theorem ev_lcf {α : Type} {G : Gm} {en : En} {S S1 : Sto} {own : List (PySem.Str × Nat)} {elt : E} {p : Pt} {it : It} {f k : α → D} (inj : ∀ a b, f a = f b → a = b) {zs : List α} {live : List (Nat × List D)}
    (hi : evi G it en S = .ok ⟨zs.map f, live⟩ S1) (hs : ∀ S', S1 <+: S' → Src.ok ⟨zs.map f, live⟩ S') (hl : zs.length ≤ 16777216)
    (hf : ∀ z ∈ zs, ∀ S', S1 <+: S' → ∃ en' S'', p.set (f z) (wipeE en (slots own)) = some en' ∧ ev G elt en' S' = .ok (k z) S'' ∧ S' <+: S'') :
    ∃ S', ev G (.lc own elt p it .none) en S = .ok (.ref S'.length) (S' ++ [.lst (zs.map k)]) ∧ S1 <+: S' := by
  classical
  obtain ⟨g, hg⟩ : ∃ g : D → D, ∀ z, g (f z) = k z := by
    refine ⟨fun d => if h : ∃ z, f z = d then k (Classical.choose h) else .non, fun z => ?_⟩
    have hx : ∃ y, f y = f z := ⟨z, rfl⟩
    have hy : Classical.choose hx = z := inj _ _ (Classical.choose_spec hx)
    show (if h : ∃ y, f y = f z then k (Classical.choose h) else .non) = _
    rw [dif_pos hx, hy]
  obtain ⟨S', lc, hp⟩ := ev_lcm (G := G) (en := en) (S := S) (own := own) (elt := elt) (p := p) (it := it) (s := ⟨zs.map f, live⟩) (S1 := S1) (I := fun S' => S1 <+: S') (g := g) hi List.prefix_rfl (fun S h => hs S h) (by simpa using hl) (by
    intro d hd S' hS
    obtain ⟨z, hz, rfl⟩ := List.mem_map.mp hd
    obtain ⟨en', S'', e1, e2, e3⟩ := hf z hz S' hS
    exact ⟨en', S'', e1, by rw [e2, hg], hS.trans e3⟩)
  refine ⟨S', ?_, hp⟩
  rw [lc]
  have lm : zs.map (g ∘ f) = zs.map k := List.map_congr_left fun z _ => hg z
  simp only [List.map_map, lm]
def rowL (zs : List N4) : List Nat := 91 :: (numsL zs ++ [93])
theorem row_written {n : Nat} {zs : List N4} {S : Sto} (hg : ∀ z ∈ zs, z.good) (hl : zs.length ≤ 10) : Rv (fn (n + 4) 32 [.tup (zs.map N4.D)] S) S (.str (rowL zs)) := by
  rw [fn_s (fd := Tx.t32.fd) rfl]
  obtain ⟨S1, e, p⟩ := numbers_written (n := n) (S := S) hg hl
  have e' : fnN Tx.F Ex Tx.cs (n + 3) 31 [.tup (zs.map N4.D)] S = _ := e
  have nl := numsL_len hg
  have c1 : 1 + (numsL zs).length ≤ 16777216 := by omega
  have c2 : (numsL zs).length + 1 ≤ 16777216 := by omega
  have c3 : (numsL zs).length + 1 + 1 ≤ 16777216 := by omega
  exact ⟨S1, by simp [runF, Tx.t32, Tx.b32, e', cat_ok, c1, c2, c3, rowL], p⟩
theorem rowL_len {zs : List N4} (hg : ∀ z ∈ zs, z.good) (hl : zs.length ≤ 10) : (rowL zs).length ≤ 17000 := by
  have := numsL_len hg
  unfold rowL
  simp
  omega
def quoL (os us : List N4) : List Nat := rowL os ++ 47 :: rowL us
theorem quoL_len {os us : List N4} (hg : ∀ z ∈ os, z.good) (hl : os.length ≤ 10) (hg2 : ∀ z ∈ us, z.good) (hl2 : us.length ≤ 10) : (quoL os us).length ≤ 40000 := by
  have := rowL_len hg hl
  have := rowL_len hg2 hl2
  unfold quoL
  simp
  omega
theorem quote_written {n : Nat} {os us : List N4} {S : Sto} (hg : ∀ z ∈ os, z.good) (hl : os.length ≤ 10) (hg2 : ∀ z ∈ us, z.good) (hl2 : us.length ≤ 10) : Rv (fn (n + 5) 33 [.tup [.tup (os.map N4.D), .tup (us.map N4.D)]] S) S (.str (quoL os us)) := by
  rw [fn_s (fd := Tx.t33.fd) rfl]
  obtain ⟨S1, e, p⟩ := row_written (n := n) (S := S) hg hl
  obtain ⟨S2, e2, p2⟩ := row_written (n := n) (S := S1) hg2 hl2
  have e' : fnN Tx.F Ex Tx.cs (n + 4) 32 [.tup (os.map N4.D)] S = _ := e
  have e2' : fnN Tx.F Ex Tx.cs (n + 4) 32 [.tup (us.map N4.D)] S1 = _ := e2
  have l1 := rowL_len hg hl
  have l2 := rowL_len hg2 hl2
  have c1 : (rowL os).length + 1 ≤ 16777216 := by omega
  have c2 : (rowL os).length + 1 + (rowL us).length ≤ 16777216 := by omega
  have c3 : (rowL os).length + ((rowL us).length + 1) ≤ 16777216 := by omega
  exact ⟨S2, by simp [runF, Tx.t33, Tx.b33, e', e2', cat_ok, c1, c2, c3, quoL], p.trans p2⟩
theorem law_nums {n : Nat} {en : En} {own : List (PySem.Str × Nat)} {i : Nat} {it : It} {zs : List N4} {S S1 : Sto} (hi : evi (GG (n + 2)) it en S = .ok ⟨zs.map N4.D, []⟩ S1) (hl : zs.length ≤ 10) (hg : ∀ z ∈ zs, z.good) (hj : ∀ d, Pt.set (.nm i) d (wipeE en (slots own)) = some ((wipeE en (slots own)).set i (some d))) (hw : i < en.length) (hlen : (wipeE en (slots own)).length = en.length) :
    ∃ S', ev (GG (n + 2)) (.mt .join (.cst (.str [32])) (.cons (.lc own (.call 70 (.cons (.var i) .nil)) (.nm i) it .none) .nil)) en S = .ok (.str (numsL zs)) S' ∧ S1 <+: S' := by
  obtain ⟨S2, lc, hp⟩ := ev_lcf (G := GG (n + 2)) (en := en) (S := S) (S1 := S1) (own := own) (elt := .call 70 (.cons (.var i) .nil)) (p := .nm i) (it := it) (f := N4.D) (k := fun z => .str z.L) (fun a b h => N4.D_inj h) hi (fun _ _ => ok_nil _ _) (by omega) (by
    intro z hz S' hS
    have e2 : ∀ S, fnN Tx.F Ex Tx.cs (n + 2) 70 [z.D] S = _ := fun S => number_text (n := n) (hg z hz)
    refine ⟨(wipeE en (slots own)).set i (some z.D), S', hj _, ?_, List.prefix_rfl⟩
    have g : ((wipeE en (slots own)).set i (some z.D))[i]? = some (some z.D) := by
      rw [List.getElem?_set_self (by rw [hlen]; exact hw)]
    simp [g, e2])
  have lm : zs.map (fun z => D.str z.L) = (zs.map N4.L).map .str := by rw [List.map_map]; rfl
  rw [lm] at lc
  have jn := mt_join (sep := [32]) (last_get S2 (.lst ((zs.map N4.L).map .str))) (by
    have := sum_len (zs.map N4.L) 1610 (fun y hy => by obtain ⟨z, hz, rfl⟩ := List.mem_map.mp hy; exact goodL_len (hg z hz))
    simp only [List.length_map, List.length_cons, List.length_nil] at this ⊢
    omega)
  refine ⟨S2 ++ [Ob.lst ((zs.map N4.L).map .str)], ?_, hp.trans (pre_snoc ..)⟩
  have s1 : ev (GG (n + 2)) (.mt .join (.cst (.str [32])) (.cons (.lc own (.call 70 (.cons (.var i) .nil)) (.nm i) it .none) .nil)) en S = (ev (GG (n + 2)) (.lc own (.call 70 (.cons (.var i) .nil)) (.nm i) it .none) en S).bind fun x S => Ev.mt .join (.str [32]) [x] S := by
    simp only [ev_mt, ev_cst, R.bind_ok, kMt_eq, ty_join, if_true, evs_cons, evs_nil]
    cases ev (GG (n + 2)) (.lc own (.call 70 (.cons (.var i) .nil)) (.nm i) it .none) en S <;> rfl
  rw [s1, lc]
  exact jn
theorem law_row_text {n : Nat} {zs : List N4} {S : Sto} (hg : ∀ z ∈ zs, z.good) (hl : zs.length ≤ 10) : Rv (fn (n + 3) 71 [.tup (zs.map N4.D)] S) S (.str (rowL zs)) := by
  rw [fn_s (fd := Tx.t71.fd) rfl]
  obtain ⟨S1, e, p⟩ := law_nums (n := n) (en := [some (.tup (zs.map N4.D)), none]) (own := [("each", 1)]) (i := 1) (it := .seq (.var 0)) (zs := zs) (S := S) (S1 := S) (by simp [srcSeq]) hl hg (fun _ => rfl) (by simp) rfl
  have nl := numsL_len hg
  have c1 : 1 + (numsL zs).length ≤ 16777216 := by omega
  have c2 : (numsL zs).length + 1 ≤ 16777216 := by omega
  have c3 : (numsL zs).length + 1 + 1 ≤ 16777216 := by omega
  refine ⟨S1, ?_, p⟩
  generalize hE : E.mt .join (.cst (.str [32])) (.cons (.lc [("each", 1)] (.call 70 (.cons (.var 1) .nil)) (.nm 1) (.seq (.var 0)) .none) .nil) = X at *
  have bd : Tx.b71 = .cons (.ret (.bin .add (.bin .add (.cst (.str [91])) X) (.cst (.str [93])))) .nil := by rw [← hE]; rfl
  simp [runF, Tx.t71, bd, e, cat_ok, c1, c2, c3, rowL]
theorem law_quotient_text {n : Nat} {os us : List N4} {S : Sto} (hg : ∀ z ∈ os, z.good) (hl : os.length ≤ 10) (hg2 : ∀ z ∈ us, z.good) (hl2 : us.length ≤ 10) : Rv (fn (n + 4) 72 [.tup [.tup (os.map N4.D), .tup (us.map N4.D)]] S) S (.str (quoL os us)) := by
  rw [fn_s (fd := Tx.t72.fd) rfl]
  obtain ⟨S1, e, p⟩ := law_row_text (n := n) (S := S) hg hl
  obtain ⟨S2, e2, p2⟩ := law_row_text (n := n) (S := S1) hg2 hl2
  have e' : fnN Tx.F Ex Tx.cs (n + 3) 71 [.tup (os.map N4.D)] S = _ := e
  have e2' : fnN Tx.F Ex Tx.cs (n + 3) 71 [.tup (us.map N4.D)] S1 = _ := e2
  have l1 := rowL_len hg hl
  have l2 := rowL_len hg2 hl2
  have c1 : (rowL os).length + 1 ≤ 16777216 := by omega
  have c2 : (rowL os).length + 1 + (rowL us).length ≤ 16777216 := by omega
  have c3 : (rowL os).length + ((rowL us).length + 1) ≤ 16777216 := by omega
  exact ⟨S2, by simp [runF, Tx.t72, Tx.b72, e', e2', cat_ok, c1, c2, c3, quoL], p.trans p2⟩
theorem law_data_text {n : Nat} {ps : List PR} {S : Sto} (h : OkD ps) : Rv (fn (n + 3) 73 [.tup (ps.map pD)] S) S (.str (dataL ps)) := by
  rw [fn_s (fd := Tx.t73.fd) rfl]
  have hl := h.len
  obtain ⟨X, hX⟩ : ∃ X, X = E.mt .join (.cst (.str [32])) (.cons (.lc [("one", 2)] (.call 70 (.cons (.var 2) .nil)) (.nm 2) (.seq (.ix (.var 1) (.cst (.int 1)))) .none) .nil) := ⟨_, rfl⟩
  obtain ⟨S1, lc, hp⟩ := ev_lcf (G := GG (n + 2)) (en := [some (.tup (ps.map pD)), none, none]) (S := S) (S1 := S) (own := [("each", 1)]) (elt := .bin .add (.bin .add (.bin .add (.call 70 (.cons (.ix (.var 1) (.cst (.int 0))) .nil)) (.cst (.str [58, 32]))) X) (.cst (.str [10]))) (p := .nm 1) (it := .seq (.var 0)) (live := []) (f := pD) (k := fun p => .str (pairL p ++ [10])) (fun a b h => pD_inj h) (zs := ps)
    (by simp [srcSeq]) (fun _ _ => ok_nil _ _) (by omega) (by
      intro p hm S' hS
      obtain ⟨g, hd, l1, l3, gv⟩ := h.all p hm
      obtain ⟨S2, e, q⟩ := law_nums (n := n) (en := [some (.tup (ps.map pD)), some (pD p), none]) (own := [("one", 2)]) (i := 2) (it := .seq (.ix (.var 1) (.cst (.int 1)))) (zs := p.2) (S := S') (S1 := S') (by simp [srcSeq, pD]) (by omega) gv (fun _ => rfl) (by simp) rfl
      rw [← hX] at e
      have e2 : ∀ S, fnN Tx.F Ex Tx.cs (n + 2) 70 [p.1.D] S = _ := fun S => number_text (n := n) g
      have ix0 : ∀ S, ixD S (pD p) (.int 0) = some p.1.D := fun S => by simp [pD]
      have n1 := goodL_len g
      have n2 := numsL_len gv
      have c1 : p.1.L.length + 2 ≤ 16777216 := by omega
      have c2 : p.1.L.length + ((numsL p.2).length + 2) ≤ 16777216 := by omega
      have c2' : p.1.L.length + 2 + (numsL p.2).length ≤ 16777216 := by omega
      have c3 : p.1.L.length + ((numsL p.2).length + 2) + 1 ≤ 16777216 := by omega
      have c4 : p.1.L.length + 2 + (numsL p.2).length + 1 ≤ 16777216 := by omega
      have c5 : p.1.L.length + ((numsL p.2).length + 1 + 1) ≤ 16777216 := by omega
      have c6 : p.1.L.length + ((numsL p.2).length + 1 + 1) + 1 ≤ 16777216 := by omega
      exact ⟨[some (.tup (ps.map pD)), some (pD p), none], S2, rfl, by simp [ix0, e2, e, cat_ok, c1, c2, c2', c3, c4, c5, c6, pairL], q⟩)
  have lm : ps.map (fun p => D.str (pairL p ++ [10])) = (ps.map fun p => pairL p ++ [10]).map .str := by rw [List.map_map]; rfl
  rw [lm] at lc
  have jn := mt_join (sep := []) (last_get S1 (.lst ((ps.map fun p => pairL p ++ [10]).map .str))) (by
    have := sum_len (ps.map fun p => pairL p ++ [10]) 10001 (fun y hy => by obtain ⟨p, hp, rfl⟩ := List.mem_map.mp hy; have := pairL_len (h.all p hp); simp; omega)
    simp only [List.length_map, List.length_nil] at this ⊢
    omega)
  rw [join_nil] at jn
  refine ⟨_, ?_, hp.trans (pre_snoc S1 (.lst ((ps.map fun p => pairL p ++ [10]).map .str)))⟩
  have bd : Tx.b73 = .cons (.ret (.mt .join (.cst (.str [])) (.cons (.lc [("each", 1)] (.bin .add (.bin .add (.bin .add (.call 70 (.cons (.ix (.var 1) (.cst (.int 0))) .nil)) (.cst (.str [58, 32]))) X) (.cst (.str [10]))) (.nm 1) (.seq (.var 0)) .none) .nil))) .nil := by rw [hX]; rfl
  simp only [runF, Tx.t73, bd, List.length_cons, List.length_nil, Nat.zero_add, if_true, execs_cons, execs_nil, exec_ret, ev_mt, ev_cst, R.bind_ok, ty_join, evs_cons, evs_nil, List.map_cons, List.map_nil, List.cons_append, List.nil_append, Nat.reduceSub, List.replicate_succ, List.replicate_zero, lc, jn, R.then_ok, O.seq_rt, toR_rt, kBin_eq, kAnd_eq, kOr_eq, kIte_eq, kCmp_eq, kCmp2_eq, kTup_eq, kLst_eq, kIx_eq, kIx2_eq, kSl_eq, kSl2_eq, kMt_eq, kCons_eq, kCons2_eq, kSeq_eq, kEnum_eq, kSet_eq, kIf_eq, kExp_eq]
  rfl
end Pl
end
section
set_option Elab.async false
set_option linter.all false
set_option maxRecDepth 100000
set_option maxHeartbeats 4000000
set_option autoImplicit false
set_option exponentiation.threshold 10000
/-! V9: rows and quotients read by the package. -/
namespace Pl
open Ev Gr
theorem nums_free {s : Nat} (h : s = 10 ∨ s = 58 ∨ s = 91 ∨ s = 93) : ∀ zs : List N4, s ∉ numsL zs
  | [] => by simp [numsL, TL.joinL]
  | [z] => L_free z (by omega)
  | z :: y :: t => by
    have ih := nums_free h (y :: t)
    show s ∉ z.L ++ ([32] ++ numsL (y :: t))
    intro hm
    rcases List.mem_append.mp hm with q | q
    · exact L_free z (by omega) q
    · rcases List.mem_append.mp q with q | q
      · simp at q; omega
      · exact ih q
theorem find_at {p t : List Nat} (h : 93 ∉ p) : PySem.Txt.find ⟨(p ++ 93 :: 47 :: 91 :: t).toArray⟩ ⟨[93, 47, 91].toArray⟩ = (p.length : Nat) := by
  have at_i : ∀ i, PySem.StrLaws.At (⟨(p ++ 93 :: 47 :: 91 :: t).toArray⟩ : PySem.Str) ⟨[93, 47, 91].toArray⟩ (⟨(p ++ 93 :: 47 :: 91 :: t).toArray⟩ : PySem.Str).length i ↔ TL.pre [93, 47, 91] ((p ++ 93 :: 47 :: 91 :: t).drop i) = true := fun i => by
    rw [TL.at_iff (by simp [TL.tl]) i]
  have hm : TL.pre [93, 47, 91] ((p ++ 93 :: 47 :: 91 :: t).drop p.length) = true := by
    rw [List.drop_left]
    rfl
  have hk : ∀ k, k < p.length → ¬ TL.pre [93, 47, 91] ((p ++ 93 :: 47 :: 91 :: t).drop k) = true := by
    intro k hk e
    rw [List.drop_append_of_le_length (by omega)] at e
    obtain ⟨c, r, hr⟩ : ∃ c r, p.drop k = c :: r := by
      cases hd : p.drop k with
      | nil => have := List.drop_eq_nil_iff.mp hd; omega
      | cons c r => exact ⟨c, r, rfl⟩
    rw [hr] at e
    have e' : ((c :: r ++ 93 :: 47 :: 91 :: t).take 3 == [93, 47, 91]) = true := e
    have : c = 93 := by
      rw [beq_iff_eq] at e'
      simp at e'
      exact e'.1
    exact h (this ▸ (List.mem_of_mem_drop (hr ▸ List.mem_cons_self)))
  rcases PyProof.Rows.find_whole (⟨(p ++ 93 :: 47 :: 91 :: t).toArray⟩ : PySem.Str) ⟨[93, 47, 91].toArray⟩ with ⟨_, q⟩ | ⟨i, e, q1, q2⟩
  · exact absurd ((at_i _).mpr hm) (q _)
  · rw [e]
    have h1 := (at_i i).mp q1
    have : ¬ p.length < i := fun l => q2 _ l ((at_i _).mpr hm)
    have : ¬ i < p.length := fun l => hk _ l h1
    omega

theorem cut_in (x : List Nat) (a b : Nat) : cut (a :: (x ++ [b])) (some 1) (some (-1)) = x := by
  have := cut_mid (a :: (x ++ [b])) 1
  rw [show ((1 : Nat) : Int) = 1 from rfl] at this
  rw [this]
  have l : (a :: (x ++ [b])).length - 1 = (a :: x).length := by simp
  have e : a :: (x ++ [b]) = (a :: x) ++ [b] := rfl
  rw [l, e, List.take_left]
  rfl
theorem row_nums {n r : Nat} {zs : List N4} {o0 o1 o3 o4 o5 : Option D} {S : Sto} (h : S[r]? = some (.lst ((zs.map N4.L).map .str))) (hg : ∀ z ∈ zs, z.good) (hl : zs.length ≤ 10) :
    ∃ S', ev (GG (n + 3)) (.lc2 [("word", 4), ("each", 5)] [5] (.var 5) (.nm 4) (.seq (.var 2)) (.nm 5) (.seq (.call 39 (.cons (.var 4) .nil)))) [o0, o1, some (.ref r), o3, o4, o5] S = .ok (.ref S'.length) (S' ++ [.lst (zs.map N4.D)]) ∧ S <+: S' := by
  obtain ⟨g, hgv⟩ : ∃ g : D → List D, ∀ w, g (.str w) = (rdN w).toList.map N4.D := ⟨fun d => match d with
    | .str w => (rdN w).toList.map N4.D
    | _ => [], fun _ => rfl⟩
  have eqn : ((zs.map N4.L).map D.str).flatMap g = zs.map N4.D := by
    rw [List.map_map, List.flatMap_map]
    clear h hl
    induction zs with
    | nil => rfl
    | cons z t ih =>
      rw [List.flatMap_cons, ih (fun x hx => hg x (List.mem_cons_of_mem _ hx))]
      show g (.str z.L) ++ _ = _
      rw [hgv, rdN_some.mpr ⟨rfl, hg z (by simp)⟩]
      rfl
  obtain ⟨S', e, hp⟩ := ev_lc2 (G := GG (n + 3)) (en := [o0, o1, some (.ref r), o3, o4, o5]) (S := S) (own := [("word", 4), ("each", 5)]) (own1 := [5]) (elt := .var 5) (p := .nm 4) (it := .seq (.var 2)) (p1 := .nm 5) (it1 := .seq (.call 39 (.cons (.var 4) .nil)))
    (s := ⟨(zs.map N4.L).map .str, [(r, (zs.map N4.L).map .str)]⟩) (S1 := S) (I := fun S' => S <+: S') (g := g)
    (by simp only [evi_seq, ev_var]; simp [srcSeq, lstOf, h]) List.prefix_rfl (fun S' h' => pre_ok h' (ok_one h)) (by
      show (((zs.map N4.L).map D.str).flatMap g).length ≤ _
      rw [eqn, List.length_map]; omega) (by
      intro d hd S' hS
      obtain ⟨w, hw, rfl⟩ := List.mem_map.mp hd
      obtain ⟨z, hz, rfl⟩ := List.mem_map.mp hw
      have wl : z.L.length ≤ 1000000 := by have := goodL_len (hg z hz); omega
      obtain ⟨k, S2, e2, p2, g2⟩ := number_in (n := n) (S := S') wl
      have e2' : fnN Tx.F Ex Tx.cs (n + 3) 39 [.str z.L] S' = _ := e2
      refine ⟨[o0, o1, some (.ref r), o3, some (.str z.L), none], ⟨(rdN z.L).toList.map N4.D, [(k, (rdN z.L).toList.map N4.D)]⟩, S2, fun e => e, rfl, ?_, hS.trans p2, fun S3 h3 => pre_ok h3 (ok_one g2), by rw [hgv, List.map_id'], ?_⟩
      · simp only [evi_seq, ev_call]
        simp [e2', srcSeq, lstOf, g2]
      · intro d1 hd1 S3 h3 h4
        exact ⟨[o0, o1, some (.ref r), o3, some (.str z.L), some d1], S3, rfl, by simp, List.prefix_rfl, h4⟩)
  refine ⟨S', ?_, hp⟩
  rw [e]
  simp only [eqn]
theorem n4_D (ks : List Kq) : (ks.map Kq.n4).map N4.D = ks.map Kq.D := by rw [List.map_map]; rfl
theorem row_in {n : Nat} {ks : List Kq} {S : Sto} (hg : ∀ k ∈ ks, k.n4.good) (hl : ks.length ≤ 10) (hz : ks.getLast? ≠ some Kq.zero) : Rl (fn (n + 4) 40 [.str (rowL (ks.map Kq.n4)), .str [32]] S) S [.tup (ks.map Kq.D)] := by
  rw [fn_s (fd := Tx.t40.fd) rfl]
  have hg' : ∀ z ∈ ks.map Kq.n4, z.good := fun z hz => by obtain ⟨k, hk, rfl⟩ := List.mem_map.mp hz; exact hg k hk
  have rl := rowL_len hg' (by simpa using hl)
  have nl : (numsL (ks.map Kq.n4)).length ≤ 17000 := by unfold rowL at rl; simp at rl; omega
  have l2 : ¬ (((rowL (ks.map Kq.n4)).length : Nat) : Int) < 2 := by unfold rowL; simp; omega
  have ix0 : ∀ S, ixD S (.str (rowL (ks.map Kq.n4))) (.int 0) = some (.str [91]) := fun S => by
    rw [ixD_str S (by omega)]
    unfold rowL
    simp
  have ix1 : ∀ S, ixD S (.str (rowL (ks.map Kq.n4))) (.int (-1)) = some (.str [93]) := fun S => by
    rw [ixD_str S (by omega)]
    unfold rowL L2.atI L2.ixN
    simp
    rw [if_pos (by omega)]
    simp
    rw [show ((-1 : Int) + (((numsL (ks.map Kq.n4)).length : Int) + 1 + 1)).toNat = (numsL (ks.map Kq.n4)).length + 1 by omega]
    simp
  -- the words
  have W : ∃ r S1, ev (GG (n + 3)) (.ite (.cmp .ne (.var 0) (.cst (.str [91, 93]))) (.mt .split (.sl (.var 0) (.some (.cst (.int 1))) (.some (.neg (.cst (.int 1))))) (.cons (.var 1) .nil)) (.lst .nil)) [some (.str (rowL (ks.map Kq.n4))), some (.str [32]), none, none, none, none] S = .ok (.ref r) S1 ∧ S1[r]? = some (.lst (((ks.map Kq.n4).map N4.L).map .str)) ∧ S <+: S1 := by
    by_cases he : ks = []
    · subst he
      refine ⟨S.length, S ++ [.lst []], ?_, last_get .., pre_snoc ..⟩
      have : rowL (List.map Kq.n4 []) = [91, 93] := rfl
      rw [this]
      simp
    · have ne : ¬ rowL (ks.map Kq.n4) = [91, 93] := by
        intro e
        have q := spl_nums (zs := ks.map Kq.n4) (by simpa using he)
        unfold rowL at e
        have : numsL (ks.map Kq.n4) = [] := by
          cases hn : numsL (ks.map Kq.n4) with
          | nil => rfl
          | cons a b => rw [hn] at e; simp at e
        rw [this] at q
        have q1 : spl 32 [] = [[]] := rfl
        rw [q1] at q
        cases hk : ks with
        | nil => exact he hk
        | cons a b =>
          rw [hk] at q
          have := (List.cons.inj q).1
          exact L_ne a.n4 this.symm
      have sp := mt_split (l := numsL (ks.map Kq.n4)) (s := 32) (by decide) (by omega) S
      rw [spl_nums (by simpa using he)] at sp
      have ci : cut (rowL (ks.map Kq.n4)) (some 1) (some (-1)) = numsL (ks.map Kq.n4) := cut_in _ _ _
      have rl' : (rowL (ks.map Kq.n4)).length ≤ 16777216 := by omega
      refine ⟨S.length, S ++ [.lst (((ks.map Kq.n4).map N4.L).map .str)], ?_, last_get .., pre_snoc ..⟩
      simp only [List.map_map] at sp ⊢
      simp [ne, ci, sp, rl']
  obtain ⟨r, S1, e1, g1, p1⟩ := W
  obtain ⟨S2, e2, p2⟩ := row_nums (n := n) (o0 := some (.str (rowL (ks.map Kq.n4)))) (o1 := some (.str [32])) (o3 := none) (o4 := none) (o5 := none) g1 hg' (by simpa using hl)
  rw [n4_D] at e2
  have g3 := last_get S2 (.lst (ks.map Kq.D))
  have g4 : (S2 ++ [Ob.lst (ks.map Kq.D)])[r]? = some (.lst (((ks.map Kq.n4).map N4.L).map .str)) := pre_get (p2.trans (pre_snoc ..)) g1
  obtain ⟨S3, e3, p3⟩ := row_trimmed (n := n + 2) g3
  have e3' : fnN Tx.F Ex Tx.cs (n + 3) 16 [.ref S2.length] (S2 ++ [Ob.lst (ks.map Kq.D)]) = _ := e3
  rw [trim_same hz] at e3'
  have g5 := pre_get p3 g3
  have ln3 := len_ref g3
  have ln4 := len_ref g4
  simp only [List.length_map] at ln3 ln4
  have tr := tuple_ref g5
  have pk := plL_ks ks
  have eq : eqD S3 (.tup (ks.map Kq.D)) (.tup (ks.map Kq.D)) = some true := by
    rw [eqD_pl (by exact pk.1) (by exact pk.1) (by show dptL (ks.map Kq.D) + 1 < 20; omega) (by show dptL (ks.map Kq.D) + 1 < 20; omega)]
    simp
  refine Rl_new (S1 := S3) ?_ (p1.trans (p2.trans ((pre_snoc ..).trans p3)))
  have nl2 : ¬ (rowL (ks.map Kq.n4)).length < 2 := by omega
  have lw := fun S => len_str (l := rowL (ks.map Kq.n4)) (by omega) S
  generalize S2 ++ [Ob.lst (ks.map Kq.D)] = S2' at *
  simp [runF, Tx.t40, Tx.b40, lw, l2, nl2, ix0, ix1, e1, e2, ln3, ln4, e3', tr, eq]
end Pl
end
section
set_option Elab.async false
set_option linter.all false
set_option maxRecDepth 100000
set_option maxHeartbeats 4000000
set_option autoImplicit false
set_option exponentiation.threshold 10000
/-! V10: the texts there and back, of the package. -/
namespace Pl
open Ev Gr
theorem ty_find (l : List Nat) (S : Sto) : mtTy .find (.str l) S = true := rfl
theorem quoL_at (os us : List N4) : quoL os us = (91 :: numsL os) ++ 93 :: 47 :: 91 :: (numsL us ++ [93]) := by
  unfold quoL rowL
  simp
structure GoodQ (over under : List Kq) (B b : Nat) : Prop extends OkQ over under B b where
  go : ∀ k ∈ over, k.n4.good
  gu : ∀ k ∈ under, k.n4.good
theorem goods {ks : List Kq} (hg : ∀ k ∈ ks, k.n4.good) : ∀ z ∈ ks.map Kq.n4, z.good := fun z hz => by obtain ⟨k, hk, rfl⟩ := List.mem_map.mp hz; exact hg k hk
theorem quote_pairs {n : Nat} {os us : List Kq} {o3 o4 o5 o6 : Option D} {S : Sto} (hg : ∀ k ∈ os, k.n4.good) (hl : os.length ≤ 10) (hz : os.getLast? ≠ some Kq.zero) (hg2 : ∀ k ∈ us, k.n4.good) (hl2 : us.length ≤ 10) (hz2 : us.getLast? ≠ some Kq.zero) :
    ∃ S', ev (GG (n + 4)) (.lc2 [("top", 4), ("under", 5)] [5] (.tup (.cons (.var 4) (.cons (.var 5) .nil))) (.nm 4) (.seq (.call 40 (.cons (.sl (.var 0) .none (.some (.bin .add (.var 2) (.cst (.int 1))))) (.cons (.var 1) .nil)))) (.nm 5) (.seq (.call 40 (.cons (.sl (.var 0) (.some (.bin .add (.var 2) (.cst (.int 2)))) .none) (.cons (.var 1) .nil)))))
      [some (.str (quoL (os.map Kq.n4) (us.map Kq.n4))), some (.str [32]), some (.int ((91 :: numsL (os.map Kq.n4)).length : Nat)), o3, o4, o5, o6] S = .ok (.ref S'.length) (S' ++ [.lst [quoD os us]]) ∧ S <+: S' := by
  have ql := quoL_len (goods hg) (by simpa using hl) (goods hg2) (by simpa using hl2)
  have ql' : (quoL (os.map Kq.n4) (us.map Kq.n4)).length ≤ 16777216 := by omega
  obtain ⟨m, hm⟩ : ∃ m, m = (91 :: numsL (os.map Kq.n4)).length := ⟨_, rfl⟩
  have c1 : cut (quoL (os.map Kq.n4) (us.map Kq.n4)) none (some ((m : Int) + 1)) = rowL (os.map Kq.n4) := by
    rw [show ((m : Int) + 1) = ((m + 1 : Nat) : Int) by omega, cut_to, hm]
    unfold quoL
    rw [List.take_left' (by unfold rowL; simp)]
  have c2 : cut (quoL (os.map Kq.n4) (us.map Kq.n4)) (some ((m : Int) + 2)) none = rowL (us.map Kq.n4) := by
    rw [show ((m : Int) + 2) = ((m + 2 : Nat) : Int) by omega, cut_from, hm]
    have : quoL (os.map Kq.n4) (us.map Kq.n4) = (rowL (os.map Kq.n4) ++ [47]) ++ rowL (us.map Kq.n4) := by unfold quoL; simp
    rw [this, List.drop_left' (by unfold rowL; simp)]
  rw [← hm]
  obtain ⟨r1, S1, e1, p1, g1⟩ := row_in (n := n) (S := S) hg hl hz
  have e1' : fnN Tx.F Ex Tx.cs (n + 4) 40 [.str (rowL (os.map Kq.n4)), .str [32]] S = _ := e1
  obtain ⟨S', e, hp⟩ := ev_lc2 (G := GG (n + 4)) (en := [some (.str (quoL (os.map Kq.n4) (us.map Kq.n4))), some (.str [32]), some (.int (m : Nat)), o3, o4, o5, o6]) (S := S) (own := [("top", 4), ("under", 5)]) (own1 := [5]) (elt := .tup (.cons (.var 4) (.cons (.var 5) .nil))) (p := .nm 4) (it := .seq (.call 40 (.cons (.sl (.var 0) .none (.some (.bin .add (.var 2) (.cst (.int 1))))) (.cons (.var 1) .nil)))) (p1 := .nm 5) (it1 := .seq (.call 40 (.cons (.sl (.var 0) (.some (.bin .add (.var 2) (.cst (.int 2)))) .none) (.cons (.var 1) .nil))))
    (s := ⟨[.tup (os.map Kq.D)], [(r1, [.tup (os.map Kq.D)])]⟩) (S1 := S1) (I := fun S' => S1 <+: S') (g := fun d => [D.tup [d, .tup (us.map Kq.D)]])
    (by simp only [evi_seq]; simp [ql', c1, e1', srcSeq, lstOf, g1]) List.prefix_rfl (fun S' h' => pre_ok h' (ok_one g1)) (by simp) (by
      intro d hd S' hS
      have hd' : d = .tup (os.map Kq.D) := by simpa using hd
      subst hd'
      obtain ⟨r2, S2, e2, p2, g2⟩ := row_in (n := n) (S := S') hg2 hl2 hz2
      have e2' : fnN Tx.F Ex Tx.cs (n + 4) 40 [.str (rowL (us.map Kq.n4)), .str [32]] S' = _ := e2
      refine ⟨[some (.str (quoL (os.map Kq.n4) (us.map Kq.n4))), some (.str [32]), some (.int (m : Nat)), o3, some (.tup (os.map Kq.D)), none, o6], ⟨[.tup (us.map Kq.D)], [(r2, [.tup (us.map Kq.D)])]⟩, S2, fun e => .tup [.tup (os.map Kq.D), e], rfl, ?_, hS.trans p2, fun S3 h3 => pre_ok h3 (ok_one g2), rfl, ?_⟩
      · simp only [evi_seq]
        simp [ql', c2, e2', srcSeq, lstOf, g2]
      · intro d1 hd1 S3 h3 h4
        exact ⟨[some (.str (quoL (os.map Kq.n4) (us.map Kq.n4))), some (.str [32]), some (.int (m : Nat)), o3, some (.tup (os.map Kq.D)), some d1, o6], S3, rfl, by simp, List.prefix_rfl, h4⟩)
  exact ⟨S', by rw [e]; rfl, p1.trans hp⟩
theorem quote_in {n B b : Nat} {os us : List Kq} {S : Sto} (h : GoodQ os us B b) : Rl (fn (n + 8) 41 [.str (quoL (os.map Kq.n4) (us.map Kq.n4)), .str [32]] S) S [quoD os us] := by
  rw [fn_s (fd := Tx.t41.fd) rfl]
  have hlo := h.lo
  have hlu := h.toOkQ.lu
  have fd : ∀ S, Ev.mt .find (.str (quoL (os.map Kq.n4) (us.map Kq.n4))) [.str [93, 47, 91]] S = .ok (.int ((91 :: numsL (os.map Kq.n4)).length : Nat)) S := fun S => by
    show R.ok (D.int (PySem.Txt.find ⟨(quoL (os.map Kq.n4) (us.map Kq.n4)).toArray⟩ ⟨[93, 47, 91].toArray⟩)) S = _
    rw [quoL_at, find_at (by
      intro hm
      rcases List.mem_cons.mp hm with q | q
      · omega
      · exact nums_free (by simp) _ q)]
  obtain ⟨S1, e1, p1⟩ := quote_pairs (n := n + 3) (o3 := none) (o4 := none) (o5 := none) (o6 := none) (S := S) h.go (by omega) h.over1 h.gu (by omega) h.under1
  have g1 := last_get S1 (.lst [quoD os us])
  obtain ⟨m, hm⟩ : ∃ m : Nat, m = (91 :: numsL (os.map Kq.n4)).length := ⟨_, rfl⟩
  rw [← hm] at e1 fd
  obtain ⟨S2, e2, p2⟩ := ev_lc (G := GG (n + 7)) (en := [some (.str (quoL (os.map Kq.n4) (us.map Kq.n4))), some (.str [32]), some (.int (m : Nat)), some (.ref S1.length), none, none, none]) (S := S1 ++ [.lst [quoD os us]]) (own := [("each", 6)]) (elt := .var 6) (p := .nm 6) (it := .seq (.var 3)) (c := .some (.call 21 (.cons (.var 6) .nil))) (s := ⟨[quoD os us], [(S1.length, [quoD os us])]⟩) (S1 := S1 ++ [.lst [quoD os us]]) (I := fun S' => S1 ++ [.lst [quoD os us]] <+: S') (g := fun d => some d)
    (by simp only [evi_seq, ev_var]; simp [srcSeq, lstOf]) List.prefix_rfl (fun S' h' => pre_ok h' (ok_one g1)) (by simp) (by
      intro d hd S' hS
      have hd' : d = quoD os us := by simpa using hd
      subst hd'
      obtain ⟨S3, e3, p3⟩ := is_a_quote (n := n) (S := S') h.toOkQ
      have e3' : fnN Tx.F Ex Tx.cs (n + 7) 21 [quoD os us] S' = _ := e3
      exact ⟨[some (.str (quoL (os.map Kq.n4) (us.map Kq.n4))), some (.str [32]), some (.int (m : Nat)), some (.ref S1.length), none, none, some (quoD os us)], rfl, Or.inr ⟨S3, _, S3, by simp [e3'], by simp, rfl, hS.trans p3⟩⟩)
  have m0 : ¬ ((m : Nat) : Int) < 0 := by omega
  refine Rl_new (S1 := S2) ?_ (p1.trans ((pre_snoc ..).trans p2))
  generalize S1 ++ [Ob.lst [quoD os us]] = S1' at *
  simp [runF, Tx.t41, Tx.b41, ty_find, fd, m0, e1, e2]
theorem single {n r : Nat} {d : D} {S : Sto} (h : S[r]? = some (.lst [d])) (hp : pl d = true) (hd : dpt d < 19) : Rv (fn (n + 1) 50 [.ref r] S) S d := by
  rw [fn_s (fd := Tx.t50.fd) rfl]
  have en := eqD_nil h (by simp [plL, hp]) (by simp [dptL]; omega)
  have ix : ixD (S ++ [.lst []]) (.ref r) (.int 0) = some d := by rw [ixD_ref (pre_get (pre_snoc ..) h)]; simp
  refine ⟨S ++ [.lst []], ?_, pre_snoc ..⟩
  simp [runF, Tx.t50, Tx.b50, en, ix]
theorem read_number' {n : Nat} {k : Kq} {S : Sto} (hg : k.n4.good) : Rv (fn (n + 4) 51 [.str k.n4.L] S) S k.D := by
  rw [fn_s (fd := Tx.t51.fd) rfl]
  obtain ⟨r, S1, e1, p1, g1⟩ := number_in (n := n) (S := S) (w := k.n4.L) (by have := goodL_len hg; omega)
  rw [rdN_some.mpr ⟨rfl, hg⟩] at g1
  have e1' : fnN Tx.F Ex Tx.cs (n + 3) 39 [.str k.n4.L] S = _ := e1
  have hp := plL_ks [k]
  obtain ⟨S2, e2, p2⟩ := single (n := n + 2) (S := S1) (d := k.D) g1 rfl (by simp [Kq.D, frQ, Gr.fr, dpt, dptL])
  have e2' : fnN Tx.F Ex Tx.cs (n + 3) 50 [.ref r] S1 = _ := e2
  have ct : ∀ S, fnN Tx.F Ex Tx.cs (n + 3) 45 [.str k.n4.L] S = _ := fun S => check_text (n := n + 2)
  exact ⟨S2, by simp [runF, Tx.t51, Tx.b51, ct, e1', e2'], p1.trans p2⟩
theorem read_row {n : Nat} {ks : List Kq} {S : Sto} (hg : ∀ k ∈ ks, k.n4.good) (hl : ks.length ≤ 10) (hz : ks.getLast? ≠ some Kq.zero) : Rv (fn (n + 5) 52 [.str (rowL (ks.map Kq.n4))] S) S (.tup (ks.map Kq.D)) := by
  rw [fn_s (fd := Tx.t52.fd) rfl]
  obtain ⟨r, S1, e1, p1, g1⟩ := row_in (n := n) (S := S) hg hl hz
  have e1' : fnN Tx.F Ex Tx.cs (n + 4) 40 [.str (rowL (ks.map Kq.n4)), .str [32]] S = _ := e1
  have hp := plL_ks ks
  obtain ⟨S2, e2, p2⟩ := single (n := n + 3) (S := S1) g1 hp.1 (by show dptL (ks.map Kq.D) + 1 < 19; omega)
  have e2' : fnN Tx.F Ex Tx.cs (n + 4) 50 [.ref r] S1 = _ := e2
  have ct : ∀ S, fnN Tx.F Ex Tx.cs (n + 4) 45 [.str (rowL (ks.map Kq.n4))] S = _ := fun S => check_text (n := n + 3)
  exact ⟨S2, by simp [runF, Tx.t52, Tx.b52, ct, e1', e2'], p1.trans p2⟩
theorem read_quotient {n B b : Nat} {os us : List Kq} {S : Sto} (h : GoodQ os us B b) : Rv (fn (n + 9) 53 [.str (quoL (os.map Kq.n4) (us.map Kq.n4))] S) S (quoD os us) := by
  rw [fn_s (fd := Tx.t53.fd) rfl]
  obtain ⟨r, S1, e1, p1, g1⟩ := quote_in (n := n) (S := S) h
  have e1' : fnN Tx.F Ex Tx.cs (n + 8) 41 [.str (quoL (os.map Kq.n4) (us.map Kq.n4)), .str [32]] S = _ := e1
  have hp := plL_ks os
  have hp2 := plL_ks us
  obtain ⟨S2, e2, p2⟩ := single (n := n + 7) (S := S1) g1 (by simp [quoD, pl, plL, hp.1, hp2.1]) (by simp [quoD, dpt, dptL]; omega)
  have e2' : fnN Tx.F Ex Tx.cs (n + 8) 50 [.ref r] S1 = _ := e2
  have ct : ∀ S, fnN Tx.F Ex Tx.cs (n + 8) 45 [.str (quoL (os.map Kq.n4) (us.map Kq.n4))] S = _ := fun S => check_text (n := n + 7)
  exact ⟨S2, by simp [runF, Tx.t53, Tx.b53, ct, e1', e2'], p1.trans p2⟩
theorem number_text' {n : Nat} {k : Kq} {S : Sto} (hg : k.n4.good) : fn (n + 5) 46 [k.D] S = .ok (.str k.n4.L) S := by
  rw [fn_s (fd := Tx.t46.fd) rfl]
  have c : ∀ S, fnN Tx.F Ex Tx.cs (n + 4) 27 [k.D] S = .ok .non S := fun S => by
    show fn (n + 4) 27 [k.D] S = _
    rw [fn_s (fd := Tx.t27.fd) rfl]
    have e2 : ∀ S, fnN Tx.F Ex Tx.cs (n + 3) 2 [k.D] S = _ := fun S => is_num_k (n := n)
    simp [runF, Tx.t27, Tx.b27, e2]
  have w : ∀ S, fnN Tx.F Ex Tx.cs (n + 4) 30 [k.D] S = .ok (.str k.n4.L) S := fun S => number_written (n := n + 2) hg
  simp [runF, Tx.t46, Tx.b46, c, w]
theorem row_text {n : Nat} {ks : List Kq} {S : Sto} (hg : ∀ k ∈ ks, k.n4.good) (hl : ks.length ≤ 10) (hz : ks.getLast? ≠ some Kq.zero) : Rv (fn (n + 5) 47 [.tup (ks.map Kq.D)] S) S (.str (rowL (ks.map Kq.n4))) := by
  rw [fn_s (fd := Tx.t47.fd) rfl]
  obtain ⟨S1, e1, p1⟩ := is_a_row (n := n) (S := S) (by omega) hz
  have e1' : fnN Tx.F Ex Tx.cs (n + 4) 15 [.tup (ks.map Kq.D)] S = _ := e1
  obtain ⟨S2, e2, p2⟩ := row_written (n := n) (S := S1) (goods hg) (by simpa using hl)
  rw [n4_D] at e2
  have e2' : fnN Tx.F Ex Tx.cs (n + 4) 32 [.tup (ks.map Kq.D)] S1 = _ := e2
  exact ⟨S2, by simp [runF, Tx.t47, Tx.b47, e1', e2'], p1.trans p2⟩
theorem quotient_text {n B b : Nat} {os us : List Kq} {S : Sto} (h : GoodQ os us B b) : Rv (fn (n + 9) 48 [quoD os us] S) S (.str (quoL (os.map Kq.n4) (us.map Kq.n4))) := by
  rw [fn_s (fd := Tx.t48.fd) rfl]
  have hlo := h.lo
  have hlu := h.toOkQ.lu
  obtain ⟨S1, e1, p1⟩ := check_quote (n := n) (S := S) h.toOkQ
  have e1' : fnN Tx.F Ex Tx.cs (n + 8) 28 [quoD os us] S = _ := e1
  obtain ⟨S2, e2, p2⟩ := quote_written (n := n + 3) (S := S1) (goods h.go) (by simp; omega) (goods h.gu) (by simp; omega)
  rw [n4_D, n4_D] at e2
  have e2' : fnN Tx.F Ex Tx.cs (n + 8) 33 [quoD os us] S1 = _ := e2
  exact ⟨S2, by simp [runF, Tx.t48, Tx.b48, e1', e2'], p1.trans p2⟩
theorem law_quotient_text' {n B b : Nat} {os us : List Kq} {S : Sto} (h : GoodQ os us B b) : Rv (fn (n + 4) 72 [quoD os us] S) S (.str (quoL (os.map Kq.n4) (us.map Kq.n4))) := by
  have hlo := h.lo
  have hlu := h.toOkQ.lu
  have := law_quotient_text (n := n) (S := S) (goods h.go) (by simp; omega) (goods h.gu) (by simp; omega)
  rwa [n4_D, n4_D] at this
theorem law_row_text' {n : Nat} {ks : List Kq} {S : Sto} (hg : ∀ k ∈ ks, k.n4.good) (hl : ks.length ≤ 10) : Rv (fn (n + 3) 71 [.tup (ks.map Kq.D)] S) S (.str (rowL (ks.map Kq.n4))) := by
  have := law_row_text (n := n) (S := S) (goods hg) (by simpa using hl)
  rwa [n4_D] at this
theorem read_data' {n : Nat} {ps : List PR} {S : Sto} (h : OkD ps) (hl : (dataL ps).length ≤ 1000000) : Rv (fn (n + 7) 54 [.str (dataL ps)] S) S (.tup (ps.map pD)) := by
  have := read_data (n := n) (S := S) hl
  rwa [text_told h] at this
end Pl
end
section
set_option Elab.async false
set_option linter.all false
set_option maxRecDepth 100000
set_option maxHeartbeats 4000000
set_option autoImplicit false
set_option exponentiation.threshold 10000
/-! V11: the law's own numbers. -/
namespace Pl
open Ev Gr
structure T3 where
  a : Int
  b : Int
  d : Nat
  deriving DecidableEq
def T3.D (t : T3) : D := .tup [.int t.a, .int t.b, .int (t.d : Nat)]
def T3.val (t : T3) : Kq := ⟨mkRat t.a t.d, mkRat t.b t.d⟩
structure Nice (t : T3) (B : Nat) : Prop where
  pos : 0 < t.d
  ba : t.a.natAbs < 2 ^ B
  bb : t.b.natAbs < 2 ^ B
  bd : t.d < 2 ^ B
  nil : t.a = 0 → t.b = 0 → t.d = 1
theorem Nice.mono {t : T3} {B C : Nat} (h : Nice t B) (hC : B ≤ C) : Nice t C := ⟨h.pos, pow_mono h.ba hC, pow_mono h.bb hC, pow_mono h.bd hC, h.nil⟩
theorem Nice.zero {t : T3} {B : Nat} (h : Nice t B) : t.val = Kq.zero ↔ t = ⟨0, 0, 1⟩ := by
  constructor
  · intro e
    have e1 : mkRat t.a t.d = 0 := congrArg Kq.re e
    have e2 : mkRat t.b t.d = 0 := congrArg Kq.im e
    have hd : t.d ≠ 0 := by have := h.pos; omega
    rw [Rat.mkRat_eq_zero hd] at e1 e2
    have := h.nil e1 e2
    cases t
    simp_all
  · rintro rfl
    rfl
theorem T3.D_inj {s t : T3} (h : s.D = t.D) : s = t := by
  cases s; cases t
  simp only [T3.D, D.tup.injEq, List.cons.injEq, D.int.injEq, and_true] at h
  simp only [T3.mk.injEq]
  omega
def normT (a b : Int) (d : Nat) : T3 := ⟨a / (Nat.gcd (Nat.gcd a.natAbs b.natAbs) d : Nat), b / (Nat.gcd (Nat.gcd a.natAbs b.natAbs) d : Nat), d / Nat.gcd (Nat.gcd a.natAbs b.natAbs) d⟩
theorem mk_red {a : Int} {d g : Nat} (hg : 0 < g) (h1 : (g : Int) ∣ a) (h2 : g ∣ d) : mkRat (a / g) (d / g) = mkRat a d := by
  obtain ⟨x, rfl⟩ := h1
  obtain ⟨y, rfl⟩ := h2
  rw [Int.mul_ediv_cancel_left _ (by omega), Nat.mul_div_cancel_left _ hg, Rat.mkRat_mul_left (by omega)]
theorem norm_val (a b : Int) {d : Nat} (hd : 0 < d) : (normT a b d).val = ⟨mkRat a d, mkRat b d⟩ := by
  have hg : 0 < Nat.gcd (Nat.gcd a.natAbs b.natAbs) d := Nat.gcd_pos_of_pos_right _ hd
  have h0 := Nat.gcd_dvd_left (Nat.gcd a.natAbs b.natAbs) d
  have h1 : ((Nat.gcd (Nat.gcd a.natAbs b.natAbs) d : Nat) : Int) ∣ a := Int.ofNat_dvd_left.mpr (Nat.dvd_trans h0 (Nat.gcd_dvd_left ..))
  have h2 : ((Nat.gcd (Nat.gcd a.natAbs b.natAbs) d : Nat) : Int) ∣ b := Int.ofNat_dvd_left.mpr (Nat.dvd_trans h0 (Nat.gcd_dvd_right ..))
  have h3 := Nat.gcd_dvd_right (Nat.gcd a.natAbs b.natAbs) d
  show Kq.mk (mkRat (a / _) (d / _)) (mkRat (b / _) (d / _)) = _
  rw [mk_red hg h1 h3, mk_red hg h2 h3]
theorem div_b {a : Int} {g B : Nat} (h1 : (g : Int) ∣ a) (h : a.natAbs < 2 ^ B) : (a / g).natAbs < 2 ^ B := by
  rw [Int.natAbs_ediv_of_dvd h1, Int.natAbs_natCast]
  exact Nat.lt_of_le_of_lt (Nat.div_le_self ..) h
theorem norm_nice {a b : Int} {d B : Nat} (hd : 0 < d) (h1 : a.natAbs < 2 ^ B) (h2 : b.natAbs < 2 ^ B) (h3 : d < 2 ^ B) : Nice (normT a b d) B := by
  have hg : 0 < Nat.gcd (Nat.gcd a.natAbs b.natAbs) d := Nat.gcd_pos_of_pos_right _ hd
  have h0 := Nat.gcd_dvd_left (Nat.gcd a.natAbs b.natAbs) d
  have g1 : ((Nat.gcd (Nat.gcd a.natAbs b.natAbs) d : Nat) : Int) ∣ a := Int.ofNat_dvd_left.mpr (Nat.dvd_trans h0 (Nat.gcd_dvd_left ..))
  have g2 : ((Nat.gcd (Nat.gcd a.natAbs b.natAbs) d : Nat) : Int) ∣ b := Int.ofNat_dvd_left.mpr (Nat.dvd_trans h0 (Nat.gcd_dvd_right ..))
  have g3 := Nat.gcd_dvd_right (Nat.gcd a.natAbs b.natAbs) d
  refine ⟨Nat.div_pos (Nat.le_of_dvd hd g3) hg, div_b g1 h1, div_b g2 h2, Nat.lt_of_le_of_lt (Nat.div_le_self ..) h3, ?_⟩
  intro e1 e2
  have e1 : a / ((Nat.gcd (Nat.gcd a.natAbs b.natAbs) d : Nat) : Int) = 0 := e1
  have e2 : b / ((Nat.gcd (Nat.gcd a.natAbs b.natAbs) d : Nat) : Int) = 0 := e2
  have a0 : a = 0 := by rw [← Int.ediv_mul_cancel g1, e1]; simp
  have b0 : b = 0 := by rw [← Int.ediv_mul_cancel g2, e2]; simp
  subst a0 b0
  show d / Nat.gcd (Nat.gcd 0 0) d = 1
  simp [hd]
theorem abs_nat (i : Int) (S : Sto) : bi .abs [.int i] S = .ok (.int (i.natAbs : Nat)) S := by
  show R.ok (D.int (if i < 0 then -i else i)) S = _
  congr 2
  split <;> omega
theorem law_num {n : Nat} {a b : Int} {d : Nat} {S : Sto} (hd : 0 < d) : fn (n + 2) 59 [.int a, .int b, .int (d : Nat)] S = .ok (normT a b d).D S := by
  rw [fn_s (fd := Tx.t59.fd) rfl]
  have hg : 0 < Nat.gcd (Nat.gcd a.natAbs b.natAbs) d := Nat.gcd_pos_of_pos_right _ hd
  have w1 : ∀ S, fnN Tx.F Ex Tx.cs (n + 1) 58 [.int (a.natAbs : Nat), .int (b.natAbs : Nat)] S = .ok (.int (Nat.gcd a.natAbs b.natAbs : Nat)) S := fun S => near
  have w2 : ∀ S, fnN Tx.F Ex Tx.cs (n + 1) 58 [.int (Nat.gcd a.natAbs b.natAbs : Nat), .int (d : Nat)] S = .ok (.int (Nat.gcd (Nat.gcd a.natAbs b.natAbs) d : Nat)) S := fun S => near
  have f1 : ∀ (x : Int) S, binop .fdiv (.int x) (.int ((Nat.gcd (Nat.gcd a.natAbs b.natAbs) d : Nat) : Int)) S = .ok (.int (x / ((Nat.gcd (Nat.gcd a.natAbs b.natAbs) d : Nat) : Int))) S := fun x S => by
    rw [bop_fdiv S (by omega), Int.fdiv_eq_ediv_of_nonneg _ (by omega)]
  have G : ∀ S, ev (GG (n + 1)) (.ite (.cmp .gt (.var 2) (.cst (.int 1))) (.call 58 (.cons (.call 58 (.cons (.bi .abs (.cons (.var 0) .nil)) (.cons (.bi .abs (.cons (.var 1) .nil)) .nil))) (.cons (.var 2) .nil))) (.cst (.int 1))) [some (.int a), some (.int b), some (.int (d : Nat)), none] S = .ok (.int (Nat.gcd (Nat.gcd a.natAbs b.natAbs) d : Nat)) S := by
    intro S
    by_cases h : 1 < d
    · have h' : (1 : Int) < (d : Nat) := by omega
      simp [h, h', abs_nat, w1, w2]
    · have h' : ¬ (1 : Int) < (d : Nat) := by omega
      have : d = 1 := by omega
      simp [h, h', this]
  show runF (GG (n + 1)) Ex Tx.t59.fd _ _ = .ok (.tup [.int (a / _), .int (b / _), .int ((d / _ : Nat) : Int)]) S
  rw [Int.natCast_ediv]
  generalize (Nat.gcd (Nat.gcd a.natAbs b.natAbs) d) = g at *
  generalize hX : E.ite (.cmp .gt (.var 2) (.cst (.int 1))) (.call 58 (.cons (.call 58 (.cons (.bi .abs (.cons (.var 0) .nil)) (.cons (.bi .abs (.cons (.var 1) .nil)) .nil))) (.cons (.var 2) .nil))) (.cst (.int 1)) = X at *
  have bd : Tx.b59 = .cons (.asg (.nm 3) X) (.cons (.ret (.tup (.cons (.bin .fdiv (.var 0) (.var 3)) (.cons (.bin .fdiv (.var 1) (.var 3)) (.cons (.bin .fdiv (.var 2) (.var 3)) .nil))))) .nil) := by rw [← hX]; rfl
  simp [runF, Tx.t59, bd, G, f1]
theorem mkq (a : Int) (d : Nat) : mkRat a d = (a : Rat) * (d : Rat)⁻¹ := by rw [Rat.mkRat_eq_div, Rat.div_def]
theorem nz {d : Nat} (h : 0 < d) : (d : Rat) ≠ 0 := by
  intro e
  have : ((d : Nat) : Rat) = ((0 : Nat) : Rat) := e
  have := Rat.natCast_inj.mp this
  omega
theorem law_add {n B C : Nat} {x y : T3} {S : Sto} (hx : Nice x B) (hy : Nice y C) (hs : B + C ≤ 80000000) : ∃ t : T3, fn (n + 3) 60 [x.D, y.D] S = .ok t.D S ∧ t.val = x.val.add y.val ∧ Nice t (B + C + 1) := by
  have hd : 0 < x.d * y.d := Nat.mul_pos hx.pos hy.pos
  refine ⟨normT (x.a * y.d + y.a * x.d) (x.b * y.d + y.b * x.d) (x.d * y.d), ?_, ?_, ?_⟩
  · rw [fn_s (fd := Tx.t60.fd) rfl]
    have m1 : ∀ S, binop .mul (.int x.a) (.int (y.d : Nat)) S = _ := fun S => mulB S hx.ba (ib_nat hy.bd) (by omega)
    have m2 : ∀ S, binop .mul (.int y.a) (.int (x.d : Nat)) S = _ := fun S => mulB S hy.ba (ib_nat hx.bd) (by omega)
    have m3 : ∀ S, binop .mul (.int x.b) (.int (y.d : Nat)) S = _ := fun S => mulB S hx.bb (ib_nat hy.bd) (by omega)
    have m4 : ∀ S, binop .mul (.int y.b) (.int (x.d : Nat)) S = _ := fun S => mulB S hy.bb (ib_nat hx.bd) (by omega)
    have m5 : ∀ S, binop .mul (.int (x.d : Nat)) (.int (y.d : Nat)) S = _ := fun S => mulB S (ib_nat hx.bd) (ib_nat hy.bd) (by omega)
    have f : ∀ S, fnN Tx.F Ex Tx.cs (n + 2) 59 [.int (x.a * y.d + y.a * x.d), .int (x.b * y.d + y.b * x.d), .int ((x.d : Int) * (y.d : Int))] S = .ok (normT (x.a * y.d + y.a * x.d) (x.b * y.d + y.b * x.d) (x.d * y.d)).D S := fun S => by
      have := law_num (n := n) (a := x.a * y.d + y.a * x.d) (b := x.b * y.d + y.b * x.d) (S := S) hd
      rw [Int.natCast_mul] at this
      exact this
    have i2 : ∀ a b c : D, L2.atI [a, b, c] 2 = some c := fun _ _ _ => rfl
    generalize hN : (normT (x.a * y.d + y.a * x.d) (x.b * y.d + y.b * x.d) (x.d * y.d)).D = N at *
    simp [runF, Tx.t60, Tx.b60, T3.D, i2, m1, m2, m3, m4, m5, f]
  · rw [norm_val _ _ hd]
    have := nz hx.pos
    have := nz hy.pos
    apply kext
    · simp only [T3.val, Kq.add, mkq]
      push_cast
      grind
    · simp only [T3.val, Kq.add, mkq]
      push_cast
      grind
  · refine norm_nice hd ?_ ?_ (pow_mono (nb_mul hx.bd hy.bd) (by omega))
    · refine ib_add (ib_mul hx.ba (ib_nat hy.bd)) ?_
      rw [Nat.add_comm]
      exact ib_mul hy.ba (ib_nat hx.bd)
    · refine ib_add (ib_mul hx.bb (ib_nat hy.bd)) ?_
      rw [Nat.add_comm]
      exact ib_mul hy.bb (ib_nat hx.bd)
end Pl
end
section
set_option Elab.async false
set_option linter.all false
set_option maxRecDepth 100000
set_option maxHeartbeats 4000000
set_option autoImplicit false
set_option exponentiation.threshold 10000
/-! V12: the law's own numbers, more of them. -/
namespace Pl
open Ev Gr
theorem at2 (a b c : D) : L2.atI [a, b, c] 2 = some c := rfl
theorem law_sub {n B C : Nat} {x y : T3} {S : Sto} (hx : Nice x B) (hy : Nice y C) (hs : B + C ≤ 80000000) : ∃ t : T3, fn (n + 3) 61 [x.D, y.D] S = .ok t.D S ∧ t.val = x.val.sub y.val ∧ Nice t (B + C + 1) := by
  have hd : 0 < x.d * y.d := Nat.mul_pos hx.pos hy.pos
  refine ⟨normT (x.a * y.d - y.a * x.d) (x.b * y.d - y.b * x.d) (x.d * y.d), ?_, ?_, ?_⟩
  · rw [fn_s (fd := Tx.t61.fd) rfl]
    have m1 : ∀ S, binop .mul (.int x.a) (.int (y.d : Nat)) S = _ := fun S => mulB S hx.ba (ib_nat hy.bd) (by omega)
    have m2 : ∀ S, binop .mul (.int y.a) (.int (x.d : Nat)) S = _ := fun S => mulB S hy.ba (ib_nat hx.bd) (by omega)
    have m3 : ∀ S, binop .mul (.int x.b) (.int (y.d : Nat)) S = _ := fun S => mulB S hx.bb (ib_nat hy.bd) (by omega)
    have m4 : ∀ S, binop .mul (.int y.b) (.int (x.d : Nat)) S = _ := fun S => mulB S hy.bb (ib_nat hx.bd) (by omega)
    have m5 : ∀ S, binop .mul (.int (x.d : Nat)) (.int (y.d : Nat)) S = _ := fun S => mulB S (ib_nat hx.bd) (ib_nat hy.bd) (by omega)
    have f : ∀ S, fnN Tx.F Ex Tx.cs (n + 2) 59 [.int (x.a * y.d - y.a * x.d), .int (x.b * y.d - y.b * x.d), .int ((x.d : Int) * (y.d : Int))] S = .ok (normT (x.a * y.d - y.a * x.d) (x.b * y.d - y.b * x.d) (x.d * y.d)).D S := fun S => by
      have := law_num (n := n) (a := x.a * y.d - y.a * x.d) (b := x.b * y.d - y.b * x.d) (S := S) hd
      rw [Int.natCast_mul] at this
      exact this
    generalize hN : (normT (x.a * y.d - y.a * x.d) (x.b * y.d - y.b * x.d) (x.d * y.d)).D = N at *
    simp [runF, Tx.t61, Tx.b61, T3.D, at2, m1, m2, m3, m4, m5, f]
  · rw [norm_val _ _ hd]
    have := nz hx.pos
    have := nz hy.pos
    apply kext
    · simp only [T3.val, Kq.sub, mkq]
      push_cast
      grind
    · simp only [T3.val, Kq.sub, mkq]
      push_cast
      grind
  · refine norm_nice hd ?_ ?_ (pow_mono (nb_mul hx.bd hy.bd) (by omega))
    · refine ib_sub (ib_mul hx.ba (ib_nat hy.bd)) ?_
      rw [Nat.add_comm]
      exact ib_mul hy.ba (ib_nat hx.bd)
    · refine ib_sub (ib_mul hx.bb (ib_nat hy.bd)) ?_
      rw [Nat.add_comm]
      exact ib_mul hy.bb (ib_nat hx.bd)
theorem law_mul {n B C : Nat} {x y : T3} {S : Sto} (hx : Nice x B) (hy : Nice y C) (hs : B + C ≤ 80000000) : ∃ t : T3, fn (n + 3) 62 [x.D, y.D] S = .ok t.D S ∧ t.val = x.val.mul y.val ∧ Nice t (B + C + 1) := by
  have hd : 0 < x.d * y.d := Nat.mul_pos hx.pos hy.pos
  refine ⟨normT (x.a * y.a - x.b * y.b) (x.a * y.b + x.b * y.a) (x.d * y.d), ?_, ?_, ?_⟩
  · rw [fn_s (fd := Tx.t62.fd) rfl]
    have m1 : ∀ S, binop .mul (.int x.a) (.int y.a) S = _ := fun S => mulB S hx.ba hy.ba (by omega)
    have m2 : ∀ S, binop .mul (.int x.b) (.int y.b) S = _ := fun S => mulB S hx.bb hy.bb (by omega)
    have m3 : ∀ S, binop .mul (.int x.a) (.int y.b) S = _ := fun S => mulB S hx.ba hy.bb (by omega)
    have m4 : ∀ S, binop .mul (.int x.b) (.int y.a) S = _ := fun S => mulB S hx.bb hy.ba (by omega)
    have m5 : ∀ S, binop .mul (.int (x.d : Nat)) (.int (y.d : Nat)) S = _ := fun S => mulB S (ib_nat hx.bd) (ib_nat hy.bd) (by omega)
    have f : ∀ S, fnN Tx.F Ex Tx.cs (n + 2) 59 [.int (x.a * y.a - x.b * y.b), .int (x.a * y.b + x.b * y.a), .int ((x.d : Int) * (y.d : Int))] S = .ok (normT (x.a * y.a - x.b * y.b) (x.a * y.b + x.b * y.a) (x.d * y.d)).D S := fun S => by
      have := law_num (n := n) (a := x.a * y.a - x.b * y.b) (b := x.a * y.b + x.b * y.a) (S := S) hd
      rw [Int.natCast_mul] at this
      exact this
    generalize hN : (normT (x.a * y.a - x.b * y.b) (x.a * y.b + x.b * y.a) (x.d * y.d)).D = N at *
    simp [runF, Tx.t62, Tx.b62, T3.D, at2, m1, m2, m3, m4, m5, f]
  · rw [norm_val _ _ hd]
    have := nz hx.pos
    have := nz hy.pos
    apply kext
    · simp only [T3.val, Kq.mul, mkq]
      push_cast
      grind
    · simp only [T3.val, Kq.mul, mkq]
      push_cast
      grind
  · exact norm_nice hd (ib_sub (ib_mul hx.ba hy.ba) (ib_mul hx.bb hy.bb)) (ib_add (ib_mul hx.ba hy.bb) (ib_mul hx.bb hy.ba)) (pow_mono (nb_mul hx.bd hy.bd) (by omega))
def T1 : T3 := ⟨1, 0, 1⟩
def T0 : T3 := ⟨0, 0, 1⟩
theorem nice1 : Nice T1 1 := ⟨by decide, by decide, by decide, by decide, fun _ _ => rfl⟩
theorem nice0 : Nice T0 1 := ⟨by decide, by decide, by decide, by decide, fun _ _ => rfl⟩
theorem val1 : T1.val = Kq.one := by decide
theorem val0 : T0.val = Kq.zero := by decide
theorem inv_of {x y : Kq} (h : x.mul y = Kq.one) : x = y.inv := by
  have hy : y ≠ Kq.zero := by
    intro e
    rw [e, mul_zero'] at h
    exact one_ne h.symm
  have := inv_mul hy
  calc x = x.mul (y.inv.mul y) := by rw [this, mul_one']
    _ = y.inv := by rw [mul_comm' y.inv y, ← mul_assoc', h, one_mul']
theorem law_over1 {n C : Nat} {y : T3} {S : Sto} (hy : Nice y C) (h0 : y.val ≠ Kq.zero) (hs : C ≤ 8000000) : ∃ t : T3, fn (n + 3) 63 [T1.D, y.D] S = .ok t.D S ∧ t.val = y.val.inv ∧ Nice t (2 * C + 1) := by
  have hne : ¬ (y.a = 0 ∧ y.b = 0) := by
    rintro ⟨e1, e2⟩
    apply h0
    show Kq.mk (mkRat y.a y.d) (mkRat y.b y.d) = _
    rw [e1, e2]
    simp [Kq.zero]
  have sq : ∀ i : Int, i ≠ 0 → 0 < i * i := fun i hi => by
    rcases Int.lt_or_gt_of_ne hi with h | h
    · exact Int.mul_pos_of_neg_of_neg h h
    · exact Int.mul_pos h h
  have sq0 : ∀ i : Int, 0 ≤ i * i := fun i => by
    by_cases hi : i = 0
    · rw [hi]; decide
    · exact Int.le_of_lt (sq i hi)
  have hp : 0 < y.a * y.a + y.b * y.b := by
    have h1 := sq0 y.a
    have h2 := sq0 y.b
    by_cases ha : y.a = 0
    · by_cases hb : y.b = 0
      · exact absurd ⟨ha, hb⟩ hne
      · have := sq y.b hb; omega
    · have := sq y.a ha; omega
  obtain ⟨m, hm⟩ := Int.eq_ofNat_of_zero_le (Int.le_of_lt hp)
  have hm0 : 0 < m := by omega
  have bm : m < 2 ^ (2 * C + 1) := by
    have := ib_add (ib_mul hy.ba hy.ba) (ib_mul hy.bb hy.bb)
    rw [hm, Int.natAbs_natCast, show C + C + 1 = 2 * C + 1 by omega] at this
    exact this
  refine ⟨normT (y.a * y.d) (-y.b * y.d) m, ?_, ?_, ?_⟩
  · rw [fn_s (fd := Tx.t63.fd) rfl]
    have o1 : (1 : Int).natAbs < 2 ^ 1 := by decide
    have o0 : (0 : Int).natAbs < 2 ^ 1 := by decide
    have m1 : ∀ S, binop .mul (.int 1) (.int y.a) S = .ok (.int y.a) S := fun S => by rw [mulB S o1 hy.ba (by omega), Int.one_mul]
    have m2 : ∀ S, binop .mul (.int 0) (.int y.b) S = .ok (.int 0) S := fun S => by rw [mulB S o0 hy.bb (by omega), Int.zero_mul]
    have m3 : ∀ S, binop .mul (.int 0) (.int y.a) S = .ok (.int 0) S := fun S => by rw [mulB S o0 hy.ba (by omega), Int.zero_mul]
    have m4 : ∀ S, binop .mul (.int 1) (.int y.b) S = .ok (.int y.b) S := fun S => by rw [mulB S o1 hy.bb (by omega), Int.one_mul]
    have m5 : ∀ S, binop .mul (.int y.a) (.int (y.d : Nat)) S = _ := fun S => mulB S hy.ba (ib_nat hy.bd) (by omega)
    have m6 : ∀ S, binop .mul (.int (-y.b)) (.int (y.d : Nat)) S = _ := fun S => mulB S (by rw [Int.natAbs_neg]; exact hy.bb) (ib_nat hy.bd) (by omega)
    have m7 : ∀ S, binop .mul (.int y.a) (.int y.a) S = _ := fun S => mulB S hy.ba hy.ba (by omega)
    have m8 : ∀ S, binop .mul (.int y.b) (.int y.b) S = _ := fun S => mulB S hy.bb hy.bb (by omega)
    have m9 : ∀ S, binop .mul (.int 1) (.int (m : Nat)) S = .ok (.int (m : Nat)) S := fun S => by rw [mulB S o1 (ib_nat bm) (by omega), Int.one_mul]
    have f : ∀ S, fnN Tx.F Ex Tx.cs (n + 2) 59 [.int (y.a * y.d), .int (-y.b * y.d), .int (m : Nat)] S = .ok (normT (y.a * y.d) (-y.b * y.d) m).D S := fun S => law_num (n := n) hm0
    generalize hN : (normT (y.a * y.d) (-y.b * y.d) m).D = N at *
    simp [runF, Tx.t63, Tx.b63, T3.D, T1, at2, m1, m2, m3, m4, m5, m6, m7, m8, hm, m9, f]
  · rw [norm_val _ _ hm0]
    apply inv_of
    have e1 := nz hy.pos
    have e2 := nz hm0
    have e3 : (m : Rat) = (y.a : Rat) * y.a + (y.b : Rat) * y.b := by
      have : ((m : Int) : Rat) = ((y.a * y.a + y.b * y.b : Int) : Rat) := by rw [hm]
      push_cast at this
      exact this
    apply kext
    · simp only [T3.val, Kq.mul, Kq.one, mkq]
      push_cast
      rw [show (m : Rat)⁻¹ = ((y.a : Rat) * y.a + (y.b : Rat) * y.b)⁻¹ by rw [e3]]
      rw [e3] at e2
      grind
    · simp only [T3.val, Kq.mul, Kq.one, mkq]
      push_cast
      grind
  · refine norm_nice hm0 ?_ ?_ bm
    · exact ib_mono (ib_mul hy.ba (ib_nat hy.bd)) (by omega)
    · exact ib_mono (ib_mul (by rw [Int.natAbs_neg]; exact hy.bb) (ib_nat hy.bd)) (by omega)
def tIn (k : Kq) : T3 := normT (k.re.num * k.im.den) (k.im.num * k.re.den) (k.re.den * k.im.den)
theorem law_in {n B : Nat} {k : Kq} (h : kb k B) (hs : B ≤ 8000000) : (∀ S, fn (n + 3) 78 [k.D] S = .ok (tIn k).D S) ∧ (tIn k).val = k ∧ Nice (tIn k) (2 * B) := by
  have p1 := k.re.den_pos
  have p2 := k.im.den_pos
  have hd : 0 < k.re.den * k.im.den := Nat.mul_pos p1 p2
  unfold tIn
  refine ⟨fun S => ?_, ?_, ?_⟩
  · rw [fn_s (fd := Tx.t78.fd) rfl]
    have m1 : ∀ S, binop .mul (.int k.re.num) (.int (k.im.den : Nat)) S = _ := fun S => mulB S h.1.1 (ib_nat h.2.2) (by omega)
    have m2 : ∀ S, binop .mul (.int k.im.num) (.int (k.re.den : Nat)) S = _ := fun S => mulB S h.2.1 (ib_nat h.1.2) (by omega)
    have m3 : ∀ S, binop .mul (.int (k.re.den : Nat)) (.int (k.im.den : Nat)) S = _ := fun S => mulB S (ib_nat h.1.2) (ib_nat h.2.2) (by omega)
    have f : ∀ S, fnN Tx.F Ex Tx.cs (n + 2) 59 [.int (k.re.num * k.im.den), .int (k.im.num * k.re.den), .int ((k.re.den : Int) * (k.im.den : Int))] S = .ok (normT (k.re.num * k.im.den) (k.im.num * k.re.den) (k.re.den * k.im.den)).D S := fun S => by
      have := law_num (n := n) (a := k.re.num * k.im.den) (b := k.im.num * k.re.den) (S := S) hd
      rw [Int.natCast_mul] at this
      exact this
    generalize hN : (normT (k.re.num * k.im.den) (k.im.num * k.re.den) (k.re.den * k.im.den)).D = N at *
    simp [runF, Tx.t78, Tx.b78, Kq.D, frQ, Gr.fr, m1, m2, m3, f]
  · rw [norm_val _ _ hd]
    apply kext
    · show mkRat (k.re.num * k.im.den) (k.re.den * k.im.den) = k.re
      rw [Rat.mkRat_mul_right (by omega), Rat.mkRat_self]
    · show mkRat (k.im.num * k.re.den) (k.re.den * k.im.den) = k.im
      rw [Nat.mul_comm, Rat.mkRat_mul_right (by omega), Rat.mkRat_self]
  · refine norm_nice hd ?_ ?_ (pow_mono (nb_mul h.1.2 h.2.2) (by omega))
    · exact ib_mono (ib_mul h.1.1 (ib_nat h.2.2)) (by omega)
    · exact ib_mono (ib_mul h.2.1 (ib_nat h.1.2)) (by omega)
theorem part_q {n : Nat} {p : Int} {q : Nat} {S : Sto} (hq : 0 < q) (hs : q < 2 ^ 8000) : fn (n + 2) 64 [.int p, .int (q : Nat)] S = .ok (frQ (mkRat p q)) S := by
  rw [part hq hs]
  exact congrArg (fun d => R.ok d S) (frQ_mk (p := p) (m := q) (by omega))
theorem law_out {n B : Nat} {t : T3} {S : Sto} (h : Nice t B) (hs : B ≤ 8000) : fn (n + 3) 65 [t.D] S = .ok t.val.D S := by
  rw [fn_s (fd := Tx.t65.fd) rfl]
  have bd := pow_mono h.bd hs
  have e1 : ∀ S, fnN Tx.F Ex Tx.cs (n + 2) 64 [.int t.a, .int (t.d : Nat)] S = .ok (frQ (mkRat t.a t.d)) S := fun S => part_q h.pos bd
  have e2 : ∀ S, fnN Tx.F Ex Tx.cs (n + 2) 64 [.int t.b, .int (t.d : Nat)] S = .ok (frQ (mkRat t.b t.d)) S := fun S => part_q h.pos bd
  simp [runF, Tx.t65, Tx.b65, T3.D, at2, e1, e2, Kq.D, T3.val]
theorem law_outs {n B r : Nat} {ts : List T3} {S : Sto} (h : ∀ t ∈ ts, Nice t B) (hs : B ≤ 8000) (hl : ts.length ≤ 1000) (hr : S[r]? = some (.lst (ts.map T3.D))) : Rv (fn (n + 4) 66 [.ref r] S) S (.tup ((ts.map T3.val).map Kq.D)) := by
  rw [fn_s (fd := Tx.t66.fd) rfl]
  obtain ⟨S1, lc, hp⟩ := ev_lcf (G := GG (n + 3)) (en := [some (.ref r), none]) (S := S) (S1 := S) (own := [("each", 1)]) (elt := .call 65 (.cons (.var 1) .nil)) (p := .nm 1) (it := .seq (.var 0)) (f := T3.D) (k := fun t => t.val.D) (zs := ts) (live := [(r, ts.map T3.D)]) (fun a b h => T3.D_inj h)
    (by simp only [evi_seq, ev_var]; simp [srcSeq, lstOf, hr]) (fun S' h' => pre_ok h' (ok_one hr)) (by omega) (by
      intro t ht S' hS
      have e : ∀ S, fnN Tx.F Ex Tx.cs (n + 3) 65 [t.D] S = _ := fun S => law_out (n := n) (h t ht) hs
      exact ⟨[some (.ref r), some t.D], S', rfl, by simp [e], List.prefix_rfl⟩)
  have lm : ts.map (fun t => t.val.D) = (ts.map T3.val).map Kq.D := by rw [List.map_map]; rfl
  rw [lm] at lc
  have tr := tuple_ref (last_get S1 (.lst ((ts.map T3.val).map Kq.D)))
  refine ⟨S1 ++ [.lst ((ts.map T3.val).map Kq.D)], ?_, hp.trans (pre_snoc ..)⟩
  generalize S1 ++ [Ob.lst ((ts.map T3.val).map Kq.D)] = S2 at *
  simp [runF, Tx.t66, Tx.b66, lc, tr]
end Pl
end
section
set_option Elab.async false
set_option linter.all false
set_option maxRecDepth 100000
set_option maxHeartbeats 4000000
set_option autoImplicit false
set_option exponentiation.threshold 10000
/-! V13: the law's value of a row at a number. -/
namespace Pl
open Ev Gr
theorem ev_rev {G : Gm} {en : En} {S S1 : Sto} {a : E} {r : Nat} {xs : List D} (h : ev G a en S = .ok (.ref r) S1) (hr : S1[r]? = some (.lst xs)) : ev G (.rev a) en S = .ok (.ref S1.length) (S1 ++ [.lst xs.reverse]) := by
  rw [ev, h, R.bind_ok, lstOf_ref hr]
def hor (x : Kq) (acc : Kq) (l : List Kq) : Kq := l.foldl (fun a c => (a.mul x).add c) acc
theorem hor_ev (x : Kq) : ∀ l : List Kq, hor x Kq.zero l.reverse = ev1 l x
  | [] => rfl
  | c :: r => by
    have ih := hor_ev x r
    unfold hor at *
    rw [List.reverse_cons, List.foldl_append, ih]
    simp only [List.foldl_cons, List.foldl_nil, ev1]
    apply kext
    · simp only [Kq.add, Kq.mul]; grind
    · simp only [Kq.add, Kq.mul]; grind
theorem at_loop {n q h s E : Nat} {items : List D} {spot : T3} {o0 o2 o3 o4 o5 : Option D} (hsp : Nice spot s) (hq : q ≠ h) (big : s + E ≤ 10000) :
    ∀ (l : List T3) (acc : T3) (hs : List T3) (B : Nat) (o8 : Option D) (S : Sto), S[q]? = some (.lst items) → S[h]? = some (.lst (hs.map T3.D)) → Nice acc B → (∀ t ∈ l, Nice t E) → hs.length + l.length ≤ 1000 → B ≤ 1000000 → B + l.length * (s + E + 2) ≤ 1000000 →
      ∃ p8 acc' hs' S', forL ⟨items, [(q, items)]⟩ (lpF (GG (n + 4)) Ex (.nm 8) (.cons (.asg (.nm 6) (.call 60 (.cons (.call 62 (.cons (.var 6) (.cons (.var 1) .nil))) (.cons (.var 8) .nil)))) (.cons (.exp (.mt .append (.var 7) (.cons (.var 6) .nil))) .nil))) (l.map T3.D) [o0, some spot.D, o2, o3, o4, o5, some acc.D, some (.ref h), o8] S = .nx [o0, some spot.D, o2, o3, o4, o5, some (T3.D acc'), some (.ref h), p8] S' ∧
        acc'.val = hor spot.val acc.val (l.map T3.val) ∧ Nice acc' (B + l.length * (s + E + 2)) ∧ S'[h]? = some (.lst (List.map T3.D hs')) ∧ Fr (· = h) S S' := by
  intro l
  induction l with
  | nil =>
    intro acc hs B o8 S h1 h2 ha _ _ _ _
    exact ⟨o8, acc, hs, S, forL_nil (ok_one h1), rfl, by simpa using ha, h2, Fr.rfl'⟩
  | cons t l ih =>
    intro acc hs B o8 S h1 h2 ha hl hn hB hB2
    rw [List.length_cons] at hn hB2
    have e1 : (l.length + 1) * (s + E + 2) = l.length * (s + E + 2) + (s + E + 2) := by rw [Nat.succ_mul]
    rw [e1] at hB2
    have e2 : B + (s + E + 2) ≤ 1000000 := by omega
    obtain ⟨m, em, vm, nm⟩ := law_mul (n := n + 1) (S := S) ha hsp (by omega)
    obtain ⟨a, ea, va, na⟩ := law_add (n := n + 1) (S := S) nm (hl t (by simp)) (by omega)
    have em' : fnN Tx.F Ex Tx.cs (n + 4) 62 [acc.D, spot.D] S = _ := em
    have ea' : fnN Tx.F Ex Tx.cs (n + 4) 60 [m.D, t.D] S = _ := ea
    have na' : Nice a (B + (s + E + 2)) := na.mono (by omega)
    have ap := mt_append h2 (by simp; omega) a.D
    have ty := ty_append h2
    have al : hs.map T3.D ++ [a.D] = (hs ++ [a]).map T3.D := by simp
    rw [al] at ap
    have h1' : (S.set h (.lst ((hs ++ [a]).map T3.D)))[q]? = some (.lst items) := by rw [List.getElem?_set_ne (fun e => hq e.symm)]; exact h1
    obtain ⟨p8, acc', hs', S', e, v, nn, g, f⟩ := ih a (hs ++ [a]) (B + (s + E + 2)) (some t.D) _ h1' (set_get h2) na' (fun x hx => hl x (List.mem_cons_of_mem _ hx)) (by simp; omega) e2 (by omega)
    refine ⟨p8, acc', hs', S', ?_, ?_, by rw [List.length_cons, e1]; exact nn.mono (by omega), g, (Fr.set (P := (· = h)) rfl).tr f⟩
    · rw [List.map_cons]
      simp only [forL_cons (ok_one h1)]
      rw [← e]
      simp [em', ea', ap, ty]
    · rw [v, va, vm]
      rfl
theorem law_at {n r s E : Nat} {ts : List T3} {spot : T3} {S : Sto} (hr : S[r]? = some (.lst (ts.map T3.D))) (hsp : Nice spot s) (ht : ∀ t ∈ ts, Nice t E) (hl : ts.length ≤ 10) (big : s + E ≤ 10000) :
    ∃ (k : Nat) (t : T3) (S' : Sto), fn (n + 5) 68 [.ref r, spot.D, .int 1] S = .ok (.ref k) S' ∧ S'[k]? = some (.lst [t.D]) ∧ t.val = ev1 (ts.map T3.val) spot.val ∧ (∃ B, Nice t B) ∧ S <+: S' := by
  rw [fn_s (fd := Tx.t68.fd) rfl]
  obtain ⟨S1, hS1⟩ : ∃ S1 : Sto, S1 = S ++ [.lst []] := ⟨_, rfl⟩
  obtain ⟨S2, hS2⟩ : ∃ S2 : Sto, S2 = S1 ++ [.lst []] := ⟨_, rfl⟩
  obtain ⟨S3, hS3⟩ : ∃ S3 : Sto, S3 = S2 ++ [.lst (ts.map T3.D).reverse] := ⟨_, rfl⟩
  have l1 : S1.length = S.length + 1 := by rw [hS1]; simp
  have l2 : S2.length = S.length + 2 := by rw [hS2]; simp [l1]
  have l3 : S3.length = S.length + 3 := by rw [hS3]; simp [l2]
  have rl := get_lt hr
  have p1 : S <+: S1 := by rw [hS1]; exact pre_snoc ..
  have p2 : S1 <+: S2 := by rw [hS2]; exact pre_snoc ..
  have p3 : S2 <+: S3 := by rw [hS3]; exact pre_snoc ..
  have g1 : S1[S.length]? = some (.lst []) := by rw [hS1]; exact last_get ..
  have g2 : S2[S.length + 1]? = some (.lst (([] : List T3).map T3.D)) := by rw [hS2, ← l1]; exact last_get ..
  have g3 : S3[S.length + 2]? = some (.lst (ts.map T3.D).reverse) := by rw [hS3, ← l2]; exact last_get ..
  have r2 : S2[r]? = some (.lst (ts.map T3.D)) := pre_get (p1.trans p2) hr
  have len : 1 + ts.reverse.length * (s + E + 2) ≤ 1000000 := by
    rw [List.length_reverse]
    have : ts.length * (s + E + 2) ≤ 10 * (s + E + 2) := Nat.mul_le_mul_right _ hl
    omega
  obtain ⟨p8, acc, hs, S4, e, v, nn, g4, f4⟩ := at_loop (n := n) (q := S.length + 2) (h := S.length + 1) (E := E) (items := (ts.map T3.D).reverse) (o0 := some (.ref r)) (o2 := some (.int 1)) (o3 := some (.ref S.length)) (o4 := some (.ref r)) (o5 := some (.int 0)) hsp (by omega) big ts.reverse T0 [] 1 none S3 g3 (pre_get p3 g2) nice0 (fun t h => ht t (List.mem_reverse.mp h)) (by simp; omega) (by omega) len
  rw [List.map_reverse] at e v
  rw [val0, hor_ev] at v
  have rv := ev_rev (G := GG (n + 4)) (en := [some (.ref r), some spot.D, some (.int 1), some (.ref S.length), some (.ref r), some (.int 0), some T0.D, some (.ref (S.length + 1)), none]) (a := .var 4) (S := S2) (S1 := S2) (by simp) r2
  have f0 : S4[S.length]? = some (.lst []) := f4 _ _ (by omega) (pre_get (p2.trans p3) g1)
  have ap := mt_append f0 (by simp) acc.D
  have ty := ty_append f0
  obtain ⟨S5, hS5⟩ : ∃ S5 : Sto, S5 = S4.set S.length (.lst [acc.D]) := ⟨_, rfl⟩
  have g5 : S5[S.length + 1]? = some (.lst (hs.map T3.D)) := by rw [hS5, List.getElem?_set_ne (by omega)]; exact g4
  have g6 : S5[S.length]? = some (.lst [acc.D]) := by rw [hS5]; exact set_get f0
  have sl := slD_ref g5 none (some (-1))
  obtain ⟨S6, hS6⟩ : ∃ S6 : Sto, S6 = S5 ++ [.lst (cut (hs.map T3.D) none (some (-1)))] := ⟨_, rfl⟩
  have g7 : S6[S5.length]? = some (.lst (cut (hs.map T3.D) none (some (-1)))) := by rw [hS6]; exact last_get ..
  have rv2 := ev_rev (G := GG (n + 4)) (en := [some (.ref r), some spot.D, some (.int 1), some (.ref S.length), some (.ref r), some (.int 0), some acc.D, some (.ref (S.length + 1)), p8]) (a := .sl (.var 7) .none (.some (.neg (.cst (.int 1))))) (S := S5) (S1 := S6) (by rw [hS6]; simp [sl]) g7
  obtain ⟨S7, hS7⟩ : ∃ S7 : Sto, S7 = S6 ++ [.lst (cut (hs.map T3.D) none (some (-1))).reverse] := ⟨_, rfl⟩
  have p7 : S5 <+: S7 := by rw [hS7, hS6]; exact (pre_snoc ..).trans (pre_snoc ..)
  have pre : S <+: S5 := by
    rw [hS5]
    refine Fr.pre (((Fr.of_pre (p1.trans (p2.trans p3))).tr (f4.mono (Q := fun x => x = S.length ∨ x = S.length + 1) (fun _ h => Or.inr h))).tr (Fr.set (P := fun x => x = S.length ∨ x = S.length + 1) (Or.inl rfl)) |>.new ?_)
    intro x hx hl
    rcases hx with e | e <;> omega
  refine ⟨S.length, acc, S7, ?_, pre_get p7 g6, v, ⟨_, nn⟩, pre.trans p7⟩
  rw [← hS3] at rv
  rw [← hS7] at rv2
  rw [l2] at rv
  have ef := exec_for (GG (n + 4)) [some (.ref r), some spot.D, some (.int 1), some (.ref S.length), some (.ref r), some (.int 0), some T0.D, some (.ref (S.length + 1)), none] S2 Ex (.nm 8) (.seq (.rev (.var 4))) (.cons (.asg (.nm 6) (.call 60 (.cons (.call 62 (.cons (.var 6) (.cons (.var 1) .nil))) (.cons (.var 8) .nil)))) (.cons (.exp (.mt .append (.var 7) (.cons (.var 6) .nil))) .nil))
  have ei : evi (GG (n + 4)) (.seq (.rev (.var 4))) [some (.ref r), some spot.D, some (.int 1), some (.ref S.length), some (.ref r), some (.int 0), some T0.D, some (.ref (S.length + 1)), none] S2 = .ok ⟨(ts.map T3.D).reverse, [(S.length + 2, (ts.map T3.D).reverse)]⟩ S3 := by
    rw [evi_seq, rv, R.bind_ok, kSeq_eq]
    simp [srcSeq, lstOf, g3]
  rw [ei, R.then_ok] at ef
  have ef' := ef.trans e
  have T0D : T0.D = .tup [.int 0, .int 0, .int 1] := rfl
  rw [T0D] at ef'
  have lp : exec (GG (n + 4)) Ex (.for (.nm 5) (.rng1 (.var 2)) (.cons (.par [6, 7] (.cons (.tup (.cons (.cst (.int 0)) (.cons (.cst (.int 0)) (.cons (.cst (.int 1)) .nil)))) (.cons (.lst .nil) .nil))) (.cons (.for (.nm 8) (.seq (.rev (.var 4))) (.cons (.asg (.nm 6) (.call 60 (.cons (.call 62 (.cons (.var 6) (.cons (.var 1) .nil))) (.cons (.var 8) .nil)))) (.cons (.exp (.mt .append (.var 7) (.cons (.var 6) .nil))) .nil))) (.cons (.exp (.mt .append (.var 3) (.cons (.var 6) .nil))) (.cons (.asg (.nm 4) (.rev (.sl (.var 7) .none (.some (.neg (.cst (.int 1))))))) .nil))))) [some (.ref r), some spot.D, some (.int 1), some (.ref S.length), some (.ref r), none, none, none, none] S1 = .nx [some (.ref r), some spot.D, some (.int 1), some (.ref S.length), some (.ref S6.length), some (.int 0), some acc.D, some (.ref (S.length + 1)), p8] S7 := by
    have er : evi (GG (n + 4)) (.rng1 (.var 2)) [some (.ref r), some spot.D, some (.int 1), some (.ref S.length), some (.ref r), none, none, none, none] S1 = .ok ⟨rngD 0 1, []⟩ S1 := evi_rng1 (GG (n + 4)) _ _ (by simp) (by unfold small; omega)
    rw [exec_for, er, R.then_ok]
    have r1 : rngD 0 1 = [.int 0] := rfl
    simp only [r1, forL_cons (ok_nil _ _)]
    have h5 : S4.set S.length (.lst ([] ++ [acc.D])) = S5 := by rw [hS5]; rfl
    rw [h5] at ap
    have a2 : S1 ++ [Ob.lst []] = S2 := hS2.symm
    simp [lpF_eq, parSet, a2, l1, ef', ap, ty, rv2]
    exact forL_nil (ok_nil _ _)
  simp only [hS1] at lp
  simp [runF, Tx.t68, Tx.b68, parSet, lp]
end Pl
end
section
set_option Elab.async false
set_option linter.all false
set_option maxRecDepth 100000
set_option maxHeartbeats 4000000
set_option autoImplicit false
set_option exponentiation.threshold 10000
/-! V14: the law's product of rows. -/
namespace Pl
open Ev Gr
def inL : Nat → Kq → List Kq → List Kq → List Kq
  | _, _, [], f => f
  | k, u, v :: r, f => inL (k + 1) u r (f.set k ((f.getD k Kq.zero).add (u.mul v)))
def outL : Nat → List Kq → List Kq → List Kq → List Kq
  | _, [], _, f => f
  | k, u :: r, us, f => outL (k + 1) r us (inL k u us f)
theorem times_in {n r1 r2 f k U V : Nat} {L : List D} {ones us : List T3} {u : T3} (hk : ones[k]? = some u) (h1 : f ≠ r1) (h2 : f ≠ r2) (hU : ∀ t ∈ ones, Nice t U) (hV : ∀ t ∈ us, Nice t V) (hb : U + V ≤ 1000000) :
    ∀ (cnt j : Nat) (xs : List T3) (B : Nat) (o4 : Option D) (S : Sto), j + cnt = us.length → S[f]? = some (.lst (xs.map T3.D)) → S[r1]? = some (.lst (ones.map T3.D)) → S[r2]? = some (.lst (us.map T3.D)) → k + us.length ≤ xs.length → (∀ t ∈ xs, Nice t B) → B + cnt * (U + V + 2) ≤ 10000000 →
      ∃ p4 xs' S', forL ⟨L, []⟩ (lpF (GG (n + 4)) Ex (.nm 4) (.cons (.asg (.sub (.var 2) (.bin .add (.var 3) (.var 4))) (.call 60 (.cons (.ix (.var 2) (.bin .add (.var 3) (.var 4))) (.cons (.call 62 (.cons (.ix (.var 0) (.var 3)) (.cons (.ix (.var 1) (.var 4)) .nil))) .nil)))) .nil)) (rngN j cnt) [some (.ref r1), some (.ref r2), some (.ref f), some (.int (k : Nat)), o4] S = .nx [some (.ref r1), some (.ref r2), some (.ref f), some (.int (k : Nat)), p4] S' ∧
        S'[f]? = some (.lst (List.map T3.D xs')) ∧ xs'.map T3.val = inL (k + j) u.val ((us.drop j).map T3.val) (xs.map T3.val) ∧ xs'.length = xs.length ∧ (∀ t ∈ xs', Nice t (B + cnt * (U + V + 2))) ∧ Fr (· = f) S S' := by
  intro cnt
  induction cnt with
  | zero =>
    intro j xs B o4 S hj g _ _ _ hB _
    refine ⟨o4, xs, S, forL_nil (ok_nil _ _), g, ?_, rfl, by simpa using hB, Fr.rfl'⟩
    rw [List.drop_eq_nil_of_le (by omega)]
    rfl
  | succ cnt ih =>
    intro j xs B o4 S hj g g1 g2 hl hB hbig
    have e1 : (cnt + 1) * (U + V + 2) = cnt * (U + V + 2) + (U + V + 2) := by rw [Nat.succ_mul]
    rw [e1] at hbig
    have jl : j < us.length := by omega
    have xl : k + j < xs.length := by omega
    have hu := hU u (List.mem_of_getElem? hk)
    have hv := hV us[j] (List.getElem_mem jl)
    have hx := hB xs[k + j] (List.getElem_mem xl)
    obtain ⟨m, em, vm, nm⟩ := law_mul (n := n + 1) (S := S) hu hv (by omega)
    obtain ⟨a, ea, va, na⟩ := law_add (n := n + 1) (S := S) hx nm (by omega)
    have em' : fnN Tx.F Ex Tx.cs (n + 4) 62 [u.D, us[j].D] S = _ := em
    have ea' : fnN Tx.F Ex Tx.cs (n + 4) 60 [xs[k + j].D, m.D] S = _ := ea
    have i0 : ixD S (.ref r1) (.int (k : Nat)) = some u.D := by rw [ixD_ref g1, atI_nat, List.getElem?_map, hk]; rfl
    have i1 : ixD S (.ref r2) (.int (j : Nat)) = some us[j].D := by rw [ixD_ref g2, atI_nat, List.getElem?_map, List.getElem?_eq_getElem jl]; rfl
    have i2 : ixD S (.ref f) (.int ((k : Int) + (j : Nat))) = some xs[k + j].D := by rw [show ((k : Int) + (j : Nat)) = ((k + j : Nat) : Int) by omega, ixD_ref g, atI_nat, List.getElem?_map, List.getElem?_eq_getElem xl]; rfl
    have ss := setSub_ref g (i := k + j) (by simpa using xl) a.D
    rw [← List.map_set] at ss
    obtain ⟨p4, xs', S', e, g', v, l', nn, f'⟩ := ih (j + 1) (xs.set (k + j) a) (B + (U + V + 2)) (some (.int (j : Nat))) _ (by omega) (set_get g) (by rw [List.getElem?_set_ne h1]; exact g1) (by rw [List.getElem?_set_ne h2]; exact g2) (by simpa using hl) (fun t ht => by
      rcases List.mem_or_eq_of_mem_set ht with q | q
      · exact (hB t q).mono (by omega)
      · rw [q]; exact na.mono (by omega)) (by omega)
    refine ⟨p4, xs', S', ?_, g', ?_, by rw [l']; simp, fun t ht => (nn t ht).mono (by rw [e1]; omega), (Fr.set (P := (· = f)) rfl).tr f'⟩
    · rw [rngN_succ]
      simp only [forL_cons (ok_nil _ _)]
      rw [← e]
      have as := asgT_sub (G := GG (n + 4)) (a := .var 2) (i := .bin .add (.var 3) (.var 4)) (d := a.D) (en := [some (.ref r1), some (.ref r2), some (.ref f), some (.int (k : Nat)), some (.int (j : Nat))]) (S := S) (x := .ref f) (y := .int ((k + j : Nat) : Int)) (S1 := S) (S2 := S) (by simp) (by simp) ss
      simp [i0, i1, i2, em', ea', as]
    · rw [v, List.drop_eq_getElem_cons jl, List.map_cons, inL, List.map_set]
      have gd : (xs.map T3.val).getD (k + j) Kq.zero = xs[k + j].val := by
        rw [List.getD_eq_getElem?_getD, List.getElem?_map, List.getElem?_eq_getElem xl]
        rfl
      rw [gd, va, vm]
      rfl
theorem times_out {n r1 r2 f U V : Nat} {L : List D} {ones us : List T3} (h1 : f ≠ r1) (h2 : f ≠ r2) (hU : ∀ t ∈ ones, Nice t U) (hV : ∀ t ∈ us, Nice t V) (hb : U + V ≤ 1000000) (hus : us.length ≤ 1000) :
    ∀ (cnt k : Nat) (xs : List T3) (B : Nat) (o3 o4 : Option D) (S : Sto), k + cnt = ones.length → S[f]? = some (.lst (xs.map T3.D)) → S[r1]? = some (.lst (ones.map T3.D)) → S[r2]? = some (.lst (us.map T3.D)) → ones.length + us.length ≤ xs.length + 1 → (∀ t ∈ xs, Nice t B) → B + cnt * (us.length * (U + V + 2)) ≤ 10000000 →
      ∃ p3 p4 xs' S', forL ⟨L, []⟩ (lpF (GG (n + 4)) Ex (.nm 3) (.cons (.for (.nm 4) (.rng1 (.bi .len (.cons (.var 1) .nil))) (.cons (.asg (.sub (.var 2) (.bin .add (.var 3) (.var 4))) (.call 60 (.cons (.ix (.var 2) (.bin .add (.var 3) (.var 4))) (.cons (.call 62 (.cons (.ix (.var 0) (.var 3)) (.cons (.ix (.var 1) (.var 4)) .nil))) .nil)))) .nil)) .nil)) (rngN k cnt) [some (.ref r1), some (.ref r2), some (.ref f), o3, o4] S = .nx [some (.ref r1), some (.ref r2), some (.ref f), p3, p4] S' ∧
        S'[f]? = some (.lst (List.map T3.D xs')) ∧ xs'.map T3.val = outL k ((ones.drop k).map T3.val) (us.map T3.val) (xs.map T3.val) ∧ xs'.length = xs.length ∧ (∀ t ∈ xs', Nice t (B + cnt * (us.length * (U + V + 2)))) ∧ Fr (· = f) S S' := by
  intro cnt
  induction cnt with
  | zero =>
    intro k xs B o3 o4 S hk g _ _ _ hB _
    refine ⟨o3, o4, xs, S, forL_nil (ok_nil _ _), g, ?_, rfl, by simpa using hB, Fr.rfl'⟩
    rw [List.drop_eq_nil_of_le (by omega)]
    rfl
  | succ cnt ih =>
    intro k xs B o3 o4 S hk g g1 g2 hl hB hbig
    have e1 : (cnt + 1) * (us.length * (U + V + 2)) = cnt * (us.length * (U + V + 2)) + us.length * (U + V + 2) := by rw [Nat.succ_mul]
    rw [e1] at hbig
    have kl : k < ones.length := by omega
    have hk' : ones[k]? = some ones[k] := List.getElem?_eq_getElem kl
    obtain ⟨q4, ys, S1, e, g3, v, l3, nn, f1⟩ := times_in (n := n) (L := rngD 0 (us.length : Nat)) hk' h1 h2 hU hV hb us.length 0 xs B o4 S (by omega) g g1 g2 (by omega) hB (by omega)
    obtain ⟨p3, p4, xs', S', e', g', v', l', nn', f'⟩ := ih (k + 1) ys (B + us.length * (U + V + 2)) (some (.int (k : Nat))) q4 S1 (by omega) g3 (f1 _ _ (fun e => h1 e.symm) g1) (f1 _ _ (fun e => h2 e.symm) g2) (by omega) nn (by omega)
    refine ⟨p3, p4, xs', S', ?_, g', ?_, by omega, fun t ht => (nn' t ht).mono (by rw [e1]; omega), f1.tr f'⟩
    · rw [rngN_succ]
      simp only [forL_cons (ok_nil _ _)]
      rw [← e']
      have ln := len_ref g2
      rw [List.length_map] at ln
      have er : evi (GG (n + 4)) (.rng1 (.bi .len (.cons (.var 1) .nil))) [some (.ref r1), some (.ref r2), some (.ref f), some (.int (k : Nat)), o4] S = .ok ⟨rngD 0 (us.length : Nat), []⟩ S := evi_rng1 (GG (n + 4)) _ _ (by simp [ln]) (by unfold small; omega)
      have ef : exec (GG (n + 4)) Ex (.for (.nm 4) (.rng1 (.bi .len (.cons (.var 1) .nil))) (.cons (.asg (.sub (.var 2) (.bin .add (.var 3) (.var 4))) (.call 60 (.cons (.ix (.var 2) (.bin .add (.var 3) (.var 4))) (.cons (.call 62 (.cons (.ix (.var 0) (.var 3)) (.cons (.ix (.var 1) (.var 4)) .nil))) .nil)))) .nil)) [some (.ref r1), some (.ref r2), some (.ref f), some (.int (k : Nat)), o4] S = .nx [some (.ref r1), some (.ref r2), some (.ref f), some (.int (k : Nat)), q4] S1 := by
        rw [exec_for, er, R.then_ok]
        show forL _ _ (rngD 0 (us.length : Nat)) _ _ = _
        have hr : rngD 0 (us.length : Nat) = rngN 0 us.length := rngD_N us.length
        rw [← e]
        congr 1
      simp [ef]
    · rw [v', v]
      rw [List.drop_eq_getElem_cons kl]
      simp only [List.map_cons, outL, List.drop_zero, Nat.add_zero]
theorem plL_t3 (ts : List T3) : plL (ts.map T3.D) = true ∧ dptL (ts.map T3.D) ≤ 1 := by
  induction ts with
  | nil => exact ⟨rfl, by simp [dptL]⟩
  | cons t r ih =>
    constructor
    · simp only [List.map_cons, plL, ih.1, Bool.and_true]; rfl
    · simp only [List.map_cons, dptL]
      have : dpt t.D = 1 := by simp [T3.D, dpt, dptL]
      omega
theorem law_times {n r1 r2 U V : Nat} {ones us : List T3} {S : Sto} (g1 : S[r1]? = some (.lst (ones.map T3.D))) (g2 : S[r2]? = some (.lst (us.map T3.D))) (o0 : ones ≠ []) (u0 : us ≠ []) (ol : ones.length ≤ 10) (ul : us.length ≤ 10) (hU : ∀ t ∈ ones, Nice t U) (hV : ∀ t ∈ us, Nice t V) (hb : U + V ≤ 50000) :
    ∃ (k : Nat) (xs : List T3) (S' : Sto), fn (n + 5) 67 [.ref r1, .ref r2] S = .ok (.ref k) S' ∧ S'[k]? = some (.lst (xs.map T3.D)) ∧ xs.length + 1 = ones.length + us.length ∧ xs.map T3.val = outL 0 (ones.map T3.val) (us.map T3.val) (List.replicate (ones.length + us.length - 1) Kq.zero) ∧ (∀ t ∈ xs, Nice t (1 + ones.length * (us.length * (U + V + 2)))) ∧ S <+: S' := by
  rw [fn_s (fd := Tx.t67.fd) rfl]
  have op := List.length_pos_iff.mpr o0
  have up := List.length_pos_iff.mpr u0
  have ln1 := len_ref g1
  have ln2 := len_ref g2
  rw [List.length_map] at ln1 ln2
  obtain ⟨N, hN⟩ : ∃ N : Nat, N = ones.length + us.length - 1 := ⟨_, rfl⟩
  -- the noughts
  obtain ⟨S1, hS1⟩ : ∃ S1 : Sto, S1 = S ++ [.lst [T0.D]] := ⟨_, rfl⟩
  obtain ⟨S2, hS2⟩ : ∃ S2 : Sto, S2 = S1 ++ [.lst ((List.replicate N T0).map T3.D)] := ⟨_, rfl⟩
  have p1 : S <+: S1 := by rw [hS1]; exact pre_snoc ..
  have p2 : S1 <+: S2 := by rw [hS2]; exact pre_snoc ..
  have k1 : S1[S.length]? = some (.lst [T0.D]) := by rw [hS1]; exact last_get ..
  have k2 : S2[S1.length]? = some (.lst ((List.replicate N T0).map T3.D)) := by rw [hS2]; exact last_get ..
  have mx : ∀ S, bi .max [.int 0, .int ((ones.length : Int) + (us.length : Nat) - 1)] S = .ok (.int (N : Nat)) S := fun S => by
    show R.ok (D.int (if (ones.length : Int) + (us.length : Nat) - 1 > 0 then _ else _)) S = _
    rw [if_pos (by omega), hN]
    congr 2
    omega
  have fl : ∀ N : Nat, (List.replicate (N : Int).toNat [T0.D]).flatten = (List.replicate N T0).map T3.D := fun N => by
    rw [Int.toNat_natCast, List.map_replicate]
    induction N with
    | zero => rfl
    | succ m ih => rw [List.replicate_succ, List.flatten_cons, ih, List.replicate_succ]; rfl
  have ml : binop .mul (.ref S.length) (.int (N : Nat)) S1 = .ok (.ref S1.length) S2 := by
    simp only [binop, k1]
    rw [if_pos (by refine ⟨by omega, by omega, ?_⟩; simp; omega), fl, hS2]
  have sp1 := plL_t3 ones
  have sp2 := plL_t3 us
  have en1 := eqD_nil (pre_get (p1.trans p2) g1) sp1.1 (by omega)
  have en2 := eqD_nil (pre_get (pre_snoc S2 (.lst [])) (pre_get (p1.trans p2) g2)) sp2.1 (by omega)
  have ne1 : (ones.map T3.D).isEmpty = false := by cases ones <;> simp_all
  have ne2 : (us.map T3.D).isEmpty = false := by cases us <;> simp_all
  rw [ne1] at en1
  rw [ne2] at en2
  obtain ⟨S3, hS3⟩ : ∃ S3 : Sto, S3 = S2 ++ [.lst []] := ⟨_, rfl⟩
  obtain ⟨S4, hS4⟩ : ∃ S4 : Sto, S4 = S3 ++ [.lst []] := ⟨_, rfl⟩
  rw [← hS3] at en1 en2
  rw [← hS4] at en2
  have p3 : S2 <+: S3 := by rw [hS3]; exact pre_snoc ..
  have p4 : S3 <+: S4 := by rw [hS4]; exact pre_snoc ..
  have q1 := pre_get (p1.trans (p2.trans (p3.trans p4))) g1
  have q2 := pre_get (p1.trans (p2.trans (p3.trans p4))) g2
  have q3 := pre_get (p3.trans p4) k2
  have l0 := get_lt g1
  have l0' := get_lt g2
  have l1 : S1.length = S.length + 1 := by rw [hS1]; simp
  have bits : 1 + ones.length * (us.length * (U + V + 2)) ≤ 10000000 := by
    have : ones.length * (us.length * (U + V + 2)) ≤ 10 * (10 * (U + V + 2)) := Nat.mul_le_mul ol (Nat.mul_le_mul_right _ ul)
    omega
  obtain ⟨p3', p4', xs, S5, e, g, v, l, nn, f⟩ := times_out (n := n) (L := rngD 0 (ones.length : Nat)) (by omega) (by omega) hU hV (by omega) (by omega) ones.length 0 (List.replicate N T0) 1 none none S4 (by omega) q3 q1 q2 (by simp; omega) (fun t ht => by rw [List.eq_of_mem_replicate ht]; exact nice0) bits
  have ef : exec (GG (n + 4)) Ex (.for (.nm 3) (.rng1 (.bi .len (.cons (.var 0) .nil))) (.cons (.for (.nm 4) (.rng1 (.bi .len (.cons (.var 1) .nil))) (.cons (.asg (.sub (.var 2) (.bin .add (.var 3) (.var 4))) (.call 60 (.cons (.ix (.var 2) (.bin .add (.var 3) (.var 4))) (.cons (.call 62 (.cons (.ix (.var 0) (.var 3)) (.cons (.ix (.var 1) (.var 4)) .nil))) .nil)))) .nil)) .nil)) [some (.ref r1), some (.ref r2), some (.ref S1.length), none, none] S4 = .nx [some (.ref r1), some (.ref r2), some (.ref S1.length), p3', p4'] S5 := by
    have ln := len_ref q1
    rw [List.length_map] at ln
    have er : evi (GG (n + 4)) (.rng1 (.bi .len (.cons (.var 0) .nil))) [some (.ref r1), some (.ref r2), some (.ref S1.length), none, none] S4 = .ok ⟨rngD 0 (ones.length : Nat), []⟩ S4 := evi_rng1 (GG (n + 4)) _ _ (by simp [ln]) (by unfold small; omega)
    rw [exec_for, er, R.then_ok]
    have hr : rngD 0 (ones.length : Nat) = rngN 0 ones.length := rngD_N ones.length
    rw [← e]
    congr 1
  have ln1' := len_ref (pre_get p1 g1)
  have ln2' := len_ref (pre_get p1 g2)
  rw [List.length_map] at ln1' ln2'
  have T0D : T0.D = .tup [.int 0, .int 0, .int 1] := rfl
  rw [T0D] at hS1
  refine ⟨S1.length, xs, S5, ?_, g, by rw [l]; simp; omega, ?_, nn, ?_⟩
  · simp [runF, Tx.t67, Tx.b67, ← hS1, ← hS3, ← hS4, ln1', ln2', mx, ml, en1, en2, ef]
  · rw [v, List.map_replicate, val0, hN]
    rfl
  · exact Fr.pre (((Fr.of_pre (p1.trans (p2.trans (p3.trans p4)))).tr f).new (fun x hx hl => by omega))
end Pl
end
section
set_option Elab.async false
set_option linter.all false
set_option maxRecDepth 100000
set_option maxHeartbeats 4000000
set_option autoImplicit false
set_option exponentiation.threshold 10000
/-! V15: drawn numbers. -/
namespace Pl
open Ev Gr
theorem ev_callG (n f : Nat) (es : Es) (en : En) (S : Sto) : ev (GG n) (.call f es) en S = (evs (GG n) es en S).bind (fnN Tx.F Ex Tx.cs n f) := by rw [ev_call]
def Dr (r : R D) (S : Sto) (k m : Nat) (P : D → Prop) : Prop := ∃ d S', r = .ok d S' ∧ P d ∧ WellAt S' k m ∧ Fr (· = k) S S' ∧ S.length ≤ S'.length
theorem great_loop {n k N : Nat} {L : List D} {o1 : Option D} :
    ∀ (cnt i g m : Nat) (o3 : Option D) (S : Sto), WellAt S k m → m + 2 * cnt < 900000 → g < 10 ^ (8 * i) → i + cnt ≤ 50 →
      ∃ (p3 : Option D) (g' : Nat) (S' : Sto), forL ⟨L, []⟩ (lpF (GG (n + 1)) Ex (.nm 3) (.cons (.asg (.nm 2) (.bin .add (.bin .add (.bin .mul (.var 2) (.bin .pow (.cst (.int 10)) (.cst (.int 8)))) (.bin .mul (.call 56 (.cons (.var 0) (.cons (.bin .pow (.cst (.int 10)) (.cst (.int 4))) .nil))) (.bin .pow (.cst (.int 10)) (.cst (.int 4))))) (.call 56 (.cons (.var 0) (.cons (.bin .pow (.cst (.int 10)) (.cst (.int 4))) .nil))))) .nil)) (rngN N cnt) [some (.ref k), o1, some (.int (g : Nat)), o3] S = .nx [some (.ref k), o1, some (.int (g' : Nat)), p3] S' ∧
        g' < 10 ^ (8 * (i + cnt)) ∧ WellAt S' k (m + 2 * cnt) ∧ Fr (· = k) S S' ∧ S'.length = S.length := by
  intro cnt
  induction cnt generalizing N with
  | zero => intro i g m o3 S w _ hg _; exact ⟨o3, g, S, forL_nil (ok_nil _ _), hg, w, Fr.rfl', rfl⟩
  | succ cnt ih =>
    intro i g m o3 S w hm hg hi
    obtain ⟨d1, S1, e1, a1, w1, f1, l1⟩ := drawn (n := n) (many := 10000) w (by omega) (by decide) (by decide)
    obtain ⟨d2, S2, e2, a2, w2, f2, l2⟩ := drawn (n := n) (many := 10000) w1 (by omega) (by decide) (by decide)
    have E1 : fnN Tx.F Ex Tx.cs (n + 1) 56 [.ref k, .int 10000] S = _ := e1
    have E2 : fnN Tx.F Ex Tx.cs (n + 1) 56 [.ref k, .int 10000] S1 = _ := e2
    have gb : g < 2 ^ 1400 := Nat.lt_of_lt_of_le hg (Nat.le_trans (Nat.pow_le_pow_right (by decide) (show 8 * i ≤ 400 by omega)) (by decide))
    have m1 : ∀ S, binop .mul (.int (g : Nat)) (.int 100000000) S = .ok (.int ((g : Int) * 100000000)) S := fun S => mulB S (B := 1400) (C := 30) (by simpa using gb) (by decide) (by decide)
    have m2 : ∀ S, binop .mul (.int (d1 : Nat)) (.int 10000) S = .ok (.int ((d1 : Int) * 10000)) S := fun S => mulB S (B := 30) (C := 30) (by rw [Int.natAbs_natCast]; omega) (by decide) (by decide)
    have p8 : ∀ S, binop .pow (.int 10) (.int 8) S = .ok (.int 100000000) S := fun S => rfl
    have p4 : ∀ S, binop .pow (.int 10) (.int 4) S = .ok (.int 10000) S := fun S => rfl
    have gl : g * 100000000 + d1 * 10000 + d2 < 10 ^ (8 * (i + 1)) := by
      rw [show 8 * (i + 1) = 8 * i + 8 by omega, Nat.pow_add]
      have : (10 : Nat) ^ 8 = 100000000 := rfl
      omega
    obtain ⟨p3, g', S', e, h', w', f', l'⟩ := ih (N := N + 1) (i + 1) (g * 100000000 + d1 * 10000 + d2) (m + 1 + 1) (some (.int (N : Nat))) S2 w2 (by omega) gl (by omega)
    refine ⟨p3, g', S', ?_, by rw [show i + (cnt + 1) = i + 1 + cnt by omega]; exact h', w'.mono (by omega), f1.tr (f2.tr f'), by omega⟩
    rw [rngN_succ]
    simp only [forL_cons (ok_nil _ _)]
    rw [← e]
    have cst : (g : Int) * 100000000 + (d1 : Int) * 10000 + (d2 : Int) = ((g * 100000000 + d1 * 10000 + d2 : Nat) : Int) := by omega
    rw [← cst]
    simp [p8, p4, m1, E1, m2, E2]
theorem great_walk {n k c g : Nat} {X : Sm} {p3 : Option D} {S S' : Sto} (ef : exec (GG (n + 1)) Ex X [some (.ref k), some (.int (c : Nat)), some (.int 0), none] S = .nx [some (.ref k), some (.int (c : Nat)), some (.int (g : Nat)), p3] S') (bd : Tx.b74 = .cons (.asg (.nm 2) (.cst (.int 0))) (.cons X (.cons (.ret (.var 2)) .nil))) : runF (GG (n + 1)) Ex Tx.t74.fd [.ref k, .int (c : Nat)] S = .ok (.int (g : Nat)) S' := by
  simp [runF, Tx.t74, bd, ef]
theorem law_great {n k m c : Nat} {S : Sto} (w : WellAt S k m) (hc : c ≤ 50) (hm : m + 100 < 800000) : ∃ (g : Nat) (S' : Sto), fn (n + 2) 74 [.ref k, .int (c : Nat)] S = .ok (.int (g : Nat)) S' ∧ g < 10 ^ (8 * c) ∧ WellAt S' k (m + 100) ∧ Fr (· = k) S S' ∧ S'.length = S.length := by
  rw [fn_s (fd := Tx.t74.fd) rfl]
  obtain ⟨p3, g, S', e, h, w', f, l⟩ := great_loop (n := n) (N := 0) (L := rngD 0 (c : Nat)) (o1 := some (.int (c : Nat))) c 0 0 m none S w (by omega) (by simp) (by omega)
  have er : evi (GG (n + 1)) (.rng1 (.var 1)) [some (.ref k), some (.int (c : Nat)), some (.int 0), none] S = .ok ⟨rngD 0 (c : Nat), []⟩ S := evi_rng1 (GG (n + 1)) _ _ (by simp) (by unfold small; omega)
  have ef : exec (GG (n + 1)) Ex (.for (.nm 3) (.rng1 (.var 1)) (.cons (.asg (.nm 2) (.bin .add (.bin .add (.bin .mul (.var 2) (.bin .pow (.cst (.int 10)) (.cst (.int 8)))) (.bin .mul (.call 56 (.cons (.var 0) (.cons (.bin .pow (.cst (.int 10)) (.cst (.int 4))) .nil))) (.bin .pow (.cst (.int 10)) (.cst (.int 4))))) (.call 56 (.cons (.var 0) (.cons (.bin .pow (.cst (.int 10)) (.cst (.int 4))) .nil))))) .nil)) [some (.ref k), some (.int (c : Nat)), some (.int 0), none] S = .nx [some (.ref k), some (.int (c : Nat)), some (.int (g : Nat)), p3] S' := by
    rw [exec_for, er, R.then_ok]
    have hr : rngD 0 (c : Nat) = rngN 0 c := rngD_N c
    have e' := e
    rw [← hr] at e'
    exact e'
  refine ⟨g, S', ?_, by simpa using h, w'.mono (by omega), f, l⟩
  exact great_walk ef rfl
def FitQ (q : Rat) (M : Nat) : Prop := q.num.natAbs < M ∧ q.den < M
theorem fit_mk {p : Int} {m M : Nat} (hm : m ≠ 0) (h1 : p.natAbs < M) (h2 : m < M) : FitQ (mkRat p m) M := by
  unfold FitQ
  rw [Rat.num_mkRat, Rat.den_mkRat, if_neg hm, if_neg hm]
  constructor
  · have : (m.gcd p.natAbs : Int) ∣ p := Int.ofNat_dvd_left.mpr (Nat.gcd_dvd_right ..)
    rw [Int.natAbs_ediv_of_dvd this, Int.natAbs_natCast]
    exact Nat.lt_of_le_of_lt (Nat.div_le_self ..) h1
  · exact Nat.lt_of_le_of_lt (Nat.div_le_self ..) h2
theorem FitQ.mono {q : Rat} {M N : Nat} (h : FitQ q M) (hM : M ≤ N) : FitQ q N := ⟨Nat.lt_of_lt_of_le h.1 hM, Nat.lt_of_lt_of_le h.2 hM⟩
theorem ten_lt {c : Nat} (hc : c ≤ 50) : 10 ^ (8 * c) < 2 ^ 1400 := Nat.lt_of_le_of_lt (Nat.pow_le_pow_right (by decide) (show 8 * c ≤ 400 by omega)) (by decide)
theorem ten_ge {c : Nat} (hc : 1 ≤ c) : 100000000 ≤ 10 ^ (8 * c) := Nat.le_trans (by decide) (Nat.pow_le_pow_right (by decide) (show 8 ≤ 8 * c by omega))
theorem piece_0 {n k c : Nat} {S S1 : Sto} (E1 : fnN Tx.F Ex Tx.cs (n + 2) 56 [.ref k, .int 6] S = .ok (.int 0) S1) : runF (GG (n + 2)) Ex Tx.t75.fd [.ref k, .int (c : Nat)] S = .ok (.tup [.int 0, .int 1]) S1 := by
  simp [runF, Tx.t75, Tx.b75, E1]
theorem piece_1 {n k c d1 : Nat} {x y : Int} {Q : D} {S S1 S2 S3 : Sto} (E1 : fnN Tx.F Ex Tx.cs (n + 2) 56 [.ref k, .int 6] S = .ok (.int (d1 : Nat)) S1) (h0' : ¬ (d1 : Int) = 0) (h1' : (d1 : Int) < 3)
    (E2 : fnN Tx.F Ex Tx.cs (n + 2) 56 [.ref k, .int 19] S1 = .ok (.int x) S2) (E3 : fnN Tx.F Ex Tx.cs (n + 2) 56 [.ref k, .int 9] S2 = .ok (.int y) S3) (E4 : fnN Tx.F Ex Tx.cs (n + 2) 64 [.int (x - 9), .int (1 + y)] S3 = .ok Q S3) : runF (GG (n + 2)) Ex Tx.t75.fd [.ref k, .int (c : Nat)] S = .ok Q S3 := by
  have h0 : ¬ d1 = 0 := by omega
  have h1 : d1 < 3 := by omega
  simp [runF, Tx.t75, Tx.b75, E1, h0, h0', h1, h1', E2, E3, E4]
theorem piece_2 {n k c : Nat} {x : Int} {S S1 S2 : Sto} (E1 : fnN Tx.F Ex Tx.cs (n + 2) 56 [.ref k, .int 6] S = .ok (.int 3) S1) (E2 : fnN Tx.F Ex Tx.cs (n + 2) 56 [.ref k, .int 199] S1 = .ok (.int x) S2) : runF (GG (n + 2)) Ex Tx.t75.fd [.ref k, .int (c : Nat)] S = .ok (.tup [.int (x - 99), .int 1]) S2 := by
  simp [runF, Tx.t75, Tx.b75, E1, E2]
theorem piece_b (X Y : E) (hY : Y = .call 74 (.cons (.var 0) (.cons (.var 3) .nil))) (hX : X = E.bi .max (.cons (.cst (.int 1)) (.cons (.ite (.cmp .eq (.var 2) (.cst (.int 4))) (.call 74 (.cons (.var 0) (.cons (.var 3) .nil))) (.cst (.int 1))) .nil))) : Tx.b75 = .cons (.asg (.nm 2) (.call 56 (.cons (.var 0) (.cons (.cst (.int 6)) .nil)))) (.cons (.ite (.cmp .eq (.var 2) (.cst (.int 0))) (.cons (.ret (.tup (.cons (.cst (.int 0)) (.cons (.cst (.int 1)) .nil)))) .nil) .nil) (.cons (.ite (.cmp .lt (.var 2) (.cst (.int 3))) (.cons (.ret (.call 64 (.cons (.bin .sub (.call 56 (.cons (.var 0) (.cons (.cst (.int 19)) .nil))) (.cst (.int 9))) (.cons (.bin .add (.cst (.int 1)) (.call 56 (.cons (.var 0) (.cons (.cst (.int 9)) .nil)))) .nil)))) .nil) .nil) (.cons (.ite (.cmp .eq (.var 2) (.cst (.int 3))) (.cons (.ret (.tup (.cons (.bin .sub (.call 56 (.cons (.var 0) (.cons (.cst (.int 199)) .nil))) (.cst (.int 99))) (.cons (.cst (.int 1)) .nil)))) .nil) .nil) (.cons (.asg (.nm 3) (.call 57 (.cons (.var 0) (.cons (.lst (.cons (.cst (.int 1)) (.cons (.bi .min (.cons (.cst (.int 2)) (.cons (.var 1) .nil))) (.cons (.var 1) .nil)))) .nil)))) (.cons (.par [4, 5] (.cons Y (.cons X .nil))) (.cons (.ret (.call 64 (.cons (.ite (.cmp .eq (.call 56 (.cons (.var 0) (.cons (.cst (.int 2)) .nil))) (.cst (.int 0))) (.var 4) (.bin .sub (.cst (.int 0)) (.var 4))) (.cons (.var 5) .nil)))) .nil)))))) := by rw [hX, hY]; rfl
theorem piece_3 {n k c d1 m z : Nat} {g u : Int} {X Y : E} {d5 : Int} {Q : D} {S S1 Sx S2 S3 S4 S5 : Sto} (bd : Tx.b75 = .cons (.asg (.nm 2) (.call 56 (.cons (.var 0) (.cons (.cst (.int 6)) .nil)))) (.cons (.ite (.cmp .eq (.var 2) (.cst (.int 0))) (.cons (.ret (.tup (.cons (.cst (.int 0)) (.cons (.cst (.int 1)) .nil)))) .nil) .nil) (.cons (.ite (.cmp .lt (.var 2) (.cst (.int 3))) (.cons (.ret (.call 64 (.cons (.bin .sub (.call 56 (.cons (.var 0) (.cons (.cst (.int 19)) .nil))) (.cst (.int 9))) (.cons (.bin .add (.cst (.int 1)) (.call 56 (.cons (.var 0) (.cons (.cst (.int 9)) .nil)))) .nil)))) .nil) .nil) (.cons (.ite (.cmp .eq (.var 2) (.cst (.int 3))) (.cons (.ret (.tup (.cons (.bin .sub (.call 56 (.cons (.var 0) (.cons (.cst (.int 199)) .nil))) (.cst (.int 99))) (.cons (.cst (.int 1)) .nil)))) .nil) .nil) (.cons (.asg (.nm 3) (.call 57 (.cons (.var 0) (.cons (.lst (.cons (.cst (.int 1)) (.cons (.bi .min (.cons (.cst (.int 2)) (.cons (.var 1) .nil))) (.cons (.var 1) .nil)))) .nil)))) (.cons (.par [4, 5] (.cons Y (.cons X .nil))) (.cons (.ret (.call 64 (.cons (.ite (.cmp .eq (.call 56 (.cons (.var 0) (.cons (.cst (.int 2)) .nil))) (.cst (.int 0))) (.var 4) (.bin .sub (.cst (.int 0)) (.var 4))) (.cons (.var 5) .nil)))) .nil))))))) (E1 : fnN Tx.F Ex Tx.cs (n + 2) 56 [.ref k, .int 6] S = .ok (.int (d1 : Nat)) S1) (h0' : ¬ (d1 : Int) = 0) (h1' : ¬ (d1 : Int) < 3) (h2' : ¬ (d1 : Int) = 3)
    (mn : ∀ S, bi .min [.int 2, .int (c : Nat)] S = .ok (.int (m : Nat)) S) (hSx : Sx = S1 ++ [.lst [.int 1, .int (m : Nat), .int (c : Nat)]]) (E2 : fnN Tx.F Ex Tx.cs (n + 2) 57 [.ref k, .ref S1.length] Sx = .ok (.int (z : Nat)) S2) (E3 : ev (GG (n + 2)) Y [some (.ref k), some (.int (c : Nat)), some (.int (d1 : Nat)), some (.int (z : Nat)), none, none] S2 = .ok (.int g) S3)
    (e4 : ev (GG (n + 2)) X [some (.ref k), some (.int (c : Nat)), some (.int (d1 : Nat)), some (.int (z : Nat)), none, none] S3 = .ok (.int u) S4) (E5 : fnN Tx.F Ex Tx.cs (n + 2) 56 [.ref k, .int 2] S4 = .ok (.int d5) S5)
    (E6 : fnN Tx.F Ex Tx.cs (n + 2) 64 [.int (if d5 = 0 then g else -g), .int u] S5 = .ok Q S5) : runF (GG (n + 2)) Ex Tx.t75.fd [.ref k, .int (c : Nat)] S = .ok Q S5 := by
  have h0 : ¬ d1 = 0 := by omega
  have h1 : ¬ d1 < 3 := by omega
  have h2 : ¬ d1 = 3 := by omega
  by_cases h5 : d5 = 0
  · rw [if_pos h5] at E6
    simp [runF, Tx.t75, bd, E1, h0, h0', h1, h1', h2, h2', mn, ← hSx, E2, E3, e4, parSet, E5, h5, E6]
  · rw [if_neg h5] at E6
    simp [runF, Tx.t75, bd, E1, h0, h0', h1, h1', h2, h2', mn, ← hSx, E2, E3, e4, parSet, E5, h5, E6]
theorem piece_u {n k c z M : Nat} {Y : E} {g x : Int} {S S4 : Sto} (h4' : x = 4) (E4 : ev (GG (n + 2)) Y [some (.ref k), some (.int (c : Nat)), some (.int x), some (.int (z : Nat)), none, none] S = .ok (.int g) S4) (hM : ∀ S, bi .max [.int 1, .int g] S = .ok (.int (M : Nat)) S) : ev (GG (n + 2)) (.bi .max (.cons (.cst (.int 1)) (.cons (.ite (.cmp .eq (.var 2) (.cst (.int 4))) Y (.cst (.int 1))) .nil))) [some (.ref k), some (.int (c : Nat)), some (.int x), some (.int (z : Nat)), none, none] S = .ok (.int (M : Nat)) S4 := by
  subst h4'
  simp [E4, hM]
theorem piece_u1 {n k c d1 z : Nat} {Y : E} {S : Sto} (h4' : ¬ (d1 : Int) = 4) : ev (GG (n + 2)) (.bi .max (.cons (.cst (.int 1)) (.cons (.ite (.cmp .eq (.var 2) (.cst (.int 4))) Y (.cst (.int 1))) .nil))) [some (.ref k), some (.int (c : Nat)), some (.int (d1 : Nat)), some (.int (z : Nat)), none, none] S = .ok (.int (1 : Nat)) S := by
  have h4 : ¬ d1 = 4 := by omega
  have mx1' : ∀ S, bi .max [.int 1, .int 1] S = .ok (.int 1) S := fun S => rfl
  simp [h4, h4', mx1']
theorem great_call {n k c d1 z : Nat} {g : Nat} {S S4 : Sto} (E4 : fn (n + 2) 74 [.ref k, .int (z : Nat)] S = .ok (.int (g : Nat)) S4) : ev (GG (n + 2)) (.call 74 (.cons (.var 0) (.cons (.var 3) .nil))) [some (.ref k), some (.int (c : Nat)), some (.int (d1 : Nat)), some (.int (z : Nat)), none, none] S = .ok (.int (g : Nat)) S4 := by
  rw [ev_callG]
  have : evs (GG (n + 2)) (.cons (.var 0) (.cons (.var 3) .nil)) [some (.ref k), some (.int (c : Nat)), some (.int (d1 : Nat)), some (.int (z : Nat)), none, none] S = .ok [.ref k, .int (z : Nat)] S := by simp
  rw [this, R.bind_ok]
  exact E4
theorem max_1 (j : Nat) : ∃ M : Nat, (∀ S, bi .max [.int 1, .int (j : Nat)] S = .ok (.int (M : Nat)) S) ∧ 0 < M ∧ (M = 1 ∨ M = j) := by
  by_cases h : (j : Int) > 1
  · refine ⟨j, fun S => ?_, by omega, Or.inr rfl⟩
    show R.ok (D.int (if (j : Int) > 1 then (j : Int) else 1)) S = _
    rw [if_pos h]
  · refine ⟨1, fun S => ?_, by omega, Or.inl rfl⟩
    show R.ok (D.int (if (j : Int) > 1 then (j : Int) else 1)) S = _
    rw [if_neg h]
    rfl
theorem law_piece {n k m c : Nat} {S : Sto} (w : WellAt S k m) (hc1 : 1 ≤ c) (hc : c ≤ 50) (hm : m + 300 < 800000) : Dr (fn (n + 3) 75 [.ref k, .int (c : Nat)] S) S k (m + 210) (fun d => ∃ q, d = frQ q ∧ FitQ q (10 ^ (8 * c))) := by
  rw [fn_s (fd := Tx.t75.fd) rfl]
  have tg := ten_ge hc1
  have tl := ten_lt hc
  obtain ⟨d1, S1, e1, a1, w1, f1, l1⟩ := drawn (n := n + 1) (many := 6) w (by omega) (by decide) (by decide)
  have E1 : fnN Tx.F Ex Tx.cs (n + 2) 56 [.ref k, .int 6] S = _ := e1
  have kk := w1.lt
  by_cases h0 : d1 = 0
  · subst h0
    exact ⟨frQ 0, S1, piece_0 E1, ⟨0, rfl, by show 0 < _; omega, by show 1 < _; omega⟩, w1.mono (by omega), f1, by omega⟩
  by_cases h1 : d1 < 3
  · obtain ⟨d2, S2, e2, a2, w2, f2, l2⟩ := drawn (n := n + 1) (many := 19) w1 (by omega) (by decide) (by decide)
    obtain ⟨d3, S3, e3, a3, w3, f3, l3⟩ := drawn (n := n + 1) (many := 9) w2 (by omega) (by decide) (by decide)
    have E2 : fnN Tx.F Ex Tx.cs (n + 2) 56 [.ref k, .int 19] S1 = _ := e2
    have E3 : fnN Tx.F Ex Tx.cs (n + 2) 56 [.ref k, .int 9] S2 = _ := e3
    have E4 : fnN Tx.F Ex Tx.cs (n + 2) 64 [.int ((d2 : Int) - 9), .int (1 + (d3 : Int))] S3 = .ok (frQ (mkRat ((d2 : Int) - 9) (1 + d3))) S3 := by
      have := part_q (n := n) (p := (d2 : Int) - 9) (q := 1 + d3) (S := S3) (by omega) (Nat.lt_trans (show 1 + d3 < 2 ^ 10 by omega) (by decide))
      rw [Int.natCast_add] at this
      exact this
    have h0' : ¬ (d1 : Int) = 0 := by omega
    have h1' : (d1 : Int) < 3 := by omega
    exact ⟨_, S3, piece_1 E1 h0' h1' E2 E3 E4, ⟨_, rfl, fit_mk (by omega) (by omega) (by omega)⟩, w3.mono (by omega), f1.tr (f2.tr f3), by omega⟩
  by_cases h2 : d1 = 3
  · subst h2
    obtain ⟨d2, S2, e2, a2, w2, f2, l2⟩ := drawn (n := n + 1) (many := 199) w1 (by omega) (by decide) (by decide)
    have E2 : fnN Tx.F Ex Tx.cs (n + 2) 56 [.ref k, .int 199] S1 = _ := e2
    refine ⟨frQ (mkRat ((d2 : Int) - 99) 1), S2, ?_, ⟨_, rfl, fit_mk (by decide) (by omega) (by omega)⟩, w2.mono (by omega), f1.tr f2, by omega⟩
    have : frQ (mkRat ((d2 : Int) - 99) 1) = .tup [.int ((d2 : Int) - 99), .int 1] := by
      rw [Rat.mkRat_one]
      rfl
    rw [this]
    exact piece_2 E1 E2
  -- a great one
  have h0' : ¬ (d1 : Int) = 0 := by omega
  have h1' : ¬ (d1 : Int) < 3 := by omega
  have h2' : ¬ (d1 : Int) = 3 := by omega
  have mn : ∀ S, bi .min [.int 2, .int (c : Nat)] S = .ok (.int (min 2 c : Nat)) S := fun S => by
    show R.ok (D.int (if (c : Int) < 2 then _ else _)) S = _
    congr 2
    split <;> omega
  obtain ⟨Sx, hSx⟩ : ∃ Sx : Sto, Sx = S1 ++ [.lst [.int 1, .int (min 2 c : Nat), .int (c : Nat)]] := ⟨_, rfl⟩
  have px : S1 <+: Sx := by rw [hSx]; exact pre_snoc ..
  have lx : Sx.length = S1.length + 1 := by rw [hSx]; simp
  have gx : Sx[S1.length]? = some (.lst [.int 1, .int (min 2 c : Nat), .int (c : Nat)]) := by rw [hSx]; exact last_get ..
  obtain ⟨sz, S2, e2, a2, w2, f2, l2⟩ := one_of (n := n) (w1.pre px) (by omega) gx (by omega) (by simp) (by simp)
  obtain ⟨z, rfl, hz1, hzc⟩ : ∃ z : Nat, sz = .int (z : Nat) ∧ 1 ≤ z ∧ z ≤ c := by
    simp only [List.mem_cons, List.not_mem_nil, or_false] at a2
    rcases a2 with q | q | q
    · exact ⟨1, q, by omega, by omega⟩
    · exact ⟨min 2 c, q, by omega, by omega⟩
    · exact ⟨c, q, by omega, by omega⟩
  have zle : 10 ^ (8 * z) ≤ 10 ^ (8 * c) := Nat.pow_le_pow_right (by decide) (by omega)
  have E2 : fnN Tx.F Ex Tx.cs (n + 2) 57 [.ref k, .ref S1.length] Sx = _ := e2
  obtain ⟨g1, S3, e3, b3, w3, f3, l3⟩ := law_great (n := n) (c := z) w2 (by omega) (by omega)
  have E3 := great_call (n := n) (k := k) (z := z) (g := g1) (S := S2) (S4 := S3) (c := c) (d1 := d1) e3
  have U : ∃ (u : Nat) (S4 : Sto), ev (GG (n + 2)) (.bi .max (.cons (.cst (.int 1)) (.cons (.ite (.cmp .eq (.var 2) (.cst (.int 4))) (.call 74 (.cons (.var 0) (.cons (.var 3) .nil))) (.cst (.int 1))) .nil))) [some (.ref k), some (.int (c : Nat)), some (.int (d1 : Nat)), some (.int (z : Nat)), none, none] S3 = .ok (.int (u : Nat)) S4 ∧ 0 < u ∧ u < 10 ^ (8 * c) ∧ WellAt S4 k (m + 202) ∧ Fr (· = k) S3 S4 ∧ S4.length = S3.length := by
    by_cases h4 : d1 = 4
    · obtain ⟨g2, S4, e4, b4, w4, f4, l4⟩ := law_great (n := n) (c := z) w3 (by omega) (by omega)
      have E4 := great_call (n := n) (k := k) (z := z) (g := g2) (S := S3) (S4 := S4) (c := c) (d1 := d1) e4
      have h4' : (d1 : Int) = 4 := by omega
      obtain ⟨M, hM, hM0, hM1⟩ := max_1 g2
      refine ⟨M, S4, piece_u h4' E4 hM, by omega, by rcases hM1 with q | q <;> omega, w4.mono (by omega), f4, l4⟩
    · have h4' : ¬ (d1 : Int) = 4 := by omega
      exact ⟨1, S3, piece_u1 h4', by omega, by omega, w3.mono (by omega), Fr.rfl', rfl⟩
  obtain ⟨u, S4, e4, u0, ub, w4, f4, l4⟩ := U
  obtain ⟨d5, S5, e5, a5, w5, f5, l5⟩ := drawn (n := n + 1) (many := 2) w4 (by omega) (by decide) (by decide)
  have E5 : fnN Tx.F Ex Tx.cs (n + 2) 56 [.ref k, .int 2] S4 = _ := e5
  have ubig : u < 2 ^ 8000 := Nat.lt_trans ub (Nat.lt_trans tl (by decide))
  have fx : Fr (· = k) S S5 := f1.tr ((Fr.of_pre px).tr (f2.tr (f3.tr (f4.tr f5))))
  have E6 : fnN Tx.F Ex Tx.cs (n + 2) 64 [.int (if (d5 : Int) = 0 then (g1 : Int) else -(g1 : Int)), .int (u : Nat)] S5 = .ok (frQ (mkRat (if (d5 : Int) = 0 then (g1 : Int) else -(g1 : Int)) u)) S5 := part_q u0 ubig
  exact ⟨_, S5, piece_3 (piece_b _ _ rfl rfl) E1 h0' h1' h2' mn hSx E2 E3 e4 E5 E6, ⟨_, rfl, fit_mk (by omega) (by split <;> omega) ub⟩, w5.mono (by omega), fx, by omega⟩
end Pl
end
section
set_option Elab.async false
set_option linter.all false
set_option maxRecDepth 100000
set_option maxHeartbeats 4000000
set_option autoImplicit false
set_option exponentiation.threshold 10000
/-! V16: drawn numbers and rows. -/
namespace Pl
open Ev Gr
theorem call_of {n f : Nat} {es : Es} {en : En} {S S1 : Sto} {xs : List D} {r : R D} (h : evs (GG n) es en S = .ok xs S1) (h2 : fnN Tx.F Ex Tx.cs n f xs S1 = r) : ev (GG n) (.call f es) en S = r := by
  rw [ev_callG, h, R.bind_ok, h2]
def Fit (k : Kq) (M : Nat) : Prop := FitQ k.re M ∧ FitQ k.im M
theorem any_walk {n k c : Nat} {Y : E} {q1 q2 : D} {S S1 S2 : Sto} (bd : Tx.b76 = .cons (.asg (.nm 2) Y) (.cons (.ret (.tup (.cons (.var 2) (.cons Y .nil)))) .nil)) (h1 : ev (GG n) Y [some (.ref k), some (.int (c : Nat)), none] S = .ok q1 S1) (h2 : ev (GG n) Y [some (.ref k), some (.int (c : Nat)), some q1] S1 = .ok q2 S2) :
    runF (GG n) Ex Tx.t76.fd [.ref k, .int (c : Nat)] S = .ok (.tup [q1, q2]) S2 := by
  simp [runF, Tx.t76, bd, h1, h2]
theorem law_any {n k m c : Nat} {S : Sto} (w : WellAt S k m) (hc1 : 1 ≤ c) (hc : c ≤ 50) (hm : m + 600 < 800000) : Dr (fn (n + 4) 76 [.ref k, .int (c : Nat)] S) S k (m + 420) (fun d => ∃ z : Kq, d = z.D ∧ Fit z (10 ^ (8 * c))) := by
  rw [fn_s (fd := Tx.t76.fd) rfl]
  obtain ⟨d1, S1, e1, ⟨q1, rfl, b1⟩, w1, f1, l1⟩ := law_piece (n := n) w hc1 hc (by omega)
  obtain ⟨d2, S2, e2, ⟨q2, rfl, b2⟩, w2, f2, l2⟩ := law_piece (n := n) w1 hc1 hc (by omega)
  have a : ∀ (o : Option D) S, evs (GG (n + 3)) (.cons (.var 0) (.cons (.var 1) .nil)) [some (.ref k), some (.int (c : Nat)), o] S = .ok [.ref k, .int (c : Nat)] S := fun o S => by simp
  have h1 := call_of (f := 75) (a none S) e1
  have h2 := call_of (f := 75) (a (some (frQ q1)) S1) e2
  exact ⟨_, S2, any_walk rfl h1 h2, ⟨⟨q1, q2⟩, rfl, b1, b2⟩, w2.mono (by omega), f1.tr f2, by omega⟩
def someB (X : E) : Ss := .cons (.exp (.mt .append (.var 3) (.cons X .nil))) (.cons (.asg (.nm 4) (.ite (.cmp .eq (.ix (.var 3) (.neg (.cst (.int 1)))) (.tup (.cons (.tup (.cons (.cst (.int 0)) (.cons (.cst (.int 1)) .nil))) (.cons (.tup (.cons (.cst (.int 0)) (.cons (.cst (.int 1)) .nil))) .nil)))) (.var 4) (.bi .len (.cons (.var 3) .nil)))) .nil)
theorem zero_D : Kq.zero.D = .tup [.tup [.int 0, .int 1], .tup [.int 0, .int 1]] := rfl
theorem ix_lastR {S : Sto} {f : Nat} {l : List Kq} {z : Kq} (h : S[f]? = some (.lst ((l ++ [z]).map Kq.D))) : ixD S (.ref f) (.int (-1)) = some z.D := by
  rw [ixD_ref h]
  unfold L2.atI L2.ixN
  simp
  rw [if_pos (by omega)]
  simp
  rw [show ((-1 : Int) + ((l.length : Int) + 1)).toNat = l.length by omega]
  simp
def Kept (l : List Kq) (p : Nat) : Prop := p ≤ l.length ∧ (l.take p).getLast? ≠ some Kq.zero
theorem kept_snoc {l : List Kq} {p : Nat} {z : Kq} (h : Kept l p) : Kept (l ++ [z]) (if z = Kq.zero then p else l.length + 1) := by
  by_cases hz : z = Kq.zero
  · rw [if_pos hz]
    exact ⟨by have := h.1; simp; omega, by rw [List.take_append_of_le_length h.1]; exact h.2⟩
  · rw [if_neg hz]
    refine ⟨by simp, ?_⟩
    rw [List.take_of_length_le (by simp)]
    simpa using hz
theorem some_loop {n k c f M : Nat} {L : List D} {X : E} {o1 : Option D} (hf : f ≠ k)
    (step : ∀ (S : Sto) (m : Nat) (o4 o5 : Option D), WellAt S k m → m + 600 < 800000 → Dr (ev (GG n) X [some (.ref k), o1, some (.int (c : Nat)), some (.ref f), o4, o5] S) S k (m + 420) (fun d => ∃ z : Kq, d = z.D ∧ Fit z M)) :
    ∀ (cnt N : Nat) (l : List Kq) (p m : Nat) (o5 : Option D) (S : Sto), WellAt S k m → m + 1000 * cnt < 700000 → S[f]? = some (.lst (l.map Kq.D)) → (∀ z ∈ l, Fit z M) → Kept l p → l.length + cnt ≤ 1000 →
      ∃ (p5 : Option D) (l' : List Kq) (p' : Nat) (S' : Sto), forL ⟨L, []⟩ (lpF (GG n) Ex (.nm 5) (someB X)) (rngN N cnt) [some (.ref k), o1, some (.int (c : Nat)), some (.ref f), some (.int (p : Nat)), o5] S = .nx [some (.ref k), o1, some (.int (c : Nat)), some (.ref f), some (.int (p' : Nat)), p5] S' ∧
        S'[f]? = some (.lst (l'.map Kq.D)) ∧ (∀ z ∈ l', Fit z M) ∧ Kept l' p' ∧ l'.length = l.length + cnt ∧ WellAt S' k (m + 420 * cnt) ∧ Fr (fun x => x = k ∨ x = f) S S' ∧ S.length ≤ S'.length := by
  intro cnt
  induction cnt with
  | zero => intro N l p m o5 S w _ g hl hk _; exact ⟨o5, l, p, S, forL_nil (ok_nil _ _), g, hl, hk, rfl, w, Fr.rfl', Nat.le_refl _⟩
  | succ cnt ih =>
    intro N l p m o5 S w hm g hl hk hn
    obtain ⟨d, S1, e1, ⟨z, rfl, bz⟩, w1, f1, l1⟩ := step S m (some (.int (p : Nat))) (some (.int (N : Nat))) w (by omega)
    have g1 := f1 _ _ hf g
    have ap := mt_append g1 (by simp; omega) z.D
    have ty := ty_append g
    have al : l.map Kq.D ++ [z.D] = (l ++ [z]).map Kq.D := by simp
    rw [al] at ap
    obtain ⟨S2, hS2⟩ : ∃ S2 : Sto, S2 = S1.set f (.lst ((l ++ [z]).map Kq.D)) := ⟨_, rfl⟩
    rw [← hS2] at ap
    have g2 : S2[f]? = some (.lst ((l ++ [z]).map Kq.D)) := by rw [hS2]; exact set_get g1
    have w2 : WellAt S2 k (m + 420) := by rw [hS2]; exact w1.fr (Fr.set (P := (· = f)) rfl) (fun e => hf e.symm)
    have ix := ix_lastR g2
    have ek := eqD_k S2 z Kq.zero
    rw [zero_D] at ek
    have ln := len_ref g2
    rw [List.length_map, List.length_append, List.length_singleton] at ln
    obtain ⟨p5, l', p', S', e, g', b', k', n', w', f', q'⟩ := ih (N + 1) (l ++ [z]) (if z = Kq.zero then p else l.length + 1) (m + 420) (some (.int (N : Nat))) S2 w2 (by omega) g2 (fun x hx => by
      rcases List.mem_append.mp hx with q | q
      · exact hl x q
      · rw [List.mem_singleton.mp q]; exact bz) (kept_snoc hk) (by simp; omega)
    have l2 : S2.length = S1.length := by rw [hS2]; simp
    refine ⟨p5, l', p', S', ?_, g', b', k', by rw [n']; simp; omega, w'.mono (by omega), ((f1.mono (Q := fun x => x = k ∨ x = f) (fun _ h => Or.inl h)).tr (by rw [hS2]; exact Fr.set (P := fun x => x = k ∨ x = f) (Or.inr rfl))).tr f', by omega⟩
    rw [rngN_succ]
    simp only [forL_cons (ok_nil _ _)]
    rw [← e]
    by_cases hz : z = Kq.zero
    · rw [decide_eq_true hz] at ek
      rw [if_pos hz]
      simp [someB, ty, e1, ap, ix, ek]
    · rw [decide_eq_false hz] at ek
      rw [if_neg hz]
      simp [someB, ty, e1, ap, ix, ek, ln]
theorem some_walk {n k c t : Nat} {X : E} {f p : Nat} {p5 : Option D} {l : List Kq} {S S2 : Sto} (bd : Tx.b77 = .cons (.par [3, 4] (.cons (.lst .nil) (.cons (.cst (.int 0)) .nil))) (.cons (.for (.nm 5) (.rng1 (.call 56 (.cons (.var 0) (.cons (.bin .add (.var 1) (.cst (.int 1))) .nil)))) (someB X)) (.cons (.ret (.bi .tuple (.cons (.sl (.var 3) .none (.some (.var 4))) .nil))) .nil)))
    (ef : exec (GG n) Ex (.for (.nm 5) (.rng1 (.call 56 (.cons (.var 0) (.cons (.bin .add (.var 1) (.cst (.int 1))) .nil)))) (someB X)) [some (.ref k), some (.int (t : Nat)), some (.int (c : Nat)), some (.ref S.length), some (.int 0), none] (S ++ [.lst []]) = .nx [some (.ref k), some (.int (t : Nat)), some (.int (c : Nat)), some (.ref f), some (.int (p : Nat)), p5] S2) (g : S2[f]? = some (.lst (l.map Kq.D))) :
    runF (GG n) Ex Tx.t77.fd [.ref k, .int (t : Nat), .int (c : Nat)] S = .ok (.tup ((l.take p).map Kq.D)) (S2 ++ [.lst ((l.take p).map Kq.D)]) := by
  have sl := slD_ref g none (some (p : Nat))
  rw [cut_to, ← List.map_take] at sl
  have tp := tuple_ref (last_get S2 (.lst ((l.take p).map Kq.D)))
  generalize hY : Sm.for (.nm 5) (.rng1 (.call 56 (.cons (.var 0) (.cons (.bin .add (.var 1) (.cst (.int 1))) .nil)))) (someB X) = Y at *
  generalize S2 ++ [Ob.lst ((l.take p).map Kq.D)] = S3 at *
  simp [runF, Tx.t77, bd, parSet, ef, sl, tp]
theorem law_some {n k m c t : Nat} {S : Sto} (w : WellAt S k m) (hc1 : 1 ≤ c) (hc : c ≤ 50) (ht : t ≤ 10) (hm : m + 20000 < 600000) : Dr (fn (n + 5) 77 [.ref k, .int (t : Nat), .int (c : Nat)] S) S k (m + 5000) (fun d => ∃ l : List Kq, d = .tup (l.map Kq.D) ∧ l.length ≤ t ∧ (∀ z ∈ l, Fit z (10 ^ (8 * c))) ∧ l.getLast? ≠ some Kq.zero) := by
  rw [fn_s (fd := Tx.t77.fd) rfl]
  have kk := w.lt
  have p0 := pre_snoc S (.lst [])
  have w0 := w.pre p0
  obtain ⟨d, S1, e1, a1, w1, f1, l1⟩ := drawn (n := n + 3) (many := ((t : Nat) : Int) + 1) w0 (by omega) (by omega) (by omega)
  have E1 : fnN Tx.F Ex Tx.cs (n + 4) 56 [.ref k, .int (((t : Nat) : Int) + 1)] (S ++ [.lst []]) = _ := e1
  have g1 : S1[S.length]? = some (.lst (([] : List Kq).map Kq.D)) := f1 _ _ (by omega) (last_get ..)
  obtain ⟨p5, l, p, S2, e2, g2, b2, k2, n2, w2, f2, q2⟩ := some_loop (n := n + 4) (k := k) (c := c) (f := S.length) (M := 10 ^ (8 * c)) (L := rngD 0 (d : Nat)) (X := .call 76 (.cons (.var 0) (.cons (.var 2) .nil))) (o1 := some (.int (t : Nat))) (by omega) (fun Sx m o4 o5 w hm => by
    have h := law_any (n := n) w hc1 hc hm
    have a : evs (GG (n + 4)) (.cons (.var 0) (.cons (.var 2) .nil)) [some (.ref k), some (.int (t : Nat)), some (.int (c : Nat)), some (.ref S.length), o4, o5] Sx = .ok [.ref k, .int (c : Nat)] Sx := by simp
    obtain ⟨x, S', e, h'⟩ := h
    exact ⟨x, S', call_of a e, h'⟩) d 0 [] 0 (m + 1) none S1 w1 (by omega) g1 (by simp) ⟨Nat.le_refl _, by simp⟩ (by simp; omega)
  have ef : exec (GG (n + 4)) Ex (.for (.nm 5) (.rng1 (.call 56 (.cons (.var 0) (.cons (.bin .add (.var 1) (.cst (.int 1))) .nil)))) (someB (.call 76 (.cons (.var 0) (.cons (.var 2) .nil))))) [some (.ref k), some (.int (t : Nat)), some (.int (c : Nat)), some (.ref S.length), some (.int 0), none] (S ++ [.lst []]) = .nx [some (.ref k), some (.int (t : Nat)), some (.int (c : Nat)), some (.ref S.length), some (.int (p : Nat)), p5] S2 := by
    have er : evi (GG (n + 4)) (.rng1 (.call 56 (.cons (.var 0) (.cons (.bin .add (.var 1) (.cst (.int 1))) .nil)))) [some (.ref k), some (.int (t : Nat)), some (.int (c : Nat)), some (.ref S.length), some (.int 0), none] (S ++ [.lst []]) = .ok ⟨rngD 0 (d : Nat), []⟩ S1 := evi_rng1 (GG (n + 4)) _ _ (by simp [E1]) (by unfold small; omega)
    rw [exec_for, er, R.then_ok]
    have hr : rngD 0 (d : Nat) = rngN 0 d := rngD_N d
    have e' := e2
    rw [← hr] at e'
    exact e'
  refine ⟨_, _, some_walk rfl ef g2, ⟨l.take p, rfl, ?_, fun z hz => b2 z (List.mem_of_mem_take hz), k2.2⟩, (w2.mono (by omega)).pre (pre_snoc ..), ?_, ?_⟩
  · rw [List.length_take, n2]
    simp
    omega
  · refine Fr.tr ?_ (Fr.of_pre (pre_snoc ..))
    exact (((Fr.of_pre p0).tr (f1.mono (Q := fun x => x = k ∨ x = S.length) (fun _ h => Or.inl h))).tr f2).new (fun x hx hl => by rcases hx with e | e <;> omega)
  · have : (S ++ [Ob.lst []]).length = S.length + 1 := by simp
    simp
    omega
end Pl
end
section
set_option Elab.async false
set_option linter.all false
set_option maxRecDepth 100000
set_option maxHeartbeats 4000000
set_option autoImplicit false
set_option exponentiation.threshold 10000
/-! V17: rows under a line, apart from the row over it: plain. -/
namespace Pl
open Ev Gr
def UN (over : List Kq) : Nat → List Kq → Prop
  | 0, l => l = [Kq.one]
  | a + 1, l => ∃ (c : Kq) (l0 : List Kq), c ≠ Kq.zero ∧ ev1 over c.inv ≠ Kq.zero ∧ UN over a l0 ∧ l = outL 0 l0 [Kq.one, Kq.zero.sub c] (List.replicate (a + 2) Kq.zero)
theorem un1 {over l : List Kq} (h : UN over 1 l) : ∃ c, c ≠ Kq.zero ∧ ev1 over c.inv ≠ Kq.zero ∧ l = [Kq.one, Kq.zero.sub c] := by
  obtain ⟨c, l0, hc, hv, h0, e⟩ := h
  refine ⟨c, hc, hv, ?_⟩
  have h0 : l0 = [Kq.one] := h0
  rw [e, h0]
  simp only [outL, inL, List.replicate, List.getD_cons_zero, List.getD_cons_succ, List.set_cons_zero, List.set_cons_succ, one_mul']
  have z : ∀ x : Kq, Kq.zero.add x = x := fun x => by
    apply kext
    · simp only [Kq.add, Kq.zero]; grind
    · simp only [Kq.add, Kq.zero]; grind
  rw [z, z]
theorem un2 {over l : List Kq} (h : UN over 2 l) : ∃ c d, c ≠ Kq.zero ∧ d ≠ Kq.zero ∧ ev1 over c.inv ≠ Kq.zero ∧ ev1 over d.inv ≠ Kq.zero ∧ l = [Kq.one, (Kq.zero.sub d).add (Kq.zero.sub c), (Kq.zero.sub c).mul (Kq.zero.sub d)] := by
  obtain ⟨d, l0, hd, hv, h0, e⟩ := h
  obtain ⟨c, hc, hw, e0⟩ := un1 h0
  refine ⟨c, d, hc, hd, hw, hv, ?_⟩
  rw [e, e0]
  simp only [outL, inL, List.replicate, List.getD_cons_zero, List.getD_cons_succ, List.set_cons_zero, List.set_cons_succ, one_mul', mul_one']
  have z : ∀ x : Kq, Kq.zero.add x = x := fun x => by
    apply kext
    · simp only [Kq.add, Kq.zero]; grind
    · simp only [Kq.add, Kq.zero]; grind
  rw [z, z, z]
theorem root1 {c t : Kq} (hc : c ≠ Kq.zero) (h : ev1 [Kq.one, Kq.zero.sub c] t = Kq.zero) : t = c.inv := by
  apply inv_of
  have h1 := congrArg Kq.re h
  have h2 := congrArg Kq.im h
  simp only [ev1, Kq.add, Kq.mul, Kq.sub, Kq.zero, Kq.one] at h1 h2
  apply kext
  · simp only [Kq.mul, Kq.one]; grind
  · simp only [Kq.mul, Kq.one]; grind
theorem ev_two (x y t : Kq) : ev1 [Kq.one, y.add x, x.mul y] t = (ev1 [Kq.one, x] t).mul (ev1 [Kq.one, y] t) := by
  apply kext
  · simp only [ev1, Kq.add, Kq.mul, Kq.zero, Kq.one]; grind
  · simp only [ev1, Kq.add, Kq.mul, Kq.zero, Kq.one]; grind
theorem neg_ne {c : Kq} (hc : c ≠ Kq.zero) : Kq.zero.sub c ≠ Kq.zero := by
  intro e
  apply hc
  have h1 := congrArg Kq.re e
  have h2 := congrArg Kq.im e
  simp only [Kq.sub, Kq.zero] at h1 h2
  apply kext
  · show c.re = 0; grind
  · show c.im = 0; grind
theorem at_inv {c : Kq} (hc : c ≠ Kq.zero) : ev1 [Kq.one, Kq.zero.sub c] c.inv = Kq.zero := by
  have h := inv_mul hc
  have h1 := congrArg Kq.re h
  have h2 := congrArg Kq.im h
  generalize c.inv = t at *
  simp only [Kq.mul, Kq.one] at h1 h2
  apply kext
  · simp only [ev1, Kq.add, Kq.mul, Kq.sub, Kq.zero, Kq.one]; grind
  · simp only [ev1, Kq.add, Kq.mul, Kq.sub, Kq.zero, Kq.one]; grind
theorem un_way {over l : List Kq} {a : Nat} (h : UN over a l) (ha : a ≤ 2) : l.length = a + 1 ∧ l.head? = some Kq.one ∧ l.getLast? ≠ some Kq.zero ∧ ((a = 0 ∧ l = [Kq.one]) ∨ (a ≠ 0 ∧ Apart over l ∧ ∃ t, ev1 l t = Kq.zero)) := by
  match a, h, ha with
  | 0, h, _ =>
    have h : l = [Kq.one] := h
    rw [h]
    exact ⟨rfl, rfl, by simpa using one_ne, Or.inl ⟨rfl, rfl⟩⟩
  | 1, h, _ =>
    obtain ⟨c, hc, hv, e⟩ := un1 h
    rw [e]
    refine ⟨rfl, rfl, by simpa using neg_ne hc, Or.inr ⟨by decide, fun t ht => ?_, c.inv, at_inv hc⟩⟩
    rw [root1 hc ht]
    exact hv
  | 2, h, _ =>
    obtain ⟨c, d, hc, hd, hw, hv, e⟩ := un2 h
    rw [e]
    refine ⟨rfl, rfl, by simpa using mul_ne (neg_ne hc) (neg_ne hd), Or.inr ⟨by decide, fun t ht => ?_, c.inv, ?_⟩⟩
    · rw [ev_two] at ht
      by_cases h1 : ev1 [Kq.one, Kq.zero.sub c] t = Kq.zero
      · rw [root1 hc h1]; exact hw
      · by_cases h2 : ev1 [Kq.one, Kq.zero.sub d] t = Kq.zero
        · rw [root1 hd h2]; exact hv
        · exact absurd ht (mul_ne h1 h2)
    · rw [ev_two, at_inv hc, zero_mul']
theorem val_kb {t : T3} {B : Nat} (h : Nice t B) : kb t.val B := by
  have hd : t.d ≠ 0 := by have := h.pos; omega
  exact ⟨rb_mk hd h.ba h.bd, rb_mk hd h.bb h.bd⟩
end Pl
end
section
set_option Elab.async false
set_option linter.all false
set_option maxRecDepth 100000
set_option maxHeartbeats 4000000
set_option autoImplicit false
set_option exponentiation.threshold 10000
/-! V18: a drawn quotient. -/
namespace Pl
open Ev Gr
def e001 : E := .tup (.cons (.cst (.int 0)) (.cons (.cst (.int 0)) (.cons (.cst (.int 1)) .nil)))
def madeB (C A T : E) : Ss := .cons (.asg (.nm 7) C) (.cons (.ite (.and (.cmp .ne (.var 7) e001) (.cmp .ne A (.lst (.cons e001 .nil)))) (.cons (.asg (.nm 3) T) .nil) .nil) .nil)
theorem t0_D : T0.D = .tup [.int 0, .int 0, .int 1] := rfl
theorem eqD_t0 (S : Sto) (c : T3) : eqD S c.D (.tup [.int 0, .int 0, .int 1]) = some (decide (c = T0)) := by
  have p1 : pl c.D = true := rfl
  have q1 : dpt c.D = 1 := by simp [T3.D, dpt, dptL]
  rw [← t0_D, eqD_pl p1 (by rfl) (by omega) (by decide)]
  congr 1
  exact decide_eq_decide.mpr ⟨fun h => T3.D_inj h, fun h => by rw [h]⟩
theorem eqD_t0s {S : Sto} {r q : Nat} {t : T3} (h1 : S[r]? = some (.lst [t.D])) (h2 : S[q]? = some (.lst [.tup [.int 0, .int 0, .int 1]])) : eqD S (.ref r) (.ref q) = some (decide (t = T0)) := by
  have s1 := plL_t3 [t]
  have s2 := plL_t3 [T0]
  rw [← t0_D] at h2
  rw [eqD_ref (xs := [t].map T3.D) (ys := [T0].map T3.D) h1 h2 s1.1 s2.1 (by omega) (by omega)]
  congr 1
  refine decide_eq_decide.mpr ⟨fun h => ?_, fun h => by rw [h]⟩
  simp only [List.map_cons, List.map_nil, List.cons.injEq, and_true] at h
  exact T3.D_inj h
theorem made_turn0 {n : Nat} {C A T : E} {c : T3} {o0 o1 o2 o3 o4 o5 o6 o7 o8 : Option D} {i : D} {S S1 : Sto} (hc : ev (GG n) C [o0, o1, o2, o3, o4, o5, some i, o7, o8] S = .ok c.D S1) (h : c = T0) :
    lpF (GG n) Ex (.nm 6) (madeB C A T) i [o0, o1, o2, o3, o4, o5, o6, o7, o8] S = .nx [o0, o1, o2, o3, o4, o5, some i, some c.D, o8] S1 := by
  have e := eqD_t0 S1 c
  rw [decide_eq_true h] at e
  simp [madeB, e001, hc, e]
theorem made_turn1 {n r : Nat} {C A T : E} {c t : T3} {o0 o1 o2 o3 o4 o5 o6 o7 o8 : Option D} {i : D} {S S1 S2 : Sto} (hc : ev (GG n) C [o0, o1, o2, o3, o4, o5, some i, o7, o8] S = .ok c.D S1) (h : c ≠ T0)
    (ha : ev (GG n) A [o0, o1, o2, o3, o4, o5, some i, some c.D, o8] S1 = .ok (.ref r) S2) (hr : S2[r]? = some (.lst [t.D])) (h2 : t = T0) :
    lpF (GG n) Ex (.nm 6) (madeB C A T) i [o0, o1, o2, o3, o4, o5, o6, o7, o8] S = .nx [o0, o1, o2, o3, o4, o5, some i, some c.D, o8] (S2 ++ [.lst [.tup [.int 0, .int 0, .int 1]]]) := by
  have e := eqD_t0 S1 c
  rw [decide_eq_false h] at e
  have e2 := eqD_t0s (pre_get (pre_snoc S2 (.lst [.tup [.int 0, .int 0, .int 1]])) hr) (last_get ..)
  rw [decide_eq_true h2] at e2
  simp [madeB, e001, hc, e, ha, e2]
theorem made_turn2 {n r : Nat} {C A T : E} {c t : T3} {d : D} {o0 o1 o2 o3 o4 o5 o6 o7 o8 : Option D} {i : D} {S S1 S2 S3 : Sto} (hc : ev (GG n) C [o0, o1, o2, o3, o4, o5, some i, o7, o8] S = .ok c.D S1) (h : c ≠ T0)
    (ha : ev (GG n) A [o0, o1, o2, o3, o4, o5, some i, some c.D, o8] S1 = .ok (.ref r) S2) (hr : S2[r]? = some (.lst [t.D])) (h2 : t ≠ T0) (ht : ev (GG n) T [o0, o1, o2, o3, o4, o5, some i, some c.D, o8] (S2 ++ [.lst [.tup [.int 0, .int 0, .int 1]]]) = .ok d S3) :
    lpF (GG n) Ex (.nm 6) (madeB C A T) i [o0, o1, o2, o3, o4, o5, o6, o7, o8] S = .nx [o0, o1, o2, some d, o4, o5, some i, some c.D, o8] S3 := by
  have e := eqD_t0 S1 c
  rw [decide_eq_false h] at e
  have e2 := eqD_t0s (pre_get (pre_snoc S2 (.lst [.tup [.int 0, .int 0, .int 1]])) hr) (last_get ..)
  rw [decide_eq_false h2] at e2
  simp [madeB, e001, hc, e, ha, e2, ht]
def bU : Nat → Nat
  | 0 => 1
  | 1 => 19
  | _ => 109
theorem bU_le {a : Nat} (h : a ≤ 1) : 1 + (a + 1) * (2 * (bU a + 6 + 2)) ≤ bU (a + 1) := by
  match a, h with
  | 0, _ => decide
  | 1, _ => decide
def mC : E := .call 59 (.cons (.bin .sub (.call 56 (.cons (.var 0) (.cons (.cst (.int 9)) .nil))) (.cst (.int 4))) (.cons (.bin .sub (.call 56 (.cons (.var 0) (.cons (.cst (.int 7)) .nil))) (.cst (.int 3))) (.cons (.bin .add (.cst (.int 1)) (.call 56 (.cons (.var 0) (.cons (.cst (.int 4)) .nil)))) .nil)))
def e101 : E := .tup (.cons (.cst (.int 1)) (.cons (.cst (.int 0)) (.cons (.cst (.int 1)) .nil)))
def mA : E := .call 68 (.cons (.var 5) (.cons (.call 63 (.cons e101 (.cons (.var 7) .nil))) (.cons (.cst (.int 1)) .nil)))
def mT : E := .call 67 (.cons (.var 3) (.cons (.lst (.cons e101 (.cons (.call 61 (.cons e001 (.cons (.var 7) .nil))) .nil))) .nil))
theorem made_c {n k m : Nat} {o1 o2 o3 o4 o5 o6 o7 o8 : Option D} {S : Sto} (w : WellAt S k m) (hm : m + 10 < 800000) :
    ∃ (c : T3) (S' : Sto), ev (GG (n + 5)) mC [some (.ref k), o1, o2, o3, o4, o5, o6, o7, o8] S = .ok c.D S' ∧ Nice c 4 ∧ WellAt S' k (m + 3) ∧ Fr (· = k) S S' ∧ S'.length = S.length := by
  obtain ⟨d1, S1, e1, a1, w1, f1, l1⟩ := drawn (n := n + 4) (many := 9) w (by omega) (by decide) (by decide)
  obtain ⟨d2, S2, e2, a2, w2, f2, l2⟩ := drawn (n := n + 4) (many := 7) w1 (by omega) (by decide) (by decide)
  obtain ⟨d3, S3, e3, a3, w3, f3, l3⟩ := drawn (n := n + 4) (many := 4) w2 (by omega) (by decide) (by decide)
  have E1 : fnN Tx.F Ex Tx.cs (n + 5) 56 [.ref k, .int 9] S = _ := e1
  have E2 : fnN Tx.F Ex Tx.cs (n + 5) 56 [.ref k, .int 7] S1 = _ := e2
  have E3 : fnN Tx.F Ex Tx.cs (n + 5) 56 [.ref k, .int 4] S2 = _ := e3
  have a : evs (GG (n + 5)) (.cons (.bin .sub (.call 56 (.cons (.var 0) (.cons (.cst (.int 9)) .nil))) (.cst (.int 4))) (.cons (.bin .sub (.call 56 (.cons (.var 0) (.cons (.cst (.int 7)) .nil))) (.cst (.int 3))) (.cons (.bin .add (.cst (.int 1)) (.call 56 (.cons (.var 0) (.cons (.cst (.int 4)) .nil)))) .nil))) [some (.ref k), o1, o2, o3, o4, o5, o6, o7, o8] S = .ok [.int ((d1 : Int) - 4), .int ((d2 : Int) - 3), .int (1 + (d3 : Int))] S3 := by
    simp [E1, E2, E3]
  have nm := law_num (n := n + 3) (a := (d1 : Int) - 4) (b := (d2 : Int) - 3) (d := 1 + d3) (S := S3) (by omega)
  rw [Int.natCast_add] at nm
  refine ⟨_, S3, call_of a nm, norm_nice (by omega) (by omega) (by omega) (by omega), w3.mono (by omega), f1.tr (f2.tr f3), by omega⟩
theorem made_a {n rs : Nat} {ts : List T3} {c : T3} {o0 o1 o2 o3 o4 o6 o8 : Option D} {S : Sto} (hr : S[rs]? = some (.lst (ts.map T3.D))) (ht : ∀ t ∈ ts, Nice t 2800) (hl : ts.length ≤ 10) (hc : Nice c 4) (h0 : c.val ≠ Kq.zero) :
    ∃ (r : Nat) (t : T3) (S' : Sto), ev (GG (n + 5)) mA [o0, o1, o2, o3, o4, some (.ref rs), o6, some c.D, o8] S = .ok (.ref r) S' ∧ S'[r]? = some (.lst [t.D]) ∧ t.val = ev1 (ts.map T3.val) c.val.inv ∧ (∃ B, Nice t B) ∧ S <+: S' := by
  obtain ⟨q, e1, v1, n1⟩ := law_over1 (n := n + 2) (S := S) hc h0 (by decide)
  have E1 : ev (GG (n + 5)) (.call 63 (.cons e101 (.cons (.var 7) .nil))) [o0, o1, o2, o3, o4, some (.ref rs), o6, some c.D, o8] S = .ok q.D S := call_of (f := 63) (xs := [T1.D, c.D]) (S1 := S) (by simp [e101, T1, T3.D]) e1
  obtain ⟨r, t, S', e2, g, v, nn, p⟩ := law_at (n := n) (S := S) hr n1 ht hl (by decide)
  refine ⟨r, t, S', call_of (S1 := S) (xs := [.ref rs, q.D, .int 1]) (by simp [E1]) e2, g, by rw [v, v1], nn, p⟩
theorem made_t {n u U : Nat} {us : List T3} {c : T3} {o0 o1 o2 o4 o5 o6 o8 : Option D} {S : Sto} (hu : S[u]? = some (.lst (us.map T3.D))) (hU : ∀ t ∈ us, Nice t U) (u0 : us ≠ []) (ul : us.length ≤ 3) (hc : Nice c 4) (hb : U ≤ 1000) :
    ∃ (r : Nat) (xs : List T3) (S' : Sto), ev (GG (n + 5)) mT [o0, o1, o2, some (.ref u), o4, o5, o6, some c.D, o8] S = .ok (.ref r) S' ∧ S'[r]? = some (.lst (xs.map T3.D)) ∧ xs.length = us.length + 1 ∧ xs.map T3.val = outL 0 (us.map T3.val) [Kq.one, Kq.zero.sub c.val] (List.replicate (us.length + 1) Kq.zero) ∧ (∀ t ∈ xs, Nice t (1 + us.length * (2 * (U + 6 + 2)))) ∧ S <+: S' := by
  obtain ⟨q, e1, v1, n1⟩ := law_sub (n := n + 2) (S := S) nice0 hc (by decide)
  have E1 : ev (GG (n + 5)) (.call 61 (.cons e001 (.cons (.var 7) .nil))) [o0, o1, o2, some (.ref u), o4, o5, o6, some c.D, o8] S = .ok q.D S := call_of (f := 61) (xs := [T0.D, c.D]) (S1 := S) (by simp [e001, T0, T3.D]) e1
  obtain ⟨S1, hS1⟩ : ∃ S1 : Sto, S1 = S ++ [.lst ([T1, q].map T3.D)] := ⟨_, rfl⟩
  have p1 : S <+: S1 := by rw [hS1]; exact pre_snoc ..
  have g1 : S1[S.length]? = some (.lst ([T1, q].map T3.D)) := by rw [hS1]; exact last_get ..
  have n1' : Nice q 6 := n1
  obtain ⟨r, xs, S', e2, g, l, v, nn, p⟩ := law_times (n := n) (U := U) (V := 6) (S := S1) (pre_get p1 hu) g1 u0 (by simp) (by omega) (by simp) hU (fun t ht => by
    rcases List.mem_cons.mp ht with h | h
    · rw [h]; exact nice1.mono (by decide)
    · rw [List.mem_singleton.mp h]; exact n1') (by omega)
  have a : evs (GG (n + 5)) (.cons (.var 3) (.cons (.lst (.cons e101 (.cons (.call 61 (.cons e001 (.cons (.var 7) .nil))) .nil))) .nil)) [o0, o1, o2, some (.ref u), o4, o5, o6, some c.D, o8] S = .ok [.ref u, .ref S.length] S1 := by
    generalize hX : E.call 61 (.cons e001 (.cons (.var 7) .nil)) = X at *
    have lD : [T1, q].map T3.D = [.tup [.int 1, .int 0, .int 1], q.D] := rfl
    rw [hS1, lD]
    simp [E1, e101]
  refine ⟨r, xs, S', call_of a e2, g, by simp at l; omega, ?_, fun t ht => nn t ht, p1.trans p⟩
  rw [v]
  simp only [List.map_cons, List.map_nil, val1, v1, val0, List.length_cons, List.length_nil]
  rfl
end Pl
end
section
set_option Elab.async false
set_option linter.all false
set_option maxRecDepth 100000
set_option maxHeartbeats 4000000
set_option autoImplicit false
set_option exponentiation.threshold 10000
/-! V19: a drawn quotient, whole. -/
namespace Pl
open Ev Gr
theorem made_loop {n k rs : Nat} {L : List D} {ts : List T3} {o1 o2 o4 : Option D} (hrk : rs ≠ k) (ht : ∀ t ∈ ts, Nice t 2800) (hl : ts.length ≤ 10) :
    ∀ (cnt N a : Nat) (us : List T3) (u m : Nat) (o6 o7 : Option D) (S : Sto), WellAt S k m → m + 10 * cnt < 700000 → S[rs]? = some (.lst (ts.map T3.D)) → S[u]? = some (.lst (us.map T3.D)) → u ≠ k → UN (ts.map T3.val) a (us.map T3.val) → us.length = a + 1 → (∀ t ∈ us, Nice t (bU a)) → a + cnt ≤ 2 →
      ∃ (a' : Nat) (us' : List T3) (u' : Nat) (p6 p7 : Option D) (S' : Sto), forL ⟨L, []⟩ (lpF (GG (n + 5)) Ex (.nm 6) (madeB mC mA mT)) (rngN N cnt) [some (.ref k), o1, o2, some (.ref u), o4, some (.ref rs), o6, o7, none] S = .nx [some (.ref k), o1, o2, some (.ref u'), o4, some (.ref rs), p6, p7, none] S' ∧
        S'[u']? = some (.lst (us'.map T3.D)) ∧ u' ≠ k ∧ UN (ts.map T3.val) a' (us'.map T3.val) ∧ us'.length = a' + 1 ∧ (∀ t ∈ us', Nice t (bU a')) ∧ a' ≤ a + cnt ∧ WellAt S' k (m + 3 * cnt) ∧ Fr (· = k) S S' ∧ S.length ≤ S'.length := by
  intro cnt
  induction cnt with
  | zero =>
    intro N a us u m o6 o7 S w _ _ g hk hu l b _
    exact ⟨a, us, u, o6, o7, S, forL_nil (ok_nil _ _), g, hk, hu, l, b, by omega, w, Fr.rfl', Nat.le_refl _⟩
  | succ cnt ih =>
    intro N a us u m o6 o7 S w hm g1 g hk hu l b ha
    obtain ⟨c, S1, e1, nc, w1, f1, l1⟩ := made_c (n := n) (o1 := o1) (o2 := o2) (o3 := some (.ref u)) (o4 := o4) (o5 := some (.ref rs)) (o6 := some (.int (N : Nat))) (o7 := o7) (o8 := none) w (by omega)
    have fk := w1.lt
    by_cases hc : c = T0
    · obtain ⟨a', us', u', p6, p7, S', e, h1, h2, h3, h4, h5, h6, h7, h8, h9⟩ := ih (N + 1) a us u (m + 3) (some (.int (N : Nat))) (some c.D) S1 w1 (by omega) (f1 _ _ hrk g1) (f1 _ _ hk g) hk hu l b (by omega)
      refine ⟨a', us', u', p6, p7, S', ?_, h1, h2, h3, h4, h5, by omega, h7.mono (by omega), f1.tr h8, by omega⟩
      rw [rngN_succ]
      simp only [forL_cons (ok_nil _ _)]
      rw [made_turn0 e1 hc, O.turn_nx, e]
    · have c0 : c.val ≠ Kq.zero := fun e => hc (nc.zero.mp e)
      obtain ⟨r, t, S2, e2, g2, v2, ⟨B2, n2⟩, p2⟩ := made_a (n := n) (o0 := some (.ref k)) (o1 := o1) (o2 := o2) (o3 := some (.ref u)) (o4 := o4) (o6 := some (.int (N : Nat))) (o8 := none) (f1 _ _ hrk g1) ht hl nc c0
      obtain ⟨S3, hS3⟩ : ∃ S3 : Sto, S3 = S2 ++ [.lst [.tup [.int 0, .int 0, .int 1]]] := ⟨_, rfl⟩
      have p3 : S2 <+: S3 := by rw [hS3]; exact pre_snoc ..
      have q3 : S1 <+: S3 := p2.trans p3
      have l3 := q3.length_le
      by_cases h0 : t = T0
      · have tv := made_turn1 (A := mA) (T := mT) (o6 := o6) e1 hc e2 g2 h0
        rw [← hS3] at tv
        obtain ⟨a', us', u', p6, p7, S', e, h1, h2, h3, h4, h5, h6, h7, h8, h9⟩ := ih (N + 1) a us u (m + 3) (some (.int (N : Nat))) (some c.D) S3 (w1.pre q3) (by omega) (pre_get q3 (f1 _ _ hrk g1)) (pre_get q3 (f1 _ _ hk g)) hk hu l b (by omega)
        refine ⟨a', us', u', p6, p7, S', ?_, h1, h2, h3, h4, h5, by omega, h7.mono (by omega), f1.tr ((Fr.of_pre q3).tr h8), by omega⟩
        rw [rngN_succ]
        simp only [forL_cons (ok_nil _ _)]
        rw [tv, O.turn_nx, e]
      · have tv0 : t.val ≠ Kq.zero := fun e => h0 (n2.zero.mp e)
        have ub : bU a ≤ 1000 := by
          have : a = 0 ∨ a = 1 := by omega
          rcases this with q | q <;> rw [q] <;> decide
        obtain ⟨r', xs, S4, e4, g4, l4, v4, n4, p4⟩ := made_t (n := n) (o0 := some (.ref k)) (o1 := o1) (o2 := o2) (o4 := o4) (o5 := some (.ref rs)) (o6 := some (.int (N : Nat))) (o8 := none) (pre_get q3 (f1 _ _ hk g)) b (by intro e; rw [e] at l; simp at l) (by omega) nc ub
        have e4' := e4
        rw [hS3] at e4'
        have tv := made_turn2 (A := mA) (T := mT) (o6 := o6) e1 hc e2 g2 h0 e4'
        have hr' : r' ≠ k := by
          intro e
          obtain ⟨x, y, z, q, _⟩ := w1.pre (q3.trans p4)
          rw [← e, g4] at q
          have q := Ob.lst.inj (Option.some.inj q)
          cases xs with
          | nil => simp at l4
          | cons t0 tr =>
            simp only [List.map_cons, T3.D, List.cons.injEq] at q
            exact absurd q.1 (by simp)
        have un : UN (ts.map T3.val) (a + 1) (xs.map T3.val) := ⟨c.val, us.map T3.val, c0, by rw [← v2]; exact tv0, hu, by rw [v4, l]⟩
        obtain ⟨a', us', u', p6, p7, S', e, h1, h2, h3, h4, h5, h6, h7, h8, h9⟩ := ih (N + 1) (a + 1) xs r' (m + 3) (some (.int (N : Nat))) (some c.D) S4 (w1.pre (q3.trans p4)) (by omega) (pre_get (q3.trans p4) (f1 _ _ hrk g1)) g4 hr' un (by omega) (fun t ht => (n4 t ht).mono (by rw [l]; exact bU_le (by omega))) (by omega)
        have l5 := p4.length_le
        refine ⟨a', us', u', p6, p7, S', ?_, h1, h2, h3, h4, h5, by omega, h7.mono (by omega), f1.tr ((Fr.of_pre (q3.trans p4)).tr h8), by omega⟩
        rw [rngN_succ]
        simp only [forL_cons (ok_nil _ _)]
        rw [tv, O.turn_nx, e]
end Pl
end
section
set_option Elab.async false
set_option linter.all false
set_option maxRecDepth 100000
set_option maxHeartbeats 4000000
set_option autoImplicit false
set_option exponentiation.threshold 10000
/-! V20: _law_made. -/
namespace Pl
open Ev Gr
theorem made_walk {n k c q u : Nat} {Y Q Z : E} {F : Sm} {ov un : D} {p6 p7 : Option D} {S S1 S2 S3 S4 : Sto}
    (bd : Tx.b79 = .cons (.par [2, 3, 4] (.cons Y (.cons (.lst (.cons e101 .nil)) (.cons (.cst (.int 0)) .nil)))) (.cons (.asg (.nm 5) Q) (.cons F (.cons (.ret (.tup (.cons (.var 2) (.cons Z .nil)))) .nil))))
    (h1 : ev (GG n) Y [some (.ref k), some (.int (c : Nat)), none, none, none, none, none, none, none] S = .ok ov S1)
    (h2 : ev (GG n) Q [some (.ref k), some (.int (c : Nat)), some ov, some (.ref S1.length), some (.int 0), none, none, none, none] (S1 ++ [.lst [.tup [.int 1, .int 0, .int 1]]]) = .ok (.ref q) S2)
    (h3 : exec (GG n) Ex F [some (.ref k), some (.int (c : Nat)), some ov, some (.ref S1.length), some (.int 0), some (.ref q), none, none, none] S2 = .nx [some (.ref k), some (.int (c : Nat)), some ov, some (.ref u), some (.int 0), some (.ref q), p6, p7, none] S3)
    (h4 : ev (GG n) Z [some (.ref k), some (.int (c : Nat)), some ov, some (.ref u), some (.int 0), some (.ref q), p6, p7, none] S3 = .ok un S4) :
    runF (GG n) Ex Tx.t79.fd [.ref k, .int (c : Nat)] S = .ok (.tup [ov, un]) S4 := by
  simp [runF, Tx.t79, bd, h1, parSet, e101, h2, h3, h4]
theorem fit_kb {z : Kq} {M B : Nat} (h : Fit z M) (hM : M ≤ 2 ^ B) : kb z B :=
  ⟨⟨Nat.lt_of_lt_of_le h.1.1 hM, Nat.lt_of_lt_of_le h.1.2 hM⟩, Nat.lt_of_lt_of_le h.2.1 hM, Nat.lt_of_lt_of_le h.2.2 hM⟩
theorem fit_good {z : Kq} {M : Nat} (h : Fit z M) (hM : M ≤ 10 ^ 400) : z.n4.good :=
  ⟨⟨isFr_rat z.re, Nat.lt_of_lt_of_le h.1.1 hM, by show ((z.re.den : Nat) : Int).natAbs < _; rw [Int.natAbs_natCast]; exact Nat.lt_of_lt_of_le h.1.2 hM⟩, isFr_rat z.im, Nat.lt_of_lt_of_le h.2.1 hM, by show ((z.im.den : Nat) : Int).natAbs < _; rw [Int.natAbs_natCast]; exact Nat.lt_of_lt_of_le h.2.2 hM⟩
theorem kb_good {z : Kq} {B : Nat} (h : kb z B) (hB : B ≤ 1000) : z.n4.good :=
  fit_good (M := 2 ^ 1000) ⟨h.1.mono hB, h.2.mono hB⟩ (by decide)
theorem ten_le {c : Nat} (hc : c ≤ 50) : 10 ^ (8 * c) ≤ 10 ^ 400 := Nat.pow_le_pow_right (by decide) (by omega)
theorem law_made {n k m c : Nat} {S : Sto} (w : WellAt S k m) (hc1 : 1 ≤ c) (hc : c ≤ 50) (hc2 : c ≤ 2 ∨ 9 ≤ c) (hm : m + 30000 < 600000) : Dr (fn (n + 6) 79 [.ref k, .int (c : Nat)] S) S k (m + 6000) (fun d => ∃ (os us : List Kq) (B b : Nat), d = quoD os us ∧ GoodQ os us B b) := by
  rw [fn_s (fd := Tx.t79.fd) rfl]
  have kk := w.lt
  obtain ⟨d1, S1, e1, ⟨os, rfl, lo, fo, zo⟩, w1, f1, l1⟩ := law_some (n := n) (t := 4) w hc1 hc (by decide) (by omega)
  have h1 := call_of (f := 77) (en := [some (.ref k), some (.int (c : Nat)), none, none, none, none, none, none, none]) (es := .cons (.var 0) (.cons (.cst (.int 4)) (.cons (.var 1) .nil))) (S := S) (xs := [.ref k, .int (4 : Nat), .int (c : Nat)]) (by simp) e1
  obtain ⟨Sa, hSa⟩ : ∃ Sa : Sto, Sa = S1 ++ [.lst [.tup [.int 1, .int 0, .int 1]]] := ⟨_, rfl⟩
  have pa : S1 <+: Sa := by rw [hSa]; exact pre_snoc ..
  have la : Sa.length = S1.length + 1 := by rw [hSa]; simp
  have ga : Sa[S1.length]? = some (.lst ([T1].map T3.D)) := by rw [hSa]; exact last_get ..
  have k14 : ∀ z ∈ os, kb z 1400 := fun z hz => fit_kb (fo z hz) (Nat.le_of_lt (ten_lt hc))
  -- the law's own numbers
  obtain ⟨S2, lc, p2⟩ := ev_lcf (G := GG (n + 5)) (en := [some (.ref k), some (.int (c : Nat)), some (.tup (os.map Kq.D)), some (.ref S1.length), some (.int 0), none, none, none, none]) (S := Sa) (S1 := Sa) (own := [("each", 8)]) (elt := .call 78 (.cons (.var 8) .nil)) (p := .nm 8) (it := .seq (.var 2)) (f := Kq.D) (k := fun z => (tIn z).D) (zs := os) (live := []) (fun a b h => Kq.D_inj h)
    (by simp [srcSeq]) (fun _ _ => ok_nil _ _) (by omega) (by
      intro z hz S' hS
      have e := (law_in (n := n + 2) (k14 z hz) (by decide)).1 S'
      exact ⟨[some (.ref k), some (.int (c : Nat)), some (.tup (os.map Kq.D)), some (.ref S1.length), some (.int 0), none, none, none, some z.D], S', rfl, call_of (by simp) e, List.prefix_rfl⟩)
  have lm : os.map (fun z => (tIn z).D) = (os.map tIn).map T3.D := by rw [List.map_map]; rfl
  rw [lm] at lc
  obtain ⟨Sb, hSb⟩ : ∃ Sb : Sto, Sb = S2 ++ [.lst ((os.map tIn).map T3.D)] := ⟨_, rfl⟩
  have gb : Sb[S2.length]? = some (.lst ((os.map tIn).map T3.D)) := by rw [hSb]; exact last_get ..
  have pb : Sa <+: Sb := by rw [hSb]; exact p2.trans (pre_snoc ..)
  have vs : (os.map tIn).map T3.val = os := by
    rw [List.map_map]
    conv => rhs; rw [← List.map_id os]
    exact List.map_congr_left fun z hz => (law_in (n := n) (k14 z hz) (by decide)).2.1
  have nt : ∀ t ∈ os.map tIn, Nice t 2800 := fun t ht => by
    obtain ⟨z, hz, rfl⟩ := List.mem_map.mp ht
    exact (law_in (n := n) (k14 z hz) (by decide)).2.2
  have wb : WellAt Sb k (m + 5000) := (w1.pre pa).pre pb
  have s2l := p2.length_le
  have k1 := w1.lt
  have bl := pb.length_le
  -- how many turns
  obtain ⟨cnt, S3, er, w3, f3, l3, hcnt, hz⟩ : ∃ (cnt : Nat) (S3 : Sto), evi (GG (n + 5)) (.rng1 (.ite (.cmp .lt (.var 1) (.cst (.int 9))) (.call 56 (.cons (.var 0) (.cons (.cst (.int 3)) .nil))) (.cst (.int 0)))) [some (.ref k), some (.int (c : Nat)), some (.tup (os.map Kq.D)), some (.ref S1.length), some (.int 0), some (.ref S2.length), none, none, none] Sb = .ok ⟨rngD 0 (cnt : Nat), []⟩ S3 ∧ WellAt S3 k (m + 5001) ∧ Fr (· = k) Sb S3 ∧ S3.length = Sb.length ∧ cnt ≤ 2 ∧ (¬ c ≤ 2 → cnt = 0) := by
    by_cases h9 : c < 9
    · obtain ⟨d, S3, e3, a3, w3, f3, l3⟩ := drawn (n := n + 4) (many := 3) wb (by omega) (by decide) (by decide)
      have E3 : fnN Tx.F Ex Tx.cs (n + 5) 56 [.ref k, .int 3] Sb = _ := e3
      have h9' : (c : Int) < 9 := by omega
      exact ⟨d, S3, evi_rng1 (GG (n + 5)) _ _ (by simp [h9, h9', E3]) (by unfold small; omega), w3, f3, l3, by omega, by omega⟩
    · have h9' : ¬ (c : Int) < 9 := by omega
      exact ⟨0, Sb, evi_rng1 (GG (n + 5)) _ _ (by simp [h9, h9']) (by unfold small; omega), wb.mono (by omega), Fr.rfl', rfl, by omega, fun _ => rfl⟩
  have r1 : S2.length ≠ k := by omega
  have r2 : S1.length ≠ k := by omega
  obtain ⟨a', us', u', p6, p7, S4, e4, g4, q1, q2, q3, q4, q5, w4, f4, l4⟩ := made_loop (n := n) (L := rngD 0 (cnt : Nat)) (ts := os.map tIn) (o1 := some (.int (c : Nat))) (o2 := some (.tup (os.map Kq.D))) (o4 := some (.int 0)) r1 nt (by simp; omega) cnt 0 0 [T1] S1.length (m + 5001) none none S3 w3 (by omega) (f3 _ _ r1 gb) (f3 _ _ r2 (pre_get pb ga)) r2 (by show [T1.val] = [Kq.one]; rw [val1]) rfl (fun t ht => by rw [List.mem_singleton.mp ht]; exact nice1) (by omega)
  rw [vs] at q2
  have ef : exec (GG (n + 5)) Ex (.for (.nm 6) (.rng1 (.ite (.cmp .lt (.var 1) (.cst (.int 9))) (.call 56 (.cons (.var 0) (.cons (.cst (.int 3)) .nil))) (.cst (.int 0)))) (madeB mC mA mT)) [some (.ref k), some (.int (c : Nat)), some (.tup (os.map Kq.D)), some (.ref S1.length), some (.int 0), some (.ref S2.length), none, none, none] Sb = .nx [some (.ref k), some (.int (c : Nat)), some (.tup (os.map Kq.D)), some (.ref u'), some (.int 0), some (.ref S2.length), p6, p7, none] S4 := by
    rw [exec_for, er, R.then_ok]
    have hr : rngD 0 (cnt : Nat) = rngN 0 cnt := rngD_N cnt
    have e' := e4
    rw [← hr] at e'
    exact e'
  have b1 : ∀ a, bU a ≤ 109 := fun a => by
    match a with
    | 0 => decide
    | 1 => decide
    | _ + 2 => exact Nat.le_refl _
  obtain ⟨S5, e5, p5⟩ := law_outs (n := n + 1) (S := S4) q4 (Nat.le_trans (b1 a') (by decide)) (by omega) g4
  have h4 := call_of (f := 66) (en := [some (.ref k), some (.int (c : Nat)), some (.tup (os.map Kq.D)), some (.ref u'), some (.int 0), some (.ref S2.length), p6, p7, none]) (es := .cons (.var 3) .nil) (S := S4) (by simp) e5
  have uk : ∀ z ∈ us'.map T3.val, kb z 109 := fun z hz => by
    obtain ⟨t, ht, rfl⟩ := List.mem_map.mp hz
    exact (val_kb (q4 t ht)).mono (b1 a')
  have uw := un_way q2 (by omega)
  rw [hSb] at ef
  rw [hSa] at lc
  have go : ∀ z ∈ os, z.n4.good := fun z hz => fit_good (fo z hz) (ten_le hc)
  have gu : ∀ z ∈ us'.map T3.val, z.n4.good := fun z hz => kb_good (uk z hz) (by decide)
  have fin : ∃ B b, GoodQ os (us'.map T3.val) B b := by
    rcases uw.2.2.2 with ⟨z0, e0⟩ | ⟨z0, ap, rt⟩
    · exact ⟨1400, 109, ⟨zo, uw.2.2.1, uw.2.1, lo, k14, uk, Or.inl ⟨e0, by decide⟩⟩, go, gu⟩
    · have c2 : c ≤ 2 := by
        apply Classical.byContradiction
        intro h
        have := hz h
        omega
      have k54 : ∀ z ∈ os, kb z 80 := fun z hz => fit_kb (fo z hz) (Nat.le_trans (Nat.pow_le_pow_right (by decide) (show 8 * c ≤ 16 by omega)) (by decide))
      refine ⟨80, 109, ⟨zo, uw.2.2.1, uw.2.1, lo, k54, uk, Or.inr ?_⟩, go, gu⟩
      have hl := uw.1
      have : a' = 1 ∨ a' = 2 := by omega
      rcases this with q | q
      · exact Or.inl ⟨by omega, ap, by decide, by decide⟩
      · exact Or.inr ⟨by omega, ap, rt, by decide, by decide⟩
  obtain ⟨B, b, gq⟩ := fin
  refine ⟨_, S5, made_walk rfl h1 lc ef h4, ⟨os, us'.map T3.val, B, b, rfl, gq⟩, (w4.mono (by omega)).pre p5, f1.tr ((Fr.of_pre (pa.trans pb)).tr (f3.tr (f4.tr (Fr.of_pre p5)))), ?_⟩
  have := p5.length_le
  omega
end Pl
end
section
set_option Elab.async false
set_option linter.all false
set_option maxRecDepth 100000
set_option maxHeartbeats 4000000
set_option autoImplicit false
set_option exponentiation.threshold 10000
/-! V21: a drawn place in the disc. -/
namespace Pl
open Ev Gr
theorem num_lt {p : Int} {q : Nat} (h : p.natAbs < q) : (mkRat p q).num.natAbs < (mkRat p q).den := by
  have hq : q ≠ 0 := by omega
  rw [Rat.num_mkRat, Rat.den_mkRat, if_neg hq, if_neg hq]
  have h1 : (q.gcd p.natAbs : Int) ∣ p := Int.ofNat_dvd_left.mpr (Nat.gcd_dvd_right ..)
  have h2 := Nat.gcd_dvd_left q p.natAbs
  have h3 := Nat.gcd_dvd_right q p.natAbs
  have hg : 0 < q.gcd p.natAbs := Nat.gcd_pos_of_pos_left _ (by omega)
  rw [Int.natAbs_ediv_of_dvd h1, Int.natAbs_natCast]
  generalize q.gcd p.natAbs = g at *
  obtain ⟨x, hx⟩ := h2
  obtain ⟨y, hy⟩ := h3
  rw [hy] at h ⊢
  rw [hx] at h ⊢
  rw [Nat.mul_div_cancel_left _ hg, Nat.mul_div_cancel_left _ hg]
  exact Nat.lt_of_mul_lt_mul_left h
theorem in_fst {a b : Int} (h : a.natAbs < b.natAbs) (hb : 0 < b) : inDisc ⟨a, b, 0, 1⟩ = true := by
  have key : a * a < b * b := by
    rw [← Int.natAbs_mul_self (a := a), ← Int.natAbs_mul_self (a := b)]
    have := Nat.mul_lt_mul'' h h
    omega
  simp [inDisc, within]
  exact key
theorem in_snd {a b : Int} (h : a.natAbs < b.natAbs) (hb : 0 < b) : inDisc ⟨0, 1, a, b⟩ = true := by
  have key : a * a < b * b := by
    rw [← Int.natAbs_mul_self (a := a), ← Int.natAbs_mul_self (a := b)]
    have := Nat.mul_lt_mul'' h h
    omega
  simp [inDisc, within]
  exact key
def plc (k : Nat) : N4 := ⟨1, ((7 + k : Nat) : Int), 0, 1⟩
theorem plc_good (k : Nat) (hk : k < 9) : (plc k).good ∧ inDisc (plc k) = true := by
  refine ⟨⟨⟨⟨by show (0 : Int) < ((7 + k : Nat) : Int); omega, by show Nat.gcd 1 _ = 1; exact Nat.gcd_one_left _⟩, (by show (1 : Int).natAbs < 10 ^ 400; decide), ?_⟩, good01⟩, ?_⟩
  · show ((7 + k : Nat) : Int).natAbs < _
    rw [Int.natAbs_natCast]
    exact Nat.lt_trans (show 7 + k < 100 by omega) (by decide)
  · exact in_fst (by show (1 : Int).natAbs < ((7 + k : Nat) : Int).natAbs; rw [Int.natAbs_natCast]; show 1 < 7 + k; omega) (by omega)
theorem plc_inj {i j : Nat} (h : plc i = plc j) : i = j := by
  have := congrArg N4.b h
  simp only [plc] at this
  omega
theorem sub_len {α : Type} [DecidableEq α] : ∀ (l zs : List α), l.Nodup → (∀ a ∈ l, a ∈ zs) → l.length ≤ zs.length
  | [], _, _, _ => Nat.zero_le _
  | a :: t, zs, hn, hs => by
    have ha := hs a (by simp)
    obtain ⟨hn1, hn2⟩ := List.nodup_cons.mp hn
    have := sub_len t (zs.erase a) hn2 (fun b hb => (List.mem_erase_of_ne (fun e => by subst e; exact hn1 hb)).mpr (hs b (List.mem_cons_of_mem _ hb)))
    rw [List.length_erase_of_mem ha] at this
    have hp : 0 < zs.length := List.length_pos_of_mem ha
    rw [List.length_cons]
    omega
open Classical in
theorem spare_some {zs : List N4} (h : zs.length ≤ 8) : ∃ k r, (List.range' 0 9).filter (fun k => decide (plc k ∉ zs)) = k :: r ∧ k < 9 ∧ plc k ∉ zs := by
  cases hf : (List.range' 0 9).filter (fun k => decide (plc k ∉ zs)) with
  | cons k r =>
    have : k ∈ (List.range' 0 9).filter (fun k => decide (plc k ∉ zs)) := by rw [hf]; simp
    obtain ⟨h1, h2⟩ := List.mem_filter.mp this
    rw [List.mem_range'_1] at h1
    exact ⟨k, r, rfl, by omega, by simpa using h2⟩
  | nil =>
    exfalso
    rw [List.filter_eq_nil_iff] at hf
    have := sub_len ((List.range' 0 9).map plc) zs (by
      refine (List.pairwise_map.mpr ?_)
      exact (List.nodup_range').imp fun h e => h (plc_inj e)) (by
      intro a ha
      obtain ⟨k, hk, rfl⟩ := List.mem_map.mp ha
      have := hf k hk
      simpa using this)
    rw [List.length_map, List.length_range'] at this
    omega
open Classical in
theorem spare_lc {n r : Nat} {zs : List N4} {o0 o2 o3 o4 o5 o6 : Option D} {S : Sto} (h : S[r]? = some (.lst (zs.map N4.D))) :
    ev (GG n) (.lc [("k", 6)] (.tup (.cons (.tup (.cons (.cst (.int 1)) (.cons (.bin .add (.cst (.int 7)) (.var 6)) .nil))) (.cons (.tup (.cons (.cst (.int 0)) (.cons (.cst (.int 1)) .nil))) .nil))) (.nm 6) (.rng1 (.cst (.int 9))) (.some (.cmp .notin (.tup (.cons (.tup (.cons (.cst (.int 1)) (.cons (.bin .add (.cst (.int 7)) (.var 6)) .nil))) (.cons (.tup (.cons (.cst (.int 0)) (.cons (.cst (.int 1)) .nil))) .nil))) (.var 1)))) [o0, some (.ref r), o2, o3, o4, o5, o6] S
      = .ok (.ref S.length) (S ++ [.lst (((List.range' 0 9).filter (fun k => decide (plc k ∉ zs))).map fun k => (plc k).D)]) := by
  obtain ⟨g, hg⟩ : ∃ g : D → Option D, ∀ k : Nat, g (.int (k : Nat)) = if plc k ∉ zs then some (plc k).D else none := ⟨fun d => match d with
    | .int i => if plc i.toNat ∉ zs then some (plc i.toNat).D else none
    | _ => none, fun k => rfl⟩
  have er : evi (GG n) (.rng1 (.cst (.int 9))) [o0, some (.ref r), o2, o3, o4, o5, o6] S = .ok ⟨rngN 0 9, []⟩ S := evi_rng1 (j := 9) (S1 := S) (GG n) _ _ (by simp) (by unfold small; omega)
  obtain ⟨S', e, hS⟩ := ev_lc (G := GG n) (en := [o0, some (.ref r), o2, o3, o4, o5, o6]) (S := S) (own := [("k", 6)]) (elt := .tup (.cons (.tup (.cons (.cst (.int 1)) (.cons (.bin .add (.cst (.int 7)) (.var 6)) .nil))) (.cons (.tup (.cons (.cst (.int 0)) (.cons (.cst (.int 1)) .nil))) .nil))) (p := .nm 6) (it := .rng1 (.cst (.int 9))) (c := .some (.cmp .notin (.tup (.cons (.tup (.cons (.cst (.int 1)) (.cons (.bin .add (.cst (.int 7)) (.var 6)) .nil))) (.cons (.tup (.cons (.cst (.int 0)) (.cons (.cst (.int 1)) .nil))) .nil))) (.var 1))) (s := ⟨rngN 0 9, []⟩) (S1 := S) (I := fun S' => S' = S) (g := g)
    er rfl (fun _ _ => ok_nil _ _) (by simp [rngN]) (by
      intro d hd S' hS
      subst hS
      obtain ⟨k, hk, rfl⟩ := List.mem_map.mp hd
      refine ⟨[o0, some (.ref r), o2, o3, o4, o5, some (.int (k : Nat))], rfl, ?_⟩
      have pd : (plc k).D = .tup [.tup [.int 1, .int (7 + (k : Int))], .tup [.int 0, .int 1]] := by
        show D.tup [.tup [.int 1, .int ((7 + k : Nat) : Int)], .tup [.int 0, .int 1]] = _
        rw [Int.natCast_add]
        rfl
      have m := num_in (z := plc k) h
      rw [pd] at m
      rw [hg, pd]
      by_cases hz : plc k ∈ zs
      · rw [decide_eq_true hz] at m
        left
        refine ⟨S', by simp [m], by simp [hz], rfl⟩
      · rw [decide_eq_false hz] at m
        right
        exact ⟨S', _, S', by simp [m], by simp; rfl, by simp [hz], rfl⟩)
  subst hS
  rw [e]
  congr 4
  show (rngN 0 9).filterMap g = _
  unfold rngN
  rw [List.filterMap_map, ← List.filterMap_eq_map, List.filterMap_filter]
  congr 1
  funext k
  simp only [Function.comp, hg]
  by_cases hz : plc k ∈ zs <;> simp [hz]
end Pl
end
section
set_option Elab.async false
set_option linter.all false
set_option maxRecDepth 100000
set_option maxHeartbeats 4000000
set_option autoImplicit false
set_option exponentiation.threshold 10000
/-! V22: a drawn place, whole. -/
namespace Pl
open Ev Gr
def pLC : E := .lc [("k", 6)] (.tup (.cons (.tup (.cons (.cst (.int 1)) (.cons (.bin .add (.cst (.int 7)) (.var 6)) .nil))) (.cons (.tup (.cons (.cst (.int 0)) (.cons (.cst (.int 1)) .nil))) .nil))) (.nm 6) (.rng1 (.cst (.int 9))) (.some (.cmp .notin (.tup (.cons (.tup (.cons (.cst (.int 1)) (.cons (.bin .add (.cst (.int 7)) (.var 6)) .nil))) (.cons (.tup (.cons (.cst (.int 0)) (.cons (.cst (.int 1)) .nil))) .nil))) (.var 1)))
def pDr : E := .call 56 (.cons (.var 0) (.cons (.cst (.int 2)) .nil))
def e01 : E := .tup (.cons (.cst (.int 0)) (.cons (.cst (.int 1)) .nil))
def spot (y : Rat) (d : Nat) : N4 := if d = 0 then ⟨y.num, y.den, 0, 1⟩ else ⟨0, 1, y.num, y.den⟩
theorem neg_frQ (x : Rat) : frQ (-x) = .tup [.int (-x.num), .int (x.den : Nat)] := rfl
theorem place_walk {n k r d3 d4 : Nat} {G P LC : E} {g : Int} {x : Rat} {zs : List N4} {q : Nat} {sp : D} {S S1 S2 S3 S4 S5 : Sto} [Decidable (spot (if d3 = 0 then x else -x) d4 ∈ zs)]
    (bd : Tx.b80 = .cons (.asg (.nm 2) G) (.cons (.asg (.nm 3) P) (.cons (.asg (.nm 3) (.ite (.cmp .eq pDr (.cst (.int 0))) (.var 3) (.tup (.cons (.bin .sub (.cst (.int 0)) (.ix (.var 3) (.cst (.int 0)))) (.cons (.ix (.var 3) (.cst (.int 1))) .nil))))) (.cons (.asg (.nm 4) (.ite (.cmp .eq pDr (.cst (.int 0))) (.tup (.cons (.var 3) (.cons e01 .nil))) (.tup (.cons e01 (.cons (.var 3) .nil))))) (.cons (.asg (.nm 5) LC) (.cons (.ret (.ite (.cmp .notin (.var 4) (.var 1)) (.var 4) (.ix (.var 5) (.cst (.int 0))))) .nil))))))
    (h1 : ev (GG n) G [some (.ref k), some (.ref r), none, none, none, none, none] S = .ok (.int g) S1)
    (h2 : ev (GG n) P [some (.ref k), some (.ref r), some (.int g), none, none, none, none] S1 = .ok (frQ x) S2)
    (h3 : fnN Tx.F Ex Tx.cs n 56 [.ref k, .int 2] S2 = .ok (.int (d3 : Nat)) S3) (h4 : fnN Tx.F Ex Tx.cs n 56 [.ref k, .int 2] S3 = .ok (.int (d4 : Nat)) S4)
    (h5 : ∀ o3 o4, ev (GG n) LC [some (.ref k), some (.ref r), some (.int g), o3, o4, none, none] S4 = .ok (.ref q) S5)
    (h6 : memS S5 (spot (if d3 = 0 then x else -x) d4).D (.ref r) = some (decide (spot (if d3 = 0 then x else -x) d4 ∈ zs))) (h7 : ixD S5 (.ref q) (.int 0) = some sp) :
    runF (GG n) Ex Tx.t80.fd [.ref k, .ref r] S = .ok (if spot (if d3 = 0 then x else -x) d4 ∈ zs then sp else (spot (if d3 = 0 then x else -x) d4).D) S5 := by
  by_cases c3 : d3 = 0
  · by_cases c4 : d4 = 0
    · subst c3 c4
      simp only [Int.natCast_zero] at h3 h4
      simp only [if_true] at h6 ⊢
      have sD : (spot x 0).D = .tup [frQ x, .tup [.int 0, .int 1]] := rfl
      rw [sD] at h6 ⊢
      by_cases hz : spot x 0 ∈ zs
      · rw [decide_eq_true hz] at h6
        rw [if_pos hz]
        simp [runF, Tx.t80, bd, h1, h2, pDr, e01, h3, h4, h5, h6, h7]
      · rw [decide_eq_false hz] at h6
        rw [if_neg hz]
        simp [runF, Tx.t80, bd, h1, h2, pDr, e01, h3, h4, h5, h6, h7]
    · have c4' : ¬ (d4 : Int) = 0 := by omega
      subst c3
      simp only [Int.natCast_zero] at h3
      simp only [if_true] at h6 ⊢
      have sD : (spot x d4).D = .tup [.tup [.int 0, .int 1], frQ x] := by unfold spot; rw [if_neg c4]; rfl
      rw [sD] at h6 ⊢
      by_cases hz : spot x d4 ∈ zs
      · rw [decide_eq_true hz] at h6
        rw [if_pos hz]
        simp [runF, Tx.t80, bd, h1, h2, pDr, e01, h3, h4, c4, c4', h5, h6, h7]
      · rw [decide_eq_false hz] at h6
        rw [if_neg hz]
        simp [runF, Tx.t80, bd, h1, h2, pDr, e01, h3, h4, c4, c4', h5, h6, h7]
  · have c3' : ¬ (d3 : Int) = 0 := by omega
    have nD : frQ (-x) = .tup [.int (-x.num), .int (x.den : Nat)] := rfl
    have xD : frQ x = .tup [.int x.num, .int (x.den : Nat)] := rfl
    rw [xD] at h2
    simp only [if_neg c3] at h6 ⊢
    by_cases c4 : d4 = 0
    · subst c4
      simp only [Int.natCast_zero] at h4
      have sD : (spot (-x) 0).D = .tup [.tup [.int (-x.num), .int (x.den : Nat)], .tup [.int 0, .int 1]] := rfl
      rw [sD] at h6 ⊢
      by_cases hz : spot (-x) 0 ∈ zs
      · rw [decide_eq_true hz] at h6
        rw [if_pos hz]
        simp [runF, Tx.t80, bd, h1, h2, pDr, e01, h3, h4, c3, c3', h5, h6, h7]
      · rw [decide_eq_false hz] at h6
        rw [if_neg hz]
        simp [runF, Tx.t80, bd, h1, h2, pDr, e01, h3, h4, c3, c3', h5, h6, h7]
    · have c4' : ¬ (d4 : Int) = 0 := by omega
      have sD : (spot (-x) d4).D = .tup [.tup [.int 0, .int 1], .tup [.int (-x.num), .int (x.den : Nat)]] := by unfold spot; rw [if_neg c4]; rfl
      rw [sD] at h6 ⊢
      by_cases hz : spot (-x) d4 ∈ zs
      · rw [decide_eq_true hz] at h6
        rw [if_pos hz]
        simp [runF, Tx.t80, bd, h1, h2, pDr, e01, h3, h4, c3, c3', c4, c4', h5, h6, h7]
      · rw [decide_eq_false hz] at h6
        rw [if_neg hz]
        simp [runF, Tx.t80, bd, h1, h2, pDr, e01, h3, h4, c3, c3', c4, c4', h5, h6, h7]
open Classical in
theorem law_place {n k m r : Nat} {zs : List N4} {S : Sto} (w : WellAt S k m) (hm : m + 1000 < 600000) (hr : S[r]? = some (.lst (zs.map N4.D))) (hrk : r ≠ k) (hl : zs.length ≤ 8) : Dr (fn (n + 4) 80 [.ref k, .ref r] S) S k (m + 110) (fun d => ∃ z : N4, d = z.D ∧ z.good ∧ inDisc z = true ∧ z ∉ zs) := by
  rw [fn_s (fd := Tx.t80.fd) rfl]
  have kk := w.lt
  obtain ⟨Sa, hSa⟩ : ∃ Sa : Sto, Sa = S ++ [.lst [.int 1, .int 1, .int 2, .int 45]] := ⟨_, rfl⟩
  have pa : S <+: Sa := by rw [hSa]; exact pre_snoc ..
  have ga : Sa[S.length]? = some (.lst [.int 1, .int 1, .int 2, .int 45]) := by rw [hSa]; exact last_get ..
  have la : Sa.length = S.length + 1 := by rw [hSa]; simp
  obtain ⟨sz, S0, e0, a0, w0, f0, l0⟩ := one_of (n := n + 1) (w.pre pa) (by omega) ga (by omega) (by simp) (by simp)
  have E0 : fnN Tx.F Ex Tx.cs (n + 3) 57 [.ref k, .ref S.length] Sa = _ := e0
  obtain ⟨c, rfl, hc⟩ : ∃ c : Nat, sz = .int (c : Nat) ∧ c ≤ 45 := by
    simp only [List.mem_cons, List.not_mem_nil, or_false] at a0
    rcases a0 with q | q | q | q
    · exact ⟨1, q, by decide⟩
    · exact ⟨1, q, by decide⟩
    · exact ⟨2, q, by decide⟩
    · exact ⟨45, q, by decide⟩
  obtain ⟨g, S1, e1, b1, w1, f1, l1⟩ := law_great (n := n + 1) (c := c) w0 (by omega) (by omega)
  have h1 := call_of (n := n + 3) (f := 74) (en := [some (.ref k), some (.ref r), none, none, none, none, none]) (es := .cons (.var 0) (.cons (.call 57 (.cons (.var 0) (.cons (.lst (.cons (.cst (.int 1)) (.cons (.cst (.int 1)) (.cons (.cst (.int 2)) (.cons (.cst (.int 45)) .nil))))) .nil))) .nil)) (S := S) (S1 := S0) (xs := [.ref k, .int (c : Nat)]) (by simp [← hSa, E0]) e1
  obtain ⟨d2, S2', e2, a2, w2, f2, l2⟩ := drawn (n := n + 2) (many := 9) w1 (by omega) (by decide) (by decide)
  have E2 : fnN Tx.F Ex Tx.cs (n + 3) 56 [.ref k, .int 9] S1 = _ := e2
  have gb : g < 10 ^ 360 := Nat.lt_of_lt_of_le b1 (Nat.pow_le_pow_right (by decide) (show 8 * c ≤ 360 by omega))
  have qb : g + 1 + d2 < 10 ^ 400 := by
    have : (10 : Nat) ^ 360 + 100 ≤ 10 ^ 400 := by decide
    omega
  have e3 := part_q (n := n + 1) (p := (g : Nat)) (q := g + 1 + d2) (S := S2') (by omega) (Nat.lt_trans qb (by decide))
  have h2 := call_of (n := n + 3) (f := 64) (en := [some (.ref k), some (.ref r), some (.int (g : Nat)), none, none, none, none]) (es := .cons (.var 2) (.cons (.bin .add (.bin .add (.var 2) (.cst (.int 1))) (.call 56 (.cons (.var 0) (.cons (.cst (.int 9)) .nil)))) .nil)) (S := S1) (S1 := S2') (xs := [.int (g : Nat), .int ((g + 1 + d2 : Nat) : Int)]) (by
    have : ((g + 1 + d2 : Nat) : Int) = (g : Int) + 1 + (d2 : Int) := by omega
    rw [this]
    simp [E2]) e3
  obtain ⟨d3, S3, e4, a4, w3, f3, l3⟩ := drawn (n := n + 2) (many := 2) w2 (by omega) (by decide) (by decide)
  obtain ⟨d4, S4, e5, a5, w4, f4, l4⟩ := drawn (n := n + 2) (many := 2) w3 (by omega) (by decide) (by decide)
  have fx : Fr (· = k) S S4 := (Fr.of_pre pa).tr (f0.tr (f1.tr (f2.tr (f3.tr f4))))
  have hr4 := fx _ _ hrk hr
  obtain ⟨i, rest, hsp, i9, inz⟩ := spare_some hl
  have lc := fun o3 o4 => spare_lc (n := n + 3) (o0 := some (.ref k)) (o2 := some (.int (g : Nat))) (o3 := o3) (o4 := o4) (o5 := none) (o6 := none) hr4
  rw [hsp] at lc
  obtain ⟨S5, hS5⟩ : ∃ S5 : Sto, S5 = S4 ++ [.lst ((i :: rest).map fun k => (plc k).D)] := ⟨_, rfl⟩
  have p5 : S4 <+: S5 := by rw [hS5]; exact pre_snoc ..
  have g5 : S5[S4.length]? = some (.lst ((i :: rest).map fun k => (plc k).D)) := by rw [hS5]; exact last_get ..
  have ix : ixD S5 (.ref S4.length) (.int 0) = some (plc i).D := by rw [ixD_ref g5]; simp
  have hr5 := pre_get p5 hr4
  obtain ⟨x, hx⟩ : ∃ x : Rat, x = mkRat (g : Nat) (g + 1 + d2) := ⟨_, rfl⟩
  have xf : FitQ x (10 ^ 400) := by rw [hx]; exact fit_mk (by omega) (by rw [Int.natAbs_natCast]; omega) qb
  have xl : x.num.natAbs < x.den := by rw [hx]; exact num_lt (by rw [Int.natAbs_natCast]; omega)
  rw [← hx] at h2
  have key : ∀ (y : Rat) (d : Nat), FitQ y (10 ^ 400) → y.num.natAbs < y.den → (spot y d).good ∧ inDisc (spot y d) = true := by
    intro y d hf hl
    have yg : Gr.good y.num y.den := ⟨isFr_rat y, hf.1, by rw [Int.natAbs_natCast]; exact hf.2⟩
    have yp := y.den_pos
    unfold spot
    by_cases h : d = 0
    · rw [if_pos h]
      exact ⟨⟨yg, good01⟩, in_fst (by rw [Int.natAbs_natCast]; exact hl) (by omega)⟩
    · rw [if_neg h]
      exact ⟨⟨good01, yg⟩, in_snd (by rw [Int.natAbs_natCast]; exact hl) (by omega)⟩
  have xn : FitQ (-x) (10 ^ 400) ∧ (-x).num.natAbs < (-x).den := by
    unfold FitQ
    rw [Rat.neg_num, Int.natAbs_neg, Rat.neg_den]
    exact ⟨xf, xl⟩
  have kz : (spot (if d3 = 0 then x else -x) d4).good ∧ inDisc (spot (if d3 = 0 then x else -x) d4) = true := by
    split
    · exact key x d4 xf xl
    · exact key (-x) d4 xn.1 xn.2
  have wk := place_walk (r := r) (d3 := d3) (d4 := d4) (x := x) (zs := zs) rfl h1 h2 e4 e5 (fun o3 o4 => by rw [hS5]; exact lc o3 o4) (num_in hr5) ix
  have l5 := p5.length_le
  refine ⟨_, S5, wk, ?_, (w4.mono (by omega)).pre p5, fx.tr (Fr.of_pre p5), by omega⟩
  by_cases hz : spot (if d3 = 0 then x else -x) d4 ∈ zs
  · rw [if_pos hz]
    exact ⟨plc i, rfl, (plc_good i i9).1, (plc_good i i9).2, inz⟩
  · rw [if_neg hz]
    exact ⟨_, rfl, kz.1, kz.2, hz⟩
end Pl
end
section
set_option Elab.async false
set_option linter.all false
set_option maxRecDepth 100000
set_option maxHeartbeats 4000000
set_option autoImplicit false
set_option exponentiation.threshold 10000
/-! V23: drawn DATA. -/
namespace Pl
open Ev Gr
def dX : E := .call 76 (.cons (.var 0) (.cons (.var 1) .nil))
def dF : Sm := .for (.nm 7) (.rng1 (.var 5)) (.cons (.exp (.mt .append (.var 6) (.cons dX .nil))) .nil)
def dLC : E := .lc [("each", 8)] (.ix (.var 8) (.cst (.int 0))) (.nm 8) (.seq (.var 2)) .none
def dPL : E := .call 80 (.cons (.var 0) (.cons dLC .nil))
def dOO : E := .call 57 (.cons (.var 0) (.cons (.lst (.cons (.cst (.int 0)) (.cons (.cst (.int 0)) (.cons (.cst (.int 1)) (.cons (.cst (.int 2)) .nil))))) .nil))
def dB (OO PL : E) (F : Sm) : Ss := .cons (.par [5, 6] (.cons (.bi .min (.cons (.var 3) (.cons (.bin .add (.cst (.int 1)) OO) .nil))) (.cons (.lst .nil) .nil))) (.cons F (.cons (.ite (.cmp .gt (.var 5) (.cst (.int 0))) (.cons (.exp (.mt .append (.var 2) (.cons (.tup (.cons PL (.cons (.bi .tuple (.cons (.var 6) .nil)) .nil))) .nil))) (.cons (.asg (.nm 3) (.bin .sub (.var 3) (.var 5))) .nil)) .nil) .nil))
theorem any_loop {n k c t M : Nat} {L : List D} {X : E} {o1 o2 o3 o4 o5 : Option D} (hf : t ≠ k)
    (step : ∀ (S : Sto) (m : Nat) (o7 : Option D), WellAt S k m → m + 600 < 800000 → Dr (ev (GG n) X [some (.ref k), o1, o2, o3, o4, o5, some (.ref t), o7, none] S) S k (m + 420) (fun d => ∃ z : Kq, d = z.D ∧ Fit z M)) :
    ∀ (cnt N : Nat) (l : List Kq) (m : Nat) (o7 : Option D) (S : Sto), WellAt S k m → m + 1000 * cnt < 700000 → S[t]? = some (.lst (l.map Kq.D)) → (∀ z ∈ l, Fit z M) → l.length + cnt ≤ 1000 →
      ∃ (p7 : Option D) (l' : List Kq) (S' : Sto), forL ⟨L, []⟩ (lpF (GG n) Ex (.nm 7) (.cons (.exp (.mt .append (.var 6) (.cons X .nil))) .nil)) (rngN N cnt) [some (.ref k), o1, o2, o3, o4, o5, some (.ref t), o7, none] S = .nx [some (.ref k), o1, o2, o3, o4, o5, some (.ref t), p7, none] S' ∧
        S'[t]? = some (.lst (l'.map Kq.D)) ∧ (∀ z ∈ l', Fit z M) ∧ l'.length = l.length + cnt ∧ WellAt S' k (m + 420 * cnt) ∧ Fr (fun x => x = k ∨ x = t) S S' ∧ S.length ≤ S'.length := by
  intro cnt
  induction cnt with
  | zero => intro N l m o7 S w _ g hl _; exact ⟨o7, l, S, forL_nil (ok_nil _ _), g, hl, rfl, w, Fr.rfl', Nat.le_refl _⟩
  | succ cnt ih =>
    intro N l m o7 S w hm g hl hn
    obtain ⟨d, S1, e1, ⟨z, rfl, bz⟩, w1, f1, l1⟩ := step S m (some (.int (N : Nat))) w (by omega)
    have g1 := f1 _ _ hf g
    have ap := mt_append g1 (by simp; omega) z.D
    have ty := ty_append g
    have al : l.map Kq.D ++ [z.D] = (l ++ [z]).map Kq.D := by simp
    rw [al] at ap
    obtain ⟨S2, hS2⟩ : ∃ S2 : Sto, S2 = S1.set t (.lst ((l ++ [z]).map Kq.D)) := ⟨_, rfl⟩
    rw [← hS2] at ap
    have g2 : S2[t]? = some (.lst ((l ++ [z]).map Kq.D)) := by rw [hS2]; exact set_get g1
    have w2 : WellAt S2 k (m + 420) := by rw [hS2]; exact w1.fr (Fr.set (P := (· = t)) rfl) (fun e => hf e.symm)
    obtain ⟨p7, l', S', e, g', b', n', w', f', q'⟩ := ih (N + 1) (l ++ [z]) (m + 420) (some (.int (N : Nat))) S2 w2 (by omega) g2 (fun x hx => by
      rcases List.mem_append.mp hx with q | q
      · exact hl x q
      · rw [List.mem_singleton.mp q]; exact bz) (by simp; omega)
    have l2 : S2.length = S1.length := by rw [hS2]; simp
    refine ⟨p7, l', S', ?_, g', b', by rw [n']; simp; omega, w'.mono (by omega), ((f1.mono (Q := fun x => x = k ∨ x = t) (fun _ h => Or.inl h)).tr (by rw [hS2]; exact Fr.set (P := fun x => x = k ∨ x = t) (Or.inr rfl))).tr f', by omega⟩
    rw [rngN_succ]
    simp only [forL_cons (ok_nil _ _)]
    rw [← e]
    simp [ty, e1, ap]
theorem data_turn0 {n : Nat} {OO PL : E} {F : Sm} {x r : Int} {i : D} {o0 o1 o2 o4 o5 o6 o7 p7 : Option D} {S S1 S2 : Sto} (h1 : ev (GG n) OO [o0, o1, o2, some (.int r), some i, o5, o6, o7, none] S = .ok (.int x) S1) (mn : ∀ S, bi .min [.int r, .int (1 + x)] S = .ok (.int 0) S)
    (hF : exec (GG n) Ex F [o0, o1, o2, some (.int r), some i, some (.int 0), some (.ref S1.length), o7, none] (S1 ++ [.lst []]) = .nx [o0, o1, o2, some (.int r), some i, some (.int 0), some (.ref S1.length), p7, none] S2) :
    lpF (GG n) Ex (.nm 4) (dB OO PL F) i [o0, o1, o2, some (.int r), o4, o5, o6, o7, none] S = .nx [o0, o1, o2, some (.int r), some i, some (.int 0), some (.ref S1.length), p7, none] S2 := by
  simp [dB, h1, mn, parSet, hF]
theorem data_turn1 {n f : Nat} {OO PL : E} {F : Sm} {x r s : Int} {i pl : D} {xs vs : List D} {o0 o1 o4 o5 o6 o7 p7 : Option D} {S S1 S2 S3 : Sto} (hs : 0 < s) (h1 : ev (GG n) OO [o0, o1, some (.ref f), some (.int r), some i, o5, o6, o7, none] S = .ok (.int x) S1) (mn : ∀ S, bi .min [.int r, .int (1 + x)] S = .ok (.int s) S)
    (hF : exec (GG n) Ex F [o0, o1, some (.ref f), some (.int r), some i, some (.int s), some (.ref S1.length), o7, none] (S1 ++ [.lst []]) = .nx [o0, o1, some (.ref f), some (.int r), some i, some (.int s), some (.ref S1.length), p7, none] S2)
    (hP : ev (GG n) PL [o0, o1, some (.ref f), some (.int r), some i, some (.int s), some (.ref S1.length), p7, none] S2 = .ok pl S3) (hv : S3[S1.length]? = some (.lst vs)) (hf2 : S2[f]? = some (.lst xs)) (hf3 : S3[f]? = some (.lst xs)) (hl : xs.length < 16777216) :
    lpF (GG n) Ex (.nm 4) (dB OO PL F) i [o0, o1, some (.ref f), some (.int r), o4, o5, o6, o7, none] S = .nx [o0, o1, some (.ref f), some (.int (r - s)), some i, some (.int s), some (.ref S1.length), p7, none] (S3.set f (.lst (xs ++ [.tup [pl, .tup vs]]))) := by
  have ap := mt_append hf3 hl (.tup [pl, .tup vs])
  have ty := ty_append hf2
  have tr := tuple_ref hv
  simp [dB, h1, mn, parSet, hF, hs, ty, hP, tr, ap]
theorem cnt_ge {ps : List PR} (h : ∀ p ∈ ps, okP p) : ps.length ≤ cntV ps := by
  induction ps with
  | nil => exact Nat.zero_le _
  | cons p r ih =>
    have := ih fun q hq => h q (List.mem_cons_of_mem _ hq)
    have h1 := (h p (by simp)).2.2.1
    unfold cntV at *
    simp at *
    omega
theorem data_lc {n f : Nat} {ps : List PR} {o0 o1 o3 o4 o5 o6 o7 : Option D} {S : Sto} (h : S[f]? = some (.lst (ps.map pD))) (hl : ps.length ≤ 10) :
    ∃ S', ev (GG n) dLC [o0, o1, some (.ref f), o3, o4, o5, o6, o7, none] S = .ok (.ref S'.length) (S' ++ [.lst ((ps.map fun p => p.1).map N4.D)]) ∧ S <+: S' := by
  obtain ⟨S', lc, hp⟩ := ev_lcf (G := GG n) (en := [o0, o1, some (.ref f), o3, o4, o5, o6, o7, none]) (S := S) (S1 := S) (own := [("each", 8)]) (elt := .ix (.var 8) (.cst (.int 0))) (p := .nm 8) (it := .seq (.var 2)) (f := pD) (k := fun p => p.1.D) (zs := ps) (live := [(f, ps.map pD)]) (fun a b h => pD_inj h)
    (by simp only [evi_seq, ev_var]; simp [srcSeq, lstOf, h]) (fun S' h' => pre_ok h' (ok_one h)) (by omega) (by
      intro p hp S' hS
      exact ⟨[o0, o1, some (.ref f), o3, o4, o5, o6, o7, some (pD p)], S', rfl, by simp [pD], List.prefix_rfl⟩)
  have lm : ps.map (fun p => p.1.D) = (ps.map fun p => p.1).map N4.D := by rw [List.map_map]; rfl
  rw [lm] at lc
  exact ⟨S', lc, hp⟩
theorem data_loop {n k c f : Nat} {L : List D} (hc1 : 1 ≤ c) (hc : c ≤ 50) (hf : f ≠ k) :
    ∀ (cnt N : Nat) (ps : List PR) (m : Nat) (o4 o5 o6 o7 : Option D) (S : Sto), WellAt S k m → m + 5000 * cnt < 500000 → S[f]? = some (.lst (ps.map pD)) → OkD ps →
      ∃ (p4 p5 p6 p7 : Option D) (ps' : List PR) (S' : Sto), forL ⟨L, []⟩ (lpF (GG (n + 4)) Ex (.nm 4) (dB dOO dPL dF)) (rngN N cnt) [some (.ref k), some (.int (c : Nat)), some (.ref f), some (.int (6 - (cntV ps : Nat))), o4, o5, o6, o7, none] S = .nx [some (.ref k), some (.int (c : Nat)), some (.ref f), some (.int (6 - (cntV ps' : Nat))), p4, p5, p6, p7, none] S' ∧
        S'[f]? = some (.lst (ps'.map pD)) ∧ OkD ps' ∧ WellAt S' k (m + 2000 * cnt) ∧ Fr (fun x => x = k ∨ x = f) S S' ∧ S.length ≤ S'.length := by
  intro cnt
  induction cnt with
  | zero => intro N ps m o4 o5 o6 o7 S w _ g ok; exact ⟨o4, o5, o6, o7, ps, S, forL_nil (ok_nil _ _), g, ok, w, Fr.rfl', Nat.le_refl _⟩
  | succ cnt ih =>
    intro N ps m o4 o5 o6 o7 S w hm g ok
    have kk := w.lt
    have ff := get_lt g
    obtain ⟨Sa, hSa⟩ : ∃ Sa : Sto, Sa = S ++ [.lst [.int 0, .int 0, .int 1, .int 2]] := ⟨_, rfl⟩
    have pa : S <+: Sa := by rw [hSa]; exact pre_snoc ..
    have ga : Sa[S.length]? = some (.lst [.int 0, .int 0, .int 1, .int 2]) := by rw [hSa]; exact last_get ..
    have la : Sa.length = S.length + 1 := by rw [hSa]; simp
    obtain ⟨sz, S1, e0, a0, w1, f1, l1⟩ := one_of (n := n + 2) (w.pre pa) (by omega) ga (by omega) (by simp) (by simp)
    have E0 : fnN Tx.F Ex Tx.cs (n + 4) 57 [.ref k, .ref S.length] Sa = _ := e0
    obtain ⟨x, rfl, hx⟩ : ∃ x : Nat, sz = .int (x : Nat) ∧ x ≤ 2 := by
      simp only [List.mem_cons, List.not_mem_nil, or_false] at a0
      rcases a0 with q | q | q | q
      · exact ⟨0, q, by decide⟩
      · exact ⟨0, q, by decide⟩
      · exact ⟨1, q, by decide⟩
      · exact ⟨2, q, by decide⟩
    have hOO : ev (GG (n + 4)) dOO [some (.ref k), some (.int (c : Nat)), some (.ref f), some (.int (6 - (cntV ps : Nat))), some (.int (N : Nat)), o5, o6, o7, none] S = .ok (.int (x : Nat)) S1 := by
      simp [dOO, ← hSa, E0]
    obtain ⟨s, hs1, hs2, hs3⟩ : ∃ s : Nat, (∀ S, bi .min [.int (6 - (cntV ps : Nat)), .int (1 + (x : Int))] S = .ok (.int (s : Nat)) S) ∧ s ≤ 3 ∧ cntV ps + s ≤ 6 := by
      have hcn := ok.cnt
      by_cases h : 1 + (x : Int) < 6 - (cntV ps : Nat)
      · refine ⟨1 + x, fun S => ?_, by omega, by omega⟩
        show R.ok (D.int (if 1 + (x : Int) < 6 - (cntV ps : Nat) then 1 + (x : Int) else 6 - (cntV ps : Nat))) S = _
        rw [if_pos h, Int.natCast_add]
        rfl
      · refine ⟨6 - cntV ps, fun S => ?_, by omega, by omega⟩
        show R.ok (D.int (if 1 + (x : Int) < 6 - (cntV ps : Nat) then 1 + (x : Int) else 6 - (cntV ps : Nat))) S = _
        rw [if_neg h]
        congr 2
        omega
    obtain ⟨S2, hS2⟩ : ∃ S2 : Sto, S2 = S1 ++ [.lst []] := ⟨_, rfl⟩
    have p2 : S1 <+: S2 := by rw [hS2]; exact pre_snoc ..
    have l2 : S2.length = S1.length + 1 := by rw [hS2]; simp
    have g2 : S2[S1.length]? = some (.lst (([] : List Kq).map Kq.D)) := by rw [hS2]; exact last_get ..
    have k1 := w1.lt
    obtain ⟨p7, l, S3, e3, g3, b3, n3, w3, f3, q3⟩ := any_loop (n := n + 4) (k := k) (c := c) (t := S1.length) (M := 10 ^ (8 * c)) (L := rngD 0 (s : Nat)) (X := dX) (o1 := some (.int (c : Nat))) (o2 := some (.ref f)) (o3 := some (.int (6 - (cntV ps : Nat)))) (o4 := some (.int (N : Nat))) (o5 := some (.int (s : Nat))) (by omega) (fun Sx m o7 w hm => by
      obtain ⟨d, S', e, h'⟩ := law_any (n := n) w hc1 hc hm
      exact ⟨d, S', call_of (S1 := Sx) (xs := [.ref k, .int (c : Nat)]) (by simp) e, h'⟩) s 0 [] (m + 1) o7 S2 (w1.pre p2) (by omega) g2 (by simp) (by simp; omega)
    have hF : exec (GG (n + 4)) Ex dF [some (.ref k), some (.int (c : Nat)), some (.ref f), some (.int (6 - (cntV ps : Nat))), some (.int (N : Nat)), some (.int (s : Nat)), some (.ref S1.length), o7, none] S2 = .nx [some (.ref k), some (.int (c : Nat)), some (.ref f), some (.int (6 - (cntV ps : Nat))), some (.int (N : Nat)), some (.int (s : Nat)), some (.ref S1.length), p7, none] S3 := by
      have er : evi (GG (n + 4)) (.rng1 (.var 5)) [some (.ref k), some (.int (c : Nat)), some (.ref f), some (.int (6 - (cntV ps : Nat))), some (.int (N : Nat)), some (.int (s : Nat)), some (.ref S1.length), o7, none] S2 = .ok ⟨rngD 0 (s : Nat), []⟩ S2 := evi_rng1 (GG (n + 4)) _ _ (by simp) (by unfold small; omega)
      unfold dF
      rw [exec_for, er, R.then_ok]
      have hr : rngD 0 (s : Nat) = rngN 0 s := rngD_N s
      have e' := e3
      rw [← hr] at e'
      exact e'
    have fS : Fr (fun x => x = k) S S3 := ((Fr.of_pre pa).tr (f1.tr (Fr.of_pre p2)) |>.mono (Q := fun x => x = k ∨ x = S1.length) (fun _ h => Or.inl h)).tr f3 |>.new (fun x hx hl => by rcases hx with q | q <;> omega)
    have gf3 : S3[f]? = some (.lst (ps.map pD)) := fS _ _ hf g
    by_cases hs0 : s = 0
    · subst hs0
      simp only [Int.natCast_zero] at hs1 hF
      rw [hS2] at hF
      have tv := data_turn0 (PL := dPL) (o4 := o4) hOO hs1 hF
      obtain ⟨q4, q5, q6, q7, ps', S', e, h1, h2, h3, h4, h5⟩ := ih (N + 1) ps (m + 1 + 420 * 0) (some (.int (N : Nat))) (some (.int 0)) (some (.ref S1.length)) p7 S3 w3 (by omega) gf3 ok
      refine ⟨q4, q5, q6, q7, ps', S', ?_, h1, h2, h3.mono (by omega), (fS.mono (fun _ h => Or.inl h)).tr h4, by omega⟩
      rw [rngN_succ]
      simp only [forL_cons (ok_nil _ _)]
      rw [tv, O.turn_nx, e]
    · have pl6 := ok.len
      obtain ⟨Sc, elc, pc⟩ := data_lc (n := n + 4) (o0 := some (.ref k)) (o1 := some (.int (c : Nat))) (o3 := some (.int (6 - (cntV ps : Nat)))) (o4 := some (.int (N : Nat))) (o5 := some (.int (s : Nat))) (o6 := some (.ref S1.length)) (o7 := p7) gf3 (by omega)
      have k3 := w3.lt
      have lc3 := pc.length_le
      obtain ⟨d, S4, e4, ⟨z, rfl, zg, zd, zn⟩, w4, f4, l4⟩ := law_place (n := n) (r := Sc.length) ((w3.pre pc).pre (pre_snoc Sc (.lst ((ps.map fun p => p.1).map N4.D)))) (by omega) (last_get Sc (.lst ((ps.map fun p => p.1).map N4.D))) (by omega) (by simp; omega)
      have hP : ev (GG (n + 4)) dPL [some (.ref k), some (.int (c : Nat)), some (.ref f), some (.int (6 - (cntV ps : Nat))), some (.int (N : Nat)), some (.int (s : Nat)), some (.ref S1.length), p7, none] S3 = .ok z.D S4 := call_of (by
        generalize dLC = LC at elc
        simp [elc]) e4
      have f34 : Fr (· = k) S3 S4 := (Fr.of_pre (pc.trans (pre_snoc ..))).tr f4
      have gv : S4[S1.length]? = some (.lst (l.map Kq.D)) := f34 _ _ (by omega) g3
      have gf4 := f34 _ _ hf gf3
      rw [hS2] at hF
      have tv := data_turn1 (o4 := o4) (by omega) hOO hs1 hF hP gv gf3 gf4 (by simp; omega)
      have hp : okP (z, l.map Kq.n4) := ⟨zg, zd, by simp only [List.length_map, n3, List.length_nil]; omega, by simp only [List.length_map, n3, List.length_nil]; omega, fun v hv => by
        obtain ⟨y, hy, rfl⟩ := List.mem_map.mp hv
        exact fit_good (b3 y hy) (ten_le hc)⟩
      have hlen : (l.map Kq.n4).length = s := by simp [n3]
      have c1 := cnt_ge ok.all
      have ok' : OkD (ps ++ [(z, l.map Kq.n4)]) := ok.snoc hp zn (by show cntV ps + (l.map Kq.n4).length ≤ 6; omega) (by omega)
      have cv : cntV (ps ++ [(z, l.map Kq.n4)]) = cntV ps + s := by rw [cntV_app]; show cntV ps + (l.map Kq.n4).length = _; omega
      have pD' : (ps.map pD) ++ [.tup [z.D, .tup (l.map Kq.D)]] = (ps ++ [(z, l.map Kq.n4)]).map pD := by
        rw [List.map_append]
        show _ = ps.map pD ++ [.tup [z.D, .tup ((l.map Kq.n4).map N4.D)]]
        rw [n4_D]
      rw [pD'] at tv
      have rm : (6 - ((cntV ps : Nat) : Int)) - (s : Nat) = 6 - ((cntV (ps ++ [(z, l.map Kq.n4)]) : Nat) : Int) := by rw [cv]; omega
      rw [rm] at tv
      have w5 : WellAt (S4.set f (.lst ((ps ++ [(z, l.map Kq.n4)]).map pD))) k (m + 1 + 420 * s + 110) := w4.fr (Fr.set (P := (· = f)) rfl) (fun e => hf e.symm)
      obtain ⟨q4, q5, q6, q7, ps', S', e, h1, h2, h3, h4, h5⟩ := ih (N + 1) (ps ++ [(z, l.map Kq.n4)]) (m + 1 + 420 * s + 110) (some (.int (N : Nat))) (some (.int (s : Nat))) (some (.ref S1.length)) p7 _ w5 (by omega) (set_get gf4) ok'
      have h5' : S4.length ≤ S'.length := by simpa using h5
      have lx : (Sc ++ [Ob.lst ((ps.map fun p => p.1).map N4.D)]).length = Sc.length + 1 := by simp
      refine ⟨q4, q5, q6, q7, ps', S', ?_, h1, h2, h3.mono (by omega), (((fS.tr f34).mono (Q := fun x => x = k ∨ x = f) (fun _ h => Or.inl h)).tr (Fr.set (P := fun x => x = k ∨ x = f) (Or.inr rfl))).tr h4, by omega⟩
      rw [rngN_succ]
      simp only [forL_cons (ok_nil _ _)]
      rw [tv, O.turn_nx, e]
end Pl
end
section
set_option Elab.async false
set_option linter.all false
set_option maxRecDepth 100000
set_option maxHeartbeats 4000000
set_option autoImplicit false
set_option exponentiation.threshold 10000
/-! V24: drawn DATA whole; reprs; the well. -/
namespace Pl
open Ev Gr
theorem N4_plain {z : N4} (h : z.good) : plain (pd z.D) = true ∧ nodes (pd z.D) = 7 := by
  obtain ⟨a, b, c, d⟩ := z
  have h1 : a.natAbs.log2 < 1920 := big_log h.1.2.1
  have h2 : b.natAbs.log2 < 1920 := big_log h.1.2.2
  have h3 : c.natAbs.log2 < 1920 := big_log h.2.2.1
  have h4 : d.natAbs.log2 < 1920 := big_log h.2.2.2
  refine ⟨?_, rfl⟩
  show ((decide (a.natAbs.log2 < 1920) && (decide (b.natAbs.log2 < 1920) && true)) && ((decide (c.natAbs.log2 < 1920) && (decide (d.natAbs.log2 < 1920) && true)) && true)) = true
  simp [h1, h2, h3, h4]
theorem N4s_plain : ∀ {zs : List N4}, (∀ z ∈ zs, z.good) → plainL (pdL (zs.map N4.D)) = true ∧ nodesL (pdL (zs.map N4.D)) = 7 * zs.length
  | [], _ => ⟨rfl, rfl⟩
  | z :: r, h => by
    obtain ⟨a, b⟩ := N4_plain (h z (by simp))
    obtain ⟨c, d⟩ := N4s_plain fun z hz => h z (List.mem_cons_of_mem _ hz)
    refine ⟨?_, ?_⟩
    · show (plain (pd z.D) && plainL (pdL (r.map N4.D))) = true
      rw [a, c]; rfl
    · show nodes (pd z.D) + nodesL (pdL (r.map N4.D)) = _
      rw [b, d, List.length_cons]; omega
theorem pD_plain {p : PR} (h : okP p) : plain (pd (pD p)) = true ∧ nodes (pd (pD p)) ≤ 30 := by
  obtain ⟨a, b⟩ := N4_plain h.1
  obtain ⟨c, d⟩ := N4s_plain h.2.2.2.2
  have := h.2.2.2.1
  refine ⟨?_, ?_⟩
  · show (plain (pd p.1.D) && (plainL (pdL (p.2.map N4.D)) && true)) = true
    rw [a, c]; rfl
  · show (nodes (pd p.1.D) + ((nodesL (pdL (p.2.map N4.D)) + 1) + 0)) + 1 ≤ 30
    rw [b, d]; omega
theorem pDs_plain : ∀ {ps : List PR}, (∀ p ∈ ps, okP p) → plainL (pdL (ps.map pD)) = true ∧ nodesL (pdL (ps.map pD)) ≤ 30 * ps.length
  | [], _ => ⟨rfl, Nat.le_refl _⟩
  | p :: r, h => by
    obtain ⟨a, b⟩ := pD_plain (h p (by simp))
    obtain ⟨c, d⟩ := pDs_plain fun z hz => h z (List.mem_cons_of_mem _ hz)
    refine ⟨?_, ?_⟩
    · show (plain (pd (pD p)) && plainL (pdL (r.map pD))) = true
      rw [a, c]; rfl
    · show nodes (pd (pD p)) + nodesL (pdL (r.map pD)) ≤ _
      rw [List.length_cons]; omega
theorem pD_pl (p : PR) : pl (pD p) = true ∧ dpt (pD p) ≤ 5 := by
  have := plL_nums p.2
  refine ⟨?_, ?_⟩
  · show (pl p.1.D && (plL (p.2.map N4.D) && true)) = true
    rw [this.1]; rfl
  · show max (dpt p.1.D) (max (dptL (p.2.map N4.D) + 1) 0) + 1 ≤ 5
    have h2 : dpt p.1.D = 2 := by simp [N4.D, dpt, dptL]
    rw [h2]
    have := this.2
    omega
theorem pDs_pl : ∀ ps : List PR, plL (ps.map pD) = true ∧ dptL (ps.map pD) ≤ 5
  | [] => ⟨rfl, by decide⟩
  | p :: r => by
    obtain ⟨a, b⟩ := pD_pl p
    obtain ⟨c, d⟩ := pDs_pl r
    refine ⟨?_, ?_⟩
    · show (pl (pD p) && plL (r.map pD)) = true
      rw [a, c]; rfl
    · show max (dpt (pD p)) (dptL (r.map pD)) ≤ 5
      omega
theorem bop_refs {S : Sto} {m n : Nat} {x y : List D} (h1 : S[m]? = some (.lst x)) (h2 : S[n]? = some (.lst y)) (hl : x.length + y.length ≤ 16777216) : binop .add (.ref m) (.ref n) S = .ok (.ref S.length) (S ++ [.lst (x ++ y)]) := by
  unfold binop
  simp only [h1, h2]
  rw [if_pos hl]
theorem stir_loop {n : Nat} {L : List D} {r : Nat} {o0 o1 o2 : Option D} {all : List D} : ∀ (cs : List Int) (b : Int) (o4 : Option D) (S : Sto), S[r]? = some (.lst all) → 0 ≤ b → b < 2147483629 → ∃ (b' : Int) (p4 : Option D), forL ⟨L, [(r, all)]⟩ (lpF (GG n) Ex (.nm 4) (.cons (.asg (.nm 3) (.bin .mod (.bi .int (.cons (.bin .add (.bin .add (.bin .mul (.var 3) (.cst (.int 69621))) (.bin .mul (.bin .mod (.bi .int (.cons (.var 4) .nil)) (.cst (.int 1000000009))) (.cst (.int 31)))) (.cst (.int 12347))) .nil)) (.cst (.int 2147483629)))) .nil)) (cs.map .int) [o0, o1, o2, some (.int b), o4] S = .nx [o0, o1, o2, some (.int b'), p4] S ∧ 0 ≤ b' ∧ b' < 2147483629 := by
  intro cs
  induction cs with
  | nil => intro b o4 S h h0 h1; exact ⟨b, o4, forL_nil (ok_one h), h0, h1⟩
  | cons c r ih =>
    intro b o4 S h h0 h1
    have m1 : ∀ S, binop .mul (.int b) (.int 69621) S = .ok (.int (b * 69621)) S := fun S => mul_ok (k := 40) (m := 40) (by unfold bt; omega) (by unfold bt; omega) (by decide) (by decide) (by decide)
    have m2 : ∀ S, binop .mod (.int c) (.int 1000000009) S = .ok (.int (c % 1000000009)) S := fun S => by rw [bop_mod S (by decide), Int.fmod_eq_emod_of_nonneg _ (by decide)]
    have m3 : ∀ S, binop .mul (.int (c % 1000000009)) (.int 31) S = .ok (.int (c % 1000000009 * 31)) S := fun S => mul_ok (k := 40) (m := 40) (by unfold bt; omega) (by unfold bt; omega) (by decide) (by decide) (by decide)
    have m4 : ∀ (x : Int) S, binop .mod (.int x) (.int 2147483629) S = .ok (.int (x % 2147483629)) S := fun x S => by rw [bop_mod S (by decide), Int.fmod_eq_emod_of_nonneg _ (by decide)]
    have bi1 : ∀ (x : Int) S, bi .int [.int x] S = .ok (.int x) S := fun _ _ => rfl
    obtain ⟨b', p4, e, h0', h1'⟩ := ih ((b * 69621 + c % 1000000009 * 31 + 12347) % 2147483629) (some (.int c)) S h (Int.emod_nonneg _ (by decide)) (Int.emod_lt_of_pos _ (by decide))
    refine ⟨b', p4, ?_, h0', h1'⟩
    rw [List.map_cons]
    simp only [forL_cons (ok_one h)]
    rw [← e]
    simp [m1, m2, m3, m4, bi1]
theorem law_well {n : Nat} {ns : List Int} {t : Nat} {S : Sto} (hl : ns.length ≤ 63) (ht : t ≤ 10) : ∃ (k : Nat) (S' : Sto), fn (n + 1) 55 [.fl (ns.map .int), .int (t : Nat)] S = .ok (.ref k) S' ∧ WellAt S' k 0 := by
  rw [fn_s (fd := Tx.t55.fd) rfl]
  obtain ⟨own, ho⟩ : ∃ own : Int, ∀ S o2 o3 o4, ev (GG n) (.ite (.cmp .lt (.var 1) (.bi .len (.cons (.var 0) .nil))) (.bi .int (.cons (.ix (.var 0) (.var 1)) .nil)) (.cst (.int 0))) [some (.fl (ns.map .int)), some (.int (t : Nat)), o2, o3, o4] S = .ok (.int own) S := by
    by_cases h : t < ns.length
    · refine ⟨ns[t], fun S o2 o3 o4 => ?_⟩
      have h' : (t : Int) < (ns.length : Nat) := by omega
      have ix : L2.atI (ns.map D.int) (t : Nat) = some (.int ns[t]) := by rw [atI_nat]; simp [h]
      have bi1 : ∀ (x : Int) S, bi .int [.int x] S = .ok (.int x) S := fun _ _ => rfl
      simp [h, h', ix, bi1]
    · have h' : ¬ (t : Int) < (ns.length : Nat) := by omega
      exact ⟨0, fun S o2 o3 o4 => by simp [h, h']⟩
  have m1 : ∀ S, binop .mul (.int 7211) (.int (t : Nat)) S = .ok (.int (7211 * (t : Int))) S := fun S => mul_ok (k := 40) (m := 40) (by unfold bt; omega) (by unfold bt; omega) (by decide) (by decide) (by decide)
  have sl : slD (.fl (ns.map .int)) none (some 9) S = .ok (.ref S.length) (S ++ [.lst ((ns.take 9).map .int)]) := by
    have : cut (ns.map D.int) none (some 9) = (ns.take 9).map .int := by rw [show (9 : Int) = ((9 : Nat) : Int) from rfl, cut_to, List.map_take]
    rw [← this]
    rfl
  have ad : binop .add (.ref S.length) (.ref (S.length + 1)) (S ++ [.lst ((ns.take 9).map .int), .lst [.int own]]) = .ok (.ref (S.length + 2)) (S ++ [.lst ((ns.take 9).map .int), .lst [.int own], .lst ((ns.take 9 ++ [own]).map .int)]) := by
    have := bop_refs (S := S ++ [.lst ((ns.take 9).map .int), .lst [.int own]]) (m := S.length) (n := S.length + 1) (x := (ns.take 9).map .int) (y := [.int own]) (by simp) (by simp) (by simp; omega)
    rw [this]
    simp
  have g : (S ++ [Ob.lst ((ns.take 9).map D.int), .lst [.int own], .lst ((ns.take 9 ++ [own]).map .int)])[S.length + 2]? = some (.lst ((ns.take 9 ++ [own]).map .int)) := by simp
  obtain ⟨b', p4, e, h0, h1⟩ := stir_loop (n := n) (L := (ns.take 9 ++ [own]).map .int) (r := S.length + 2) (o0 := some (.fl (ns.map .int))) (o1 := some (.int (t : Nat))) (o2 := some (.int own)) (all := (ns.take 9 ++ [own]).map .int) (ns.take 9 ++ [own]) (90001 + 7211 * (t : Int)) none _ g (by omega) (by omega)
  have ff : exec (GG n) Ex (.for (.nm 4) (.seq (.bin .add (.sl (.var 0) .none (.some (.cst (.int 9)))) (.lst (.cons (.var 2) .nil)))) (.cons (.asg (.nm 3) (.bin .mod (.bi .int (.cons (.bin .add (.bin .add (.bin .mul (.var 3) (.cst (.int 69621))) (.bin .mul (.bin .mod (.bi .int (.cons (.var 4) .nil)) (.cst (.int 1000000009))) (.cst (.int 31)))) (.cst (.int 12347))) .nil)) (.cst (.int 2147483629)))) .nil)) [some (.fl (ns.map .int)), some (.int (t : Nat)), some (.int own), some (.int (90001 + 7211 * (t : Int))), none] S = .nx [some (.fl (ns.map .int)), some (.int (t : Nat)), some (.int own), some (.int b'), p4] (S ++ [Ob.lst ((ns.take 9).map D.int), .lst [.int own], .lst ((ns.take 9 ++ [own]).map .int)]) := by
    rw [exec_for]
    have ev0 : evi (GG n) (.seq (.bin .add (.sl (.var 0) .none (.some (.cst (.int 9)))) (.lst (.cons (.var 2) .nil)))) [some (.fl (ns.map .int)), some (.int (t : Nat)), some (.int own), some (.int (90001 + 7211 * (t : Int))), none] S = .ok ⟨(ns.take 9 ++ [own]).map .int, [(S.length + 2, (ns.take 9 ++ [own]).map .int)]⟩ (S ++ [Ob.lst ((ns.take 9).map D.int), .lst [.int own], .lst ((ns.take 9 ++ [own]).map .int)]) := by
      have ss : srcSeq (.ref (S.length + 2)) (S ++ [Ob.lst ((ns.take 9).map D.int), .lst [.int own], .lst ((ns.take 9 ++ [own]).map .int)]) = some ⟨(ns.take 9 ++ [own]).map .int, [(S.length + 2, (ns.take 9 ++ [own]).map .int)]⟩ := by
        show (lstOf _ (.ref (S.length + 2))).map _ = _
        rw [lstOf_ref g]
        rfl
      generalize hS3 : (S ++ [Ob.lst ((ns.take 9).map D.int), .lst [.int own], .lst ((ns.take 9 ++ [own]).map .int)]) = S3 at *
      simp only [evi_seq, ev_bin, ev_sl, ev_var, List.getD_cons_zero, List.getD_cons_succ, R.of_some, R.bind_ok, evo_none, evo_some, ev_cst, intR_int, sl, ev_lst, evs_cons, evs_nil, List.length_cons, List.length_nil, List.length_append, List.append_assoc, List.cons_append, List.nil_append, Nat.zero_add, if_true, Nat.reduceLeDiff, ad, ss, kBin_eq, kAnd_eq, kOr_eq, kIte_eq, kCmp_eq, kCmp2_eq, kTup_eq, kLst_eq, kIx_eq, kIx2_eq, kSl_eq, kSl2_eq, kMt_eq, kCons_eq, kCons2_eq, kSeq_eq, kEnum_eq, kSet_eq, kIf_eq, kExp_eq]
    rw [ev0, R.then_ok]
    exact e
  have ab : ∀ S, bi .abs [.int own] S = .ok (.int (own.natAbs : Nat)) S := fun S => by
    show R.ok (D.int (if own < 0 then -own else own)) S = _
    congr 2
    split <;> omega
  have pw : ∀ S, binop .pow (.int 10) (.int 18) S = .ok (.int (10 ^ 18)) S := fun S => rfl
  have key : ∀ a : Int, 0 ≤ a → (∀ S, ev (GG n) (.ite (.cmp .ge (.bi .abs (.cons (.var 2) .nil)) (.bin .pow (.cst (.int 10)) (.cst (.int 18)))) (.bi .abs (.cons (.var 2) .nil)) (.cst (.int 0))) [some (.fl (ns.map .int)), some (.int (t : Nat)), some (.int own), some (.int b'), p4] S = .ok (.int a) S) → ∃ (k : Nat) (S' : Sto), runF (GG n) Ex Tx.t55.fd [.fl (ns.map .int), .int (t : Nat)] S = .ok (.ref k) S' ∧ WellAt S' k 0 := by
    intro a ha hx
    refine ⟨_, (S ++ [Ob.lst ((ns.take 9).map D.int), .lst [.int own], .lst ((ns.take 9 ++ [own]).map .int)]) ++ [.lst [.int a, .int b', .int 0]], ?_, a, b', 0, last_get .., ha, h0, h1, by omega, by omega⟩
    generalize (S ++ [Ob.lst ((ns.take 9).map D.int), .lst [.int own], .lst ((ns.take 9 ++ [own]).map .int)]) = S3 at *
    simp [runF, Tx.t55, Tx.b55, ho, m1, ff, hx]
  by_cases hb : (10 : Int) ^ 18 ≤ (own.natAbs : Nat)
  · exact key (own.natAbs : Nat) (by omega) (fun S => by simp only [ev_ite, ev_cmp, ev_bi, evs_cons, ev_var, List.getD_cons_zero, List.getD_cons_succ, R.of_some, R.bind_ok, evs_nil, ab, ev_bin, ev_cst, pw, cmp_ge, decide_eq_true hb, Option.map_some, condR_bl, if_true, kBin_eq, kAnd_eq, kOr_eq, kIte_eq, kCmp_eq, kCmp2_eq, kTup_eq, kLst_eq, kIx_eq, kIx2_eq, kSl_eq, kSl2_eq, kMt_eq, kCons_eq, kCons2_eq, kSeq_eq, kEnum_eq, kSet_eq, kIf_eq, kExp_eq])
  · exact key 0 (by omega) (fun S => by simp only [ev_ite, ev_cmp, ev_bi, evs_cons, ev_var, List.getD_cons_zero, List.getD_cons_succ, R.of_some, R.bind_ok, evs_nil, ab, ev_bin, ev_cst, pw, cmp_ge, decide_eq_false hb, Option.map_some, condR_bl, Bool.false_eq_true, if_false, kBin_eq, kAnd_eq, kOr_eq, kIte_eq, kCmp_eq, kCmp2_eq, kTup_eq, kLst_eq, kIx_eq, kIx2_eq, kSl_eq, kSl2_eq, kMt_eq, kCons_eq, kCons2_eq, kSeq_eq, kEnum_eq, kSet_eq, kIf_eq, kExp_eq])

theorem data_walk {n k c f : Nat} {F : Sm} {r : D} {p4 p5 p6 p7 : Option D} {xs : List D} {S S1 : Sto} (bd : Tx.b81 = .cons (.par [2, 3] (.cons (.lst .nil) (.cons (.cst (.int 6)) .nil))) (.cons F (.cons (.ret (.bi .tuple (.cons (.var 2) .nil))) .nil)))
    (h : exec (GG n) Ex F [some (.ref k), some (.int (c : Nat)), some (.ref S.length), some (.int 6), none, none, none, none, none] (S ++ [.lst []]) = .nx [some (.ref k), some (.int (c : Nat)), some (.ref f), some r, p4, p5, p6, p7, none] S1) (g : S1[f]? = some (.lst xs)) :
    runF (GG n) Ex Tx.t81.fd [.ref k, .int (c : Nat)] S = .ok (.tup xs) S1 := by
  have tr := tuple_ref g
  simp [runF, Tx.t81, bd, parSet, h, tr]
theorem law_data {n k m c : Nat} {S : Sto} (w : WellAt S k m) (hc1 : 1 ≤ c) (hc : c ≤ 50) (hm : m + 50000 < 450000) : Dr (fn (n + 5) 81 [.ref k, .int (c : Nat)] S) S k (m + 20000) (fun d => ∃ ps : List PR, d = .tup (ps.map pD) ∧ OkD ps) := by
  rw [fn_s (fd := Tx.t81.fd) rfl]
  have kk := w.lt
  have p0 := pre_snoc S (.lst [])
  obtain ⟨d, S1, e1, a1, w1, f1, l1⟩ := drawn (n := n + 3) (many := 7) (w.pre p0) (by omega) (by decide) (by decide)
  have E1 : fnN Tx.F Ex Tx.cs (n + 4) 56 [.ref k, .int 7] (S ++ [.lst []]) = _ := e1
  have g1 : S1[S.length]? = some (.lst (([] : List PR).map pD)) := f1 _ _ (by omega) (last_get ..)
  obtain ⟨p4, p5, p6, p7, ps, S2, e2, g2, ok, w2, f2, q2⟩ := data_loop (n := n) (k := k) (c := c) (f := S.length) (L := rngD 0 (d : Nat)) hc1 hc (by omega) d 0 [] (m + 1) none none none none S1 w1 (by omega) g1 OkD.nil
  have e2' : forL ⟨rngD 0 (d : Nat), []⟩ (lpF (GG (n + 4)) Ex (.nm 4) (dB dOO dPL dF)) (rngN 0 d) [some (.ref k), some (.int (c : Nat)), some (.ref S.length), some (.int 6), none, none, none, none, none] S1 = _ := e2
  have ef : exec (GG (n + 4)) Ex (.for (.nm 4) (.rng1 (.call 56 (.cons (.var 0) (.cons (.cst (.int 7)) .nil)))) (dB dOO dPL dF)) [some (.ref k), some (.int (c : Nat)), some (.ref S.length), some (.int 6), none, none, none, none, none] (S ++ [.lst []]) = .nx [some (.ref k), some (.int (c : Nat)), some (.ref S.length), some (.int (6 - (cntV ps : Nat))), p4, p5, p6, p7, none] S2 := by
    have er : evi (GG (n + 4)) (.rng1 (.call 56 (.cons (.var 0) (.cons (.cst (.int 7)) .nil)))) [some (.ref k), some (.int (c : Nat)), some (.ref S.length), some (.int 6), none, none, none, none, none] (S ++ [.lst []]) = .ok ⟨rngD 0 (d : Nat), []⟩ S1 := evi_rng1 (GG (n + 4)) _ _ (by simp [E1]) (by unfold small; omega)
    rw [exec_for, er, R.then_ok]
    have hr : rngD 0 (d : Nat) = rngN 0 d := rngD_N d
    have e' := e2'
    rw [← hr] at e'
    exact e'
  have lx : (S ++ [Ob.lst []]).length = S.length + 1 := by simp
  refine ⟨_, S2, data_walk rfl ef g2, ⟨ps, rfl, ok⟩, w2.mono (by omega), ?_, by omega⟩
  exact (((Fr.of_pre p0).tr (f1.mono (Q := fun x => x = k ∨ x = S.length) (fun _ h => Or.inl h))).tr f2).new (fun x hx hl => by rcases hx with e | e <;> omega)
/-! reprs -/
def rpS (ws : List (List Nat)) : List Nat := (PySem.PyData.shown (.list (ws.map fun w => .str ⟨w.toArray⟩))).cps.toList
theorem reprs_le : ∀ ws : List (List Nat), (∀ w ∈ ws, asc w) → PySem.PyData.showableAll (ws.map fun w => .str ⟨w.toArray⟩) = true ∧ PySem.piled (PySem.PyData.shownAll (ws.map fun w => .str ⟨w.toArray⟩)) ≤ (ws.map fun w => 10 * w.length + 4).sum
  | [], _ => ⟨rfl, by decide⟩
  | w :: r, h => by
    obtain ⟨a, b⟩ := reprs_le r fun x hx => h x (List.mem_cons_of_mem _ hx)
    have l := PySem.StrLaws.reprText_len ⟨w.toArray⟩ (fun c hc => Nat.lt_trans (h w (by simp) c (by simpa using hc)) (by decide))
    refine ⟨?_, ?_⟩
    · show (true && PySem.PyData.showableAll (r.map fun w => .str ⟨w.toArray⟩)) = true
      rw [a]; rfl
    · show PySem.piled (PySem.reprText ⟨w.toArray⟩ :: PySem.PyData.shownAll (r.map fun w => .str ⟨w.toArray⟩)) ≤ _
      rw [PySem.piled_cons, List.map_cons, List.sum_cons]
      have hl : (⟨w.toArray⟩ : PySem.Str).length = w.length := by simp [PySem.Str.length]
      rw [hl] at l
      omega
theorem repr_strs {S : Sto} {r : Nat} {ws : List (List Nat)} (h : S[r]? = some (.lst (ws.map .str))) (ha : ∀ w ∈ ws, asc w) (hl : (ws.map fun w => 10 * w.length + 4).sum ≤ 16000000) : reprD S (.ref r) = some (rpS ws) := by
  obtain ⟨a, b⟩ := reprs_le ws ha
  have t : toP S 20 (.ref r) = some (.list (ws.map fun w => .str ⟨w.toArray⟩)) := by
    show (match S[r]? with
      | some (.lst xs) => (mapO (toP S 19) xs).map PySem.PyData.list
      | _ => none) = _
    rw [h]
    have : ∀ ws : List (List Nat), mapO (toP S 19) (ws.map D.str) = some (ws.map fun w => .str ⟨w.toArray⟩) := by
      intro ws
      induction ws with
      | nil => rfl
      | cons w r ih =>
        rw [List.map_cons, mapO, ih]
        rfl
    show (mapO (toP S 19) (ws.map D.str)).map PySem.PyData.list = _
    rw [this]
    rfl
  refine repr_of t a ?_
  have := listText_le (PySem.PyData.shownAll (ws.map fun w => .str ⟨w.toArray⟩))
  show (PySem.listText _).length ≤ _
  omega
def rpD (ds : List D) : List Nat := (PySem.PyData.shown (.list (pdL ds))).cps.toList
theorem repr_data {S : Sto} {r : Nat} {ds : List D} (h : S[r]? = some (.lst ds)) (h1 : plL ds = true) (h2 : dptL ds < 19) (hp : plainL (pdL ds) = true) (hn : nodesL (pdL ds) ≤ 20000) : reprD S (.ref r) = some (rpD ds) := by
  have t : toP S 20 (.ref r) = some (.list (pdL ds)) := by
    show (match S[r]? with
      | some (.lst xs) => (mapO (toP S 19) xs).map PySem.PyData.list
      | _ => none) = _
    rw [h]
    show (mapO (toP S 19) ds).map PySem.PyData.list = _
    rw [toPL_pl S ds 19 h1 h2]
    rfl
  obtain ⟨a, b⟩ := shown_le (.list (pdL ds)) hp
  refine repr_of t a ?_
  have : nodes (.list (pdL ds)) = nodesL (pdL ds) + 1 := rfl
  omega
end Pl
end
section
set_option Elab.async false
set_option linter.all false
set_option maxRecDepth 100000
set_option maxHeartbeats 4000000
set_option autoImplicit false
set_option exponentiation.threshold 10000
/-! V25: the law. -/
namespace Pl
open Ev Gr
theorem lst4 {G : Gm} {en : En} {S : Sto} {A B C E : Ev.E} {a b c d : D} (hA : ∀ S', S <+: S' → Rv (ev G A en S') S' a) (hB : ∀ S', S <+: S' → Rv (ev G B en S') S' b) (hC : ∀ S', S <+: S' → Rv (ev G C en S') S' c) (hE : ∀ S', S <+: S' → Rv (ev G E en S') S' d) :
    Rl (ev G (.lst (.cons A (.cons B (.cons C (.cons E .nil))))) en S) S [a, b, c, d] := by
  obtain ⟨S1, e1, p1⟩ := hA S List.prefix_rfl
  obtain ⟨S2, e2, p2⟩ := hB S1 p1
  obtain ⟨S3, e3, p3⟩ := hC S2 (p1.trans p2)
  obtain ⟨S4, e4, p4⟩ := hE S3 (p1.trans (p2.trans p3))
  refine Rl_new (S1 := S4) ?_ (p1.trans (p2.trans (p3.trans p4)))
  simp [e1, e2, e3, e4]
theorem bi_repr {S : Sto} {r : Nat} {u : List Nat} (h : reprD S (.ref r) = some u) : bi .repr [.ref r] S = .ok (.str u) S := by
  show R.of ((reprD S (.ref r)).map D.str) S = _
  rw [h]
  rfl
def y4 : E := .lst (.cons (.var 2) (.cons (.var 3) (.cons (.var 4) (.cons (.var 5) .nil))))
def rp (e : E) : E := .bi .repr (.cons e .nil)
theorem right_walk {n k : Nat} {A1 A2 A3 A4 A5 X6 X7 X8 X10 X12 DR : E} {c nm rw qt dt : D} {ts ds : List D} {u v : List Nat} {S S1 S2 S3 S4 S5 : Sto}
    (bd : Tx.b82 = .cons (.asg (.nm 1) A1) (.cons (.par [2, 3] (.cons A2 (.cons A3 .nil))) (.cons (.par [4, 5] (.cons A4 (.cons A5 .nil))) (.cons (.asg (.nm 6) X6) (.cons (.asg (.nm 7) X7) (.cons (.ite (.cmp .ne (rp (.var 7)) (rp (.var 6))) (.cons (.ret (.cst (.bl false))) .nil) .nil) (.cons (.asg (.nm 7) X8) (.cons (.ite (.cmp .ne (rp (.var 7)) (rp y4)) (.cons (.ret (.cst (.bl false))) .nil) .nil) (.cons (.ite (.cmp .gt DR (.cst (.int 0))) (.cons (.ret (.cst (.bl true))) .nil) .nil) (.cons (.asg (.nm 7) X10) (.cons (.ite (.cmp .ne (rp (.var 7)) (rp (.var 6))) (.cons (.ret (.cst (.bl false))) .nil) .nil) (.cons (.asg (.nm 7) X12) (.cons (.ret (.cmp .eq (rp (.var 7)) (rp y4))) .nil)))))))))))))
    (h1 : ev (GG n) A1 [some (.ref k), none, none, none, none, none, none, none] S = .ok c S1) (h2 : ev (GG n) A2 [some (.ref k), some c, none, none, none, none, none, none] S1 = .ok nm S2) (h3 : ev (GG n) A3 [some (.ref k), some c, none, none, none, none, none, none] S2 = .ok rw S3)
    (h4 : ev (GG n) A4 [some (.ref k), some c, some nm, some rw, none, none, none, none] S3 = .ok qt S4) (h5 : ev (GG n) A5 [some (.ref k), some c, some nm, some rw, none, none, none, none] S4 = .ok dt S5) (hds : ds = [nm, rw, qt, dt])
    (h6 : ∀ S, Rl (ev (GG n) X6 [some (.ref k), some c, some nm, some rw, some qt, some dt, none, none] S) S ts) (h7 : ∀ S r, Rl (ev (GG n) X7 [some (.ref k), some c, some nm, some rw, some qt, some dt, some (.ref r), none] S) S ts)
    (h8 : ∀ S r o, S[r]? = some (.lst ts) → Rl (ev (GG n) X8 [some (.ref k), some c, some nm, some rw, some qt, some dt, some (.ref r), o] S) S ds)
    (h10 : ∀ S r o, Rl (ev (GG n) X10 [some (.ref k), some c, some nm, some rw, some qt, some dt, some (.ref r), o] S) S ts)
    (h12 : ∀ S r o, S[r]? = some (.lst ts) → Rl (ev (GG n) X12 [some (.ref k), some c, some nm, some rw, some qt, some dt, some (.ref r), o] S) S ds)
    (hd : ∀ S r o, S5 <+: S → S[r]? = some (.lst ts) → ∃ (d : Nat) (S' : Sto), ev (GG n) DR [some (.ref k), some c, some nm, some rw, some qt, some dt, some (.ref r), o] S = .ok (.int (d : Nat)) S' ∧ S'[r]? = some (.lst ts))
    (hu : ∀ S r, S[r]? = some (.lst ts) → reprD S (.ref r) = some u) (hv : ∀ S r, S[r]? = some (.lst ds) → reprD S (.ref r) = some v) :
    ∃ S', runF (GG n) Ex Tx.t82.fd [.ref k] S = .ok (.bl true) S' := by
  obtain ⟨r6, S6, e6, p6, g6⟩ := h6 S5
  obtain ⟨r7, S7, e7, p7, g7⟩ := h7 S6 r6
  have g67 := pre_get p7 g6
  have u7 := bi_repr (hu S7 r7 g7)
  have u6 := bi_repr (hu S7 r6 g67)
  obtain ⟨r8, S8, e8, p8, g8⟩ := h8 S7 r6 (some (.ref r7)) g67
  have v8 := bi_repr (hv S8 r8 g8)
  obtain ⟨S8', hS8⟩ : ∃ S8' : Sto, S8' = S8 ++ [.lst ds] := ⟨_, rfl⟩
  have q8 : S8 <+: S8' := by rw [hS8]; exact pre_snoc ..
  have w8 := bi_repr (hv S8' S8.length (by rw [hS8]; exact last_get ..))
  have g68 := pre_get q8 (pre_get p8 g67)
  obtain ⟨d, S9, e9, g69⟩ := hd S8' r6 (some (.ref r8)) (p6.trans (p7.trans (p8.trans q8))) g68
  rw [hds] at hS8
  by_cases d0 : 0 < d
  · have d0' : (0 : Int) < (d : Nat) := by omega
    refine ⟨S9, ?_⟩
    simp [runF, Tx.t82, bd, h1, parSet, h2, h3, h4, h5, e6, e7, rp, y4, u7, u6, e8, v8, ← hS8, w8, e9, d0, d0']
  · have d0' : ¬ (0 : Int) < (d : Nat) := by omega
    obtain ⟨r10, S10, e10, p10, g10⟩ := h10 S9 r6 (some (.ref r8))
    have g6a := pre_get p10 g69
    have u10 := bi_repr (hu S10 r10 g10)
    have u6a := bi_repr (hu S10 r6 g6a)
    obtain ⟨r12, S12, e12, p12, g12⟩ := h12 S10 r6 (some (.ref r10)) g6a
    have v12 := bi_repr (hv S12 r12 g12)
    obtain ⟨S13, hS13⟩ : ∃ S13 : Sto, S13 = S12 ++ [.lst ds] := ⟨_, rfl⟩
    have w12 := bi_repr (hv S13 S12.length (by rw [hS13]; exact last_get ..))
    rw [hds] at hS13
    refine ⟨S13, ?_⟩
    simp [runF, Tx.t82, bd, h1, parSet, h2, h3, h4, h5, e6, e7, rp, y4, u7, u6, e8, v8, ← hS8, w8, e9, d0, d0', e10, u10, u6a, e12, v12, ← hS13, w12]

theorem rv_call {n f : Nat} {en : En} {S : Sto} {es : Es} {xs : List D} {d : D} (a : evs (GG n) es en S = .ok xs S) (h : Rv (fnN Tx.F Ex Tx.cs n f xs S) S d) : Rv (ev (GG n) (.call f es) en S) S d := by
  obtain ⟨S', e, p⟩ := h
  exact ⟨S', call_of a e, p⟩
theorem rv_callk {n f : Nat} {en : En} {S : Sto} {e : E} {x d : D} (a : ev (GG n) e en S = .ok x S) (h : Rv (fnN Tx.F Ex Tx.cs n f [x] S) S d) : Rv (ev (GG n) (.callk f .nil (.cons e .nil) [0]) en S) S d := by
  obtain ⟨S', e', p⟩ := h
  refine ⟨S', ?_, p⟩
  have b : evs (GG n) (.cons e .nil) en S = .ok [x] S := by simp [a]
  rw [ev_callk, evs_nil, R.bind_ok, kCk_eq, b, R.bind_ok, kCk2_eq]
  exact e'
theorem rv_ok {r : R D} {S : Sto} {d : D} (h : r = .ok d S) : Rv r S d := ⟨S, h, List.prefix_rfl⟩
theorem asc_nums (zs : List N4) : asc (numsL zs) := by
  have : ∀ ws : List (List Nat), (∀ w ∈ ws, asc w) → asc (TL.joinL [32] ws) := by
    intro ws
    induction ws with
    | nil => intro _ c hc; cases hc
    | cons w r ih =>
      intro h
      cases r with
      | nil => exact h w (by simp)
      | cons v t => exact asc_app (h w (by simp)) (asc_app (asc_cons (by decide) (fun c hc => by cases hc)) (ih fun x hx => h x (List.mem_cons_of_mem _ hx)))
  refine this _ ?_
  intro w hw
  obtain ⟨z, _, rfl⟩ := List.mem_map.mp hw
  exact asc_L z
theorem asc_nil : asc [] := fun c hc => by cases hc
theorem asc_row (zs : List N4) : asc (rowL zs) := asc_cons (by decide) (asc_app (asc_nums zs) (asc_cons (by decide) asc_nil))
theorem asc_quo (os us : List N4) : asc (quoL os us) := asc_app (asc_row os) (asc_cons (by decide) (asc_row us))
theorem asc_data (ps : List PR) : asc (dataL ps) := by
  intro c hc
  obtain ⟨l, hl, hc⟩ := List.mem_flatten.mp hc
  obtain ⟨p, _, rfl⟩ := List.mem_map.mp hl
  exact asc_app (asc_app (asc_L p.1) (asc_app (asc_cons (by decide) (asc_cons (by decide) asc_nil)) (asc_nums p.2))) (asc_cons (by decide) asc_nil) c hc
theorem dataL_len {ps : List PR} (h : OkD ps) : (dataL ps).length ≤ 60006 := by
  have hl := h.len
  unfold dataL
  rw [List.length_flatten]
  have := sum_len (ps.map fun p => pairL p ++ [10]) 10001 (fun y hy => by obtain ⟨p, hp, rfl⟩ := List.mem_map.mp hy; have := pairL_len (h.all p hp); simp; omega)
  rw [List.length_map] at this
  omega
theorem ks_plain {ks : List Kq} (h : ∀ k ∈ ks, k.n4.good) : plainL (pdL (ks.map Kq.D)) = true ∧ nodesL (pdL (ks.map Kq.D)) = 7 * ks.length := by
  have := N4s_plain (zs := ks.map Kq.n4) (goods h)
  rw [n4_D, List.length_map] at this
  exact this
theorem law_right {n k : Nat} {S : Sto} (w : WellAt S k 0) : ∃ S', fn (n + 10) 82 [.ref k] S = .ok (.bl true) S' := by
  rw [fn_s (fd := Tx.t82.fd) rfl]
  have kk := w.lt
  obtain ⟨Sa, hSa⟩ : ∃ Sa : Sto, Sa = S ++ [.lst [.int 1, .int 2, .int 2, .int 50]] := ⟨_, rfl⟩
  have pa : S <+: Sa := by rw [hSa]; exact pre_snoc ..
  have ga : Sa[S.length]? = some (.lst [.int 1, .int 2, .int 2, .int 50]) := by rw [hSa]; exact last_get ..
  obtain ⟨sz, S1, e1, a1, w1, f1, l1⟩ := one_of (n := n + 7) (w.pre pa) (by decide) ga (by omega) (by simp) (by simp)
  have E1 : fnN Tx.F Ex Tx.cs (n + 9) 57 [.ref k, .ref S.length] Sa = _ := e1
  obtain ⟨c, rfl, hc1, hc, hc2⟩ : ∃ c : Nat, sz = .int (c : Nat) ∧ 1 ≤ c ∧ c ≤ 50 ∧ (c ≤ 2 ∨ 9 ≤ c) := by
    simp only [List.mem_cons, List.not_mem_nil, or_false] at a1
    rcases a1 with q | q | q | q
    · exact ⟨1, q, by decide⟩
    · exact ⟨2, q, by decide⟩
    · exact ⟨2, q, by decide⟩
    · exact ⟨50, q, by decide⟩
  have h1 : ev (GG (n + 9)) (.call 57 (.cons (.var 0) (.cons (.lst (.cons (.cst (.int 1)) (.cons (.cst (.int 2)) (.cons (.cst (.int 2)) (.cons (.cst (.int 50)) .nil))))) .nil))) [some (.ref k), none, none, none, none, none, none, none] S = .ok (.int (c : Nat)) S1 := call_of (S1 := Sa) (xs := [.ref k, .ref S.length]) (by simp [← hSa]) e1
  -- a number
  obtain ⟨d2, S2, e2, a2, w2, f2, l2⟩ := drawn (n := n + 8) (many := 2) w1 (by decide) (by decide) (by decide)
  have E2 : fnN Tx.F Ex Tx.cs (n + 9) 56 [.ref k, .int 2] S1 = _ := e2
  obtain ⟨c', ec', hc'1, hc'2⟩ : ∃ c' : Nat, ev (GG (n + 9)) (.ite (.cmp .eq (.call 56 (.cons (.var 0) (.cons (.cst (.int 2)) .nil))) (.cst (.int 0))) (.cst (.int 50)) (.cst (.int 1))) [some (.ref k), some (.int (c : Nat)), none, none, none, none, none, none] S1 = .ok (.int (c' : Nat)) S2 ∧ 1 ≤ c' ∧ c' ≤ 50 := by
    by_cases h : d2 = 0
    · subst h
      exact ⟨50, by simp [E2], by decide, by decide⟩
    · have h' : ¬ (d2 : Int) = 0 := by omega
      exact ⟨1, by simp [E2, h, h'], by decide, by decide⟩
  obtain ⟨dn, S3, e3, ⟨z, rfl, fz⟩, w3, f3, l3⟩ := law_any (n := n + 5) w2 hc'1 hc'2 (by decide)
  have h2 := call_of (n := n + 9) (f := 76) (en := [some (.ref k), some (.int (c : Nat)), none, none, none, none, none, none]) (es := .cons (.var 0) (.cons (.ite (.cmp .eq (.call 56 (.cons (.var 0) (.cons (.cst (.int 2)) .nil))) (.cst (.int 0))) (.cst (.int 50)) (.cst (.int 1))) .nil)) (S := S1) (S1 := S2) (xs := [.ref k, .int (c' : Nat)]) (by
    generalize E.ite (.cmp .eq (.call 56 (.cons (.var 0) (.cons (.cst (.int 2)) .nil))) (.cst (.int 0))) (.cst (.int 50)) (.cst (.int 1)) = X at *
    simp [ec']) e3
  have gz : z.n4.good := fit_good fz (ten_le hc'2)
  -- a row
  obtain ⟨dr, S4, e4, ⟨ks, rfl, lks, fks, zks⟩, w4, f4, l4⟩ := law_some (n := n + 4) (t := 5) w3 hc1 hc (by decide) (by decide)
  have h3 := call_of (n := n + 9) (f := 77) (en := [some (.ref k), some (.int (c : Nat)), none, none, none, none, none, none]) (es := .cons (.var 0) (.cons (.cst (.int 5)) (.cons (.var 1) .nil))) (S := S3) (S1 := S3) (xs := [.ref k, .int (5 : Nat), .int (c : Nat)]) (by simp) e4
  have gks : ∀ y ∈ ks, y.n4.good := fun y hy => fit_good (fks y hy) (ten_le hc)
  -- a quotient
  obtain ⟨dq, S5, e5, ⟨os, us, B, b, rfl, gq⟩, w5, f5, l5⟩ := law_made (n := n + 3) w4 hc1 hc hc2 (by decide)
  have h4 := call_of (n := n + 9) (f := 79) (en := [some (.ref k), some (.int (c : Nat)), some z.D, some (.tup (ks.map Kq.D)), none, none, none, none]) (es := .cons (.var 0) (.cons (.var 1) .nil)) (S := S4) (S1 := S4) (xs := [.ref k, .int (c : Nat)]) (by simp) e5
  -- DATA
  obtain ⟨dd, S6, e6, ⟨ps, rfl, ok⟩, w6, f6, l6⟩ := law_data (n := n + 4) w5 hc1 hc (by decide)
  have h5 := call_of (n := n + 9) (f := 81) (en := [some (.ref k), some (.int (c : Nat)), some z.D, some (.tup (ks.map Kq.D)), none, none, none, none]) (es := .cons (.var 0) (.cons (.var 1) .nil)) (S := S5) (S1 := S5) (xs := [.ref k, .int (c : Nat)]) (by simp) e6
  have dl := dataL_len ok
  have ql := quoL_len (goods gq.go) (by simp; have := gq.lo; omega) (goods gq.gu) (by simp; have := gq.toOkQ.lu; omega)
  have rl := rowL_len (goods gks) (by simp; omega)
  have zl := goodL_len gz
  obtain ⟨ts, hts⟩ : ∃ ts : List (List Nat), ts = [z.n4.L, rowL (ks.map Kq.n4), quoL (os.map Kq.n4) (us.map Kq.n4), dataL ps] := ⟨_, rfl⟩
  have tsD : ts.map D.str = [.str z.n4.L, .str (rowL (ks.map Kq.n4)), .str (quoL (os.map Kq.n4) (us.map Kq.n4)), .str (dataL ps)] := by rw [hts]; rfl
  have hlk : ks.length ≤ 10 := by omega
  have ix : ∀ (S : Sto) (r : Nat), S[r]? = some (.lst (ts.map D.str)) → ixD S (.ref r) (.int 0) = some (.str z.n4.L) ∧ ixD S (.ref r) (.int 1) = some (.str (rowL (ks.map Kq.n4))) ∧ ixD S (.ref r) (.int 2) = some (.str (quoL (os.map Kq.n4) (us.map Kq.n4))) ∧ ixD S (.ref r) (.int 3) = some (.str (dataL ps)) := fun S r h => by
    rw [tsD] at h
    exact ⟨by rw [ixD_ref h]; rfl, by rw [ixD_ref h]; rfl, by rw [ixD_ref h]; rfl, by rw [ixD_ref h]; rfl⟩
  have pq := ks_plain gks
  have po := ks_plain gq.go
  have pu := ks_plain gq.gu
  have pz := ks_plain (ks := [z]) (fun y hy => by rw [List.mem_singleton.mp hy]; exact gz)
  have pp := pDs_plain ok.all
  have sk := plL_ks ks
  have so := plL_ks os
  have su := plL_ks us
  have sz' := plL_ks [z]
  have sp := pDs_pl ps
  have okl := ok.len
  have lo := gq.lo
  have lu := gq.toOkQ.lu
  refine right_walk (ts := ts.map D.str) (ds := [z.D, .tup (ks.map Kq.D), quoD os us, .tup (ps.map pD)]) (u := rpS ts) (v := rpD [z.D, .tup (ks.map Kq.D), quoD os us, .tup (ps.map pD)]) rfl h1 h2 h3 h4 h5 rfl ?_ ?_ ?_ ?_ ?_ ?_ ?_ ?_
  · intro S
    rw [tsD]
    exact lst4 (fun S' _ => rv_call (xs := [z.D]) (by simp) (rv_ok (number_text (n := n + 7) gz))) (fun S' _ => rv_call (xs := [.tup (ks.map Kq.D)]) (by simp) (law_row_text' (n := n + 6) gks hlk)) (fun S' _ => rv_call (xs := [quoD os us]) (by simp) (law_quotient_text' (n := n + 5) gq)) (fun S' _ => rv_call (xs := [.tup (ps.map pD)]) (by simp) (law_data_text (n := n + 6) ok))
  · intro S r
    rw [tsD]
    exact lst4 (fun S' _ => rv_call (xs := [z.D]) (by simp) (rv_ok (number_text' (n := n + 4) gz))) (fun S' _ => rv_call (xs := [.tup (ks.map Kq.D)]) (by simp) (row_text (n := n + 4) gks hlk zks)) (fun S' _ => rv_call (xs := [quoD os us]) (by simp) (quotient_text (n := n) gq)) (fun S' _ => rv_call (xs := [.tup (ps.map pD)]) (by simp) (data_text (n := n + 1) ok))
  · intro S r o h
    have i := fun S' (p : S <+: S') => ix S' r (pre_get p h)
    exact lst4 (fun S' p => rv_call (xs := [.str z.n4.L]) (by simp [(i S' p).1]) (read_number' (n := n + 5) gz)) (fun S' p => rv_call (xs := [.str (rowL (ks.map Kq.n4))]) (by simp [(i S' p).2.1]) (read_row (n := n + 4) gks hlk zks)) (fun S' p => rv_call (xs := [.str (quoL (os.map Kq.n4) (us.map Kq.n4))]) (by simp [(i S' p).2.2.1]) (read_quotient (n := n) gq)) (fun S' p => rv_call (xs := [.str (dataL ps)]) (by simp [(i S' p).2.2.2]) (read_data' (n := n + 2) ok (by omega)))
  · intro S r o
    rw [tsD]
    exact lst4 (fun S' _ => rv_callk (x := z.D) (by simp) (rv_ok (number_text' (n := n + 4) gz))) (fun S' _ => rv_callk (x := .tup (ks.map Kq.D)) (by simp) (row_text (n := n + 4) gks hlk zks)) (fun S' _ => rv_callk (x := quoD os us) (by simp) (quotient_text (n := n) gq)) (fun S' _ => rv_callk (x := .tup (ps.map pD)) (by simp) (data_text (n := n + 1) ok))
  · intro S r o h
    have i := fun S' (p : S <+: S') => ix S' r (pre_get p h)
    exact lst4 (fun S' p => rv_callk (x := .str z.n4.L) (by simp [(i S' p).1]) (read_number' (n := n + 5) gz)) (fun S' p => rv_callk (x := .str (rowL (ks.map Kq.n4))) (by simp [(i S' p).2.1]) (read_row (n := n + 4) gks hlk zks)) (fun S' p => rv_callk (x := .str (quoL (os.map Kq.n4) (us.map Kq.n4))) (by simp [(i S' p).2.2.1]) (read_quotient (n := n) gq)) (fun S' p => rv_callk (x := .str (dataL ps)) (by simp [(i S' p).2.2.2]) (read_data' (n := n + 2) ok (by omega)))
  · intro S r o p h
    obtain ⟨d, S', e, a, w', f, l⟩ := drawn (n := n + 8) (many := 3) (w6.pre p) (by decide) (by decide) (by decide)
    have hrk : r ≠ k := by
      intro q
      obtain ⟨x, y, v, hx, _⟩ := w6.pre p
      rw [← q, h, tsD] at hx
      have hx := Ob.lst.inj (Option.some.inj hx)
      cases hx
    exact ⟨d, S', call_of (S1 := S) (xs := [.ref k, .int 3]) (by simp) e, f _ _ hrk h⟩
  · intro S r h
    refine repr_strs h ?_ ?_
    · intro x hx
      rw [hts] at hx
      simp only [List.mem_cons, List.not_mem_nil, or_false] at hx
      rcases hx with q | q | q | q
      · rw [q]; exact asc_L _
      · rw [q]; exact asc_row _
      · rw [q]; exact asc_quo _ _
      · rw [q]; exact asc_data _
    · rw [hts]
      simp only [List.map_cons, List.map_nil, List.sum_cons, List.sum_nil]
      omega
  · intro S r h
    refine repr_data h ?_ ?_ ?_ ?_
    · show (pl z.D && (plL (ks.map Kq.D) && ((plL (os.map Kq.D) && (plL (us.map Kq.D) && true)) && (plL (ps.map pD) && true)))) = true
      rw [sk.1, so.1, su.1, sp.1]
      rfl
    · have : dptL [z.D, .tup (ks.map Kq.D), quoD os us, .tup (ps.map pD)] = max (dpt z.D) (max (dptL (ks.map Kq.D) + 1) (max (max (dptL (os.map Kq.D) + 1) (max (dptL (us.map Kq.D) + 1) 0) + 1) (max (dptL (ps.map pD) + 1) 0))) := rfl
      have hz : dpt z.D = 2 := by simp [Kq.D, frQ, Gr.fr, dpt, dptL]
      omega
    · show (plain (pd z.D) && (plainL (pdL (ks.map Kq.D)) && ((plainL (pdL (os.map Kq.D)) && (plainL (pdL (us.map Kq.D)) && true)) && (plainL (pdL (ps.map pD)) && true)))) = true
      have : plain (pd z.D) = true := (N4_plain gz).1
      rw [this, pq.1, po.1, pu.1, pp.1]
      rfl
    · have e : nodesL (pdL [z.D, .tup (ks.map Kq.D), quoD os us, .tup (ps.map pD)]) = nodes (pd z.D) + ((nodesL (pdL (ks.map Kq.D)) + 1) + (((nodesL (pdL (os.map Kq.D)) + 1) + ((nodesL (pdL (us.map Kq.D)) + 1) + 0) + 1) + ((nodesL (pdL (ps.map pD)) + 1) + 0))) := by
        simp only [pdL, pd, quoD, nodesL, nodes]
      have : nodes (pd z.D) = 7 := (N4_plain gz).2
      have := pp.2
      omega
end Pl
end
section
set_option Elab.async false
set_option linter.all false
set_option maxRecDepth 100000
set_option maxHeartbeats 4000000
set_option autoImplicit false
set_option exponentiation.threshold 10000
/-! V26: the law, whole. -/
namespace Pl
open Ev Gr
theorem call_ev1 {G : Gm} {en : En} {S S1 : Sto} {e : E} {x : D} (h : ev G e en S = .ok x S1) : evs G (.cons e .nil) en S = .ok [x] S1 := by simp [h]
theorem law {n : Nat} {ns : List Int} {S : Sto} (hl : ns.length ≤ 63) : ∃ S', fn (n + 11) 83 [.fl (ns.map .int)] S = .ok (.bl true) S' := by
  rw [fn_s (fd := Tx.t83.fd) rfl]
  obtain ⟨c, hc, hv⟩ : ∃ c : Nat, c ≤ 6 ∧ ∀ o1 S, ev (GG (n + 10)) (.bi .max (.cons (.cst (.int 3)) (.cons (.bi .min (.cons (.bi .len (.cons (.var 0) .nil)) (.cons (.cst (.int 6)) .nil))) .nil))) [some (.fl (ns.map .int)), o1] S = .ok (.int (c : Nat)) S := by
    have mn : ∀ (i j : Int) S, bi .min [.int i, .int j] S = .ok (.int (if j < i then j else i)) S := fun _ _ _ => rfl
    have mx : ∀ (i j : Int) S, bi .max [.int i, .int j] S = .ok (.int (if j > i then j else i)) S := fun _ _ _ => rfl
    have fin : ∀ c : Nat, (if (if (6 : Int) < (ns.length : Nat) then (6 : Int) else (ns.length : Nat)) > 3 then (if (6 : Int) < (ns.length : Nat) then (6 : Int) else (ns.length : Nat)) else 3) = (c : Int) → ∀ o1 S, ev (GG (n + 10)) (.bi .max (.cons (.cst (.int 3)) (.cons (.bi .min (.cons (.bi .len (.cons (.var 0) .nil)) (.cons (.cst (.int 6)) .nil))) .nil))) [some (.fl (ns.map .int)), o1] S = .ok (.int (c : Nat)) S := fun c h o1 S => by
      simp only [ev_bi, evs_cons, ev_cst, R.bind_ok, ev_var, List.getD_cons_zero, R.of_some, evs_nil, len_fl, List.length_map, mn, mx, h, kBin_eq, kAnd_eq, kOr_eq, kIte_eq, kCmp_eq, kCmp2_eq, kTup_eq, kLst_eq, kIx_eq, kIx2_eq, kSl_eq, kSl2_eq, kMt_eq, kCons_eq, kCons2_eq, kSeq_eq, kEnum_eq, kSet_eq, kIf_eq, kExp_eq]
    by_cases h6 : 6 < ns.length
    · exact ⟨6, by omega, fin 6 (by split <;> split <;> omega)⟩
    · by_cases h3 : 3 < ns.length
      · exact ⟨ns.length, by omega, fin ns.length (by split <;> split <;> omega)⟩
      · exact ⟨3, by omega, fin 3 (by split <;> split <;> omega)⟩
  obtain ⟨S', e, _⟩ := ev_lcm (G := GG (n + 10)) (en := [some (.fl (ns.map .int)), none]) (S := S) (own := [("turn", 1)]) (elt := .call 82 (.cons (.call 55 (.cons (.var 0) (.cons (.var 1) .nil))) .nil)) (p := .nm 1) (it := .rng1 (.bi .max (.cons (.cst (.int 3)) (.cons (.bi .min (.cons (.bi .len (.cons (.var 0) .nil)) (.cons (.cst (.int 6)) .nil))) .nil)))) (s := ⟨rngD 0 (c : Nat), []⟩) (S1 := S) (I := fun _ => True) (g := fun _ => .bl true)
    (evi_rng1 _ _ _ (hv _ _) (by unfold small; omega)) trivial (fun _ _ => ok_nil _ _) (by rw [rngD_N]; simp [rngN]; omega) (by
      intro d hd S1 _
      have hd' : d ∈ rngN 0 c := by rw [← rngD_N]; exact hd
      obtain ⟨t, ht, rfl⟩ := List.mem_map.mp hd'
      have ht' := List.mem_range'.mp ht
      obtain ⟨k, S2, e2, w2⟩ := law_well (n := n + 9) (S := S1) hl (show t ≤ 10 by obtain ⟨i, hi, rfl⟩ := ht'; omega)
      obtain ⟨S3, e3⟩ := law_right (n := n) w2
      have E2 : fnN Tx.F Ex Tx.cs (n + 10) 55 [.fl (ns.map .int), .int (t : Nat)] S1 = _ := e2
      have E3 : fnN Tx.F Ex Tx.cs (n + 10) 82 [.ref k] S2 = _ := e3
      exact ⟨[some (.fl (ns.map .int)), some (.int (t : Nat))], S3, rfl, call_of (call_ev1 (call_of (by simp) E2)) E3, trivial⟩)
  have al : bi .all [.ref S'.length] (S' ++ [.lst ((rngD 0 (c : Nat)).map fun _ => .bl true)]) = .ok (.bl true) (S' ++ [.lst ((rngD 0 (c : Nat)).map fun _ => .bl true)]) := by
    have := blsOf_true ((rngD 0 (c : Nat)).map fun _ => D.bl true) (fun d hd => by obtain ⟨_, _, rfl⟩ := List.mem_map.mp hd; rfl)
    unfold bi
    simp only [lstOf_ref (last_get ..), Option.bind_some, this]
    simp
  refine ⟨S' ++ [.lst ((rngD 0 (c : Nat)).map fun _ => .bl true)], ?_⟩
  · have e' : ev (GG (n + 10)) _ _ S = R.ok _ (S' ++ [.lst ((rngD 0 (c : Nat)).map fun _ => .bl true)]) := e
    generalize (S' ++ [Ob.lst ((rngD 0 (c : Nat)).map fun _ => D.bl true)]) = S1 at *
    simp [runF, Tx.t83, Tx.b83, e', al]
theorem plain : ∀ ns : List Int, ns.length ≤ 63 → ∃ S, fnN (Tx.ds.map fun p => p.1.fd) (Tx.T.ecs.map Prod.snd) Tx.cs 41 83 [.fl (ns.map .int)] [] = .ok (.bl true) S := fun ns h => law (n := 30) h
end Pl
end
section
set_option Elab.async false
set_option linter.all false
set_option maxRecDepth 100000
set_option maxHeartbeats 0
open PySem PySem.W PySem.Calls PyProof.Rows
theorem PySem.Challenge.cw_rimseries_k80_texts_there_and_back_holds : PySem.Challenge.rw_rimseries_k80_texts_there_and_back.Holds := by
  w_on; o_law
  refine HandSHeadRun.head_imp (r := Tx.R) (q := view Tx.R.prog [0, 108]) (H := Tx.hk) (ob := Tx.ob) (M := 20000) (loose := Tx.loose) (d := HandSHeadRun.topDef Tx.R.prog 108) (kwd := []) Tx.ob_eq
    Tx.run (by kernel_rfl) (by kernel_rfl) (by kernel_rfl) (by rfl) (by first | assumption | decide +kernel) (by decide +kernel) ⟨rfl, rfl, rfl, rfl, rfl, by decide +kernel⟩ ?hw ?hc
  case hw => w_witness2
  case hc =>
    exact Ev.law_end (l := PySem.Challenge.rw_rimseries_k80_texts_there_and_back) (lv := 40) (i := 83) (p := (Tx.t83, Tx.d83)) rfl (by decide) (by kernel_rfl) (by kernel_rfl) ⟨rfl, by decide, by decide⟩ rfl rfl (by kernel_rfl)
      (fun kin G c => Ev.told_of kin G c rfl Tx.ok Tx.hat Tx.hkw Tx.hini) Pl.plain
end
