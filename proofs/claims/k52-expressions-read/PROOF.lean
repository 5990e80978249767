import PyProof.Rows.All
import Wide.All
import OpenK.AllK
import Wide.FinOn
import KE.KStateDown
import HandS.ForMost
import HandS.Head0
import HandS.Head1
import HandS.Head2
import HandS.HeadHook1
import KE.IntText
import HandS.ForExc
import HandS.TupAny
import HandS.Rev
import HandS.IsInst
import HandS.Wide
import HandS.Style
import HandS.Conv
import KE.KEqDict
import KE.KDictOf
import HandS.Iter
import HandS.Strs
import HandS.ExcInit
import HandS.ExcField
import HandS.TryMany
import KE.KExcIs
import HandS.TryOnly
import HandS.ExcIs
import HandS.TryElse
import HandS.EndBits
import HandS.ExcOwn
import HandS.Codes
import PySem.Challenge.RW_kinddeeds_k52_expressions_read
set_option Elab.async false
set_option linter.all false
set_option maxRecDepth 100000
section
set_option Elab.async false
set_option linter.all false
set_option maxRecDepth 100000
set_option maxHeartbeats 4000000
/-! Ev, part A: values without a heap, the small syntax, the evaluator. -/
namespace Ev
open PySem

/-- a dict's key: an int or a text -/
abbrev Ky := Sum Int Str
/-- data: what is never changed any more -/
inductive D where
  | non | bl (b : Bool) | int (i : Int) | str (x : Str)
  | tup (xs : List D) | lst (xs : List D)
  | dct (ks : List Ky) (vs : List D)
  | dtt (ks : List (List Ky)) (vs : List D)
  | ins (c : Nat) (fs : List D)

/-- what a field of one's own instance holds -/
inductive Fo where
  | d (x : D)
  | lst (xs : List D)
  | dct (ks : List Ky) (vs : List D)
  | dtt (ks : List (List Ky)) (vs : List D)

/-- what a slot holds: data, or a thing of the slot's own that may still be changed -/
inductive O where
  | d (x : D)
  | lst (xs : List D)
  | dct (ks : List Ky) (vs : List D)
  | dtt (ks : List (List Ky)) (vs : List D)
  | ins (c : Nat) (fs : List Fo)

abbrev Rho := List (Option O)

inductive Out (α : Type) where
  | ok (a : α) (r : Rho)
  | exc (c : Nat) (x : D) (r : Rho)
  | bad

def Out.bind {α β : Type} (o : Out α) (f : α → Rho → Out β) : Out β := match o with
  | .ok a r => f a r
  | .exc c x r => .exc c x r
  | .bad => .bad
@[simp] theorem Out.bind_ok {α β : Type} (a : α) (r : Rho) (f : α → Rho → Out β) : (Out.ok a r).bind f = f a r := rfl
@[simp] theorem Out.bind_bad {α β : Type} (f : α → Rho → Out β) : (Out.bad : Out α).bind f = .bad := rfl
@[simp] theorem Out.bind_exc {α β : Type} (c : Nat) (x : D) (r : Rho) (f : α → Rho → Out β) : (Out.exc c x r : Out α).bind f = .exc c x r := rfl
/-- an option as an outcome -/
def Out.of {α : Type} (o : Option α) (r : Rho) : Out α := match o with
  | some a => .ok a r
  | none => .bad
@[simp] theorem Out.of_some {α : Type} (a : α) (r : Rho) : Out.of (some a) r = .ok a r := rfl
@[simp] theorem Out.of_none {α : Type} (r : Rho) : (Out.of none r : Out α) = .bad := rfl

def frzF : Fo → D
  | .d x => x
  | .lst xs => .lst xs
  | .dct ks vs => .dct ks vs
  | .dtt ks vs => .dtt ks vs
def frz : O → D
  | .d x => x
  | .lst xs => .lst xs
  | .dct ks vs => .dct ks vs
  | .dtt ks vs => .dtt ks vs
  | .ins c fs => .ins c (fs.map frzF)
@[simp] theorem frz_d (x : D) : frz (.d x) = x := rfl
@[simp] theorem frz_lst (xs : List D) : frz (.lst xs) = .lst xs := rfl
@[simp] theorem frz_dct (ks : List Ky) (vs : List D) : frz (.dct ks vs) = .dct ks vs := rfl
@[simp] theorem frz_dtt (ks : List (List Ky)) (vs : List D) : frz (.dtt ks vs) = .dtt ks vs := rfl
@[simp] theorem frz_ins (c : Nat) (fs : List Fo) : frz (.ins c fs) = .ins c (fs.map frzF) := rfl
@[simp] theorem frzF_d (x : D) : frzF (.d x) = x := rfl

inductive Bop where | add | sub | mul | fdiv | mod | pow | shr | band
inductive Cop where | eq | ne | lt | le | gt | ge | isin | notin | is | isnot
inductive Ty where | int | bool | str | list | tuple | dict
inductive Bi where | len | list | tuple | sum | all | any | int | abs | dict | str
inductive Bi2 where | min | max

/-- a target: a name, a row of names -/
inductive Tg where | one (i : Nat) | many (is : List Nat)
def Tg.slots : Tg → List Nat
  | .one i => [i]
  | .many is => is
mutual
inductive E where
  | v (i : Nat)
  | int (i : Int) | str (s : Str) | bl (b : Bool) | non
  | g (j : Nat)
  | tup (es : Es) | lst (es : Es)
  | bin (o : Bop) (a b : E) | neg (a : E)
  | not (a : E) | and (a b : E) | or (a b : E)
  | cmp (o : Cop) (a b : E) | chn (o o' : Cop) (a b c : E)
  | ite (c a b : E)
  | snap (a : E)
  | call (f : Nat) (as : As)
  | isi (a : E) (t : Ty)
  | bi (b : Bi) (a : E)
  | bi2 (b : Bi2) (a b' : E)
  | lrev (a : E) | lset (a : E) | callT (f : Nat) (e : E) (as : As)
  | ix (a b : E) | ixp (p : Nat) (b : E)
  | sl (a : E) (lo hi : Oe) | slp (p : Nat) (lo hi : Oe)
  | pop (p : Nat)
  | lc (elt : E) (tg : Tg) (it : It) (cond : Oe)
  | dnew | rev0 (a : E) | getd (a k f : E) | getp (p : Nat) (k f : E)
  | fld (c p j : Nat) | meth (c f p : Nat) (as : As) | new (c f : Nat) (as : As) | join (a b : E) | dd (ks : List Ky) (es : Es)
inductive Es where | nil | cons (e : E) (es : Es)
inductive Oe where | none | some (e : E)
inductive As where | nil | val (e : E) (as : As) | lend (i : Nat) (as : As)
inductive It where | val (e : E) | rng (e : E) | rng2 (a b : E) | rev (e : E) | rng3 (a b : E) (k : Int)
end

/-- what becomes of a call: the value, what the arguments have become -/
inductive COut where
  | ok (o : O) (os : List O)
  | exc (c : Nat) (x : D) (os : List O)
  | bad
abbrev CallF := Nat → List O → COut

/-! ### operations on values -/
def asL : O → Option (List D)
  | .lst xs => some xs
  | .d (.lst xs) => some xs
  | .d _ => none
  | .dct _ _ => none
  | .dtt _ _ => none
  | .ins _ _ => none
def asT : O → Option (List D)
  | .d (.tup xs) => some xs
  | _ => none
def asI : O → Option Int
  | .d (.int i) => some i
  | _ => none
def asB : O → Option Bool
  | .d (.bl b) => some b
  | _ => none

def asK : O → Option Ky
  | .d (.int i) => some (.inl i)
  | .d (.str s) => some (.inr s)
  | _ => none
/-- a dict, owned or not -/
def asM : O → Option (List Ky × List D)
  | .dct ks vs => some (ks, vs)
  | .d (.dct ks vs) => some (ks, vs)
  | _ => none
def getK {α : Type} : List Ky → List α → Ky → Option α
  | k :: ks, v :: vs, j => if k = j then some v else getK ks vs j
  | _, _, _ => none
def keyD : Ky → D
  | .inl i => .int i
  | .inr s => .str s
/-- in its place, or at the end -/
def putKs (ks : List Ky) (k : Ky) : List Ky := if (ks.any fun j => decide (j = k)) = true then ks else ks ++ [k]
def putVs {α : Type} (ks : List Ky) (vs : List α) (k : Ky) (v : α) : List α := if (ks.any fun j => decide (j = k)) = true then (ks.zip vs).map (fun p => if p.1 = k then v else p.2) else vs ++ [v]

def D.scalar : D → Bool
  | .tup _ => false
  | .lst _ => false
  | .dct _ _ => false
  | .dtt _ _ => false
  | .ins _ _ => false
  | _ => true

mutual
def toPy : D → PyData
  | .non => .none
  | .bl b => .bool b
  | .int i => .int i
  | .str x => .str x
  | .tup xs => .tuple (toPys xs)
  | .lst xs => .list (toPys xs)
  | .dct _ _ => .dict []
  | .dtt _ _ => .dict []
  | .ins _ _ => .dict []
def toPys : List D → List PyData
  | [] => []
  | x :: xs => toPy x :: toPys xs
end

def shD (d : D) : Bool := SeqAt.shaped (toPy d)
/-- each key's value is the other's -/
def hitK (ks' : List Ky) (vs' : List D) : List Ky → List D → Bool
  | k :: ks, v :: vs => (match getK ks' vs' k with
    | none => false
    | some y => PyData.eqv (toPy v) (toPy y)) && hitK ks' vs' ks vs
  | _, _ => true
/-- == of data: what the model says, where it says it without a bound on the room -/
def eqD (a b : D) : Option Bool := match a, b with
  | .non, .non => some true
  | .int i, .int j => some (decide (i = j))
  | .bl i, .bl j => some (decide (i = j))
  | .str i, .str j => some (decide (i = j))
  | .non, .int _ => some false
  | .int _, .non => some false
  | .non, .str _ => some false
  | .str _, .non => some false
  | .int _, .str _ => some false
  | .str _, .int _ => some false
  | .dct ks vs, .dct ks' vs' => if vs.all shD && vs'.all shD then some (ks.length == ks'.length && hitK ks' vs' ks vs) else none
  | a, b => if SeqAt.shaped (toPy a) && SeqAt.shaped (toPy b) then some (PyData.eqv (toPy a) (toPy b)) else none

/-- == of flat things, as x in xs asks it -/
def eqF : D → D → Option Bool
  | .int i, .int j => some (decide (i = j))
  | .str i, .str j => some (decide (i = j))
  | .int _, .str _ => some false
  | .str _, .int _ => some false
  | .non, .non => some true
  | .non, .int _ => some false
  | .int _, .non => some false
  | .non, .str _ => some false
  | .str _, .non => some false
  | _, _ => none
def inF (x : D) : List D → Option Bool
  | [] => if x.scalar then some false else none
  | y :: ys => match eqF y x with
    | none => none
    | some b => match inF x ys with
      | none => none
      | some c => some (b || c)

def atD (xs : List D) (i : Int) : Option D := if 0 ≤ i then xs[i.toNat]? else if -(xs.length : Int) ≤ i then xs[(i + xs.length).toNat]? else none
def sIx (n d : Nat) : Option Int → Nat
  | none => d
  | some v => if v < 0 then (v + (n : Int)).toNat else min v.toNat n
def cutD {α : Type} (xs : List α) (lo hi : Option Int) : List α := (xs.drop (sIx xs.length 0 lo)).take (sIx xs.length xs.length hi - sIx xs.length 0 lo)

/-- texts and lists are kept below this length -/
def line : Nat := 100000
/-- where * and // reckon without more asked -/
def lowW (i : Int) : Bool := decide (i.natAbs < 2 ^ 8000)

def binO (o : Bop) (a b : O) : Option O := match o, a, b with
  | .add, .d (.int i), .d (.int j) => some (.d (.int (i + j)))
  | .add, .d (.str i), .d (.str j) => if i.length + j.length ≤ line then some (.d (.str (i ++ j))) else none
  | .add, .d (.tup xs), .d (.tup ys) => if xs.length + ys.length ≤ line then some (.d (.tup (xs ++ ys))) else none
  | .add, x, y => match asL x, asL y with
    | some xs, some ys => if xs.length + ys.length ≤ line then some (.lst (xs ++ ys)) else none
    | _, _ => none
  | .sub, .d (.int i), .d (.int j) => some (.d (.int (i - j)))
  | .mul, .d (.str x), .d (.int k) => if decide (k ≤ 1000) && decide (-1000 ≤ k) && decide (x.length ≤ 90) then some (.d (.str ⟨(List.replicate k.toNat x.cps.toList).flatten.toArray⟩)) else none
  | .mul, .d (.int i), .d (.int j) => if lowW i && lowW j then some (.d (.int (i * j))) else none
  | .fdiv, .d (.int i), .d (.int j) => if decide (0 < j) && lowW j then some (.d (.int (i / j))) else none
  | .mod, .d (.int i), .d (.int j) => if 0 < j then some (.d (.int (i % j))) else none
  | .pow, .d (.int i), .d (.int j) => if 0 ≤ j ∧ j ≤ 1000000 ∧ i.natAbs < 2 ^ 64 then some (.d (.int (i ^ j.toNat))) else none
  | .shr, .d (.int i), .d (.int j) => if 0 ≤ j then some (.d (.int (i / 2 ^ j.toNat))) else none
  | .band, .d (.int i), .d (.int j) => some (.d (.int (Builtin.bitAnd i j)))
  | _, _, _ => none

/-- in place -/
def augO : Bop → D → O → Option D
  | .add, .int i, .d (.int j) => some (.int (i + j))
  | .add, .str i, .d (.str j) => if i.length + j.length ≤ line then some (.str (i ++ j)) else none
  | .sub, .int i, .d (.int j) => some (.int (i - j))
  | _, _, _ => none

def cmpO (o : Cop) (a b : O) : Option Bool := match o with
  | .eq => eqD (frz a) (frz b)
  | .ne => (eqD (frz a) (frz b)).map (!·)
  | .lt => match a, b with
    | .d (.int i), .d (.int j) => some (decide (i < j))
    | _, _ => none
  | .le => match a, b with
    | .d (.int i), .d (.int j) => some (decide (i ≤ j))
    | .d (.str i), .d (.str j) => some (!decide (j.cps.toList < i.cps.toList))
    | _, _ => none
  | .gt => match a, b with
    | .d (.int i), .d (.int j) => some (decide (j < i))
    | _, _ => none
  | .ge => match a, b with
    | .d (.int i), .d (.int j) => some (decide (j ≤ i))
    | _, _ => none
  | .isin => match frz b with
    | .lst xs => inF (frz a) xs
    | .tup xs => inF (frz a) xs
    | .dct ks vs => match asK a with
      | some k => some (getK ks vs k).isSome
      | none => none
    | .str s => match frz a with
      | .str c => if c.length = 1 then some (decide (c.cps.getD 0 0 ∈ s.cps.toList)) else none
      | _ => none
    | _ => none
  | .notin => match frz b with
    | .lst xs => (inF (frz a) xs).map (!·)
    | .tup xs => (inF (frz a) xs).map (!·)
    | .dct ks vs => match asK a with
      | some k => some (!(getK ks vs k).isSome)
      | none => none
    | _ => none
  | .is => match frz b with
    | .non => some (match frz a with | .non => true | _ => false)
    | .bl k => match frz a with
      | .bl j => some (decide (j = k))
      | _ => none
    | _ => none
  | .isnot => match frz b with
    | .non => some (match frz a with | .non => false | _ => true)
    | .bl k => match frz a with
      | .bl j => some (!decide (j = k))
      | _ => none
    | _ => none

def isTy (x : D) : Ty → Bool
  | .int => match x with | .int _ => true | .bl _ => true | _ => false
  | .bool => match x with | .bl _ => true | _ => false
  | .str => match x with | .str _ => true | _ => false
  | .list => match x with | .lst _ => true | _ => false
  | .tuple => match x with | .tup _ => true | _ => false
  | .dict => match x with | .dct _ _ => true | _ => false

/-- an instance, or a dict of tuples: nobody asks its type -/
def isIns : D → Bool
  | .ins _ _ => true
  | .dtt _ _ => true
  | _ => false
def allI : List D → Option (List Int)
  | [] => some []
  | .int i :: r => match allI r with
    | some is => some (i :: is)
    | none => none
  | _ :: _ => none
def allB : List D → Option (List Bool)
  | [] => some []
  | .bl i :: r => match allB r with
    | some is => some (i :: is)
    | none => none
  | _ :: _ => none

def biO (b : Bi) (a : O) : Option O := match b with
  | .len => match a with
    | .d (.str s) => if s.length ≤ line then some (.d (.int s.length)) else none
    | .d (.tup xs) => some (.d (.int xs.length))
    | .d (.dct ks _) => some (.d (.int ks.length))
    | .dct ks _ => some (.d (.int ks.length))
    | x => match asL x with
      | some xs => some (.d (.int xs.length))
      | none => none
  | .list => match a with
    | .d (.tup xs) => some (.lst xs)
    | .d (.dct ks _) => some (.lst (ks.map keyD))
    | .dct ks _ => some (.lst (ks.map keyD))
    | x => match asL x with
      | some xs => some (.lst xs)
      | none => none
  | .tuple => match a with
    | .d (.tup xs) => some (.d (.tup xs))
    | x => match asL x with
      | some xs => some (.d (.tup xs))
      | none => none
  | .sum => match asL a with
    | some xs => match allI xs with
      | some is => some (.d (.int is.sum))
      | none => none
    | none => none
  | .all => match asL a with
    | some xs => match allB xs with
      | some bs => some (.d (.bl (bs.all id)))
      | none => none
    | none => none
  | .any => match asL a with
    | some xs => match allB xs with
      | some bs => some (.d (.bl (bs.any id)))
      | none => none
    | none => none
  | .int => match a with
    | .d (.int i) => some (.d (.int i))
    | .d (.bl k) => some (.d (.int (if k then 1 else 0)))
    | .d (.str s) => if s.length ≤ 640 then (PySem.intText? s).map fun i => .d (.int i) else none
    | _ => none
  | .str => match a with
    | .d (.int i) => if i.natAbs.log2 < 1920 then some (.d (.str (toString i))) else none
    | _ => none
  | .abs => match a with
    | .d (.int i) => some (.d (.int (if i < 0 then -i else i)))
    | _ => none
  | .dict => match a with
    | .d (.dct ks vs) => some (.dct ks vs)
    | .dct ks vs => some (.dct ks vs)
    | _ => none

def bi2O (b : Bi2) (x y : O) : Option O := match b, x, y with
  | .min, .d (.int i), .d (.int j) => some (.d (.int (if j < i then j else i)))
  | .max, .d (.int i), .d (.int j) => some (.d (.int (if j > i then j else i)))
  | _, _, _ => none

def seqIx (a : O) (i : Int) : Option D := match a with
  | .lst xs => atD xs i
  | .d (.lst xs) => atD xs i
  | .d (.tup xs) => atD xs i
  | .d (.str s) => if s.length ≤ line then (if 0 ≤ i then s.cps.toList[i.toNat]? else if -(s.cps.toList.length : Int) ≤ i then s.cps.toList[(i + s.cps.toList.length).toNat]? else none).map fun c => .str ⟨#[c]⟩ else none
  | .d _ => none
  | .dct _ _ => none
  | .dtt _ _ => none
  | .ins _ _ => none
def ixO (a b : O) : Option D := match asM a with
  | some (ks, vs) => match asK b with
    | some k => getK ks vs k
    | none => none
  | none => match asI b with
    | none => none
    | some i => seqIx a i

def slO (a : O) (lo hi : Option Int) : Option O := match a with
  | .lst xs => some (.lst (cutD xs lo hi))
  | .d (.lst xs) => some (.lst (cutD xs lo hi))
  | .d (.tup xs) => some (.d (.tup (cutD xs lo hi)))
  | .d (.str s) => if s.length ≤ line then some (.d (.str ⟨(cutD s.cps.toList lo hi).toArray⟩)) else none
  | .d _ => none
  | .dct _ _ => none
  | .dtt _ _ => none
  | .ins _ _ => none
/-- d.get(k, f) -/
def getO (a b c : O) : Option D := match asM a, asK b with
  | some (ks, vs), some k => some ((getK ks vs k).getD (frz c))
  | _, _ => none

/-! ### the evaluator -/
/-- a truth -/
def tst (o : Out O) : Out Bool := o.bind fun x r => Out.of (asB x) r
def getS (i : Nat) (r : Rho) : Option O := match r[i]? with
  | some (some o) => some o
  | _ => none
/-- a name read: what is the slot's own is data from here on -/
def readS (i : Nat) (r : Rho) : Out O := match getS i r with
  | some (.d x) => .ok (.d x) r
  | some o => .ok (.d (frz o)) (r.set i (some (.d (frz o))))
  | none => .bad
def frzR (r : Rho) : Rho := r.map fun x => match x with
  | some o => some (.d (frz o))
  | none => none
def snapO (r : Rho) (o : Out O) : Out O := match o with
  | .ok a _ => if (frz a).scalar then .ok (.d (frz a)) r else .bad
  | .exc c x _ => if x.scalar then .exc c x r else .bad
  | .bad => .bad
/-- the arguments' values with the lent ones in their places -/
def lendAll : List (Sum D Nat) → Rho → Option (List O)
  | [], _ => some []
  | .inl x :: as, r => match lendAll as r with
    | some os => some (.d x :: os)
    | none => none
  | .inr i :: as, r => match getS i r with
    | none => none
    | some o => match lendAll as (r.set i none) with
      | some os => some (o :: os)
      | none => none
def backAll : List (Sum D Nat) → List O → Rho → Rho
  | .inr i :: as, o :: os, r => (backAll as os r).set i (some o)
  | .inl _ :: as, _ :: os, r => backAll as os r
  | _, _, r => r
def callO (cf : CallF) (f : Nat) (as : List (Sum D Nat)) (r : Rho) : Out O := match lendAll as r with
  | none => .bad
  | some os => match cf f os with
    | .ok o os' => .ok o (backAll as os' r)
    | .exc c x os' => .exc c x (backAll as os' r)
    | .bad => .bad

/-- what a loop walks, as data -/
def iterO (o : O) : Option (List D) := match o with
  | .lst xs => some xs
  | .d (.lst xs) => some xs
  | .d (.tup xs) => some xs
  | .d (.str s) => if s.length ≤ line then some (s.cps.toList.map fun c => .str ⟨#[c]⟩) else none
  | .d _ => none
  | .dct _ _ => none
  | .dtt _ _ => none
  | .ins _ _ => none
/-- range(a, b, k) -/
def rng3D (a b k : Int) : List D := (List.range (Builtin.Range.rangeSize a b k).toNat).map fun (j : Nat) => .int (a + (j : Int) * k)
def rngD (a b : Int) : List D := (List.range (b - a).toNat).map fun (k : Nat) => .int (a + (k : Int))
def smallI (i : Int) : Bool := decide (i.natAbs < 2 ^ 61)

def setDs : List Nat → List D → Rho → Option Rho
  | [], [], r => some r
  | i :: is, x :: xs, r => setDs is xs (r.set i (some (.d x)))
  | _, _, _ => none
def bindT : Tg → D → Rho → Option Rho
  | .one i, x, r => some (r.set i (some (.d x)))
  | .many is, .tup xs, r => setDs is xs r
  | .many _, _, _ => none
/-- slots forgotten; slots as they were in r -/
def clr (is : List Nat) (r : Rho) : Rho := is.foldl (fun r i => r.set i none) r
def restore (is : List Nat) (r r1 : Rho) : Rho := is.foldl (fun r1 i => r1.set i ((r[i]?).getD none)) r1
def compN (step : Rho → Out (Option D)) (tg : Tg) : List D → Rho → Out (List D)
  | [], r => .ok [] r
  | x :: xs, r => match bindT tg x (clr tg.slots r) with
    | none => .bad
    | some r => (step r).bind fun y r1 => (compN step tg xs r1).bind fun ys r2 => match y with
      | some y => .ok (y :: ys) r2
      | none => .ok ys r2
/-- nothing is raised out of it -/
def Out.calm {α : Type} (o : Out α) : Out α := match o with
  | .exc _ _ _ => .bad
  | o => o

/-- the written things: constants, which exception's class stands under which -/
structure Gs where
  con : List D
  xt : List (List Bool)
def isSub (G : Gs) (c k : Nat) : Option Bool := match G.xt[c]? with
  | some r => r[k]?
  | none => none
/-! ### instances -/
/-- the class, and the fields as data -/
def insO : O → Option (Nat × List D)
  | .ins c fs => some (c, fs.map frzF)
  | .d (.ins c fs) => some (c, fs)
  | _ => none
/-- a field read: data from here on -/
def fldO (c j : Nat) (o : O) : Option (D × O) := match o with
  | .ins c' fs => if c' = c then (match fs[j]? with
    | some f => some (frzF f, .ins c (fs.set j (.d (frzF f))))
    | none => none) else none
  | .d (.ins c' fs) => if c' = c then (fs[j]?).map fun x => (x, o) else none
  | _ => none
def toF : O → Option Fo
  | .d x => some (.d x)
  | .lst xs => some (.lst xs)
  | .dct ks vs => some (.dct ks vs)
  | .dtt ks vs => some (.dtt ks vs)
  | .ins _ _ => none
def setFld (c j : Nat) (o : O) (x : O) : Option O := match o, toF x with
  | .ins c' fs, some f => if c' = c then (if j < fs.length then some (.ins c (fs.set j f)) else if j = fs.length then some (.ins c (fs ++ [f])) else none) else none
  | _, _ => none
/-- a call whose first argument is a temporary: it is lent, and gone behind -/
def tmpO (cf : CallF) (f : Nat) (x : O) (as : List (Sum D Nat)) (r : Rho) : Out O := match lendAll as r with
  | none => .bad
  | some os => match cf f (x :: os) with
    | .ok o (_ :: os') => .ok o (backAll as os' r)
    | .ok _ [] => .bad
    | .exc k y (_ :: os') => .exc k y (backAll as os' r)
    | .exc _ _ [] => .bad
    | .bad => .bad
def newO (cf : CallF) (c f : Nat) (as : List (Sum D Nat)) (r : Rho) : Out O := match lendAll as r with
  | none => .bad
  | some os => match cf f (.ins c [] :: os) with
    | .ok (.d .non) (o :: os') => .ok o (backAll as os' r)
    | .ok _ _ => .bad
    | .exc k x (_ :: os') => .exc k x (backAll as os' r)
    | .exc _ _ [] => .bad
    | .bad => .bad
def allS : List D → Option (List Str)
  | [] => some []
  | .str i :: r => match allS r with
    | some is => some (i :: is)
    | none => none
  | _ :: _ => none
def seqO (b : O) : Option (List D) := match frz b with
  | .lst xs => some xs
  | .tup xs => some xs
  | _ => none
def joinO (s : Str) (b : O) : Option O := match seqO b with
  | some xs => match allS xs with
    | some ys => if (ys.map (·.length)).sum + ys.length * s.length ≤ line then some (.d (.str (Txt.join s ys))) else none
    | none => none
  | none => none
/-- each text once -/
def ddStep (l : List Str) (x : Str) : List Str := if l.any (· == x) = true then l else l ++ [x]
def ddup (xs : List Str) : List Str := xs.foldl ddStep []
/-- len(set(..)) of texts -/
def lsetO (b : O) : Option O := match seqO b with
  | some xs => match allS xs with
    | some ys => if ys.length ≤ 1000 then some (.d (.int (ddup ys).length)) else none
    | none => none
  | none => none
/-- {k: v, ..}: unlike keys -/
def ddO (ks : List Ky) (vs : List D) : Option O := if decide ks.Nodup && decide (ks.length = vs.length) then some (.dct ks vs) else none
section
variable (cf : CallF) (G : Gs)
mutual
def evE : E → Rho → Out O
  | .v i, r => readS i r
  | .int i, r => .ok (.d (.int i)) r
  | .str s, r => .ok (.d (.str s)) r
  | .bl b, r => .ok (.d (.bl b)) r
  | .non, r => .ok (.d .non) r
  | .g j, r => Out.of ((G.con[j]?).map .d) r
  | .tup es, r => (evEs es r).bind fun xs r => .ok (.d (.tup xs)) r
  | .lst es, r => (evEs es r).bind fun xs r => .ok (.lst xs) r
  | .bin o a b, r => (evE a r).bind fun x r => (evE b r).bind fun y r => Out.of (binO o x y) r
  | .neg a, r => (evE a r).bind fun x r => Out.of ((asI x).map fun i => .d (.int (-i))) r
  | .not a, r => (tst (evE a r)).bind fun k r => .ok (.d (.bl (!k))) r
  | .and a b, r => (tst (evE a r)).bind fun k r => if k = true then evE b r else .ok (.d (.bl false)) r
  | .or a b, r => (tst (evE a r)).bind fun k r => if k = true then .ok (.d (.bl true)) r else evE b r
  | .cmp o a b, r => (evE a r).bind fun x r => (evE b r).bind fun y r => Out.of ((cmpO o x y).map fun k => .d (.bl k)) r
  | .chn o o' a b c, r => (evE a r).bind fun x r => (evE b r).bind fun y r => match cmpO o x y with
    | some true => (evE c r).bind fun z r => Out.of ((cmpO o' y z).map fun k => .d (.bl k)) r
    | some false => .ok (.d (.bl false)) r
    | none => .bad
  | .ite c a b, r => (tst (evE c r)).bind fun k r => if k = true then evE a r else evE b r
  | .snap a, r => snapO r (evE a (frzR r))
  | .call f as, r => (evAs as r).bind fun as r => callO cf f as r
  | .isi a t, r => (evE a r).bind fun x r => if isIns (frz x) = true then .bad else .ok (.d (.bl (isTy (frz x) t))) r
  | .bi b a, r => (evE a r).bind fun x r => Out.of (biO b x) r
  | .bi2 b a a', r => (evE a r).bind fun x r => (evE a' r).bind fun y r => Out.of (bi2O b x y) r
  | .lrev a, r => (evE a r).bind fun x r => Out.of ((asL x).map fun xs => .lst xs.reverse) r
  | .callT f e as, r => (evE e r).bind fun x r => (evAs as r).bind fun ys r => tmpO cf f x ys r
  | .lset a, r => (evE a r).bind fun x r => Out.of (lsetO x) r
  | .ix a b, r => (evE a r).bind fun x r => (evE b r).bind fun y r => Out.of ((ixO x y).map .d) r
  | .ixp p b, r => match getS p r with
    | none => .bad
    | some _ => (evE b r).bind fun y r => match getS p r with
      | some x => Out.of ((ixO x y).map .d) r
      | none => .bad
  | .sl a lo hi, r => (evE a r).bind fun x r => (evO lo r).bind fun i r => (evO hi r).bind fun j r => Out.of (slO x i j) r
  | .slp p lo hi, r => match getS p r with
    | none => .bad
    | some _ => (evO lo r).bind fun i r => (evO hi r).bind fun j r => match getS p r with
      | some x => Out.of (slO x i j) r
      | none => .bad
  | .pop p, r => match getS p r with
    | some (.lst xs) => match xs.getLast? with
      | some x => .ok (.d x) (r.set p (some (.lst xs.dropLast)))
      | none => .bad
    | _ => .bad
  | .lc elt tg it cond, r => (evI it r).bind fun xs r => if line < xs.length then .bad else
    ((compN (fun r => (evC cond r).bind fun k r => if k = true then (evE elt r).bind fun o r => .ok (some (frz o)) r else .ok none r) tg xs r).calm).bind fun ys r1 => .ok (.lst ys) (restore tg.slots r r1)
  | .dnew, r => .ok (.dct [] []) r
  | .rev0 a, r => (evE a r).bind fun x r => Out.of ((asT x).map fun xs => .d (.tup (xs.drop 1).reverse)) r
  | .getd a k f, r => (evE a r).bind fun x r => match asM x with
    | none => .bad
    | some _ => (evE k r).bind fun y r => (evE f r).bind fun z r => Out.of ((getO x y z).map .d) r
  | .getp p k f, r => match getS p r with
    | none => .bad
    | some x0 => match asM x0 with
      | none => .bad
      | some _ => (evE k r).bind fun y r => (evE f r).bind fun z r => match getS p r with
        | some x => Out.of ((getO x y z).map .d) r
        | none => .bad
  | .fld c p j, r => match getS p r with
    | none => .bad
    | some o => match fldO c j o with
      | some (x, o') => .ok (.d x) (r.set p (some o'))
      | none => .bad
  | .meth c f p as, r => match getS p r with
    | none => .bad
    | some o => match insO o with
      | some (c', _) => if c' = c then (evAs as r).bind fun as r => callO cf f (.inr p :: as) r else .bad
      | none => .bad
  | .new c f as, r => (evAs as r).bind fun as r => newO cf c f as r
  | .join a b, r => (evE a r).bind fun x r => match x with
    | .d (.str s) => (evE b r).bind fun y r => Out.of (joinO s y) r
    | _ => .bad
  | .dd ks es, r => (evEs es r).bind fun xs r => Out.of (ddO ks xs) r
def evEs : Es → Rho → Out (List D)
  | .nil, r => .ok [] r
  | .cons e es, r => (evE e r).bind fun x r => (evEs es r).bind fun xs r => .ok (frz x :: xs) r
def evO : Oe → Rho → Out (Option Int)
  | .none, r => .ok none r
  | .some e, r => (evE e r).bind fun x r => match asI x with
    | some i => .ok (some i) r
    | none => .bad
/-- a comprehension's test -/
def evC : Oe → Rho → Out Bool
  | .none, r => .ok true r
  | .some e, r => tst (evE e r)
def evAs : As → Rho → Out (List (Sum D Nat))
  | .nil, r => .ok [] r
  | .val e as, r => (evE e r).bind fun x r => (evAs as r).bind fun xs r => .ok (.inl (frz x) :: xs) r
  | .lend i as, r => match getS i r with
    | none => .bad
    | some _ => (evAs as r).bind fun xs r => .ok (.inr i :: xs) r
def evI : It → Rho → Out (List D)
  | .val e, r => (evE e r).bind fun x r => Out.of (iterO x) r
  | .rev e, r => (evE e r).bind fun x r => match frz x with
    | .lst xs => .ok xs.reverse r
    | .tup xs => .ok xs.reverse r
    | _ => .bad
  | .rng e, r => (evE e r).bind fun x r => match asI x with
    | some i => if smallI i then .ok (rngD 0 i) r else .bad
    | none => .bad
  | .rng2 a b, r => (evE a r).bind fun x r => (evE b r).bind fun y r => match asI x, asI y with
    | some i, some j => if smallI i && smallI j then .ok (rngD i j) r else .bad
    | _, _ => .bad
  | .rng3 a b k, r => (evE a r).bind fun x r => (evE b r).bind fun y r => match asI x, asI y with
    | some i, some j => if smallI i && (smallI j && (Builtin.Range.small i j k && decide (0 < k) && decide (k ≤ 1000))) then .ok (rng3D i j k) r else .bad
    | _, _ => .bad
end
end

/-! ### statements -/
mutual
inductive S where
  | set (i : Nat) (e : E)
  | unp (is : List Nat) (e : E)
  | seti (p : Nat) (ix e : E)
  | aug (i : Nat) (o : Bop) (e : E)
  | ifs (c : E) (a b : Ss)
  | whl (c : E) (b : Ss)
  | for_ (tg : Tg) (it : It) (b : Ss)
  | ret (e : E) | retN | retv (i : Nat)
  | ex (e : E)
  | apx (a e : E)
  | app (p : Nat) (e : E) | ext (p : Nat) (e : E) | clr (p : Nat)
  | cont | brk | pass
  | setf (c p j : Nat) (e : E) | augf (c p j : Nat) (o : Bop) (e : E)
  | raise (k : Nat) (e : E)
  | try_ (b : Ss) (hs : Xh) (el : Ss)
inductive Ss where | nil | cons (s : S) (ss : Ss)
/-- except clauses: the classes, the name's slot, the suite -/
inductive Xh where | nil | dead | cons (ks : List Nat) (n : Option Nat) (ss : Xss) (hs : Xh)
/-- what is asked in a suite -/
inductive Xe where
  | isx (ks : List Nat) | pln | v (i : Nat) | not (a : Xe) | and (a b : Xe) | or (a b : Xe)
inductive Xs where
  | setb (i : Nat) (e : Xe) | setp (i : Nat) | setd (i : Nat) (x : D) | ifs (e : Xe) (a b : Xss) | ret (x : D)
inductive Xss where | nil | cons (s : Xs) (ss : Xss)
end

inductive Fl where | nx | brk | cont | ret (o : O)

def whileN (c : Rho → Out Bool) (b : Rho → Out Fl) : Nat → Rho → Out Fl
  | 0, _ => .bad
  | n + 1, r => (c r).bind fun k r => if k = true then (b r).bind fun f r => match f with
      | .nx => whileN c b n r
      | .cont => whileN c b n r
      | .brk => .ok .nx r
      | .ret o => .ok (.ret o) r
    else .ok .nx r
def forN (g : D → Rho → Option Rho) (b : Rho → Out Fl) : List D → Rho → Out Fl
  | [], r => .ok .nx r
  | x :: xs, r => match g x r with
    | none => .bad
    | some r => (b r).bind fun f r => match f with
      | .nx => forN g b xs r
      | .cont => forN g b xs r
      | .brk => .ok .nx r
      | .ret o => .ok (.ret o) r

/-! ### suites: c the class, x the place of what was caught -/
section
variable (G : Gs) (c : Nat) (x : D) (lent : List Nat)
def anyK : List Nat → Option Bool
  | [] => some false
  | k :: ks => match isSub G c k with
    | some true => some true
    | some false => anyK ks
    | none => none
def xE : Xe → Rho → Option Bool
  | .isx ks, _ => anyK G c ks
  | .pln, _ => some (match x with | .non => true | _ => false)
  | .v i, r => match getS i r with
    | some (.d (.bl b)) => some b
    | _ => none
  | .not a, r => (xE a r).map (!·)
  | .and a b, r => match xE a r with
    | some true => xE b r
    | o => o
  | .or a b, r => match xE a r with
    | some false => xE b r
    | o => o
end
section
variable (cf : CallF) (G : Gs) (W : Nat) (lent : List Nat)
def setS (i : Nat) (o : O) (r : Rho) : Option Rho := if i ∈ lent then none else some (r.set i (some o))
mutual
def xS (c : Nat) (x : D) : Xs → Rho → Out Fl
  | .setb i e, r => match xE G c x e r with
    | some b => match setS lent i (.d (.bl b)) r with
      | some r => .ok .nx r
      | none => .bad
    | none => .bad
  | .setp i, r => match setS lent i (.d x) r with
    | some r => .ok .nx r
    | none => .bad
  | .setd i y, r => match setS lent i (.d y) r with
    | some r => .ok .nx r
    | none => .bad
  | .ifs e a b, r => match xE G c x e r with
    | some true => xSs c x a r
    | some false => xSs c x b r
    | none => .bad
  | .ret y, r => .ok (.ret (.d y)) r
def xSs (c : Nat) (x : D) : Xss → Rho → Out Fl
  | .nil, r => .ok .nx r
  | .cons s ss, r => (xS c x s r).bind fun f r => match f with
    | .nx => xSs c x ss r
    | f => .ok f r
end
/-- the clauses, one after the other -/
def xH : Xh → Nat → D → Rho → Out Fl
  | .nil, c, x, r => .exc c x r
  | .dead, _, _, _ => .bad
  | .cons ks n ss hs, c, x, r => match anyK G c ks with
    | none => .bad
    | some false => xH hs c x r
    | some true => match n with
      | none => match xSs G lent c x ss r with
        | .exc _ _ _ => .bad
        | o => o
      | some i => if i ∈ lent then .bad else match xSs G (i :: lent) c x ss (r.set i none) with
        | .ok f r => .ok f (r.set i none)
        | .exc _ _ _ => .bad
        | .bad => .bad
def asgT (tg : Tg) (x : D) (r : Rho) : Option Rho := if tg.slots.all (fun i => decide (i ∉ lent)) = true then bindT tg x r else none
mutual
def evS : S → Rho → Out Fl
  | .set i e, r => (evE cf G e r).bind fun o r => match setS lent i o r with
    | some r => .ok .nx r
    | none => .bad
  | .unp is e, r => (evE cf G e r).bind fun o r => match asgT lent (.many is) (frz o) r with
    | some r => .ok .nx r
    | none => .bad
  | .seti p ix e, r => (evE cf G e r).bind fun o r => match getS p r with
    | none => .bad
    | some _ => (evE cf G ix r).bind fun y r => match getS p r, asI y with
      | some (.lst xs), some i => if 0 ≤ i ∧ i < xs.length then .ok .nx (r.set p (some (.lst (xs.set i.toNat (frz o))))) else .bad
      | some (.dct ks vs), _ => match asK y with
        | some k => if ks.length < line then .ok .nx (r.set p (some (.dct (putKs ks k) (putVs ks vs k (frz o))))) else .bad
        | none => .bad
      | _, _ => .bad
  | .aug i o e, r => match getS i r with
    | some (.d x) => (evE cf G e r).bind fun y r => match augO o x y with
      | some z => match setS lent i (.d z) r with
        | some r => .ok .nx r
        | none => .bad
      | none => .bad
    | _ => .bad
  | .ifs c a b, r => (tst (evE cf G c r)).bind fun k r => if k = true then evSs a r else evSs b r
  | .whl c b, r => whileN (fun r => tst (evE cf G c r)) (evSs b) W r
  | .for_ tg it b, r => (evI cf G it r).bind fun xs r => forN (asgT lent tg) (evSs b) xs r
  | .ret e, r => (evE cf G e r).bind fun o r => .ok (.ret o) r
  | .retN, r => .ok (.ret (.d .non)) r
  | .retv i, r => match getS i r with
    | some (.d x) => .ok (.ret (.d x)) r
    | some o => if i ∈ lent then .bad else .ok (.ret o) (r.set i none)
    | none => .bad
  | .ex e, r => (evE cf G e r).bind fun _ r => .ok .nx r
  | .apx a e, r => (evE cf G a r).bind fun x r => match x with
    | .lst xs => (evE cf G e r).bind fun _ r => if xs.length < line then .ok .nx r else .bad
    | _ => .bad
  | .app p e, r => match getS p r with
    | some (.lst _) => (evE cf G e r).bind fun o r => match getS p r with
      | some (.lst xs) => if xs.length < line then .ok .nx (r.set p (some (.lst (xs ++ [frz o])))) else .bad
      | _ => .bad
    | _ => .bad
  | .ext p e, r => match getS p r with
    | some (.lst _) => (evE cf G e r).bind fun o r => match getS p r, frz o with
      | some (.lst xs), .lst ys => if xs.length + ys.length ≤ line then .ok .nx (r.set p (some (.lst (xs ++ ys)))) else .bad
      | some (.lst xs), .tup ys => if xs.length + ys.length ≤ line then .ok .nx (r.set p (some (.lst (xs ++ ys)))) else .bad
      | _, _ => .bad
    | _ => .bad
  | .clr p, r => match getS p r with
    | some (.lst _) => .ok .nx (r.set p (some (.lst [])))
    | some (.dct _ _) => .ok .nx (r.set p (some (.dct [] [])))
    | _ => .bad
  | .cont, r => .ok .cont r
  | .brk, r => .ok .brk r
  | .pass, r => .ok .nx r
  | .setf c p j e, r => (evE cf G e r).bind fun o r => match getS p r with
    | none => .bad
    | some q => match setFld c j q o with
      | some q => .ok .nx (r.set p (some q))
      | none => .bad
  | .augf c p j o e, r => match getS p r with
    | none => .bad
    | some q => match fldO c j q with
      | none => .bad
      | some (x, _) => (evE cf G e r).bind fun y r => match augO o x y, getS p r with
        | some z, some q => match setFld c j q (.d z) with
          | some q => .ok .nx (r.set p (some q))
          | none => .bad
        | _, _ => .bad
  | .raise k e, r => (evE cf G e r).bind fun o r => .exc k (frz o) r
  | .try_ b hs el, r => match evSs b r with
    | .exc c x r => xH G lent hs c x r
    | .ok .nx r => evSs el r
    | o => o
def evSs : Ss → Rho → Out Fl
  | .nil, r => .ok .nx r
  | .cons s ss, r => (evS s r).bind fun f r => match f with
    | .nx => evSs ss r
    | f => .ok f r
end
end

structure FD where
  np : Nat
  ns : Nat
  body : Ss
structure Pg where
  fns : List FD
  G : Gs
  W : Nat

def isD : O → Bool
  | .d _ => true
  | _ => false
def lentOf : Nat → List O → List Nat
  | _, [] => []
  | k, o :: os => if isD o then lentOf (k + 1) os else k :: lentOf (k + 1) os
def outsOf : Nat → List O → Rho → Option (List O)
  | _, [], _ => some []
  | k, o :: os, r => match outsOf (k + 1) os r with
    | none => none
    | some os' => if isD o then some (o :: os') else match getS k r with
      | some o' => some (o' :: os')
      | none => none
def runF (cf : CallF) (P : Pg) (fd : FD) (os : List O) : COut :=
  if os.length ≠ fd.np then .bad else
  match evSs cf P.G P.W (lentOf 0 os) fd.body (os.map some ++ List.replicate (fd.ns - os.length) none) with
  | .ok (.ret o) r => match outsOf 0 os r with
    | some os' => .ok o os'
    | none => .bad
  | .ok .nx r => match outsOf 0 os r with
    | some os' => .ok (.d .non) os'
    | none => .bad
  | .ok _ _ => .bad
  | .exc c x r => match outsOf 0 os r with
    | some os' => .exc c x os'
    | none => .bad
  | .bad => .bad
def callN (P : Pg) : Nat → CallF
  | 0 => fun _ _ => .bad
  | n + 1 => fun f os => match P.fns[f]? with
    | some fd => runF (callN P n) P fd os
    | none => .bad
end Ev
end

section
set_option Elab.async false
set_option linter.all false
set_option maxRecDepth 100000
set_option maxHeartbeats 4000000
/-! Ev, part B: how values stand in a heap; steps; what an expression, a statement is to reach. -/
namespace Ev
open PySem PySem.Spec PyProof.Rows L2

/-- where the classes stand, their fields in the order in which they are made -/
class Clz where
  ca : Nat → Addr
  fn : Nat → List Str
variable [Γ : Clz]

mutual
/-- v is the data x over what never changes (B) -/
inductive DR (K : PySem.W.Frag) (B : Hp) : V → D → Prop
  | non : DR K B .non .non
  | bl (b : Bool) : DR K B (.bl b) (.bl b)
  | int (i : Int) : DR K B (.int i) (.int i)
  | str (x : Str) : DR K B (.str x) (.str x)
  | tup {a : Addr} {xs : List V} {ds : List D} : SqT K B a xs → DRs K B xs ds → DR K B (.ref a) (.tup ds)
  | lst {a : Addr} {xs : List V} {ds : List D} : SqL K B a xs → DRs K B xs ds → DR K B (.ref a) (.lst ds)
  | dct {a : Addr} {ks : List Ky} {xs : List V} {ds : List D} : Rd B a (.dK (ks.zip xs)) → ks.length = xs.length → DRs K B xs ds → DR K B (.ref a) (.dct ks ds)
  | dtt {a : Addr} {ks : List (List Ky)} {xs : List V} {ds : List D} : Rd B a (.dT (ks.zip xs)) → ks.length = xs.length → DRs K B xs ds → DR K B (.ref a) (.dtt ks ds)
  | ins {a dx : Addr} {c : Nat} {xs : List V} {ds : List D} : B a = some (.ins (Clz.ca c) dx ((Clz.fn c).zip xs)) → xs.length ≤ (Clz.fn c).length → DRs K B xs ds → DR K B (.ref a) (.ins c ds)
inductive DRs (K : PySem.W.Frag) (B : Hp) : List V → List D → Prop
  | nil : DRs K B [] []
  | cons {v : V} {vs : List V} {d : D} {ds : List D} : DR K B v d → DRs K B vs ds → DRs K B (v :: vs) (d :: ds)
end

section
variable {K : PySem.W.Frag} {B B' H H' : Hp} {v : V} {d : D} {vs ws : List V} {ds es : List D}

/-- what may be read over B may be read over H -/
structure Sub (B H : Hp) : Prop where
  rd : ∀ a u, Rd B a u → Rd H a u
  ins : ∀ a C dx fs, B a = some (.ins C dx fs) → H a = some (.ins C dx fs)
theorem Sub.refl (H : Hp) : Sub H H := ⟨fun _ _ h => h, fun _ _ _ _ h => h⟩
theorem Sub.trans {B C H : Hp} (a : Sub B C) (b : Sub C H) : Sub B H := ⟨fun x u h => b.rd x u (a.rd x u h), fun x c d f h => b.ins x c d f (a.ins x c d f h)⟩
/-- all of B stands in B' -/
def Ext (B B' : Hp) : Prop := ∀ a o, B a = some o → B' a = some o
theorem Ext.refl (B : Hp) : Ext B B := fun _ _ h => h
theorem Ext.trans {A B C : Hp} (a : Ext A B) (b : Ext B C) : Ext A C := fun x o h => b x o (a x o h)
theorem Ext.sub (e : Ext B B') : Sub B B' := ⟨fun a u h => h.elim (fun h => .inl (e a _ h)) fun ⟨o, h⟩ => .inr ⟨o, e a _ h⟩, fun a _ _ _ h => e a _ h⟩
theorem Ext.new {a : Addr} {o : HO} (h : B a = none) : Ext B (upd B a o) := fun b u e => by
  rw [upd_ne (ne_of_none e h)]; exact e
theorem sqL_sub {a : Addr} {xs : List V} (s : Sub B H) (h : SqL K B a xs) : SqL K H a xs := h.elim (fun h => .inl (s.rd _ _ h)) .inr
theorem sqT_sub {a : Addr} {xs : List V} (s : Sub B H) (h : SqT K B a xs) : SqT K H a xs := h.elim (fun h => .inl (s.rd _ _ h)) .inr

mutual
theorem DR.sub (s : Sub B H) : ∀ {v : V} {d : D}, DR K B v d → DR K H v d
  | _, _, .non => .non
  | _, _, .bl b => .bl b
  | _, _, .int i => .int i
  | _, _, .str x => .str x
  | _, _, .tup h hs => .tup (sqT_sub s h) (DRs.sub s hs)
  | _, _, .lst h hs => .lst (sqL_sub s h) (DRs.sub s hs)
  | _, _, .dct h hl hs => .dct (s.rd _ _ h) hl (DRs.sub s hs)
  | _, _, .dtt h hl hs => .dtt (s.rd _ _ h) hl (DRs.sub s hs)
  | _, _, .ins h hl hs => .ins (s.ins _ _ _ _ h) hl (DRs.sub s hs)
theorem DRs.sub (s : Sub B H) : ∀ {vs : List V} {ds : List D}, DRs K B vs ds → DRs K H vs ds
  | _, _, .nil => .nil
  | _, _, .cons h hs => .cons (DR.sub s h) (DRs.sub s hs)
end
theorem DR.ext (e : Ext B B') (h : DR K B v d) : DR K B' v d := h.sub e.sub
theorem DRs.ext (e : Ext B B') (h : DRs K B vs ds) : DRs K B' vs ds := h.sub e.sub
theorem DRs.length (h : DRs K B vs ds) : vs.length = ds.length := by
  induction ds generalizing vs with
  | nil => cases h; rfl
  | cons x r ih => cases h with | cons a b => rw [List.length_cons, List.length_cons, ih b]
theorem DRs.get (h : DRs K B vs ds) {i : Nat} {d : D} (e : ds[i]? = some d) : ∃ v, vs[i]? = some v ∧ DR K B v d := by
  induction ds generalizing vs i with
  | nil => simp at e
  | cons x r ih => cases h with | cons a b => cases i with
    | zero => simp at e; subst e; exact ⟨_, rfl, a⟩
    | succ i => simp at e; simpa using ih b e
theorem DRs.get' (h : DRs K B vs ds) {i : Nat} {v : V} (e : vs[i]? = some v) : ∃ d, ds[i]? = some d ∧ DR K B v d := by
  induction ds generalizing vs i with
  | nil => cases h; simp at e
  | cons x r ih => cases h with | cons a b => cases i with
    | zero => simp at e; subst e; exact ⟨_, rfl, a⟩
    | succ i => simp at e; simpa using ih b e
theorem DRs.append (h : DRs K B vs ds) (g : DRs K B ws es) : DRs K B (vs ++ ws) (ds ++ es) := by
  induction ds generalizing vs with
  | nil => cases h; exact g
  | cons x r ih => cases h with | cons a b => exact .cons a (ih b)
theorem DRs.take (h : DRs K B vs ds) (n : Nat) : DRs K B (vs.take n) (ds.take n) := by
  induction ds generalizing vs n with
  | nil => cases h; simp only [List.take_nil]; exact .nil
  | cons x r ih => cases h with | cons a b => cases n with
    | zero => simp only [List.take_zero]; exact .nil
    | succ n => rw [List.take_succ_cons, List.take_succ_cons]; exact .cons a (ih b n)
theorem DRs.drop (h : DRs K B vs ds) (n : Nat) : DRs K B (vs.drop n) (ds.drop n) := by
  induction ds generalizing vs n with
  | nil => cases h; simp only [List.drop_nil]; exact .nil
  | cons x r ih => cases h with | cons a b => cases n with
    | zero => exact .cons a b
    | succ n => exact ih b n
theorem DRs.set (h : DRs K B vs ds) (n : Nat) (g : DR K B v d) : DRs K B (vs.set n v) (ds.set n d) := by
  induction ds generalizing vs n with
  | nil => cases h; simp only [List.set_nil]; exact .nil
  | cons x r ih => cases h with | cons a b => cases n with
    | zero => exact .cons g b
    | succ n => exact .cons a (ih b n)
theorem DRs.reverse (h : DRs K B vs ds) : DRs K B vs.reverse ds.reverse := by
  induction ds generalizing vs with
  | nil => cases h; exact .nil
  | cons x r ih => cases h with | cons a b => rw [List.reverse_cons, List.reverse_cons]; exact (ih b).append (.cons a .nil)
theorem DRs.dropLast (h : DRs K B vs ds) : DRs K B vs.dropLast ds.dropLast := by
  rw [List.dropLast_eq_take, List.dropLast_eq_take, h.length]; exact h.take _
theorem DRs.snoc (h : DRs K B vs ds) (g : DR K B v d) : DRs K B (vs ++ [v]) (ds ++ [d]) := h.append (.cons g .nil)
theorem DRs.of_get (hl : vs.length = ds.length) (h : ∀ (i : Nat) v d, vs[i]? = some v → ds[i]? = some d → DR K B v d) : DRs K B vs ds := by
  induction ds generalizing vs with
  | nil => cases vs with
    | nil => exact .nil
    | cons _ _ => simp at hl
  | cons x r ih => cases vs with
    | nil => simp at hl
    | cons y ys => exact .cons (h 0 _ _ rfl rfl) (ih (by simpa using hl) fun i v d e1 e2 => h (i + 1) v d (by simpa using e1) (by simpa using e2))
/-- scalars want no heap -/
theorem DR.scalar (h : DR K B v d) (s : d.scalar = true) (C : Hp) : DR K C v d := by
  cases h with
  | non => exact .non
  | bl b => exact .bl b
  | int i => exact .int i
  | str x => exact .str x
  | tup _ _ => cases s
  | lst _ _ => cases s
  | dct _ _ _ => cases s
  | dtt _ _ _ => cases s
  | ins _ _ _ => cases s
end

/-! ### whose an address is -/
inductive Own where
  | slot (i : Nat) | tmp (k : Nat)
abbrev Wn := Addr → Option Own

/-- a field's value -/
inductive FR1 (K : PySem.W.Frag) (B H : Hp) (F : Addr → Prop) : V → Fo → Prop
  | d {v : V} {x : D} : DR K B v x → FR1 K B H F v (.d x)
  | lst {a : Addr} {xs : List V} {ds : List D} : F a → H a = some (.lst xs) → DRs K B xs ds → FR1 K B H F (.ref a) (.lst ds)
  | dct {a : Addr} {ks : List Ky} {xs : List V} {ds : List D} : F a → H a = some (.dK (ks.zip xs)) → ks.length = xs.length → DRs K B xs ds → FR1 K B H F (.ref a) (.dct ks ds)
  | dtt {a : Addr} {ks : List (List Ky)} {xs : List V} {ds : List D} : F a → H a = some (.dT (ks.zip xs)) → ks.length = xs.length → DRs K B xs ds → FR1 K B H F (.ref a) (.dtt ks ds)
/-- what a field owns -/
def refA : V → List Addr
  | .ref a => [a]
  | _ => []
def ownA (v : V) : Fo → List Addr
  | .d _ => []
  | .lst _ => refA v
  | .dct _ _ => refA v
  | .dtt _ _ => refA v
def ownAs (vs : List V) (fs : List Fo) : List Addr := (vs.zip fs).flatMap fun p => ownA p.1 p.2
inductive OR (K : PySem.W.Frag) (B H : Hp) (F : Addr → Prop) : V → O → Prop
  | d {v : V} {x : D} : DR K B v x → OR K B H F v (.d x)
  | lst {a : Addr} {xs : List V} {ds : List D} : F a → H a = some (.lst xs) → DRs K B xs ds → OR K B H F (.ref a) (.lst ds)
  | dct {a : Addr} {ks : List Ky} {xs : List V} {ds : List D} : F a → H a = some (.dK (ks.zip xs)) → ks.length = xs.length → DRs K B xs ds → OR K B H F (.ref a) (.dct ks ds)
  | dtt {a : Addr} {ks : List (List Ky)} {xs : List V} {ds : List D} : F a → H a = some (.dT (ks.zip xs)) → ks.length = xs.length → DRs K B xs ds → OR K B H F (.ref a) (.dtt ks ds)
  | ins {a dx : Addr} {c : Nat} {vs : List V} {fs : List Fo} : F a → F dx → H a = some (.ins (Clz.ca c) dx ((Clz.fn c).zip vs)) → H dx = some (.own a) → vs.length ≤ (Clz.fn c).length → Paired (FR1 K B H F) vs fs → (ownAs vs fs).Nodup → OR K B H F (.ref a) (.ins c fs)

structure Wf (B H : Hp) (w : Wn) : Prop where
  sub : Sub B H
  off : ∀ a q, w a = some q → B a = none
  live : ∀ a q, w a = some q → H a ≠ none
/-- no temporary from t on -/
def TB (t : Nat) (w : Wn) : Prop := ∀ a k, w a = some (.tmp k) → k < t
theorem TB.mono {t u : Nat} {w : Wn} (h : TB t w) (l : t ≤ u) : TB u w := fun a k e => Nat.lt_of_lt_of_le (h a k e) l

/-- one may change what is a slot's, or a temporary's from t on; all else stays -/
structure Stp (t : Nat) (B H : Hp) (w : Wn) (B' H' : Hp) (w' : Wn) : Prop where
  ext : Ext B B'
  keep : ∀ a o, H a = some o → w a = none → H' a = some o ∧ w' a = none
  prot : ∀ a o k, H a = some o → w a = some (.tmp k) → k < t → H' a = some o ∧ w' a = some (.tmp k)
  newB : ∀ a o, B' a = some o → B a = some o ∨ H a = none ∨ ∃ q, w a = some q ∧ ∀ k, q = .tmp k → t ≤ k

section
variable {t u : Nat} {B H B1 H1 B2 H2 : Hp} {w w1 w2 : Wn}
theorem Stp.refl (t : Nat) (B H : Hp) (w : Wn) : Stp t B H w B H w := ⟨Ext.refl B, fun _ _ a b => ⟨a, b⟩, fun _ _ _ a b _ => ⟨a, b⟩, fun _ _ h => .inl h⟩
theorem Stp.trans (a : Stp t B H w B1 H1 w1) (b : Stp t B1 H1 w1 B2 H2 w2) : Stp t B H w B2 H2 w2 where
  ext := a.ext.trans b.ext
  keep := fun x o h hw => let ⟨h1, hw1⟩ := a.keep x o h hw; b.keep x o h1 hw1
  prot := fun x o k h hw hk => let ⟨h1, hw1⟩ := a.prot x o k h hw hk; b.prot x o k h1 hw1 hk
  newB := fun x o h => by
    have key : ∀ p, H x = some p → (H1 x = none ∨ ∃ q, w1 x = some q ∧ ∀ k, q = .tmp k → t ≤ k) → ∃ q, w x = some q ∧ ∀ k, q = .tmp k → t ≤ k := fun p hp hc => by
      cases hw : w x with
      | none =>
        obtain ⟨e1, e2⟩ := a.keep x p hp hw
        rcases hc with hc | ⟨q, hc, _⟩
        · rw [e1] at hc; cases hc
        · rw [e2] at hc; cases hc
      | some q =>
        refine ⟨q, rfl, fun k e => ?_⟩
        subst e
        apply Decidable.byContradiction
        intro hk
        obtain ⟨e1, e2⟩ := a.prot x p k hp hw (by omega)
        rcases hc with hc | ⟨q, hc, hq⟩
        · rw [e1] at hc; cases hc
        · rw [e2] at hc; cases hc
          exact hk (hq k rfl)
    rcases b.newB x o h with h1 | h1 | h1
    · exact a.newB x o h1
    · cases hp : H x with
      | none => exact .inr (.inl rfl)
      | some p => exact .inr (.inr (key p hp (.inl h1)))
    · cases hp : H x with
      | none => exact .inr (.inl rfl)
      | some p => exact .inr (.inr (key p hp (.inr h1)))
theorem Stp.mono (a : Stp u B H w B1 H1 w1) (h : t ≤ u) : Stp t B H w B1 H1 w1 where
  ext := a.ext
  keep := a.keep
  prot := fun x o k e e2 hk => a.prot x o k e e2 (Nat.lt_of_lt_of_le hk h)
  newB := fun x o e => (a.newB x o e).imp id fun z => z.imp id fun ⟨q, e1, e2⟩ => ⟨q, e1, fun k z => Nat.le_trans h (e2 k z)⟩

theorem Wf.offRd (h : Wf B H w) {a : Addr} {q : Own} (e : w a = some q) {o : HO} : ¬ B a = some o := fun z => by
  rw [h.off a q e] at z; cases z

variable {K : PySem.W.Frag} {v : V} {o : O} {F F' : Addr → Prop}
theorem FR1.mono {v : V} {o : Fo} (h : FR1 K B H F v o) (e : Ext B B1) (k : ∀ a u, F a → H a = some u → F' a ∧ H1 a = some u) : FR1 K B1 H1 F' v o := by
  cases h with
  | d h => exact .d (h.ext e)
  | lst f ha hs => exact .lst (k _ _ f ha).1 (k _ _ f ha).2 (hs.ext e)
  | dct f ha hl hs => exact .dct (k _ _ f ha).1 (k _ _ f ha).2 hl (hs.ext e)
  | dtt f ha hl hs => exact .dtt (k _ _ f ha).1 (k _ _ f ha).2 hl (hs.ext e)
theorem OR.mono (h : OR K B H F v o) (e : Ext B B1) (k : ∀ a u, F a → H a = some u → F' a ∧ H1 a = some u) : OR K B1 H1 F' v o := by
  cases h with
  | d h => exact .d (h.ext e)
  | lst f ha hs => exact .lst (k _ _ f ha).1 (k _ _ f ha).2 (hs.ext e)
  | dct f ha hl hs => exact .dct (k _ _ f ha).1 (k _ _ f ha).2 hl (hs.ext e)
  | dtt f ha hl hs => exact .dtt (k _ _ f ha).1 (k _ _ f ha).2 hl (hs.ext e)
  | ins f g ha hd hl hp hn => exact .ins (k _ _ f ha).1 (k _ _ g hd).1 (k _ _ f ha).2 (k _ _ g hd).2 hl (Paired.mono (fun _ _ h => FR1.mono h e k) hp) hn
theorem fr_read {vs : List V} {fs : List Fo} (s : Sub B H) : Paired (FR1 K B H F) vs fs → DRs K H vs (fs.map frzF) := fun h => by
  induction h with
  | nil => exact .nil
  | cons h _ ih =>
    refine .cons ?_ ih
    cases h with
    | d h => exact h.sub s
    | lst f ha hs => exact .lst (SqL.of ha) (hs.sub s)
    | dct f ha hl hs => exact .dct (.inl ha) hl (hs.sub s)
    | dtt f ha hl hs => exact .dtt (.inl ha) hl (hs.sub s)
/-- read as data over the heap as it stands -/
theorem OR.read (h : OR K B H F v o) (s : Sub B H) : DR K H v (frz o) := by
  cases h with
  | d h => exact h.sub s
  | lst f ha hs => exact .lst (SqL.of ha) (hs.sub s)
  | dct f ha hl hs => exact .dct (.inl ha) hl (hs.sub s)
  | dtt f ha hl hs => exact .dtt (.inl ha) hl (hs.sub s)
  | ins f g ha hd hl hp hn => exact .ins ha hl (fr_read s hp)
/-- a temporary behind a step that must leave it -/
theorem OR.kept {k : Nat} (h : OR K B H (fun a => w a = some (.tmp k)) v o) (st : Stp t B H w B1 H1 w1) (hk : k < t) : OR K B1 H1 (fun a => w1 a = some (.tmp k)) v o :=
  h.mono st.ext fun a xs f ha => let ⟨h1, h2⟩ := st.prot a _ k ha f hk; ⟨h2, h1⟩

open Classical in
theorem freezeS {q : Own} (W : Wf B H w) (S : Addr → Prop) (hS : ∀ a, S a → w a = some q) : ∃ (B' : Hp) (w' : Wn), Ext B B' ∧ Wf B' H w' ∧ (∀ a, w' a = w a ∨ (w a = some q ∧ w' a = none)) ∧ (∀ a u, B' a = some u → B a = some u ∨ w a = some q) ∧ (∀ a, S a → B' a = H a) ∧ (∀ a, S a → w' a = none) ∧ ∀ a, ¬ S a → w' a = w a := by
  refine ⟨fun a => if S a then H a else B a, fun a => if S a then none else w a, fun a o e => ?_, ⟨⟨fun a u r => ?_, fun a C dx fs e => ?_⟩, fun a p e => ?_, fun a p e => ?_⟩, fun a => ?_, fun a u e => ?_, fun a f => if_pos f, fun a f => if_pos f, fun a f => if_neg f⟩
  · have hn : ¬ S a := fun z => by rw [W.off a q (hS a z)] at e; cases e
    exact (if_neg hn).trans e
  · by_cases hq : S a
    · rcases r with r | ⟨o, r⟩
      · simp only [if_pos hq] at r; exact .inl r
      · simp only [if_pos hq] at r; exact .inr ⟨o, r⟩
    · refine W.sub.rd a u ?_
      rcases r with r | ⟨o, r⟩
      · simp only [if_neg hq] at r; exact .inl r
      · simp only [if_neg hq] at r; exact .inr ⟨o, r⟩
  · by_cases hq : S a
    · simp only [if_pos hq] at e; exact e
    · simp only [if_neg hq] at e; exact W.sub.ins a C dx fs e
  · by_cases hq : S a
    · simp only [if_pos hq] at e; cases e
    · simp only [if_neg hq] at e ⊢; exact W.off a p e
  · by_cases hq : S a
    · simp only [if_pos hq] at e; cases e
    · simp only [if_neg hq] at e; exact W.live a p e
  · by_cases hq : S a
    · exact .inr ⟨hS a hq, if_pos hq⟩
    · exact .inl (if_neg hq)
  · by_cases hq : S a
    · exact .inr (hS a hq)
    · simp only [if_neg hq] at e; exact .inl e
theorem freezeQ {q : Own} (W : Wf B H w) : ∃ (B' : Hp) (w' : Wn), Ext B B' ∧ Wf B' H w' ∧ (∀ a, w' a = w a ∨ (w a = some q ∧ w' a = none)) ∧ (∀ a u, B' a = some u → B a = some u ∨ w a = some q) ∧ (∀ a, w a = some q → B' a = H a) ∧ (∀ a, w a = some q → w' a = none) := by
  obtain ⟨B', w', h1, h2, h3, h4, h5, h6, _⟩ := freezeS W (fun a => w a = some q) fun _ h => h
  exact ⟨B', w', h1, h2, h3, h4, h5, h6⟩
theorem fr_frozen {B' : Hp} {F : Addr → Prop} {vs : List V} {fs : List Fo} (e : Ext B B') (k : ∀ a, F a → B' a = H a) : Paired (FR1 K B H F) vs fs → DRs K B' vs (fs.map frzF) := fun h => by
  induction h with
  | nil => exact .nil
  | cons h _ ih =>
    refine .cons ?_ ih
    cases h with
    | d h => exact h.ext e
    | lst f ha hs => exact .lst (SqL.of ((k _ f).trans ha)) (hs.ext e)
    | dct f ha hl hs => exact .dct (.inl ((k _ f).trans ha)) hl (hs.ext e)
    | dtt f ha hl hs => exact .dtt (.inl ((k _ f).trans ha)) hl (hs.ext e)
/-- frozen: what it owned is data from here on -/
theorem freeze {q : Own} (W : Wf B H w) (h : OR K B H (fun a => w a = some q) v o) : ∃ (B' : Hp) (w' : Wn), Ext B B' ∧ Wf B' H w' ∧ DR K B' v (frz o) ∧
    (∀ a, w' a = w a ∨ (w a = some q ∧ w' a = none)) ∧ ∀ a u, B' a = some u → B a = some u ∨ w a = some q := by
  obtain ⟨B', w', e1, e2, e3, e4, k, _⟩ := freezeQ (q := q) W
  refine ⟨B', w', e1, e2, ?_, e3, e4⟩
  cases h with
  | d h => exact h.ext e1
  | lst f ha hs => exact .lst (SqL.of ((k _ f).trans ha)) (hs.ext e1)
  | dct f ha hl hs => exact .dct (.inl ((k _ f).trans ha)) hl (hs.ext e1)
  | dtt f ha hl hs => exact .dtt (.inl ((k _ f).trans ha)) hl (hs.ext e1)
  | ins f g ha hd hl hp hn => exact .ins ((k _ f).trans ha) hl (fr_frozen e1 k hp)
/-- the step that a freezing is -/
theorem stp_of_freeze {q : Own} (hq : ∀ k, q = .tmp k → t ≤ k) {B' : Hp} {w' : Wn} (e : Ext B B') (hw : ∀ a, w' a = w a ∨ (w a = some q ∧ w' a = none)) (hB : ∀ a u, B' a = some u → B a = some u ∨ w a = some q) : Stp t B H w B' H w' where
  ext := e
  keep := fun a o h hn => ⟨h, by rcases hw a with z | ⟨z, _⟩ <;> simp_all⟩
  prot := fun a o k h hn hk => ⟨h, by
    rcases hw a with z | ⟨z, _⟩
    · rw [z]; exact hn
    · rw [hn] at z; cases z; exact absurd (hq k rfl) (by omega)⟩
  newB := fun a u h => by
    rcases hB a u h with z | z
    · exact .inl z
    · exact .inr (.inr ⟨q, z, hq⟩)

/-! ### frames -/
structure EnvR (K : PySem.W.Frag) (B H : Hp) (w : Wn) (σ : L2.St) (ρ : Rho) : Prop where
  len : ρ.length = σ.length
  at' : ∀ i o, getS i ρ = some o → ∃ v, σ[i]? = some (some v) ∧ OR K B H (fun a => w a = some (.slot i)) v o

variable {σ : L2.St} {ρ : Rho}
theorem getS_lt {i : Nat} {o : O} (h : getS i ρ = some o) : i < ρ.length := by
  unfold getS at h
  cases e : ρ[i]? with
  | none => rw [e] at h; cases h
  | some x => exact (List.getElem?_eq_some_iff.mp e).1
theorem getS_set {i j : Nat} {x : Option O} : getS j (ρ.set i x) = if j = i then (if i < ρ.length then x else none) else getS j ρ := by
  unfold getS
  by_cases h : j = i
  · subst h
    rw [if_pos rfl]
    by_cases hl : j < ρ.length
    · rw [List.getElem?_set_self hl, if_pos hl]; cases x <;> rfl
    · rw [if_neg hl, List.getElem?_eq_none (by simpa using hl)]
  · rw [if_neg h, List.getElem?_set_ne (Ne.symm h)]
/-- behind a step in which the slots' things stay as they are -/
theorem EnvR.mono (E : EnvR K B H w σ ρ) (e : Ext B B1) (k : ∀ a u i, w a = some (.slot i) → H a = some u → w1 a = some (.slot i) ∧ H1 a = some u) : EnvR K B1 H1 w1 σ ρ :=
  ⟨E.len, fun i o h => let ⟨v, h1, h2⟩ := E.at' i o h; ⟨v, h1, h2.mono e fun a xs f ha => k a xs i f ha⟩⟩
/-- a temporary frozen: the frame stays -/
theorem EnvR.frozenT (E : EnvR K B H w σ ρ) {k : Nat} {B' : Hp} {w' : Wn} (e : Ext B B') (hw : ∀ a, w' a = w a ∨ (w a = some (.tmp k) ∧ w' a = none)) : EnvR K B' H w' σ ρ :=
  E.mono e fun a xs i f ha => by
    rcases hw a with z | ⟨z, _⟩
    · exact ⟨by rw [z]; exact f, ha⟩
    · rw [f] at z; cases z
theorem TB.frozen {q : Own} {w' : Wn} (h : TB t w) (hw : ∀ a, w' a = w a ∨ (w a = some q ∧ w' a = none)) : TB t w' := fun a k e => by
  rcases hw a with z | ⟨_, z⟩
  · exact h a k (by rw [← z]; exact e)
  · rw [z] at e; cases e
theorem TB.frozenT {k : Nat} {w' : Wn} (h : TB (k + 1) w) (hw : ∀ a, w' a = w a ∨ (w a = some (.tmp k) ∧ w' a = none)) (W : True) : TB (k + 1) w' := h.frozen hw

/-- temporaries from t on forgotten -/
def dropT (t : Nat) (w : Wn) : Wn := fun a => match w a with
  | some (.tmp k) => if t ≤ k then none else some (.tmp k)
  | x => x
theorem dropT_slot {a : Addr} {i : Nat} : dropT t w a = some (.slot i) ↔ w a = some (.slot i) := by
  unfold dropT
  cases h : w a with
  | none => simp
  | some q => cases q with
    | slot j => simp
    | tmp k => by_cases hk : t ≤ k <;> simp [hk]
theorem dropT_tmp {a : Addr} {k : Nat} : dropT t w a = some (.tmp k) ↔ (w a = some (.tmp k) ∧ k < t) := by
  unfold dropT
  cases h : w a with
  | none => simp
  | some q => cases q with
    | slot j => simp
    | tmp j =>
      by_cases hk : t ≤ j
      · simp only [hk, if_true]
        constructor
        · intro e; cases e
        · rintro ⟨e, l⟩; cases e; omega
      · simp only [hk, if_false]
        constructor
        · intro e; cases e; exact ⟨rfl, by omega⟩
        · rintro ⟨e, _⟩; exact e
theorem dropT_none {a : Addr} (h : w a = none) : dropT t w a = none := by unfold dropT; rw [h]
theorem dropT_some {a : Addr} {q : Own} (h : dropT t w a = some q) : w a = some q := by
  cases q with
  | slot i => exact dropT_slot.mp h
  | tmp k => exact (dropT_tmp.mp h).1
theorem TB.drop (t : Nat) (w : Wn) : TB t (dropT t w) := fun a k e => (dropT_tmp.mp e).2
theorem stp_drop (t : Nat) (B H : Hp) (w : Wn) : Stp t B H w B H (dropT t w) where
  ext := Ext.refl B
  keep := fun a o h e => ⟨h, dropT_none e⟩
  prot := fun a o k h e hk => ⟨h, dropT_tmp.mpr ⟨e, hk⟩⟩
  newB := fun a o h => .inl h
theorem Wf.drop (W : Wf B H w) : Wf B H (dropT t w) := ⟨W.sub, fun a q e => W.off a q (dropT_some e), fun a q e => W.live a q (dropT_some e)⟩
theorem EnvR.drop (E : EnvR K B H w σ ρ) : EnvR K B H (dropT t w) σ ρ := E.mono (Ext.refl B) fun a xs i f ha => ⟨dropT_slot.mpr f, ha⟩

/-! ### a new object -/
/-- a new object that is a temporary of its own -/
def putW (w : Wn) (p : Addr) (q : Option Own) : Wn := fun a => if a = p then q else w a
theorem putW_same {p : Addr} {q : Option Own} : putW w p q p = q := by unfold putW; rw [if_pos rfl]
theorem putW_ne {p a : Addr} {q : Option Own} (h : a ≠ p) : putW w p q a = w a := by unfold putW; rw [if_neg h]
theorem none_new (W : Wf B H w) {p : Addr} (hp : H p = none) : B p = none := by
  cases e : B p with
  | none => rfl
  | some u =>
    rcases W.sub.rd p u (.inl e) with z | ⟨o, z⟩ <;> rw [hp] at z <;> cases z
theorem sub_new (W : Wf B H w) {p : Addr} (hp : H p = none) {u : HO} : Sub B (upd H p u) := ⟨fun b x r => by
  have e := W.sub.rd b x r
  have hb : b ≠ p := fun z => by
    subst z
    rcases e with e | ⟨o, e⟩ <;> rw [hp] at e <;> cases e
  rcases e with e | ⟨o, e⟩
  · left; rw [upd_ne hb]; exact e
  · right; exact ⟨o, by rw [upd_ne hb]; exact e⟩, fun b C dx fs e => by
  have hb : b ≠ p := fun z => by subst z; rw [none_new W hp] at e; cases e
  rw [upd_ne hb]; exact W.sub.ins b C dx fs e⟩
theorem stp_new {p : Addr} (hp : H p = none) (u : HO) (q : Option Own) : Stp t B H w B (upd H p u) (putW w p q) where
  ext := Ext.refl B
  keep := fun a o h e => by
    have ha : a ≠ p := ne_of_none h hp
    exact ⟨by rw [upd_ne ha]; exact h, by rw [putW_ne ha]; exact e⟩
  prot := fun a o k h e _ => by
    have ha : a ≠ p := ne_of_none h hp
    exact ⟨by rw [upd_ne ha]; exact h, by rw [putW_ne ha]; exact e⟩
  newB := fun a o h => .inl h
theorem Wf.new (W : Wf B H w) {p : Addr} (hp : H p = none) (u : HO) (q : Option Own) : Wf B (upd H p u) (putW w p q) := by
  refine ⟨sub_new W hp, fun a r e => ?_, fun a r e => ?_⟩
  · by_cases ha : a = p
    · subst ha; exact none_new W hp
    · rw [putW_ne ha] at e; exact W.off a r e
  · by_cases ha : a = p
    · subst ha; rw [upd_same]; exact fun z => nomatch z
    · rw [putW_ne ha] at e; rw [upd_ne ha]; exact W.live a r e
theorem EnvR.new (E : EnvR K B H w σ ρ) {p : Addr} (hp : H p = none) (u : HO) (q : Option Own) : EnvR K B (upd H p u) (putW w p q) σ ρ :=
  E.mono (Ext.refl B) fun a xs i f ha => by
    have h : a ≠ p := ne_of_none ha hp
    exact ⟨by rw [putW_ne h]; exact f, by rw [upd_ne h]; exact ha⟩
theorem sub_own (W : Wf B H w) {l : Addr} {q : Own} (hw : w l = some q) (u : HO) : Sub B (upd H l u) := ⟨fun b x r => by
  have hb : b ≠ l := fun z => by
    subst z
    rcases r with r | ⟨o, r⟩ <;> rw [W.off _ _ hw] at r <;> cases r
  rcases W.sub.rd b x r with r | ⟨o, r⟩
  · exact .inl (by rw [upd_ne hb]; exact r)
  · exact .inr ⟨o, by rw [upd_ne hb]; exact r⟩, fun b C dx fs e => by
  have hb : b ≠ l := fun z => by subst z; rw [W.off _ _ hw] at e; cases e
  rw [upd_ne hb]; exact W.sub.ins b C dx fs e⟩
theorem sub_kept (s : Sub B H) (kp : ∀ b o, H b = some o → H1 b = some o) : Sub B H1 := ⟨fun b x r => by
  rcases s.rd b x r with z | ⟨o, z⟩
  · exact .inl (kp b _ z)
  · exact .inr ⟨o, kp b _ z⟩, fun b C dx fs e => kp b _ (s.ins b C dx fs e)⟩
/-- a new object that is data -/
theorem Wf.newD (W : Wf B H w) {p : Addr} (hp : H p = none) (u : HO) (hu : ∀ o x, u ≠ .frz o x) : Wf (upd B p u) (upd H p u) w := by
  have hB := none_new W hp
  refine ⟨⟨fun b x r => ?_, fun b C dx fs e => ?_⟩, fun a q e => ?_, fun a q e => ?_⟩
  · by_cases hb : b = p
    · subst hb
      rcases r with r | ⟨o, r⟩
      · rw [upd_same] at r; exact .inl (by rw [upd_same]; exact r)
      · rw [upd_same] at r; cases r; exact absurd rfl (hu _ _)
    · refine (sub_new W hp).rd b x ?_
      rcases r with r | ⟨o, r⟩
      · rw [upd_ne hb] at r; exact .inl r
      · rw [upd_ne hb] at r; exact .inr ⟨o, r⟩
  · by_cases hb : b = p
    · subst hb; rw [upd_same] at e ⊢; exact e
    · rw [upd_ne hb] at e ⊢; exact W.sub.ins b C dx fs e
  · have ha : a ≠ p := fun z => by subst z; exact W.live a q e hp
    rw [upd_ne ha]; exact W.off a q e
  · have ha : a ≠ p := fun z => by subst z; exact W.live a q e hp
    rw [upd_ne ha]; exact W.live a q e
theorem stp_newD (W : Wf B H w) {p : Addr} (hp : H p = none) (u : HO) : Stp t B H w (upd B p u) (upd H p u) w where
  ext := Ext.new (none_new W hp)
  keep := fun a o h e => ⟨by rw [upd_ne (ne_of_none h hp)]; exact h, e⟩
  prot := fun a o k h e _ => ⟨by rw [upd_ne (ne_of_none h hp)]; exact h, e⟩
  newB := fun a o h => by
    by_cases ha : a = p
    · subst ha; exact .inr (.inl hp)
    · rw [upd_ne ha] at h; exact .inl h
theorem EnvR.newD (E : EnvR K B H w σ ρ) (W : Wf B H w) {p : Addr} (hp : H p = none) (u : HO) : EnvR K (upd B p u) (upd H p u) w σ ρ :=
  E.mono (Ext.new (none_new W hp)) fun a xs i f ha => ⟨f, by rw [upd_ne (ne_of_none ha hp)]; exact ha⟩
end
end Ev
end

section
set_option Elab.async false
set_option linter.all false
set_option maxRecDepth 100000
set_option maxHeartbeats 4000000
/-! Ev, part C: the operations, by values. -/
namespace Ev
open PySem PySem.Spec PyProof.Rows L2
variable [Γ : Clz]

/-- v reads as o: what it holds is data over C -/
inductive RO (K : PySem.W.Frag) (C H : Hp) : V → O → Prop
  | d {v : V} {x : D} : DR K C v x → RO K C H v (.d x)
  | lst {a : Addr} {xs : List V} {ds : List D} : SqL K H a xs → DRs K C xs ds → RO K C H (.ref a) (.lst ds)
  | dct {a : Addr} {ks : List Ky} {xs : List V} {ds : List D} : Rd H a (.dK (ks.zip xs)) → ks.length = xs.length → DRs K C xs ds → RO K C H (.ref a) (.dct ks ds)
  | dtt {a : Addr} {ks : List (List Ky)} {xs : List V} {ds : List D} : Rd H a (.dT (ks.zip xs)) → ks.length = xs.length → DRs K C xs ds → RO K C H (.ref a) (.dtt ks ds)
  | ins {a dx : Addr} {c : Nat} {vs : List V} {fs : List Fo} : H a = some (.ins (Clz.ca c) dx ((Clz.fn c).zip vs)) → vs.length ≤ (Clz.fn c).length → (Sub C H → DRs K H vs (fs.map frzF)) → RO K C H (.ref a) (.ins c fs)
/-- what an operation that comes to z must leave for Q -/
def FinO (K : PySem.W.Frag) (C H : Hp) (z : O) (Q : VK) : Prop := match z with
  | .lst ds => ∀ xs p, DRs K C xs ds → H p = none → Q (.ref p) (upd H p (.lst xs))
  | .dct ks ds => ∀ xs p, ks.length = xs.length → DRs K C xs ds → H p = none → Q (.ref p) (upd H p (.dK (ks.zip xs)))
  | .dtt ks ds => ∀ xs p, ks.length = xs.length → DRs K C xs ds → H p = none → Q (.ref p) (upd H p (.dT (ks.zip xs)))
  | .ins _ _ => True
  | .d x => (∀ v, DR K C v x → Q v H) ∧ ∀ ds xs p, x = .tup ds → DRs K C xs ds → H p = none → Q (.ref p) (upd H p (.tup xs))

theorem line_le {n : Nat} (h : n ≤ line) : n ≤ sizeLine := Nat.le_trans h (by decide)
theorem line_lt {n : Nat} (h : n < line) : n < sizeLine := Nat.lt_of_lt_of_le h (by decide)

section
variable {X : Cx} {K : PySem.W.Frag} {C H : Hp} {v : V} {o : O} {xs : List D}
theorem RO.asL (h : RO K C H v o) (s : Sub C H) (e : asL o = some xs) : ∃ a ys, v = .ref a ∧ SqL K H a ys ∧ DRs K C ys xs := by
  cases h with
  | lst r hs => cases e; exact ⟨_, _, rfl, r, hs⟩
  | dct _ _ _ => cases e
  | dtt _ _ _ => cases e
  | ins _ _ _ => cases e
  | d h => cases h with
    | lst r hs => cases e; exact ⟨_, _, rfl, sqL_sub s r, hs⟩
    | _ => cases e
theorem RO.asT (h : RO K C H v (.d (.tup xs))) (s : Sub C H) : ∃ a ys, v = .ref a ∧ SqT K H a ys ∧ DRs K C ys xs := by
  cases h with
  | d h => cases h with
    | tup r hs => exact ⟨_, _, rfl, sqT_sub s r, hs⟩
theorem RO.int {i : Int} (h : RO K C H v (.d (.int i))) : v = .int i := by cases h with | d h => cases h; rfl
theorem RO.str {i : Str} (h : RO K C H v (.d (.str i))) : v = .str i := by cases h with | d h => cases h; rfl
theorem RO.bl {i : Bool} (h : RO K C H v (.d (.bl i))) : v = .bl i := by cases h with | d h => cases h; rfl
theorem RO.non (h : RO K C H v (.d .non)) : v = .non := by cases h with | d h => cases h; rfl
theorem RO.frz (h : RO K C H v o) (s : Sub C H) : DR K H v (frz o) := by
  cases h with
  | d h => exact h.sub s
  | lst r hs => exact .lst r (hs.sub s)
  | dct r hl hs => exact .dct r hl (hs.sub s)
  | dtt r hl hs => exact .dtt r hl (hs.sub s)
  | ins r hl hs => exact .ins r hl (hs s)
theorem RO.asM {ks : List Ky} {vs : List D} (h : RO K C H v o) (s : Sub C H) (e : asM o = some (ks, vs)) : ∃ a xs, v = .ref a ∧ Rd H a (.dK (ks.zip xs)) ∧ ks.length = xs.length ∧ DRs K C xs vs := by
  cases h with
  | dct r hl hs => cases e; exact ⟨_, _, rfl, r, hl, hs⟩
  | lst _ _ => cases e
  | dtt _ _ _ => cases e
  | ins _ _ _ => cases e
  | d h => cases h with
    | dct r hl hs => cases e; exact ⟨_, _, rfl, s.rd _ _ r, hl, hs⟩
    | _ => cases e
theorem RO.asK {k : Ky} (h : RO K C H v o) (e : asK o = some k) : v = kV k := by
  cases h with
  | d h => cases h <;> cases e <;> rfl
  | lst _ _ => cases e
  | dct _ _ _ => cases e
  | dtt _ _ _ => cases e
  | ins _ _ _ => cases e
theorem getK_eq : ∀ {ks : List Ky} {vs : List V} {ds : List D}, ks.length = vs.length → DRs K C vs ds → ∀ k : Ky, (getK ks ds k = none ∧ valV (ks.zip vs) k = none) ∨ ∃ v d, getK ks ds k = some d ∧ valV (ks.zip vs) k = some v ∧ DR K C v d
  | [], _, _, _, _, k => .inl ⟨by cases ‹List D› <;> rfl, rfl⟩
  | j :: ks, [], _, h, _, k => by simp at h
  | j :: ks, v :: vs, _, h, .cons a b, k => by
    rw [List.zip_cons_cons]
    unfold getK
    by_cases e : j = k
    · rw [if_pos e, valV_pos (p := (j, v)) e]
      exact .inr ⟨v, _, rfl, rfl, a⟩
    · rw [if_neg e, valV_neg (p := (j, v)) e]
      exact getK_eq (by simpa using h) b k
theorem getK_some {ks : List Ky} {vs : List V} {ds : List D} {k : Ky} (hl : ks.length = vs.length) (h : DRs K C vs ds) : (getK ks ds k).isSome = (valV (ks.zip vs) k).isSome := by
  rcases getK_eq hl h k with ⟨e1, e2⟩ | ⟨v, d, e1, e2, _⟩ <;> rw [e1, e2] <;> rfl

/-- list + list, either of them perhaps known -/
def rCatR (K : PySem.W.Frag) : R2 := fun x y H Q => ∃ l b xs zs, x = .ref l ∧ y = .ref b ∧ SqL K H l xs ∧ SqL K H b zs ∧ xs.length + zs.length ≤ sizeLine ∧ ∀ p, H p = none → Q (.ref p) (upd H p (.lst (xs ++ zs)))
theorem Inv.lstR {pins : List (Addr × Obj)} {σ : L2.St} {H : Hp} {s : Shared} {l : Addr} {xs : List V} (I : Inv X pins σ H s) (hH : Rd H l (.lst xs)) : xs.length ≤ sizeLine ∧ ∃ (its : List Value) (n : Nat), Vals xs its ∧ xs.length = its.length ∧ s.heap.get? l = some { cls := .type "list", data := .seq its.toArray n } := by
  obtain ⟨z, its, n, r, e⟩ := hH.ok I.hok
  exact ⟨z, its, n, r, r.length, e⟩
theorem list_add_G (l : Addr) (items : Array Value) (n : Nat) (b : Addr) (items2 : Array Value) (n2 : Nat) (sl1 sl2 : Array (Option Value)) (hc0 : items.size + items2.size ≤ sizeLine) :
    Meets (Builtin.«list.__add__» ⟨[.ref l, .ref b], []⟩) (fun _ R s => s.heap.get? l = some { cls := .type "list", dict := none, data := .seq items n, slots := sl1 } ∧ s.heap.get? b = some { cls := .type "list", dict := none, data := .seq items2 n2, slots := sl2 } ∧ R (.ok (.ret (Value.ref s.heap.objs.size))) { s with heap := s.heap.push { cls := Value.type "list", data := Data.seq (items ++ items2) }, toks := s.toks }) :=
  .of_wp fun prog w A R s h => by obtain ⟨hp, g, d, tk, os⟩ := s; obtain ⟨hl, hb, h⟩ := h; have f1 := AutoSeq1.idx_int; have f2 := AutoSeq1.sub_tuple_tuple; have f3 := AutoSeq1.sub_list_list; have f4 := AutoSeq1.sub_tuple_list; have f5 := AutoSeq1.sub_list_tuple; wp_walk using wpAny_loadPart' hl, wpAny_loadPart' hb; exact ⟨_, rfl, h⟩
theorem Inv.lstK {pins : List (Addr × Obj)} {σ : L2.St} {H : Hp} {s : Shared} {l : Addr} {xs : List V} (I : Inv X pins σ H s) (hH : SqL X.K H l xs) : xs.length ≤ sizeLine ∧ ∃ (its : List Value) (n : Nat) (sl : Array (Option Value)), Vals xs its ∧ xs.length = its.length ∧ s.heap.get? l = some { cls := .type "list", dict := none, data := .seq its.toArray n, slots := sl } := by
  obtain ⟨its, rv, ⟨o, n, ho, hc, hd0, hd⟩, hz⟩ := I.list hH
  obtain ⟨c, dd, da, sl⟩ := o
  cases hc
  cases hd0
  cases hd
  exact ⟨hz, its, n, sl, rv, rv.length, ho⟩
theorem op_catR : OpR X (binaryOp .Add) (rCatR X.K) := by
  intro pins s σ H x y v u Q I rx ry h
  obtain ⟨l, b, xs, zs, rfl, rfl, hH, hB, hz, q⟩ := h
  cases rx
  cases ry
  obtain ⟨z, its, n, sl, r, hl, e⟩ := Inv.lstK I hH
  obtain ⟨z2, its2, n2, sl2, r2, hl2, e2⟩ := Inv.lstK I hB
  refine concat_meets ⟨_, e, rfl⟩ ⟨_, e2, rfl⟩ noFill_list_add seq_list_add F.slot_list_add F.entry_list_add (F.args_list_add_2 _ _) (list_add_G l its.toArray n b its2.toArray n2 sl sl2 (by rw [List.size_toArray, List.size_toArray]; omega)) ⟨e, e2, ?_⟩
  have ea : its.toArray ++ its2.toArray = (its ++ its2).toArray := by simp
  rw [ea]
  exact ⟨.ref _, _, I.lnew (t' := s.toks) (r.append r2) (by rw [List.length_append]; omega), rfl, q _ I.fresh⟩
/-- text * int -/
def rMulS : R2 := fun x y H Q => ∃ (i : Str) (k : Int), x = .str i ∧ y = .int k ∧ k ≤ 1000 ∧ -1000 ≤ k ∧ i.length ≤ 90 ∧ Q (.str ⟨(List.replicate k.toNat i.cps.toList).flatten.toArray⟩) H
theorem foldl_cps (c : Array Nat) : ∀ (n : Nat) (acc : Array Nat), (List.replicate n c).foldl (· ++ ·) acc = acc ++ (List.replicate n c.toList).flatten.toArray
  | 0, acc => by simp
  | n + 1, acc => by
    rw [List.replicate_succ, List.replicate_succ, List.foldl_cons, foldl_cps c n, List.flatten_cons]
    apply Array.ext'
    simp
theorem op_mulS : OpR X (binaryOp .Mult) rMulS := by
  intro pins s σ H x y v u Q I rx ry h
  obtain ⟨i, k, rfl, rfl, h1, h2, h3, q⟩ := h
  obtain ⟨t, rfl⟩ := rx
  obtain ⟨t', rfl⟩ := ry
  refine PySem.P.mul_str (by
      have a1 : ¬ k < -(2 ^ 63 : Int) := by omega
      have a2 : ¬ k ≥ 2 ^ 63 := by omega
      rw [decide_eq_false a1, decide_eq_false a2]; rfl) (fun g1 g2 g3 => ?_) (fun g1 g2 => ?_) ?_
  · have a3 : (2 ^ 63 - 1 : Int) / k ≥ (2 ^ 63 - 1) / 1000 := by
      have hk : 0 < k := by omega
      refine Int.le_ediv_of_mul_le hk ?_
      have : (2 ^ 63 - 1 : Int) / 1000 * k ≤ (2 ^ 63 - 1 : Int) / 1000 * 1000 := Int.mul_le_mul_of_nonneg_left (by omega) (by decide)
      exact Int.le_trans this (by decide)
    have a4 : ((2 ^ 63 - 1 : Int) / 1000) ≥ 1000 := by decide
    have : (i.length : Int) ≤ 90 := by omega
    omega
  · have a5 : i.length * k.toNat ≤ 90 * 1000 := Nat.mul_le_mul h3 (by omega)
    show decide (i.length * k.toNat > sizeLine) = false
    have a6 : (90 * 1000 : Nat) < sizeLine := by decide
    exact decide_eq_false (by omega)
  · by_cases g1 : k < 1
    · rw [if_pos g1]
      refine ⟨by decide, .str _, H, I.tok _, ⟨_, rfl⟩, ?_⟩
      have e : k.toNat = 0 := by omega
      rw [e] at q
      exact q
    · rw [if_neg g1]
      by_cases g2 : (k == 1 || i.length == 0) = true
      · rw [if_pos g2]
        refine ⟨.str _, H, I, ⟨_, rfl⟩, ?_⟩
        have e : (⟨(List.replicate k.toNat i.cps.toList).flatten.toArray⟩ : Str) = i := by
          simp only [Bool.or_eq_true, beq_iff_eq] at g2
          rcases g2 with g2 | g2
          · subst g2
            simp
          · have : i.cps = #[] := Array.eq_empty_of_size_eq_zero g2
            cases i with
            | mk c =>
              simp only at this
              subst this
              congr 1
              apply Array.ext'
              simp
        rw [e] at q
        exact q
      · rw [if_neg g2]
        refine ⟨?_, .str _, H, I.tok _, ⟨_, rfl⟩, ?_⟩
        · rw [foldl_cps]
          show ((#[] : Array Nat) ++ (List.replicate k.toNat i.cps.toList).flatten.toArray).size ≤ sizeLine
          have a5 : i.length * k.toNat ≤ 90 * 1000 := Nat.mul_le_mul h3 (by omega)
          have a6 : (90 * 1000 : Nat) < sizeLine := by decide
          have a7 : (List.replicate k.toNat i.cps.toList).flatten.length = k.toNat * i.cps.size := by simp
          have a8 : i.length = i.cps.size := rfl
          rw [Array.size_append, List.size_toArray, List.size_toArray, a7, ← a8, Nat.mul_comm]
          show 0 + _ ≤ _
          omega
        · rw [foldl_cps]
          simpa using q

/-! ### operators -/
def opB : Bop → Operator
  | .add => .Add | .sub => .Sub | .mul => .Mult | .fdiv => .FloorDiv | .mod => .Mod | .pow => .Pow | .shr => .RShift | .band => .BitAnd
def rBin (K : PySem.W.Frag) (o : Bop) : R2 := fun x y H Q => ∃ C a b z, Sub C H ∧ RO K C H x a ∧ RO K C H y b ∧ binO o a b = some z ∧ FinO K C H z Q
theorem fin_int {C H : Hp} {i : Int} {Q : VK} (h : FinO K C H (.d (.int i)) Q) : Q (.int i) H := h.1 _ (.int i)
theorem fin_str {C H : Hp} {i : Str} {Q : VK} (h : FinO K C H (.d (.str i)) Q) : Q (.str i) H := h.1 _ (.str i)
theorem fin_bl {C H : Hp} {i : Bool} {Q : VK} (h : FinO K C H (.d (.bl i)) Q) : Q (.bl i) H := h.1 _ (.bl i)
theorem lowW_of {i : Int} (h : lowW i = true) : i.natAbs < 2 ^ 8000 := of_decide_eq_true h
theorem bin_sound (o : Bop) : OpR X (binaryOp (opB o)) (rBin X.K o) := by
  intro pins s σ H x y v u Q I rx ry h
  obtain ⟨C, a, b, z, sC, ra, rb, e, q⟩ := h
  unfold binO at e
  split at e
  · cases e
    exact op_add pins s σ H x y v u Q I rx ry ⟨_, _, ra.int, rb.int, fin_int q⟩
  · split at e
    · cases e
      exact op_add_str pins s σ H x y v u Q I rx ry ⟨_, _, ra.str, rb.str, line_le (by assumption), fin_str q⟩
    · cases e
  · split at e
    · cases e
      rename_i xs ys hl
      obtain ⟨a1, vs, rfl, h1, d1⟩ := ra.asT sC
      obtain ⟨a2, ws, rfl, h2, d2⟩ := rb.asT sC
      rename_i hl
      refine op_catA pins s σ H _ _ v u Q I rx ry ⟨_, _, vs, ws, rfl, rfl, h1, h2, by rw [d1.length, d2.length]; exact line_le hl, fun e1 => ?_, fun _ e2 => ?_, fun _ _ p hp => ?_⟩
      · cases ra with | d ra => cases rb with | d rb =>
        subst e1
        cases d1
        exact q.1 _ rb
      · cases ra with | d ra => cases rb with | d rb =>
        subst e2
        cases d2
        refine q.1 _ ?_
        rw [List.append_nil]
        exact ra
      · exact q.2 _ _ p rfl (d1.append d2) hp
    · cases e
  · split at e
    · rename_i xs ys ex ey
      split at e
      · cases e
        obtain ⟨a1, vs, rfl, h1, d1⟩ := ra.asL sC ex
        obtain ⟨a2, ws, rfl, h2, d2⟩ := rb.asL sC ey
        rename_i hl
        exact op_catR pins s σ H _ _ v u Q I rx ry ⟨_, _, vs, ws, rfl, rfl, h1, h2, by rw [d1.length, d2.length]; exact line_le hl, fun p hp => q _ p (d1.append d2) hp⟩
      · cases e
    · cases e
  · cases e
    exact op_sub pins s σ H x y v u Q I rx ry ⟨_, _, ra.int, rb.int, fin_int q⟩
  · split at e
    · cases e
      rename_i hk
      simp only [Bool.and_eq_true, decide_eq_true_eq] at hk
      exact op_mulS pins s σ H x y v u Q I rx ry ⟨_, _, ra.str, rb.int, hk.1.1, hk.1.2, hk.2, fin_str q⟩
    · cases e
  · split at e
    · cases e
      rename_i hk
      simp only [Bool.and_eq_true] at hk
      exact op_mulW pins s σ H x y v u Q I rx ry ⟨_, _, ra.int, rb.int, wide_mul (lowW_of hk.1) (lowW_of hk.2) (by decide) (by decide) (by decide), fin_int q⟩
    · cases e
  · split at e
    · cases e
      rename_i hk
      simp only [Bool.and_eq_true, decide_eq_true_eq] at hk
      exact op_fdivW pins s σ H x y v u Q I rx ry ⟨_, _, ra.int, rb.int, wide_div hk.1 (lowW_of hk.2) (by decide) (by decide), fin_int q⟩
    · cases e
  · split at e
    · cases e
      exact op_mod pins s σ H x y v u Q I rx ry ⟨_, _, ra.int, rb.int, by assumption, fin_int q⟩
    · cases e
  · split at e
    · cases e
      exact op_pow pins s σ H x y v u Q I rx ry ⟨_, _, ra.int, rb.int, by assumption, fin_int q⟩
    · cases e
  · split at e
    · cases e
      exact op_shr pins s σ H x y v u Q I rx ry ⟨_, _, ra.int, rb.int, by assumption, fin_int q⟩
    · cases e
  · cases e
    exact op_and pins s σ H x y v u Q I rx ry ⟨_, _, ra.int, rb.int, fin_int q⟩
  · cases e

/-! ### comparisons -/
def opC : Cop → CmpOp
  | .eq => .Eq | .ne => .NotEq | .lt => .Lt | .le => .LtE | .gt => .Gt | .ge => .GtE | .isin => .In | .notin => .NotIn | .is => .Is | .isnot => .IsNot
def rCmpO (K : PySem.W.Frag) (o : Cop) : R2 := fun x y H Q => ∃ C a b k, Sub C H ∧ RO K C H x a ∧ RO K C H y b ∧ cmpO o a b = some k ∧ Q (.bl k) H
mutual
theorem DR.dp : ∀ {v : V} {d : D}, DR K H v d → (toPy d).canLay0 = true → Dp K H v (toPy d)
  | _, _, .non, _ => .non
  | _, _, .bl b, _ => .bl b
  | _, _, .int i, _ => .int i
  | _, _, .str x, _ => .str x
  | _, _, .tup h hs, c => .tup h (DRs.dp hs (by rw [toPy, PyData.canLay0] at c; exact c))
  | _, _, .lst h hs, c => .lst h (DRs.dp hs (by rw [toPy, PyData.canLay0] at c; exact c))
  | _, .dct _ _, _, c => absurd c (by rw [toPy, PyData.canLay0]; exact Bool.false_ne_true)
  | _, .dtt _ _, _, c => absurd c (by rw [toPy, PyData.canLay0]; exact Bool.false_ne_true)
  | _, .ins _ _, _, c => absurd c (by rw [toPy, PyData.canLay0]; exact Bool.false_ne_true)
theorem DRs.dp : ∀ {vs : List V} {ds : List D}, DRs K H vs ds → PyData.canLayAll0 (toPys ds) = true → DpAll K H vs (toPys ds)
  | _, _, .nil, _ => .nil
  | _, _, .cons h hs, c => by
    rw [toPys, PyData.canLayAll0, Bool.and_eq_true] at c
    exact .cons (DR.dp h c.1) (DRs.dp hs c.2)
end
theorem zip_len {ks : List Ky} {vs : List V} (h : ks.length = vs.length) : (ks.zip vs).length = ks.length := by rw [List.length_zip]; omega
theorem getK_mem {α : Type} : ∀ {ks : List Ky} {vs : List α} {k : Ky} {v : α}, getK ks vs k = some v → v ∈ vs
  | [], _, _, _, h => by cases h
  | _ :: _, [], _, _, h => by cases h
  | j :: ks, x :: vs, k, v, h => by
    unfold getK at h
    split at h
    · cases h; exact .head _
    · exact .tail _ (getK_mem h)
theorem hits_of {X : Cx} {pins : List (Addr × Obj)} {σ : L2.St} {s : Shared} (hu : X.A.units + 66 < cLine) (I : Inv X pins σ H s) {kb : List (Key × Value)} {ks' : List Ky} {ys : List V} {vs' : List D} (hl' : ks'.length = ys.length) (hd' : DRs X.K H ys vs') (hs' : vs'.all shD = true) (rb : KV (ks'.zip ys) kb) :
    ∀ {ks : List Ky} {xs : List V} {vs : List D} {ka : List (Key × Value)}, ks.length = xs.length → DRs X.K H xs vs → vs.all shD = true → KV (ks.zip xs) ka → PySem.W.KeqHits X.A.in1 s kb ka (hitK ks' vs' ks vs)
  | [], _, _, _, _, _, _, r => by cases r; exact .nil
  | k :: ks, [], _, _, h, _, _, _ => by simp at h
  | k :: ks, x :: xs, _, _, hl, .cons a b, hs, r => by
    rw [List.zip_cons_cons] at r
    rw [List.all_cons, Bool.and_eq_true] at hs
    cases r with
    | @cons _ q _ ka r1 r2 =>
    obtain ⟨k1, u⟩ := q
    obtain ⟨e1, rv⟩ := r1
    dsimp only at e1 rv
    subst e1
    have ih := hits_of hu I hl' hd' hs' rb (by simpa using hl) b hs.2 r2
    have rk := rb.val k
    unfold hitK
    rcases getK_eq hl' hd' k with ⟨g1, g2⟩ | ⟨w', d', g1, g2, g3⟩
    · rw [g2] at rk
      rw [g1]
      exact .miss (RelO.none_of rk)
    · rw [g2] at rk
      obtain ⟨uy, hy, ry⟩ := RelO.some_of rk
      rw [g1]
      have hsy : SeqAt.shaped (toPy d') = true := by
        have hmem : d' ∈ vs' := getK_mem g1
        exact List.all_eq_true.mp hs' d' hmem
      obtain ⟨as, ra1⟩ := Dp.reads I (toPy _) x u (a.dp (SeqAt.canLay_of_shaped hs.1)) rv
      obtain ⟨bs, rb1⟩ := Dp.reads I (toPy d') w' uy (g3.dp (SeqAt.canLay_of_shaped hsy)) ry
      exact .hit hy (PySem.W.keq_at ra1 rb1 hs.1 hsy (by show X.A.units + 1 + 64 < cLine; omega)) ih
theorem eqD_sound {x y : V} {a b : D} {k : Bool} (ha : DR K H x a) (hb : DR K H y b) (e : eqD a b = some k) : (scal x y = true ∧ decide (x = y) = k) ∨ (SeqAt.shaped (toPy a) = true ∧ SeqAt.shaped (toPy b) = true ∧ PyData.eqv (toPy a) (toPy b) = k) ∨
    ∃ ks vs ks' vs', a = .dct ks vs ∧ b = .dct ks' vs' ∧ vs.all shD = true ∧ vs'.all shD = true ∧ (ks.length == ks'.length && hitK ks' vs' ks vs) = k := by
  unfold eqD at e
  split at e <;> first
    | (split at e
       · rename_i hk
         rw [Bool.and_eq_true] at hk
         cases e
         exact .inr (.inr ⟨_, _, _, _, rfl, rfl, hk.1, hk.2, rfl⟩)
       · cases e)
    | (cases ha; cases hb; cases e; refine Or.inl ⟨rfl, ?_⟩; simp; done)
    | (split at e
       · rename_i hk
         simp only [Bool.and_eq_true] at hk
         cases e
         exact .inr (.inl ⟨hk.1, hk.2, rfl⟩)
       · cases e)
theorem inF_sound {x : V} {a : D} (ha : DR K H x a) : ∀ {vs : List V} {ds : List D} {k : Bool}, DRs K H vs ds → inF a ds = some k → flatV x = true ∧ vs.all flatV = true ∧ inV x vs = k := by
  have key : ∀ {y : V} {b : D} {k : Bool}, DR K H y b → eqF b a = some k → flatV x = true ∧ flatV y = true ∧ eqV y x = k := fun {y b k} hb e => by
    unfold eqF at e
    split at e <;> first
      | (cases e; done)
      | (cases ha; cases hb; cases e; refine ⟨rfl, rfl, ?_⟩; simp [eqV, Bool.beq_eq_decide_eq])
  intro vs ds k h e
  induction ds generalizing vs k with
  | nil =>
    cases h
    unfold inF at e
    split at e
    · rename_i hs
      cases e
      refine ⟨?_, rfl, rfl⟩
      cases ha <;> first | rfl | cases hs
    · cases e
  | cons d r ih => cases h with | @cons y ys _ _ hy hys =>
    unfold inF at e
    split at e
    · cases e
    · rename_i b eb
      split at e
      · cases e
      · rename_i c ec
        cases e
        obtain ⟨f1, f2, f3⟩ := key hy eb
        · obtain ⟨g1, g2, g3⟩ := ih hys ec
          refine ⟨f1, by simp [f2] at g2 ⊢; exact g2, ?_⟩
          unfold inV at g3 ⊢
          rw [List.any_cons, f3, g3]

theorem cmp_sound (o : Cop) (hu : X.A.units + 66 < cLine) : OpR X (compareOp (opC o)) (rCmpO X.K o) := by
  intro pins s σ H x y v u Q I rx ry h
  obtain ⟨C, a, b, k, sC, ra, rb, e, q⟩ := h
  have fa := ra.frz sC
  have fb := rb.frz sC
  cases o with
  | eq =>
    rcases eqD_sound fa fb e with ⟨h1, h2⟩ | ⟨h1, h2, h3⟩ | ⟨ks, vs, ks', vs', ea, eb, h1, h2, h3⟩
    · exact op_eq pins s σ H x y v u Q I rx ry ⟨h1, by rw [h2]; exact q⟩
    · exact op_eqD (by omega) pins s σ H x y v u Q I rx ry ⟨_, _, fa.dp (SeqAt.canLay_of_shaped h1), fb.dp (SeqAt.canLay_of_shaped h2), h1, h2, by rw [h3]; exact q⟩
    · rw [ea] at fa
      rw [eb] at fb
      cases fa with | @dct pa _ xs _ hra hla hda =>
      cases fb with | @dct pb _ ys _ hrb hlb hdb =>
      cases rx
      cases ry
      obtain ⟨za, na, va, ka, da⟩ := dk_rd I.hok hra
      obtain ⟨zb, nb, vb, kb, db⟩ := dk_rd I.hok hrb
      refine PySem.W.keq_eq na nb da db (by omega) (fun _ => hits_of hu I hlb hdb h2 kb hla hda h1 ka) ⟨.bl _, H, I, rfl, ?_⟩
      have e1 : va.length = ks.length := by rw [← ka.length, zip_len hla]
      have e2 : vb.length = ks'.length := by rw [← kb.length, zip_len hlb]
      rw [e1, e2, h3]
      exact q
  | ne =>
    obtain ⟨j, ej, rfl⟩ := Option.map_eq_some_iff.mp e
    rcases eqD_sound fa fb ej with ⟨h1, h2⟩ | ⟨h1, h2, h3⟩ | ⟨ks, vs, ks', vs', ea, eb, h1, h2, h3⟩
    · exact op_ne pins s σ H x y v u Q I rx ry ⟨h1, by rw [h2]; exact q⟩
    · exact op_neD (by omega) pins s σ H x y v u Q I rx ry ⟨_, _, fa.dp (SeqAt.canLay_of_shaped h1), fb.dp (SeqAt.canLay_of_shaped h2), h1, h2, by rw [h3]; exact q⟩
    · rw [ea] at fa
      rw [eb] at fb
      cases fa with | @dct pa _ xs _ hra hla hda =>
      cases fb with | @dct pb _ ys _ hrb hlb hdb =>
      cases rx
      cases ry
      obtain ⟨za, na, va, ka, da⟩ := dk_rd I.hok hra
      obtain ⟨zb, nb, vb, kb, db⟩ := dk_rd I.hok hrb
      refine PySem.W.keq_ne na nb da db (by omega) (fun _ => hits_of hu I hlb hdb h2 kb hla hda h1 ka) ⟨.bl _, H, I, rfl, ?_⟩
      have e1 : va.length = ks.length := by rw [← ka.length, zip_len hla]
      have e2 : vb.length = ks'.length := by rw [← kb.length, zip_len hlb]
      rw [e1, e2, h3]
      exact q
  | lt =>
    simp only [cmpO] at e
    split at e
    · cases e; exact op_lt pins s σ H x y v u Q I rx ry ⟨_, _, ra.int, rb.int, q⟩
    · cases e
  | le =>
    simp only [cmpO] at e
    split at e
    · cases e; exact op_le pins s σ H x y v u Q I rx ry ⟨_, _, ra.int, rb.int, q⟩
    · cases e; exact op_le_str pins s σ H x y v u Q I rx ry ⟨_, _, ra.str, rb.str, q⟩
    · cases e
  | gt =>
    simp only [cmpO] at e
    split at e
    · cases e; exact op_gt pins s σ H x y v u Q I rx ry ⟨_, _, ra.int, rb.int, q⟩
    · cases e
  | ge =>
    simp only [cmpO] at e
    split at e
    · cases e; exact op_ge pins s σ H x y v u Q I rx ry ⟨_, _, ra.int, rb.int, q⟩
    · cases e
  | isin =>
    simp only [cmpO] at e
    split at e
    · rename_i xs ex
      rw [ex] at fb
      cases fb with | @lst l ys _ hl hd =>
      · obtain ⟨g1, g2, g3⟩ := inF_sound fa hd e
        exact op_in_seq pins s σ H x _ v u Q I rx ry ⟨l, ys, rfl, .inl hl, g1, g2, by rw [g3]; exact q⟩
    · rename_i xs ex
      rw [ex] at fb
      cases fb with | @tup l ys _ hl hd =>
      · obtain ⟨g1, g2, g3⟩ := inF_sound fa hd e
        exact op_in_seq pins s σ H x _ v u Q I rx ry ⟨l, ys, rfl, .inr hl, g1, g2, by rw [g3]; exact q⟩
    · rename_i ks vs ez
      split at e
      · rename_i c ec
        cases e
        rw [ez] at fb
        cases fb with | @dct l _ ys _ hl hn hd =>
        cases ry
        rw [getK_some hn hd] at q
        exact d_in (by omega) I (.inl ⟨_, c, hl, ra.asK ec, rfl⟩) rx fun s' I' => ⟨.bl _, H, I', rfl, q⟩
      · cases e
    · rename_i z ez
      split at e
      · rename_i c ec
        split at e
        · rename_i hc
          cases e
          rw [ez] at fb; rw [ec] at fa
          cases fa; cases fb
          obtain ⟨arr⟩ := c
          have h1 : arr.size = 1 := hc
          obtain ⟨c0, rfl⟩ : ∃ c0, arr = #[c0] := Array.size_eq_one_iff.mp h1
          exact op_in_sign pins s σ H _ _ v u Q I rx ry ⟨c0, z, rfl, rfl, q⟩
        · cases e
      · cases e
    · cases e
  | notin =>
    simp only [cmpO] at e
    split at e
    · rename_i xs ex
      obtain ⟨j, ej, rfl⟩ := Option.map_eq_some_iff.mp e
      rw [ex] at fb
      cases fb with | @lst l ys _ hl hd =>
      · obtain ⟨g1, g2, g3⟩ := inF_sound fa hd ej
        exact op_notIn_seq pins s σ H x _ v u Q I rx ry ⟨l, ys, rfl, .inl hl, g1, g2, by rw [g3]; exact q⟩
    · rename_i xs ex
      obtain ⟨j, ej, rfl⟩ := Option.map_eq_some_iff.mp e
      rw [ex] at fb
      cases fb with | @tup l ys _ hl hd =>
      · obtain ⟨g1, g2, g3⟩ := inF_sound fa hd ej
        exact op_notIn_seq pins s σ H x _ v u Q I rx ry ⟨l, ys, rfl, .inr hl, g1, g2, by rw [g3]; exact q⟩
    · rename_i ks vs ez
      split at e
      · rename_i c ec
        cases e
        rw [ez] at fb
        cases fb with | @dct l _ ys _ hl hn hd =>
        cases ry
        rw [getK_some hn hd] at q
        exact d_notIn (by omega) I (.inl ⟨_, c, hl, ra.asK ec, rfl⟩) rx fun s' I' => ⟨.bl _, H, I', rfl, q⟩
      · cases e
    · cases e
  | is =>
    simp only [cmpO] at e
    split at e
    · rename_i eb
      rw [eb] at fb
      cases fb
      refine op_isN pins s σ H x _ v u Q I rx ry ⟨rfl, ?_⟩
      have hk : decide (x = .non) = k := by
        cases fa' : frz a with
        | non => rw [fa'] at fa e; cases fa; cases e; rfl
        | bl _ => rw [fa'] at fa e; cases fa; cases e; rfl
        | int _ => rw [fa'] at fa e; cases fa; cases e; rfl
        | str _ => rw [fa'] at fa e; cases fa; cases e; rfl
        | tup _ => rw [fa'] at fa e; cases fa; cases e; rfl
        | lst _ => rw [fa'] at fa e; cases fa; cases e; rfl
        | dct _ _ => rw [fa'] at fa e; cases fa; cases e; rfl
        | dtt _ _ => rw [fa'] at fa e; cases fa; cases e; rfl
        | ins _ _ => rw [fa'] at fa e; cases fa; cases e; rfl
      rw [hk]; exact q
    · rename_i j eb
      split at e
      · rename_i i ea
        cases e
        rw [eb] at fb; rw [ea] at fa
        cases fa; cases fb
        exact op_isBl pins s σ H _ _ v u Q I rx ry ⟨_, _, rfl, rfl, q⟩
      · cases e
    · cases e
  | isnot =>
    simp only [cmpO] at e
    split at e
    · rename_i eb
      rw [eb] at fb
      cases fb
      refine op_notN pins s σ H x _ v u Q I rx ry ⟨rfl, ?_⟩
      have hk : (!decide (x = .non)) = k := by
        cases fa' : frz a with
        | non => rw [fa'] at fa e; cases fa; cases e; rfl
        | bl _ => rw [fa'] at fa e; cases fa; cases e; rfl
        | int _ => rw [fa'] at fa e; cases fa; cases e; rfl
        | str _ => rw [fa'] at fa e; cases fa; cases e; rfl
        | tup _ => rw [fa'] at fa e; cases fa; cases e; rfl
        | lst _ => rw [fa'] at fa e; cases fa; cases e; rfl
        | dct _ _ => rw [fa'] at fa e; cases fa; cases e; rfl
        | dtt _ _ => rw [fa'] at fa e; cases fa; cases e; rfl
        | ins _ _ => rw [fa'] at fa e; cases fa; cases e; rfl
      rw [hk]; exact q
    · rename_i j eb
      split at e
      · rename_i i ea
        cases e
        rw [eb] at fb; rw [ea] at fa
        cases fa; cases fb
        exact op_notBl pins s σ H _ _ v u Q I rx ry ⟨_, _, rfl, rfl, q⟩
      · cases e
    · cases e
end
end Ev
namespace Ev
open PySem PySem.Spec PyProof.Rows L2
variable [Γ : Clz]
/-! ### built-ins -/
section
variable {X : Cx} {K : PySem.W.Frag} {C H : Hp} {v : V} {o : O}
theorem allI_sound : ∀ {vs : List V} {ds : List D} {is : List Int}, DRs K H vs ds → allI ds = some is → vs = is.map V.int := by
  intro vs ds is h e
  induction ds generalizing vs is with
  | nil => cases h; cases e; rfl
  | cons d r ih => cases h with | cons hd hs =>
    cases hd with
    | int i =>
      simp only [allI] at e
      split at e
      · rename_i js ej
        cases e
        rw [ih hs ej]; rfl
      · cases e
    | _ => cases e
theorem allB_sound : ∀ {vs : List V} {ds : List D} {is : List Bool}, DRs K H vs ds → allB ds = some is → vs = is.map V.bl := by
  intro vs ds is h e
  induction ds generalizing vs is with
  | nil => cases h; cases e; rfl
  | cons d r ih => cases h with | cons hd hs =>
    cases hd with
    | bl i =>
      simp only [allB] at e
      split at e
      · rename_i js ej
        cases e
        rw [ih hs ej]; rfl
      · cases e
    | _ => cases e
/-- what a built-in of one argument is to its values -/
def rBi (K : PySem.W.Frag) (b : Bi) : List V → Hp → VK → Prop := fun vs H Q => ∃ C x a z, vs = [x] ∧ Sub C H ∧ RO K C H x a ∧ biO b a = some z ∧ FinO K C H z Q
def biV : Bi → Value
  | .len => .builtin "len" | .list => .type "list" | .tuple => .type "tuple" | .sum => .builtin "sum" | .all => .builtin "all" | .any => .builtin "any" | .int => .type "int" | .abs => .builtin "abs" | .dict => .type "dict" | .str => .type "str"
theorem lst_of_asL {xs : List D} (e : asL o = some xs) : frz o = .lst xs := by
  cases o with
  | lst _ => cases e; rfl
  | dct _ _ => cases e
  | dtt _ _ => cases e
  | ins _ _ => cases e
  | d x => cases x <;> first | (cases e; rfl) | cases e
/-- list(d), of a dict that may be known -/
theorem call_list_dR (hc : X.calm = true) : CallR X (.type "list") (fun xs H Q => ∃ p kvs, xs = [.ref p] ∧ Rd H p (.dK kvs) ∧ ∀ q, H q = none → Q (.ref q) (upd H q (.lst (kvs.map fun kv => kV kv.1)))) := by
  intro pins s σ H xs us Q I r h
  obtain ⟨p, kvs, e, hk, q⟩ := h
  subst e
  obtain ⟨u, eu, rx⟩ := vals1 r
  subst eu
  obtain rfl : u = Value.ref p := rx
  obtain ⟨z, lo, vs, rk, hd⟩ := dk_rd I.hok hk
  obtain ⟨ep, hat⟩ := hd.dictAt
  have hl : kvs.length = vs.length := Paired.length rk
  refine PySem.W.kdl_call (PySem.W.kdl_dict (knd := mixKind X.prog X.w) (kvs := vs) (ep := ep) lo) (I.ok.hd hc) hat (by rw [← hl]; exact z) fun h' tk acc' c' hkeep hS hacc => ?_
  refine ⟨.ref s.heap.objs.size, upd H s.heap.objs.size (.lst (kvs.map fun kv => kV kv.1)), I.laid hkeep (Nat.le_refl _) (show ObjOk X.prog X.w _ _ _ (.lst (kvs.map fun kv => kV kv.1)) from ⟨?_, acc'.toList, c', ?_, ?_⟩), rfl, q _ (I.hok.fresh (Nat.le_refl _))⟩
  · rw [List.length_map]; exact z
  · have el : acc'.toList.length = acc'.size := by simp
    refine vals_of_at (by rw [List.length_map, el, hacc.1, hl]) fun j x w h1 h2 => ?_
    obtain ⟨k, y, hky, hi⟩ := hacc.2 j w (by rw [← Array.getElem?_toList]; exact h2)
    have e1 : (kvs.map (·.1))[j]? = some k := by
      rw [KV.keys rk, List.getElem?_map, hky] <;> rfl
    have e2 : (kvs.map fun kv => kV kv.1)[j]? = some (kV k) := by
      have e3 : (kvs.map fun kv => kV kv.1) = (kvs.map (·.1)).map kV := by rw [List.map_map] <;> rfl
      rw [e3, List.getElem?_map, e1] <;> rfl
    rw [e2] at h1
    cases h1
    exact keyIs_rel hi
  · rw [Array.toArray_toList]; exact hS
theorem call_len_dR : CallR X (.builtin "len") (fun xs H Q => ∃ p kvs, xs = [.ref p] ∧ Rd H p (.dK kvs) ∧ Q (.int kvs.length) H) := by
  intro pins s σ H xs us Q I r h
  obtain ⟨p, kvs, e, hk, q⟩ := h
  subst e
  obtain ⟨u, eu, rx⟩ := vals1 r
  subst eu
  obtain rfl : u = Value.ref p := rx
  exact d_len I hk fun t s' I' => ⟨.int kvs.length, H, I', ⟨t, rfl⟩, q⟩
theorem call_dict_cp : CallR X (.type "dict") (fun xs H Q => ∃ p kvs, xs = [.ref p] ∧ Rd H p (.dK kvs) ∧ ∀ q, H q = none → Q (.ref q) (upd H q (.dK kvs))) := by
  intro pins s σ H xs us Q I r h
  obtain ⟨p, kvs, e, hk, q⟩ := h
  subst e
  obtain ⟨u, eu, rx⟩ := vals1 r
  subst eu
  obtain rfl : u = Value.ref p := rx
  obtain ⟨z, lo, vs, rk, hd⟩ := dk_rd I.hok hk
  refine PySem.kt_call_dict lo hd (by rw [← rk.length]; exact z) fun h' hd' hs' => ?_
  refine ⟨.ref s.heap.objs.size, upd H s.heap.objs.size (.dK kvs), I.laid (t' := s.toks) (fun b ob q => ?_) (Nat.le_refl _) (show ObjOk X.prog X.w _ _ _ (.dK kvs) from ⟨z, beq_eq_false_iff_ne.mpr (Ne.symm (Nat.ne_of_lt I.big)), vs, rk, hd'⟩), rfl, q _ (I.hok.fresh (Nat.le_refl _))⟩
  exact (hs'.2 b (Nat.ne_of_lt (Heap.lt_size q))).trans (Heap.get?_push_of_some _ q)
theorem keys_dr : ∀ {ks : List Ky} {vs : List V}, ks.length = vs.length → DRs K C ((ks.zip vs).map fun kv => kV kv.1) (ks.map keyD)
  | [], _, _ => .nil
  | k :: ks, [], h => by simp at h
  | k :: ks, v :: vs, h => by
    rw [List.zip_cons_cons, List.map_cons, List.map_cons]
    refine .cons ?_ (keys_dr (by simpa using h))
    cases k with
    | inl i => exact .int i
    | inr x => exact .str x
theorem RO.dct' {ks : List Ky} {ds : List D} (h : RO K C H v (.d (.dct ks ds)) ∨ RO K C H v (.dct ks ds)) (s : Sub C H) : ∃ a xs, v = .ref a ∧ Rd H a (.dK (ks.zip xs)) ∧ ks.length = xs.length ∧ DRs K C xs ds := h.elim (fun h => h.asM s rfl) fun h => h.asM s rfl
theorem bi_sound (b : Bi) (hc : X.calm = true) : CallR X (biV b) (rBi X.K b) := by
  intro pins s σ H vs us Q I rv h
  obtain ⟨C, x, a, z, rfl, sC, ra, e, q⟩ := h
  cases b with
  | len =>
    simp only [biO] at e
    split at e
    · split at e
      · cases e
        exact call_len_str pins s σ H _ us Q I rv ⟨_, by rw [ra.str], line_le (by assumption), fin_int q⟩
      · cases e
    · cases e
      obtain ⟨p, ys, rfl, h1, d1⟩ := ra.asT sC
      exact call_len_seq pins s σ H _ us Q I rv ⟨p, ys, rfl, .inr h1, by rw [d1.length]; exact fin_int q⟩
    · cases e
      obtain ⟨p, ys, rfl, h1, hl, d1⟩ := RO.dct' (.inl ra) sC
      exact call_len_dR pins s σ H _ us Q I rv ⟨p, _, rfl, h1, by rw [zip_len hl]; exact fin_int q⟩
    · cases e
      obtain ⟨p, ys, rfl, h1, hl, d1⟩ := RO.dct' (.inr ra) sC
      exact call_len_dR pins s σ H _ us Q I rv ⟨p, _, rfl, h1, by rw [zip_len hl]; exact fin_int q⟩
    · split at e
      · rename_i xs ex
        cases e
        obtain ⟨p, ys, rfl, h1, d1⟩ := ra.asL sC ex
        exact call_len_seq pins s σ H _ us Q I rv ⟨p, ys, rfl, .inl h1, by rw [d1.length]; exact fin_int q⟩
      · cases e
  | list =>
    simp only [biO] at e
    split at e
    · cases e
      obtain ⟨p, ys, rfl, h1, d1⟩ := ra.asT sC
      exact call_list_of pins s σ H _ us Q I rv ⟨p, ys, rfl, .inr h1, fun l hl => q _ l d1 hl⟩
    · cases e
      obtain ⟨p, ys, rfl, h1, hl, d1⟩ := RO.dct' (.inl ra) sC
      exact call_list_dR hc pins s σ H _ us Q I rv ⟨p, _, rfl, h1, fun l hn => q _ l (keys_dr hl) hn⟩
    · cases e
      obtain ⟨p, ys, rfl, h1, hl, d1⟩ := RO.dct' (.inr ra) sC
      exact call_list_dR hc pins s σ H _ us Q I rv ⟨p, _, rfl, h1, fun l hn => q _ l (keys_dr hl) hn⟩
    · split at e
      · rename_i xs ex
        cases e
        obtain ⟨p, ys, rfl, h1, d1⟩ := ra.asL sC ex
        exact call_list_of pins s σ H _ us Q I rv ⟨p, ys, rfl, .inl h1, fun l hl => q _ l d1 hl⟩
      · cases e
  | tuple =>
    simp only [biO] at e
    split at e
    · cases e
      obtain ⟨p, ys, ep, h1, d1⟩ := ra.asT sC
      subst ep
      cases ra with | d ra =>
      exact call_tuple_of pins s σ H _ us Q I rv ⟨p, ys, rfl, .inr ⟨h1, q.1 _ ra⟩⟩
    · split at e
      · rename_i xs ex
        cases e
        obtain ⟨p, ys, rfl, h1, d1⟩ := ra.asL sC ex
        exact call_tuple_of pins s σ H _ us Q I rv ⟨p, ys, rfl, .inl ⟨h1, fun l hl => q.2 _ _ l rfl d1 hl⟩⟩
      · cases e
  | sum =>
    simp only [biO] at e
    split at e
    · rename_i xs ex
      split at e
      · rename_i is ei
        cases e
        obtain ⟨p, ys, rfl, h1, d1⟩ := ra.asL sC ex
        have ey := allI_sound d1 ei
        subst ey
        exact cr_sum hc pins s σ H _ us Q I rv ⟨p, is, rfl, h1, fin_int q⟩
      · cases e
    · cases e
  | all =>
    simp only [biO] at e
    split at e
    · rename_i xs ex
      split at e
      · rename_i is ei
        cases e
        obtain ⟨p, ys, rfl, h1, d1⟩ := ra.asL sC ex
        have ey := allB_sound d1 ei
        subst ey
        exact cr_all hc pins s σ H _ us Q I rv ⟨p, is, rfl, h1, fin_bl q⟩
      · cases e
    · cases e
  | any =>
    simp only [biO] at e
    split at e
    · rename_i xs ex
      split at e
      · rename_i is ei
        cases e
        obtain ⟨p, ys, rfl, h1, d1⟩ := ra.asL sC ex
        have ey := allB_sound d1 ei
        subst ey
        exact cr_any hc pins s σ H _ us Q I rv ⟨p, is, rfl, h1, fin_bl q⟩
      · cases e
    · cases e
  | int =>
    simp only [biO] at e
    split at e
    · cases e; exact call_int1 pins s σ H _ us Q I rv (.inl ⟨_, by rw [ra.int], fin_int q⟩)
    · cases e; exact call_int1 pins s σ H _ us Q I rv (.inr ⟨_, by rw [ra.bl], fin_int q⟩)
    · split at e
      · obtain ⟨n, en, rfl⟩ := Option.map_eq_some_iff.mp e
        exact call_int_str pins s σ H _ us Q I rv ⟨_, n, by rw [ra.str], en, by assumption, fin_int q⟩
      · cases e
    · cases e
  | str =>
    simp only [biO] at e
    split at e
    · split at e
      · cases e
        exact call_str_int pins s σ H _ us Q I rv ⟨_, by rw [ra.int], by assumption, fin_str q⟩
      · cases e
    · cases e
  | abs =>
    simp only [biO] at e
    split at e
    · cases e; exact call_abs pins s σ H _ us Q I rv ⟨_, by rw [ra.int], fin_int q⟩
    · cases e
  | dict =>
    simp only [biO] at e
    split at e
    · cases e
      obtain ⟨p, ys, rfl, h1, hl, d1⟩ := RO.dct' (.inl ra) sC
      exact call_dict_cp pins s σ H _ us Q I rv ⟨p, _, rfl, h1, fun l hn => q _ l hl d1 hn⟩
    · cases e
      obtain ⟨p, ys, rfl, h1, hl, d1⟩ := RO.dct' (.inr ra) sC
      exact call_dict_cp pins s σ H _ us Q I rv ⟨p, _, rfl, h1, fun l hn => q _ l hl d1 hn⟩
    · cases e
def rBi2 (K : PySem.W.Frag) (b : Bi2) : List V → Hp → VK → Prop := fun vs H Q => ∃ C x y a a' z, vs = [x, y] ∧ Sub C H ∧ RO K C H x a ∧ RO K C H y a' ∧ bi2O b a a' = some z ∧ FinO K C H z Q
def bi2V : Bi2 → Value
  | .min => .builtin "min" | .max => .builtin "max"
theorem bi2_sound (b : Bi2) (hc : X.calm = true) : CallR X (bi2V b) (rBi2 X.K b) := by
  intro pins s σ H vs us Q I rv h
  obtain ⟨C, x, y, a, a', z, rfl, sC, ra, rb, e, q⟩ := h
  cases b with
  | min =>
    unfold bi2O at e
    split at e
    · cases e; exact call_min2 hc pins s σ H _ us Q I rv ⟨_, _, by rw [ra.int, rb.int], fin_int q⟩
    · contradiction
    · cases e
  | max =>
    unfold bi2O at e
    split at e
    · contradiction
    · cases e; exact call_max2 hc pins s σ H _ us Q I rv ⟨_, _, by rw [ra.int, rb.int], fin_int q⟩
    · cases e
/-! ### isinstance -/
def tyN : Ty → String
  | .int => "int" | .bool => "bool" | .str => "str" | .list => "list" | .tuple => "tuple" | .dict => "dict"
theorem sqT_ty {p : Addr} {xs : List V} (h : SqT K H p xs) : TyX K H (.ref p) (.type "tuple") := by
  rcases h with (h | ⟨o, h⟩) | h
  · exact .base (.tup h)
  · exact .fTuple h
  · obtain ⟨o, its, n, e, c, _⟩ := h
    exact .kTuple e c
theorem rdL_ty {p : Addr} {xs : List V} (h : SqL K H p xs) : TyX K H (.ref p) (.type "list") := by
  rcases h with (h | ⟨o, h⟩) | h
  · exact .base (.lst h)
  · exact .base (.frz h)
  · obtain ⟨o, its, n, e, c, _⟩ := h
    exact .kList e c
theorem rdD_ty {p : Addr} {kvs : List (Key × V)} (h : Rd H p (.dK kvs)) : TyX K H (.ref p) (.type "dict") := by
  rcases h with h | ⟨o, h⟩
  · exact .base (.dK h)
  · exact .fDict h
def rIsiO (K : PySem.W.Frag) (t : Ty) : List V → Hp → VK → Prop := fun vs H Q => ∃ C x o, vs = [x, .ty (tyN t)] ∧ Sub C H ∧ RO K C H x o ∧ isIns (frz o) = false ∧ Q (.bl (isTy (frz o) t)) H
theorem isi_sound (t : Ty) : CallR X (.builtin "isinstance") (rIsiO X.K t) := by
  intro pins s σ H vs us Q I rv h
  obtain ⟨C, x, o, rfl, sC, ra, hno, q⟩ := h
  have fa := ra.frz sC
  generalize frz o = d at fa q hno
  have go : ∀ (ty : String) (b : Bool), TyX X.K H x (.type ty) → kitB ty (tyN t) = some b → isTy d t = b → wpAny (model X.prog X.w) X.A (call (.builtin "isinstance") us) (EP X pins σ Q) X.xe s := fun ty b hx hk hb =>
    call_isi pins s σ H _ us Q I rv ⟨x, .ty (tyN t), .type ty, .type (tyN t), b, rfl, .ty _, hx, kit_ty hk, by rw [← hb]; exact q⟩
  cases fa with
  | non => cases t <;> exact go "NoneType" false (.base .non) (by decide +kernel) rfl
  | bl b => cases t <;> first | exact go "bool" false (.base (.bl _)) (by decide +kernel) rfl | exact go "bool" true (.base (.bl _)) (by decide +kernel) rfl
  | int b => cases t <;> first | exact go "int" false (.base (.int _)) (by decide +kernel) rfl | exact go "int" true (.base (.int _)) (by decide +kernel) rfl
  | str b => cases t <;> first | exact go "str" false (.base (.str _)) (by decide +kernel) rfl | exact go "str" true (.base (.str _)) (by decide +kernel) rfl
  | tup hq hs => cases t <;> first | exact go "tuple" false (sqT_ty hq) (by decide +kernel) rfl | exact go "tuple" true (sqT_ty hq) (by decide +kernel) rfl
  | lst hq hs =>
    have hx := rdL_ty (K := X.K) hq
    cases t <;> first | exact go "list" false hx (by decide +kernel) rfl | exact go "list" true hx (by decide +kernel) rfl
  | dct hq hl hs =>
    have hx := rdD_ty (K := X.K) hq
    cases t <;> first | exact go "dict" false hx (by decide +kernel) rfl | exact go "dict" true hx (by decide +kernel) rfl
  | dtt _ _ _ => cases hno
  | ins _ _ _ => cases hno
/-! ### subscripts, slices -/
theorem atD_eq {vs : List V} {ds : List D} (h : DRs K C vs ds) {i : Int} {d : D} (e : atD ds i = some d) : ∃ v, atI vs i = some v ∧ DR K C v d := by
  have hl := h.length
  unfold atD at e
  unfold atI ixN
  split at e
  · rename_i h0
    have hlt : i.toNat < ds.length := (List.getElem?_eq_some_iff.mp e).1
    rw [if_pos h0, if_pos (by omega)]
    exact h.get e
  · rename_i h0
    split at e
    · rename_i h1
      rw [if_neg h0, if_pos (by omega)]
      show ∃ v, vs[(i + (vs.length : Int)).toNat]? = some v ∧ DR K C v d
      rw [hl]
      exact h.get e
    · cases e
def rIxO (K : PySem.W.Frag) : R2 := fun x y H Q => ∃ C a b d, Sub C H ∧ RO K C H x a ∧ RO K C H y b ∧ ixO a b = some d ∧ ∀ v, DR K C v d → Q v H
theorem ix_seq (i : Int) (pins : List (Addr × Obj)) (s : Shared) (σ : L2.St) (H : Hp) (x y : V) (v u : Value) (Q : VK) (I : Inv X pins σ H s) (rx : RelV x v) (ry : RelV y u) (C : Hp) (a : O) (d : D) (sC : Sub C H) (ra : RO X.K C H x a) (rb : RO X.K C H y (.d (.int i)))
    (e : seqIx a i = some d) (q : ∀ v, DR X.K C v d → Q v H) (value slice : Expr) (hsub : subscripted slice false v u = operate [v, u] (getItem v u)) :
    wpAny (model X.prog X.w) X.A (subscriptTail value slice v u) (EP X pins σ Q) X.xe s := by
  unfold seqIx at e
  have ey := rb.int
  subst ey
  split at e
  · rename_i xs
    obtain ⟨p, ys, rfl, h1, d1⟩ := ra.asL sC rfl
    obtain ⟨w, e1, e2⟩ := atD_eq d1 e
    exact ix_list value slice pins s σ H _ _ v u Q I rx ry ⟨p, ys, i, w, rfl, rfl, h1, e1, q w e2⟩ hsub
  · rename_i xs
    obtain ⟨p, ys, rfl, h1, d1⟩ := ra.asL sC rfl
    obtain ⟨w, e1, e2⟩ := atD_eq d1 e
    exact ix_list value slice pins s σ H _ _ v u Q I rx ry ⟨p, ys, i, w, rfl, rfl, h1, e1, q w e2⟩ hsub
  · rename_i xs
    obtain ⟨p, ys, rfl, h1, d1⟩ := ra.asT sC
    obtain ⟨w, e1, e2⟩ := atD_eq d1 e
    exact ix_tup value slice pins s σ H _ _ v u Q I rx ry ⟨p, ys, i, w, rfl, rfl, h1, e1, q w e2⟩ hsub
  · split at e
    · obtain ⟨c, ec, rfl⟩ := Option.map_eq_some_iff.mp e
      rename_i z hz
      have ex := ra.str
      subst ex
      refine ix_str value slice pins s σ H _ _ v u Q I rx ry ⟨z, i, c, rfl, rfl, line_le hz, ?_, q _ (.str _)⟩ hsub
      unfold atI ixN
      split at ec
      · rename_i h0
        have hlt : i.toNat < z.cps.toList.length := (List.getElem?_eq_some_iff.mp ec).1
        rw [if_pos h0, if_pos (by omega)]
        exact ec
      · rename_i h0
        split at ec
        · rename_i h1
          rw [if_neg h0, if_pos h1]
          exact ec
        · cases ec
    · cases e
  · cases e
  · cases e
  · cases e
  · cases e
theorem ix_dct (hu : X.A.units + 1 < cLine) : IxR X (fun x y H Q => ∃ a v, x = .ref a ∧ DGet H a y (some v) ∧ Q v H) := by
  intro value slice pins s σ H x y v u Q I rx ry h hs
  obtain ⟨a, z, rfl, g, q⟩ := h
  obtain rfl : v = Value.ref a := rx
  refine tail_any (ops := [.ref a, u]) (dict_typeIs I g) PySem.F.slot_dict_getitem.lookup ?_ hs
  exact d_getItem hu I g ry fun w' s' I' r => ⟨z, H, I', r, q⟩
theorem ix_sound (hu : X.A.units + 1 < cLine) : IxR X (rIxO X.K) := by
  intro value slice pins s σ H x y v u Q I rx ry h hsub
  obtain ⟨C, a, b, d, sC, ra, rb, e, q⟩ := h
  unfold ixO at e
  split at e
  · rename_i ks vs em
    split at e
    · rename_i k ek
      obtain ⟨p, ys, rfl, h1, hl, d1⟩ := ra.asM sC em
      rcases getK_eq hl d1 k with ⟨g1, _⟩ | ⟨w, d', g1, g2, g3⟩
      · rw [g1] at e; cases e
      · rw [g1] at e
        cases e
        exact ix_dct hu value slice pins s σ H _ _ v u Q I rx ry ⟨p, w, rfl, .inl ⟨_, k, h1, rb.asK ek, g2.symm⟩, q w g3⟩ hsub
    · cases e
  · split at e
    · cases e
    · rename_i i ei
      have eb : b = .d (.int i) := by
        cases b with
        | lst _ => cases ei
        | dct _ _ => cases ei
        | dtt _ _ => cases ei
        | ins _ _ => cases ei
        | d x => cases x <;> first | (cases ei; rfl) | cases ei
      subst eb
      exact ix_seq i pins s σ H x y v u Q I rx ry C a d sC ra rb e q value slice hsub
theorem sIx_eq (n d : Nat) (o : Option Int) : sIx n d o = HT.sIx n d o := by
  cases o with
  | none => rfl
  | some v => rfl
theorem cutD_eq {vs : List V} {ds : List D} (h : DRs K C vs ds) (lo hi : Option Int) : DRs K C (cutV vs lo hi) (cutD ds lo hi) := by
  unfold cutV cutD
  rw [h.length, sIx_eq, sIx_eq]
  exact (h.drop _).take _
def rSlO (K : PySem.W.Frag) : V → Option Int → Option Int → Hp → VK → Prop := fun x lo hi H Q => ∃ C a z, Sub C H ∧ RO K C H x a ∧ slO a lo hi = some z ∧ FinO K C H z Q

theorem sl_sound : SlR X (rSlO X.K) := by
  intro pins s σ H x v vl vu lo hi sl Q I rx hs pl pu h
  obtain ⟨C, a, z, sC, ra, e, q⟩ := h
  unfold slO at e
  split at e
  · cases e
    obtain ⟨p, ys, rfl, h1, d1⟩ := ra.asL sC rfl
    exact sl_list pins s σ H _ v vl vu lo hi sl Q I rx hs pl pu ⟨p, ys, rfl, h1, fun l hl => q _ l (cutD_eq d1 lo hi) hl⟩
  · cases e
    obtain ⟨p, ys, rfl, h1, d1⟩ := ra.asL sC rfl
    exact sl_list pins s σ H _ v vl vu lo hi sl Q I rx hs pl pu ⟨p, ys, rfl, h1, fun l hl => q _ l (cutD_eq d1 lo hi) hl⟩
  · cases e
    rename_i xs
    obtain ⟨p, ys, rfl, h1, d1⟩ := ra.asT sC
    refine sl_tupA pins s σ H _ v vl vu lo hi sl Q I rx hs pl pu ⟨p, ys, rfl, h1, fun hw => ?_, fun _ l hl => q.2 _ _ l rfl (cutD_eq d1 lo hi) hl⟩
    cases ra with | d ra =>
    refine q.1 _ ?_
    have e1 : cutD xs lo hi = xs := by
      unfold cutD
      rw [sIx_eq, sIx_eq, ← d1.length, hw.1, hw.2, List.drop_zero, Nat.sub_zero, d1.length, List.take_length]
    rw [e1]
    exact ra
  · split at e
    · cases e
      have ex := ra.str
      subst ex
      rename_i z hz
      refine sl_str pins s σ H _ v vl vu lo hi sl Q I rx hs pl pu ⟨z, rfl, line_le hz, ?_⟩
      have ez : cutS z lo hi = ⟨(cutD z.cps.toList lo hi).toArray⟩ := by
        unfold cutS cutD
        rw [sIx_eq, sIx_eq, Array.length_toList]
        rfl
      rw [ez]
      exact fin_str q
    · cases e
  · cases e
  · cases e
  · cases e
  · cases e
/-! ### methods of a list -/
theorem list_extend_list_tupleG (l : Addr) (items : Array Value) (n : Nat) (b : Addr) (items2 : Array Value) (n2 : Nat) (dd : Option Addr) (sl : Array (Option Value)) (hs0 : ¬(!items.isEmpty && Builtin.List.listTooLong (items.size + items2.size)) = true) (hs1 : items.size ≤ sizeLine) (hs2 : items.size + items2.size ≤ sizeLine + 1 := by seq_fits) :
    Meets (Builtin.«list.extend» ⟨[.ref l, .ref b], []⟩) (fun _ R s => s.heap.get? l = some { cls := .type "list", dict := none, data := .seq items n, slots := #[] } ∧ s.heap.get? b = some { cls := .type "tuple", dict := dd, data := .seq items2 n2, slots := sl } ∧ R (.ok (.ret Value.none)) { s with heap := s.heap.update l (Obj.mapSeq fun x => x ++ items2), toks := s.toks }) :=
  .of_wp fun prog w A R s h => by
    obtain ⟨hp, g, d, tk, os⟩ := s; obtain ⟨hl, hb, h⟩ := h; have f1 := AutoSeq1.idx_int; have f2 := AutoSeq1.sub_tuple_tuple; have f3 := AutoSeq1.sub_list_list; have f4 := AutoSeq1.sub_tuple_list; have f5 := AutoSeq1.sub_list_tuple;
    have hz' : (items ++ items2).size ≤ sizeLine + 1 := by rw [Array.size_append]; exact hs2
    wp_walk using (wpAny_updateSeq hl rfl (hz := hs1) (_hz' := hz')), wpAny_loadPart' hl, wpAny_loadPart' hb; exact ⟨_, rfl, h⟩
/-- list.extend by a tuple -/
def rExtT (K : PySem.W.Frag) : V → List V → Hp → VK → Prop := fun x vs H Q => ∃ l b xs zs, x = .ref l ∧ vs = [.ref b] ∧ H l = some (.lst xs) ∧ SqT K H b zs ∧ xs.length + zs.length ≤ sizeLine ∧ Q .non (upd H l (.lst (xs ++ zs)))
theorem mt_extT : MtM X "list.extend" (rExtT X.K) := by
  intro pins s σ H x vs v us Q I rx rv h
  obtain ⟨l, b, xs, zs, rfl, rfl, hH, hB, hz, q⟩ := h
  cases rx
  obtain ⟨u, rfl, ru⟩ := rv.one
  cases ru
  obtain ⟨z, its, n, r, hl, e⟩ := I.lstM hH
  obtain ⟨its2, r2, ⟨o2, e2, hc2, n2, hd2⟩, hz2⟩ := I.tuple hB
  obtain ⟨c2, dd2, da2, sl2⟩ := o2
  cases hc2
  cases hd2
  have hl2 := r2.length
  have hsz : its.toArray.size + its2.toArray.size ≤ sizeLine := by rw [List.size_toArray, List.size_toArray]; omega
  have hlong : ¬ (!its.toArray.isEmpty && Builtin.List.listTooLong (its.toArray.size + its2.toArray.size)) = true := by
    rw [notLongL hsz, Bool.and_false]
    exact Bool.false_ne_true
  refine call_meets F.slot_list_extend ⟨_, e, rfl⟩ F.entry_list_extend (F.args_list_extend_2 _ _)
    (list_extend_list_tupleG l its.toArray n b its2.toArray n2 dd2 sl2 hlong (by rw [List.size_toArray]; omega) (by omega)) ⟨e, e2, ?_⟩
  refine ⟨.non, _, I.lset (its' := its ++ its2) hH e (by simp) (r.append r2) ?_, rfl, q⟩
  rw [List.length_append]
  omega
def rExtR (K : PySem.W.Frag) : V → List V → Hp → VK → Prop := fun x vs H Q => ∃ l b xs zs, x = .ref l ∧ vs = [.ref b] ∧ H l = some (.lst xs) ∧ SqL K H b zs ∧ xs.length + zs.length ≤ sizeLine ∧ Q .non (upd H l (.lst (xs ++ zs)))
theorem list_extend_listG (l : Addr) (items : Array Value) (n : Nat) (b : Addr) (items2 : Array Value) (n2 : Nat) (sl : Array (Option Value)) (hs0 : ¬(!items.isEmpty && Builtin.List.listTooLong (items.size + items2.size)) = true) (hs1 : items.size ≤ sizeLine) (hs2 : items.size + items2.size ≤ sizeLine + 1 := by seq_fits) :
    Meets (Builtin.«list.extend» ⟨[.ref l, .ref b], []⟩) (fun _ R s => s.heap.get? l = some { cls := .type "list", dict := none, data := .seq items n, slots := #[] } ∧ s.heap.get? b = some { cls := .type "list", dict := none, data := .seq items2 n2, slots := sl } ∧ R (.ok (.ret Value.none)) { s with heap := s.heap.update l (Obj.mapSeq fun x => x ++ items2), toks := s.toks }) :=
  .of_wp fun prog w A R s h => by
    obtain ⟨hp, g, d, tk, os⟩ := s; obtain ⟨hl, hb, h⟩ := h; have f1 := AutoSeq1.idx_int; have f2 := AutoSeq1.sub_tuple_tuple; have f3 := AutoSeq1.sub_list_list; have f4 := AutoSeq1.sub_tuple_list; have f5 := AutoSeq1.sub_list_tuple;
    have hz' : (items ++ items2).size ≤ sizeLine + 1 := by rw [Array.size_append]; exact hs2
    wp_walk using (wpAny_updateSeq hl rfl (hz := hs1) (_hz' := hz')), wpAny_loadPart' hl, wpAny_loadPart' hb; exact ⟨_, rfl, h⟩
theorem mt_extR : MtM X "list.extend" (rExtR X.K) := by
  intro pins s σ H x vs v us Q I rx rv h
  obtain ⟨l, b, xs, zs, rfl, rfl, hH, hB, hz, q⟩ := h
  cases rx
  obtain ⟨u, rfl, ru⟩ := rv.one
  cases ru
  obtain ⟨z, its, n, r, hl, e⟩ := I.lstM hH
  obtain ⟨z2, its2, n2, sl2, r2, hl2, e2⟩ := Inv.lstK I hB
  have hsz : its.toArray.size + its2.toArray.size ≤ sizeLine := by rw [List.size_toArray, List.size_toArray]; omega
  have hlong : ¬ (!its.toArray.isEmpty && Builtin.List.listTooLong (its.toArray.size + its2.toArray.size)) = true := by
    rw [notLongL hsz, Bool.and_false]
    exact Bool.false_ne_true
  refine call_meets F.slot_list_extend ⟨_, e, rfl⟩ F.entry_list_extend (F.args_list_extend_2 _ _)
    (list_extend_listG l its.toArray n b its2.toArray n2 sl2 hlong (by rw [List.size_toArray]; omega) (by omega)) ⟨e, e2, ?_⟩
  refine ⟨.non, _, I.lset (its' := its ++ its2) hH e (by simp) (r.append r2) ?_, rfl, q⟩
  rw [List.length_append]
  omega
end
/-! ### list(reversed(xs)) -/
section
variable {prog : Program} {w : World} {A : Around} {E : Value → Shared → Prop} {s : Shared}
open RT in
theorem call_list_rev {it l : Addr} {items : Array Value} {Q : Value → Shared → Prop} (hh : A.handled = none) (hit : s.heap.IsRevIter it l ((items.size : Int) - 1)) (hl : s.heap.IsList l items) (hne : l ≠ it) (hn : items.size ≤ sizeLine)
    (hQ : ∀ (h' : Heap) (tk : Nat) (acc : Array Value) (c : Nat), (∀ b o, b ≠ it → s.heap.get? b = some o → h'.get? b = some o) → ItemsOf (fun i v => items[items.size - 1 - i]? = some v) acc items.size →
      h'.get? s.heap.objs.size = some { cls := .type "list", data := .seq acc c } → Q (.ref s.heap.objs.size) { s with heap := h', toks := tk }) :
    wpAny (model prog w) A (call (.type "list") [.ref it]) Q E s := by
  obtain ⟨oi, hoi, _⟩ := id hit
  obtain ⟨ol, hol, _⟩ := id hl
  have hSi : s.heap.objs.size ≠ it := Nat.ne_of_gt (Heap.lt_size hoi)
  have hSl : s.heap.objs.size ≠ l := Nat.ne_of_gt (Heap.lt_size hol)
  have hSf : s.heap.objs.size ∉ [it, l] := by simp only [List.mem_cons, List.not_mem_nil, or_false, not_or]; exact ⟨hSi, hSl⟩
  refine callType_codes (Q₁ := fun obj s₁ => obj = .ref s.heap.objs.size ∧ s₁ = { s with heap := s.heap.push { cls := .type "list", data := .seq #[] } }) F.called_list (F.typeCall_list_1 _) F.entry_list_init
    (code_list_new _ ⟨rfl, rfl⟩) fun obj s₁ h₁ => ?_
  obtain ⟨rfl, rfl⟩ := h₁
  have hS : (s.heap.push { cls := .type "list", data := .seq #[] }).get? s.heap.objs.size = some { cls := .type "list", data := .seq #[] } := Heap.get?_push_size _ rfl
  refine ⟨⟨_, hS, rfl⟩, F.args_list_init_2 _ _, ?_⟩
  have W := (Walks.listRev (prog := prog) (w := w) (A := A.in1.in1) hh it l hne items).toS
  show wpAny _ A.in1.in1 (do let old ← Builtin.List.listItems (.ref s.heap.objs.size); Builtin.List.listUpdate (.ref s.heap.objs.size) (fun _ => #[]); letGo old.toList.reverse; Builtin.List.listExtendWith (.ref s.heap.objs.size) (.ref it) .none) _ _ _
  refine wpAny_bind ?_
  unfold Builtin.List.listItems
  refine wpAny_bind (wpAny_seqItems hS rfl (wpAny_pure ?_))
  show wpAny _ A.in1.in1 (updateSeq s.heap.objs.size (fun _ => #[]) >>= fun _ => letGo (#[] : Array Value).toList.reverse >>= fun _ => Builtin.List.listExtendWith (.ref s.heap.objs.size) (.ref it) .none) _ _ _
  refine wpAny_bind (wpAny_updateSeq hS rfl ?_)
  have hS₂ := Heap.get?_update_self (Obj.mapSeq (fun _ => (#[] : Array Value))) hS rfl
  have oth : ∀ b o, b ≠ s.heap.objs.size → (s.heap.push { cls := .type "list", data := .seq #[] }).get? b = some o → ((s.heap.push { cls := .type "list", data := .seq #[] }).update s.heap.objs.size (Obj.mapSeq (fun _ => (#[] : Array Value)))).get? b = some o :=
    fun b o hb e => (Heap.get?_update_other _ _ (Ne.symm hb)).trans e
  have oth2 : ∀ b o, s.heap.get? b = some o → ((s.heap.push { cls := .type "list", data := .seq #[] }).update s.heap.objs.size (Obj.mapSeq (fun _ => (#[] : Array Value)))).get? b = some o :=
    fun b o e => oth b o (Nat.ne_of_lt (Heap.lt_size e)) (Heap.get?_push_of_some _ e)
  refine wpAny_bind (wpAny_letGo ?_)
  have hit1 : ((s.heap.push { cls := .type "list", data := .seq #[] }).update s.heap.objs.size (Obj.mapSeq (fun _ => (#[] : Array Value)))).IsRevIter it l ((items.size : Int) - 1) := hit.at fun o e => oth2 _ o e
  have hl1 : ((s.heap.push { cls := .type "list", data := .seq #[] }).update s.heap.objs.size (Obj.mapSeq (fun _ => (#[] : Array Value)))).IsList l items := by
    obtain ⟨o, h1, h2⟩ := hl
    exact ⟨o, oth2 _ _ h1, h2⟩
  have h1 : Builtin.List.listSameRef (.ref s.heap.objs.size) (.ref it) = false := by simp [Builtin.List.listSameRef, hSi]
  generalize hgg : ((s.heap.push { cls := .type "list", data := .seq #[] }).update s.heap.objs.size (Obj.mapSeq (fun _ => (#[] : Array Value)))) = hp1 at hit1 hl1 hS₂ oth oth2 ⊢
  have hT : ({ s with heap := hp1 } : Shared).TypeIs (.ref it) "list_reverseiterator" := Heap.IsRevIter.typeIs (s := { s with heap := hp1 }) hit1
  unfold Builtin.List.listExtendWith
  refine wpAny_bind (wpAny_typeOf hT ?_)
  rw [if_neg (by rw [h1]; decide)]
  refine wpAny_bind (wpAny_pyIter_revIter (s := { s with heap := hp1 }) hit1 ?_)
  refine wpAny_bind (wpAny_holding ?_)
  unfold Builtin.List.listLengthHint
  refine wpAny_bind (wpAny_specialOf hT nolen_lri ?_)
  show wpAny _ A.in1.in1 (specialOf (Value.ref it) (Str.ofString "__length_hint__") >>= _) _ _ _
  refine wpAny_bind (wpAny_specialOf hT hint_lri ?_)
  generalize hid : ("list_reverseiterator.__length_hint__" : String) = id0
  wp_delta
  rw [show splitId id0 = some ("list_reverseiterator", "__length_hint__") from by subst hid; decide +kernel]
  subst hid
  refine wpAny_bind (wpAny_isInstance (b := true) hT (by rw [isSubtype_type]; kernel_rfl) ?_)
  refine wpAny_pure ?_
  rw [if_neg (by decide)]
  have e0 : ((items.size : Nat) : Int) - 1 - ((0 : Nat) : Int) = (items.size : Int) - 1 := by omega
  refine wpAny_pure ⟨plainId_quiet F.plain_extend_loop _, codeAny_extend_loopS W hn _ hSf _ items.size 0 _ _ _ rfl (Nat.zero_le _) ⟨Nat.zero_le _, by rw [e0]; exact hit1, hl1⟩ hS₂ (ItemsOf.nil _) fun s' acc' c' hm hS' hacc => ?_⟩
  refine ⟨rfl, ?_⟩
  rw [Moved.eq_with hm]
  refine hQ s'.heap s'.toks acc' c' (fun b o hb e => hm.heap b o (fun hmem => ?_) (oth2 _ _ e)) hacc hS'
  rcases List.mem_cons.mp hmem with e' | hmem
  · exact absurd (Heap.lt_size e) (by rw [e']; exact Nat.lt_irrefl _)
  · exact hb (List.mem_singleton.mp hmem)
end
def tLRev (K : PySem.W.Frag) (te : TE) : TE := fun σ H Q => te σ H fun v H1 => ∃ C o ds, Sub C H1 ∧ RO K C H1 v o ∧ asL o = some ds ∧ FinO K C H1 (.lst ds.reverse) Q
theorem pe_lrev {X : Cx} {e : Expr} {te : TE} {p p2 pos pos2 : Pos} (hc : X.calm = true) (hg : Gl X "list") (hm : X.mg "list" = none) (hg2 : Gl X "reversed") (hm2 : X.mg "reversed" = none) (he : PE X e te)
    (hs : starEach [e] X.env = (false, eval e X.env) :: starEach [] X.env)
    (hs2 : starEach [.Call (.Name "reversed" p2) [e] [] pos2] X.env = (false, eval (.Call (.Name "reversed" p2) [e] [] pos2) X.env) :: starEach [] X.env := by rfl) :
    PE X (.Call (.Name "list" p) [.Call (.Name "reversed" p2) [e] [] pos2] [] pos) (tLRev X.K te) := by
  refine ⟨fun pins s σ H Q I h => ?_⟩
  refine Call_ (ld_blt I hg hm (show bootBuiltins "list" = some (.type "list") by decide +kernel) (PyProof.Rows.callWith_type1 (args_cons (Call_ (ld_blt I hg2 hm2 PyProof.Rows.boot_reversed (PyProof.Rows.callWith_type1 (args_cons (thn (he.run pins s σ H _ I h) fun u s1 ⟨v, H1, I1, r1, q1⟩ => args_nil ?_) hs) hs rfl))) hs2) hs2 rfl))
  obtain ⟨C, o, ds, sC, ra, eo, q⟩ := q1
  obtain ⟨a, xs, ev, hq, dd⟩ := ra.asL sC eo
  subst ev
  obtain rfl : u = Value.ref a := r1
  obtain ⟨its, rv, p', hz⟩ := I1.list hq
  refine call_reversed_list p'.isList (args_nil ?_)
  have k0 : ∀ b o, s1.heap.get? b = some o → (s1.heap.push (revObj a ((its.toArray.size : Int) - 1))).get? b = some o := fun b o e => Heap.get?_push_of_some _ e
  have I2 : Inv X pins σ H1 { s1 with heap := s1.heap.push (revObj a ((its.toArray.size : Int) - 1)) } := I1.kept (t' := s1.toks) k0
  obtain ⟨f0, f1, f2, f3, f4, f5⟩ := I1.fpOk (H' := H1) (b := s1.heap.objs.size) (Nat.le_refl _) (I1.hok.fresh (Nat.le_refl _))
  have hl := p'.isList
  obtain ⟨ol, hol, _⟩ := id hl
  have hne : a ≠ s1.heap.objs.size := Nat.ne_of_lt (Heap.lt_size hol)
  have hn : its.toArray.size ≤ sizeLine := by rw [List.size_toArray, ← rv.length]; exact hz
  refine call_list_rev (s := { s1 with heap := s1.heap.push (revObj a ((its.toArray.size : Int) - 1)) }) (I1.ok.hd hc) ⟨_, Heap.get?_push_size _ rfl, rfl, rfl⟩ (hl.push _) hne hn fun h' tk acc c hk hi hS => ?_
  have hN : H1 (s1.heap.push (revObj a ((its.toArray.size : Int) - 1))).objs.size = none := I2.hok.fresh (Nat.le_refl _)
  have it0 : H1 s1.heap.objs.size = none := I1.hok.fresh (Nat.le_refl _)
  have nN : ∀ b o, (s1.heap.push (revObj a ((its.toArray.size : Int) - 1))).get? b = some o → b ≠ (s1.heap.push (revObj a ((its.toArray.size : Int) - 1))).objs.size := fun b o e => Nat.ne_of_lt (Heap.lt_size e)
  have hh' : Inv X pins σ (upd H1 (s1.heap.push (revObj a ((its.toArray.size : Int) - 1))).objs.size (.lst xs.reverse)) { s1 with heap := h', toks := tk } := by
    refine L2.Inv.step (s := { s1 with heap := s1.heap.push (revObj a ((its.toArray.size : Int) - 1)) }) (g' := s1.gens) (d' := s1.drawn) (t' := tk) (ch := [s1.heap.objs.size]) I2 (fun b hb => ?_) (fun b o _ _ hc e _ => hk b o (fun z => hc (by simp [z])) e) (fun b o _ _ hc e _ => ⟨o.slots, hk b o (fun z => hc (by simp [z])) e⟩)
      (fun b o _ e n => by rw [upd_ne (nN b o e)]; exact n) (fun b o hc e => ⟨o, hk b o (fun z => hc (by simp [z])) e⟩) (fun b ys e => by rw [upd_ne (ne_of_none e hN)]; exact e) (fun b o u e => by rw [upd_ne (ne_of_none e hN)]; exact e)
      (fun b ps e => ⟨#[], by rw [upd_ne (ne_of_none e hN), e]; simp⟩) (fun m hm => ?_) (fun b u e => ?_) I2.bare
    · have e : b = s1.heap.objs.size := by simpa using hb
      subst e
      exact ⟨f3, f1, f4, f5⟩
    · obtain ⟨o, es, ep, ho, r⟩ := hm
      exact ⟨o, es, ep, hk _ o (Ne.symm f1) ho, r⟩
    · by_cases hb : b = (s1.heap.push (revObj a ((its.toArray.size : Int) - 1))).objs.size
      · subst hb
        rw [upd_same] at e
        cases e
        refine ⟨by rw [List.length_reverse]; exact hz, acc.toList, c, RT.vals_rev rv hi, ?_⟩
        rw [Array.toArray_toList]
        exact hS
      · rw [upd_ne hb] at e
        refine (I2.hok b u e).stay (fun d v hd q => hk d v ?_ q) (fun d q => by rw [upd_ne (ne_of_none q hN)]; exact q) fun d ys q => by rw [upd_ne (ne_of_none q hN)]; exact q
        rcases hd with rfl | hd
        · exact ne_of_none e it0
        · exact ne_of_none hd it0
  exact ⟨.ref _, _, hh', rfl, q _ _ dd.reverse hN⟩
end Ev
end

section
set_option Elab.async false
set_option linter.all false
set_option maxRecDepth 100000
set_option maxHeartbeats 4000000
/-! Ev, part D: what evaluating is to reach; the rules of expressions. -/
namespace Ev
open PySem PySem.Spec PyProof.Rows L2
variable [Γ : Clz]

/-- an own exception's dict: its place -/
def XR (K : PySem.W.Frag) (B H : Hp) (d : Addr) (x : D) : Prop := ∃ v, H d = some (.xd [(("place" : Str), v)]) ∧ DR K B v x
/-- what must lead to the wish: r the outcome, from there on -/
def PostG {α β : Type} (K : PySem.W.Frag) (W : WX) (cls : Nat → Value) (σ : L2.St) (t u : Nat) (B H : Hp) (w : Wn) (R : Hp → Hp → Wn → β → α → Prop) (r : Out α) (Q : β → Hp → Prop) : Prop := match r with
  | .ok a ρ => ∀ v B' H' w', Stp t B H w B' H' w' → Wf B' H' w' → TB u w' → EnvR K B' H' w' σ ρ → R B' H' w' v a → Q v H'
  | .exc c x ρ => ∀ d B' H' w', Stp t B H w B' H' w' → Wf B' H' w' → EnvR K B' H' w' σ ρ → XR K B' H' d x → W (cls c) (some d) σ H'
  | .bad => False
structure At (K : PySem.W.Frag) (t : Nat) (B H : Hp) (w : Wn) (σ : L2.St) (ρ : Rho) : Prop where
  wf : Wf B H w
  tb : TB t w
  env : EnvR K B H w σ ρ
def tG {α β : Type} (K : PySem.W.Frag) (W : WX) (cls : Nat → Value) (j : Nat) (R : L2.St → Nat → Hp → Hp → Wn → β → α → Prop) (f : Rho → Out α) : L2.St → Hp → (β → Hp → Prop) → Prop :=
  fun σ H Q => ∃ t B w ρ, At K t B H w σ ρ ∧ PostG K W cls σ t (t + j) B H w (R σ t) (f ρ) Q

section
variable {K : PySem.W.Frag} {W : WX} {cls : Nat → Value} {σ : L2.St} {t t' u u' : Nat} {B H B1 H1 : Hp} {w w1 : Wn} {α β γ δ : Type} {R : Hp → Hp → Wn → β → α → Prop} {R1 : Hp → Hp → Wn → γ → δ → Prop}
theorem post_ok {a : α} {ρ : Rho} {Q : β → Hp → Prop} (P : PostG K W cls σ t u B H w R (.ok a ρ) Q) : ∀ {v B' H' w'}, Stp t B H w B' H' w' → Wf B' H' w' → TB u w' → EnvR K B' H' w' σ ρ → R B' H' w' v a → Q v H' := fun a b c d e => P _ _ _ _ a b c d e
/-- a part is run ahead of the rest -/
theorem bindP {r : Out δ} {g : δ → Rho → Out α} {Q : β → Hp → Prop} {Q1 : γ → Hp → Prop} (P : PostG K W cls σ t u B H w R (r.bind g) Q) (ht : t ≤ t')
    (k : ∀ v H1 B1 w1 x ρ1, r = .ok x ρ1 → Stp t' B H w B1 H1 w1 → Wf B1 H1 w1 → TB u' w1 → EnvR K B1 H1 w1 σ ρ1 → R1 B1 H1 w1 v x → PostG K W cls σ t u B1 H1 w1 R (g x ρ1) Q → Q1 v H1) : PostG K W cls σ t' u' B H w R1 r Q1 := by
  cases r with
  | ok x ρ1 =>
    intro v B1 H1 w1 st wf tb env hR
    refine k v H1 B1 w1 x ρ1 rfl st wf tb env hR ?_
    have st' := st.mono ht
    have P : PostG K W cls σ t u B H w R (g x ρ1) Q := P
    generalize g x ρ1 = o at P
    cases o with
    | ok a ρ => exact fun v B2 H2 w2 s2 wf2 tb2 e2 r2 => P v B2 H2 w2 (st'.trans s2) wf2 tb2 e2 r2
    | exc c y ρ => exact fun d B2 H2 w2 s2 wf2 e2 x2 => P d B2 H2 w2 (st'.trans s2) wf2 e2 x2
    | bad => exact P
  | exc c y ρ => exact fun d B2 H2 w2 s2 wf2 e2 x2 => P d B2 H2 w2 (s2.mono ht) wf2 e2 x2
  | bad => exact P
/-- a step goes ahead -/
theorem PostG.after {r : Out α} {Q : β → Hp → Prop} (P : PostG K W cls σ t u B H w R r Q) (st : Stp t B H w B1 H1 w1) : PostG K W cls σ t u B1 H1 w1 R r Q := by
  cases r with
  | ok a ρ => exact fun v B2 H2 w2 s2 wf2 tb2 e2 r2 => P v B2 H2 w2 (st.trans s2) wf2 tb2 e2 r2
  | exc c y ρ => exact fun d B2 H2 w2 s2 wf2 e2 x2 => P d B2 H2 w2 (st.trans s2) wf2 e2 x2
  | bad => exact P
theorem PostG.imp {r : Out α} {Q Q' : β → Hp → Prop} (P : PostG K W cls σ t u B H w R r Q) (h : ∀ v H', Q v H' → Q' v H') : PostG K W cls σ t u B H w R r Q' := by
  cases r with
  | ok a ρ => exact fun v B2 H2 w2 s2 wf2 tb2 e2 r2 => h _ _ (P v B2 H2 w2 s2 wf2 tb2 e2 r2)
  | exc c y ρ => exact P
  | bad => exact P

/-- a value that is data -/
abbrev RE (K : PySem.W.Frag) : L2.St → Nat → Hp → Hp → Wn → V → O → Prop := fun _ t B H w v o => OR K B H (fun a => w a = some (.tmp t)) v o
theorem fin_dr {x : D} {v : V} {ρ : Rho} {Q : VK} {t0 : Nat} (P : PostG K W cls σ t (t + 1) B H w (RE K σ t) (.ok (.d x) ρ) Q) (wf : Wf B H w) (env : EnvR K B H w σ ρ) (h : DR K B v x) : Q v H :=
  post_ok P (stp_drop t B H w) wf.drop ((TB.drop t w).mono (Nat.le_succ t)) env.drop (.d h)
/-- what an operation came to -/
theorem finO {z : O} {ρ : Rho} {Q : VK} (P : PostG K W cls σ t (t + 1) B H w (RE K σ t) (.ok z ρ) Q) (wf : Wf B H w) (env : EnvR K B H w σ ρ) : FinO K B H z Q := by
  have st := stp_drop t B H w
  have wf1 : Wf B H (dropT t w) := wf.drop
  have en1 : EnvR K B H (dropT t w) σ ρ := env.drop
  have tb1 := TB.drop t w
  cases z with
  | lst ds =>
    intro xs p hd hp
    refine post_ok P (st.trans (stp_new hp (.lst xs) (some (.tmp t)))) (wf1.new hp _ _) ?_ (en1.new hp _ _) (.lst putW_same upd_same hd)
    intro a k e
    by_cases ha : a = p
    · subst ha; rw [putW_same] at e; cases e; omega
    · rw [putW_ne ha] at e; exact Nat.lt_succ_of_lt (tb1 a k e)
  | dct ks ds =>
    intro xs p hl hd hp
    refine post_ok P (st.trans (stp_new hp (.dK (ks.zip xs)) (some (.tmp t)))) (wf1.new hp _ _) ?_ (en1.new hp _ _) (.dct putW_same upd_same hl hd)
    intro a k e
    by_cases ha : a = p
    · subst ha; rw [putW_same] at e; cases e; omega
    · rw [putW_ne ha] at e; exact Nat.lt_succ_of_lt (tb1 a k e)
  | dtt ks ds =>
    intro xs p hl hd hp
    refine post_ok P (st.trans (stp_new hp (.dT (ks.zip xs)) (some (.tmp t)))) (wf1.new hp _ _) ?_ (en1.new hp _ _) (.dtt putW_same upd_same hl hd)
    intro a k e
    by_cases ha : a = p
    · subst ha; rw [putW_same] at e; cases e; omega
    · rw [putW_ne ha] at e; exact Nat.lt_succ_of_lt (tb1 a k e)
  | ins _ _ => trivial
  | d x =>
    refine ⟨fun v hv => fin_dr (t0 := 0) P wf env hv, fun ds xs p e hd hp => ?_⟩
    subst e
    have ex : Ext B (upd B p (.tup xs)) := Ext.new (none_new wf1 hp)
    exact post_ok P (st.trans (stp_newD wf1 hp (.tup xs))) (wf1.newD hp _ (fun _ _ => fun z => nomatch z)) (tb1.mono (Nat.le_succ t)) (en1.newD wf1 hp _) (.d (.tup (SqT.of upd_same) (hd.ext ex)))
/-- read, as an operation reads it -/
theorem OR.ro {F : Addr → Prop} {v : V} {o : O} (h : OR K B H F v o) : RO K B H v o := by
  cases h with
  | d h => exact .d h
  | lst f ha hs => exact .lst (SqL.of ha) hs
  | dct f ha hl hs => exact .dct (.inl ha) hl hs
  | dtt f ha hl hs => exact .dtt (.inl ha) hl hs
  | ins f g ha hd hl hp hn => exact .ins ha hl fun s => fr_read s hp

/-! ### what a place of the text must be -/
/-- an expression that is none of the odd ones -/
def hdOk : Expr → Bool
  | .Starred _ _ => false
  | .Set _ _ _ => false
  | .Slice _ _ _ _ => false
  | _ => true
theorem star_ok {e : Expr} {es : List Expr} {env : Env} (h : hdOk e = true) : starEach (e :: es) env = (false, eval e env) :: starEach es env := by
  cases e <;> first | rfl | cases h
theorem mark_ok {e : Expr} {op : CmpOp} (h : hdOk e = true) : behindInMarks op e = false := by
  cases e <;> first | rfl | cases h
theorem plainIx_ok {e : Expr} (h : hdOk e = true) : PlainIx e := by
  intro o i
  cases e <;> first | rfl | cases h
theorem fold_ok {e : Expr} {env : Env} (h : hdOk e = true) : ∀ x, foldedSetIterable e env x = pure x := by
  intro x
  cases e <;> first | rfl | cases h
/-- an expression whose truth is its value's -/
def hdT : Expr → Bool
  | .UnaryOp .Not _ _ => false
  | .BoolOp _ _ _ => false
  | .IfExp _ _ _ _ => false
  | .Compare _ _ _ _ => false
  | _ => true
theorem truth_ok {e : Expr} {env : Env} (h : hdT e = true) : ∀ whole, isTrue e env whole = (do let v ← whole; standAt e.pos; holding [v] (truthy v)) := by
  intro whole
  cases e <;> first
    | rfl
    | cases h
    | (rename_i op _ _; cases op <;> first | rfl | cases h)
end

theorem PE.of {X : Cx} {e : Expr} {t t' : TE} (h : PE X e t) (k : ∀ σ H Q, t' σ H Q → t σ H Q) : PE X e t' := ⟨fun pins s σ H Q I q => h.run pins s σ H Q I (k σ H Q q)⟩
theorem PT.of {X : Cx} {e : Expr} {t t' : TT} (h : PT X e t) (k : ∀ σ H Q, t' σ H Q → t σ H Q) : PT X e t' := ⟨fun pins s σ H Q I q => h.run pins s σ H Q I (k σ H Q q)⟩
theorem PW.of {X : Cx} {e : Expr} {t t' : TT} (h : PW X e t) (k : ∀ σ H Q, t' σ H Q → t σ H Q) : PW X e t' := ⟨fun wh pins s σ H Q I q => h.run wh pins s σ H Q I (k σ H Q q)⟩
theorem PA.of {X : Cx} {e : List Expr} {t t' : TA} (h : PA X e t) (k : ∀ σ H Q, t' σ H Q → t σ H Q) : PA X e t' := ⟨fun pos pins s σ H Q I q => h.run pos pins s σ H Q I (k σ H Q q)⟩
theorem PS.of {X : Cx} {e : Stmt} {t t' : TS} (h : PS X e t) (k : ∀ D σ H, t' D σ H → t D σ H) : PS X e t' := ⟨fun pins s σ H D I q => h.run pins s σ H D I (k D σ H q)⟩
theorem PSs.of {X : Cx} {e : List Stmt} {t t' : TS} (h : PSs X e t) (k : ∀ D σ H, t' D σ H → t D σ H) : PSs X e t' := ⟨fun pins s σ H D I q => h.run pins s σ H D I (k D σ H q)⟩
theorem PI.of {X : Cx} {tg e : Expr} {t t' : TI} (h : PI X tg e t) (k : ∀ σ H R, t' σ H R → t σ H R) : PI X tg e t' := ⟨fun pins s σ H R I q => h.run pins s σ H R I (k σ H R q)⟩
theorem PI.or {X : Cx} {tg e : Expr} {t t' : TI} (h : PI X tg e t) (h' : PI X tg e t') : PI X tg e (fun σ H R => t σ H R ∨ t' σ H R) := ⟨fun pins s σ H R I q => q.elim (h.run pins s σ H R I) (h'.run pins s σ H R I)⟩

section
variable {X : Cx} {K : PySem.W.Frag} {W : WX} {cls : Nat → Value} {cf : CallF} {G : Gs}
abbrev tE (K : PySem.W.Frag) (W : WX) (cls : Nat → Value) (f : Rho → Out O) : TE := tG K W cls 1 (RE K) f
abbrev tT (K : PySem.W.Frag) (W : WX) (cls : Nat → Value) (f : Rho → Out Bool) : TT := tG K W cls 0 (fun _ _ _ _ _ (b : Bool) (o : Bool) => b = o) f
abbrev tA (K : PySem.W.Frag) (W : WX) (cls : Nat → Value) (f : Rho → Out (List D)) : TA := tG K W cls 0 (fun _ _ B _ _ (vs : List V) (ds : List D) => DRs K B vs ds) f
abbrev tO (K : PySem.W.Frag) (W : WX) (cls : Nat → Value) (f : Rho → Out (Option Int)) : TO := tG K W cls 0 (fun _ _ _ _ _ (a : Option Int) (b : Option Int) => a = b) f

/-! ### constants, names -/
theorem tc_ok {v : V} {x : D} (hx : ∀ B, DR K B v x) : ∀ σ H Q, tE K W cls (fun r => .ok (.d x) r) σ H Q → tC v σ H Q := by
  rintro σ H Q ⟨t, B, w, ρ, a, P⟩
  exact fin_dr (t0 := 0) P a.wf a.env (hx B)
theorem se_v {i : Nat} {e : Expr} (h : PE X e (tVar i)) : PE X e (tE X.K W cls (readS i)) := by
  refine PE.of h ?_
  rintro σ H Q ⟨t, B, w, ρ, a, P⟩
  unfold readS at P
  cases e1 : getS i ρ with
  | none => rw [e1] at P; exact P.elim
  | some o =>
    obtain ⟨v, hv, ho⟩ := a.env.at' i o e1
    refine ⟨v, hv, ?_⟩
    rw [e1] at P
    obtain ⟨B', w', ex, wf, dr, hw, hB⟩ := freeze a.wf ho
    have st : Stp t B H w B' H w' := stp_of_freeze (fun k z => by cases z) ex hw hB
    have tb : TB (t + 1) w' := (a.tb.frozen hw).mono (Nat.le_succ t)
    have key : EnvR X.K B' H w' σ (ρ.set i (some (.d (frz o)))) := by
      refine ⟨by rw [List.length_set]; exact a.env.len, fun j o' e2 => ?_⟩
      rw [getS_set] at e2
      by_cases hj : j = i
      · subst hj
        rw [if_pos rfl, if_pos (getS_lt e1)] at e2
        cases e2
        exact ⟨v, hv, .d dr⟩
      · rw [if_neg hj] at e2
        obtain ⟨v', hv', ho'⟩ := a.env.at' j o' e2
        refine ⟨v', hv', ho'.mono ex fun b xs f hb => ⟨?_, hb⟩⟩
        rcases hw b with z | ⟨z, _⟩
        · rw [z]; exact f
        · rw [f] at z; cases z; exact absurd rfl hj
    cases o with
    | d x =>
      have e3 : ρ.set i (some (.d (frz (.d x)))) = ρ := by
        have hl := getS_lt e1
        have e4 : ρ[i]? = some (some (.d x)) := by
          unfold getS at e1
          split at e1
          · cases e1; assumption
          · cases e1
        apply List.ext_getElem?
        intro j
        by_cases hj : i = j
        · subst hj; rw [List.getElem?_set_self hl, e4]; rfl
        · rw [List.getElem?_set_ne hj]
      rw [e3] at key
      exact P _ _ _ _ st wf tb key (.d dr)
    | lst xs => exact P _ _ _ _ st wf tb key (.d dr)
    | dct ks xs => exact P _ _ _ _ st wf tb key (.d dr)
    | dtt ks xs => exact P _ _ _ _ st wf tb key (.d dr)
    | ins c fs => exact P _ _ _ _ st wf tb key (.d dr)

/-! ### displays -/
theorem sa_nil : PA X [] (tA X.K W cls (fun r => .ok [] r)) := by
  refine PA.of pa_nil ?_
  rintro σ H Q ⟨t, B, w, ρ, a, P⟩
  exact P [] B H w (Stp.refl t B H w) a.wf a.tb a.env .nil
/-- an item frozen -/
theorem frozen_item {K : PySem.W.Frag} {σ : L2.St} {t : Nat} {B H : Hp} {w : Wn} {ρ : Rho} {v : V} {o : O} (wf : Wf B H w) (tb : TB (t + 1) w) (env : EnvR K B H w σ ρ) (ho : OR K B H (fun a => w a = some (.tmp t)) v o) :
    ∃ B' w', Stp t B H w B' H w' ∧ At K t B' H w' σ ρ ∧ DR K B' v (frz o) := by
  obtain ⟨B', w', ex, wf', dr, hw, hB⟩ := freeze wf ho
  have st : Stp t B H w B' H w' := stp_of_freeze (fun k z => by cases z; exact Nat.le_refl t) ex hw hB
  exact ⟨B', dropT t w', st.trans (stp_drop t B' H w'), ⟨wf'.drop, TB.drop t w', (env.frozenT ex hw).drop⟩, dr⟩
theorem sa_cons {e : Expr} {es : List Expr} {f : Rho → Out O} {g : Rho → Out (List D)} (hd : hdOk e = true) (he : PE X e (tE X.K W cls f)) (hs : PA X es (tA X.K W cls g)) :
    PA X (e :: es) (tA X.K W cls (fun r => (f r).bind fun x r => (g r).bind fun xs r => .ok (frz x :: xs) r)) := by
  refine PA.of (pa_cons he hs (star_ok hd)) ?_
  rintro σ H Q ⟨t, B, w, ρ, a, P⟩
  refine ⟨t, B, w, ρ, a, bindP P (Nat.le_refl t) fun v H1 B1 w1 x ρ1 _ st1 wf1 tb1 en1 r1 P1 => ?_⟩
  obtain ⟨B2, w2, st2, a2, dr⟩ := frozen_item wf1 tb1 en1 r1
  refine ⟨t, B2, w2, ρ1, a2, bindP (P1.after st2) (Nat.le_refl t) fun vs H3 B3 w3 xs ρ3 _ st3 wf3 tb3 en3 r3 P3 => ?_⟩
  exact P3 _ _ _ _ (Stp.refl t B3 H3 w3) wf3 tb3 en3 (.cons (dr.ext st3.ext) r3)
end
end Ev
end

section
set_option Elab.async false
set_option linter.all false
set_option maxRecDepth 100000
set_option maxHeartbeats 4000000
/-! Ev, part E: the rules of expressions, further. -/
namespace Ev
open PySem PySem.Spec PyProof.Rows L2
variable [Γ : Clz]
section
variable {X : Cx} {K : PySem.W.Frag} {W : WX} {cls : Nat → Value} {cf : CallF} {G : Gs} {a b c e : Expr} {f g h : Rho → Out O} {pos : Pos}

theorem se_tup {es : List Expr} {k : Nat} {f : Rho → Out (List D)} {n : Nat} (hl : ∀ r xs r', f r = .ok xs r' → xs.length = n) (hn : n ≤ line) (he : PA X es (tA X.K W cls f)) :
    PE X (.Tuple es k pos) (tE X.K W cls (fun r => (f r).bind fun xs r => .ok (.d (.tup xs)) r)) := by
  refine PE.of (pe_tup he) ?_
  rintro σ H Q ⟨t, B, w, ρ, a, P⟩
  refine ⟨t, B, w, ρ, a, bindP P (Nat.le_refl t) fun vs H1 B1 w1 xs ρ1 e1 st1 wf1 tb1 en1 r1 P1 => ?_⟩
  exact ⟨by rw [r1.length, hl _ _ _ e1]; exact line_le hn, fun p hp => (finO P1 wf1 en1).2 _ _ p rfl r1 hp⟩
theorem se_lst {es : List Expr} {f : Rho → Out (List D)} {n : Nat} (hl : ∀ r xs r', f r = .ok xs r' → xs.length = n) (hn : n ≤ line) (he : PA X es (tA X.K W cls f)) :
    PE X (.List es pos) (tE X.K W cls (fun r => (f r).bind fun xs r => .ok (.lst xs) r)) := by
  refine PE.of (pe_lst he) ?_
  rintro σ H Q ⟨t, B, w, ρ, a, P⟩
  refine ⟨t, B, w, ρ, a, bindP P (Nat.le_refl t) fun vs H1 B1 w1 xs ρ1 e1 st1 wf1 tb1 en1 r1 P1 => ?_⟩
  exact ⟨by rw [r1.length, hl _ _ _ e1]; exact line_le hn, fun p hp => (finO P1 wf1 en1) _ p r1 hp⟩

/-- two parts, the left one kept as it was read -/
theorem two {σ : L2.St} {H : Hp} {t u : Nat} {B : Hp} {w : Wn} {ρ : Rho} {α β : Type} {R : Hp → Hp → Wn → β → α → Prop} {Q : β → Hp → Prop} {F : O → O → Rho → Out α} {k : V → V → Hp → Prop} (a : At K t B H w σ ρ)
    (P : PostG K W cls σ t u B H w R ((f ρ).bind fun x r => (g r).bind fun y r => F x y r) Q)
    (fin : ∀ v1 v2 H2 B2 w2 x y ρ2, Stp t B H w B2 H2 w2 → Wf B2 H2 w2 → EnvR K B2 H2 w2 σ ρ2 → RO K B2 H2 v1 x → RO K B2 H2 v2 y → PostG K W cls σ t u B2 H2 w2 R (F x y ρ2) Q → k v1 v2 H2) :
    tE K W cls f σ H fun v1 H1 => tE K W cls g σ H1 fun v2 H2 => k v1 v2 H2 := by
  refine ⟨t, B, w, ρ, a, bindP P (Nat.le_refl t) fun v1 H1 B1 w1 x ρ1 _ st1 wf1 tb1 en1 r1 P1 => ?_⟩
  refine ⟨t + 1, B1, w1, ρ1, ⟨wf1, tb1, en1⟩, bindP P1 (Nat.le_succ t) fun v2 H2 B2 w2 y ρ2 _ st2 wf2 tb2 en2 r2 P2 => ?_⟩
  exact fin v1 v2 H2 B2 w2 x y ρ2 (st1.trans (st2.mono (Nat.le_succ t))) wf2 en2 (r1.kept st2 (Nat.lt_succ_self t)).ro r2.ro P2

theorem se_bin (o : Bop) (ha : PE X a (tE X.K W cls f)) (hb : PE X b (tE X.K W cls g)) : PE X (.BinOp a (opB o) b pos) (tE X.K W cls (fun r => (f r).bind fun x r => (g r).bind fun y r => Out.of (binO o x y) r)) := by
  refine PE.of (pe_op (bin_sound o) ha hb) ?_
  rintro σ H Q ⟨t, B, w, ρ, a, P⟩
  refine two a P fun v1 v2 H2 B2 w2 x y ρ2 st wf en r1 r2 P2 => ?_
  cases e : binO o x y with
  | none => rw [e] at P2; exact P2.elim
  | some z => rw [e] at P2; exact ⟨B2, x, y, z, wf.sub, r1, r2, e, finO P2 wf en⟩
theorem se_cmp (o : Cop) (hu : X.A.units + 66 < cLine) (hd : hdOk b = true) (ha : PE X a (tE X.K W cls f)) (hb : PE X b (tE X.K W cls g)) :
    PE X (.Compare a [opC o] [b] pos) (tE X.K W cls (fun r => (f r).bind fun x r => (g r).bind fun y r => Out.of ((cmpO o x y).map fun k => .d (.bl k)) r)) := by
  refine PE.of (pe_cmpR (cmp_sound o hu) ha hb (mark_ok hd)) ?_
  rintro σ H Q ⟨t, B, w, ρ, a, P⟩
  refine two a P fun v1 v2 H2 B2 w2 x y ρ2 st wf en r1 r2 P2 => ?_
  cases e : cmpO o x y with
  | none => rw [e] at P2; exact P2.elim
  | some z => rw [e] at P2; exact ⟨B2, x, y, z, wf.sub, r1, r2, e, fin_bl (finO P2 wf en)⟩
theorem fin_t {σ : L2.St} {H : Hp} {t : Nat} {B : Hp} {w : Wn} {ρ : Rho} {k : Bool} {Q : Bool → Hp → Prop} (P : PostG K W cls σ t (t + 0) B H w (fun _ _ _ (b : Bool) (o : Bool) => b = o) (.ok k ρ) Q) (wf : Wf B H w) (env : EnvR K B H w σ ρ) : Q k H :=
  post_ok P (stp_drop t B H w) wf.drop (TB.drop t w) env.drop rfl
theorem tst_ok {o : O} {r : Rho} {k : Bool} {r' : Rho} (h : Out.of (asB o) r = .ok k r') : asB o = some k ∧ r' = r := by
  cases e : asB o with
  | none => rw [e] at h; cases h
  | some j => rw [e] at h; cases h; exact ⟨rfl, rfl⟩
theorem Out.bind_assoc {α β γ : Type} (o : Out α) (f : α → Rho → Out β) (g : β → Rho → Out γ) : (o.bind f).bind g = o.bind fun x r => (f x r).bind g := by
  cases o <;> rfl
theorem tst_bind {γ : Type} (o : Out O) (g : Bool → Rho → Out γ) : (tst o).bind g = o.bind fun x r => (Out.of (asB x) r).bind g := by
  unfold tst; exact Out.bind_assoc _ _ _
theorem st_cmp (o : Cop) (hu : X.A.units + 66 < cLine) (hd : hdOk b = true) (ha : PE X a (tE X.K W cls f)) (hb : PE X b (tE X.K W cls g)) :
    PT X (.Compare a [opC o] [b] pos) (tT X.K W cls (fun r => tst ((f r).bind fun x r => (g r).bind fun y r => Out.of ((cmpO o x y).map fun k => .d (.bl k)) r))) := by
  refine PT.of (pt_cmpR (cmp_sound o hu) ha hb (mark_ok hd)) ?_
  rintro σ H Q ⟨t, B, w, ρ, a, P⟩
  simp only [tst, Out.bind_assoc] at P
  refine two a P fun v1 v2 H2 B2 w2 x y ρ2 st wf en r1 r2 P2 => ?_
  cases e : cmpO o x y with
  | none => rw [e] at P2; exact P2.elim
  | some z => rw [e] at P2; exact ⟨B2, x, y, z, wf.sub, r1, r2, e, z, rfl, fin_t P2 wf en⟩
theorem asB_of {o : O} {k : Bool} (h : asB o = some k) : o = .d (.bl k) := by
  cases o with
  | lst _ => cases h
  | dct _ _ => cases h
  | dtt _ _ => cases h
  | ins _ _ => cases h
  | d x => cases x <;> first | (cases h; rfl) | cases h
theorem asI_of {o : O} {k : Int} (h : asI o = some k) : o = .d (.int k) := by
  cases o with
  | lst _ => cases h
  | dct _ _ => cases h
  | dtt _ _ => cases h
  | ins _ _ => cases h
  | d x => cases x <;> first | (cases h; rfl) | cases h
theorem or_bl {F : Addr → Prop} {B H : Hp} {v : V} {o : O} {k : Bool} (h : OR K B H F v o) (e : asB o = some k) : v = .bl k := by
  have eo := asB_of e
  subst eo
  cases h with | d h => cases h; rfl
theorem or_int {F : Addr → Prop} {B H : Hp} {v : V} {o : O} {k : Int} (h : OR K B H F v o) (e : asI o = some k) : v = .int k := by
  have eo := asI_of e
  subst eo
  cases h with | d h => cases h; rfl
/-- a truth as an expression's value, then what it leads to -/
theorem truthE {σ : L2.St} {H : Hp} {t u : Nat} {B : Hp} {w : Wn} {ρ : Rho} {α β : Type} {R : Hp → Hp → Wn → β → α → Prop} {Q : β → Hp → Prop} {F : Bool → Rho → Out α} {Q1 : VK} (a : At K t B H w σ ρ)
    (P : PostG K W cls σ t u B H w R ((tst (f ρ)).bind F) Q)
    (fin : ∀ k H1 B1 w1 ρ1, Stp t B H w B1 H1 w1 → At K t B1 H1 w1 σ ρ1 → PostG K W cls σ t u B1 H1 w1 R (F k ρ1) Q → Q1 (.bl k) H1) : tE K W cls f σ H Q1 := by
  rw [tst_bind] at P
  refine ⟨t, B, w, ρ, a, bindP P (Nat.le_refl t) fun v1 H1 B1 w1 x ρ1 _ st1 wf1 tb1 en1 r1 P1 => ?_⟩
  cases e : asB x with
  | none => rw [e] at P1; exact P1.elim
  | some k =>
    rw [e] at P1
    rw [or_bl r1 e]
    exact fin k H1 B1 (dropT t w1) ρ1 (st1.trans (stp_drop t B1 H1 w1)) ⟨wf1.drop, TB.drop t w1, en1.drop⟩ (P1.after (stp_drop t B1 H1 w1))
/-- an expression whose value is its truth -/
theorem st_val (hd : hdT e = true) (he : PE X e (tE X.K W cls f)) : PT X e (tT X.K W cls fun r => tst (f r)) := by
  refine PT.of (pt_val he (truth_ok hd)) ?_
  rintro σ H Q ⟨t, B, w, ρ, a, P⟩
  have P' : PostG X.K W cls σ t (t + 0) B H w (fun _ _ _ (b : Bool) (o : Bool) => b = o) ((tst (f ρ)).bind fun k r => .ok k r) Q := by
    dsimp only at P
    cases e : tst (f ρ) with
    | ok o r => rw [e] at P; exact P
    | exc _ _ _ => rw [e] at P; exact P
    | bad => rw [e] at P; exact P
  exact truthE a P' fun k H1 B1 w1 ρ1 st a1 P1 => ⟨k, rfl, fin_t P1 a1.wf a1.env⟩
theorem bind_ok_id {α : Type} (o : Out α) : (o.bind fun x r => .ok x r) = o := by cases o <;> rfl
/-- a test, then what it leads to -/
theorem truthT {fb : Rho → Out Bool} {σ : L2.St} {H : Hp} {t u : Nat} {B : Hp} {w : Wn} {ρ : Rho} {α β : Type} {R : Hp → Hp → Wn → β → α → Prop} {Q : β → Hp → Prop} {F : Bool → Rho → Out α} {Q1 : Bool → Hp → Prop} (a : At K t B H w σ ρ)
    (P : PostG K W cls σ t u B H w R ((fb ρ).bind F) Q)
    (fin : ∀ k H1 B1 w1 ρ1, Stp t B H w B1 H1 w1 → At K t B1 H1 w1 σ ρ1 → PostG K W cls σ t u B1 H1 w1 R (F k ρ1) Q → Q1 k H1) : tT K W cls fb σ H Q1 := by
  refine ⟨t, B, w, ρ, a, bindP P (Nat.le_refl t) fun v1 H1 B1 w1 x ρ1 _ st1 wf1 tb1 en1 r1 P1 => ?_⟩
  subst r1
  exact fin v1 H1 B1 w1 ρ1 st1 ⟨wf1, tb1, en1⟩ P1

/-! ### not, and, or, chains -/
theorem se_not (ha : PE X a (tE X.K W cls f)) : PE X (.UnaryOp .Not a pos) (tE X.K W cls (fun r => (tst (f r)).bind fun k r => .ok (.d (.bl (!k))) r)) := by
  refine PE.of (pe_not ha) ?_
  rintro σ H Q ⟨t, B, w, ρ, a, P⟩
  exact truthE a P fun k H1 B1 w1 ρ1 st a1 P1 => ⟨k, rfl, fin_bl (finO P1 a1.wf a1.env)⟩
theorem st_not {fb : Rho → Out Bool} (ha : PT X a (tT X.K W cls fb)) (e : ∀ r, fb r = tst (f r)) : PT X (.UnaryOp .Not a pos) (tT X.K W cls (fun r => tst ((tst (f r)).bind fun k r => .ok (.d (.bl (!k))) r))) := by
  refine PT.of (pt_not ha) ?_
  rintro σ H Q ⟨t, B, w, ρ, a, P⟩
  have P' : PostG X.K W cls σ t (t + 0) B H w (fun _ _ _ (b : Bool) (o : Bool) => b = o) ((fb ρ).bind fun k r => .ok (!k) r) Q := by
    rw [e ρ]
    have e2 : tst ((tst (f ρ)).bind fun k r => .ok (.d (.bl (!k))) r) = (tst (f ρ)).bind fun k r => .ok (!k) r := by
      unfold tst
      simp only [Out.bind_assoc]
      congr 1
    dsimp only at P
    rw [e2] at P; exact P
  exact truthT a P' fun k H1 B1 w1 ρ1 st a1 P1 => fin_t P1 a1.wf a1.env
theorem cont_E {σ : L2.St} {t : Nat} {B1 H1 : Hp} {w1 : Wn} {ρ1 : Rho} {Q : VK} (a1 : At K t B1 H1 w1 σ ρ1) (P : PostG K W cls σ t (t + 1) B1 H1 w1 (RE K σ t) (f ρ1) Q) : tE K W cls f σ H1 Q := ⟨t, B1, w1, ρ1, a1, P⟩
theorem se_and {rest : List Expr} (ha : PE X a (tE X.K W cls f)) (hb : PE X (.BoolOp .And (b :: rest) pos) (tE X.K W cls g)) :
    PE X (.BoolOp .And (a :: b :: rest) pos) (tE X.K W cls (fun r => (tst (f r)).bind fun k r => if k = true then g r else .ok (.d (.bl false)) r)) := by
  refine PE.of (pe_and ha hb) ?_
  rintro σ H Q ⟨t, B, w, ρ, a, P⟩
  refine truthE a P fun k H1 B1 w1 ρ1 st a1 P1 => ⟨k, rfl, ?_⟩
  cases k with
  | true => exact cont_E a1 P1
  | false => exact fin_bl (finO P1 a1.wf a1.env)
theorem se_or {rest : List Expr} (ha : PE X a (tE X.K W cls f)) (hb : PE X (.BoolOp .Or (b :: rest) pos) (tE X.K W cls g)) :
    PE X (.BoolOp .Or (a :: b :: rest) pos) (tE X.K W cls (fun r => (tst (f r)).bind fun k r => if k = true then .ok (.d (.bl true)) r else g r)) := by
  refine PE.of (pe_or ha hb) ?_
  rintro σ H Q ⟨t, B, w, ρ, a, P⟩
  refine truthE a P fun k H1 B1 w1 ρ1 st a1 P1 => ⟨k, rfl, ?_⟩
  cases k with
  | true => exact fin_bl (finO P1 a1.wf a1.env)
  | false => exact cont_E a1 P1
theorem sw_and {rest : List Expr} (ha : PT X a (tT X.K W cls fun r => tst (f r))) (hb : PW X (.BoolOp .And (b :: rest) pos) (tT X.K W cls fun r => tst (g r))) :
    PW X (.BoolOp .And (a :: b :: rest) pos) (tT X.K W cls (fun r => tst ((tst (f r)).bind fun k r => if k = true then g r else .ok (.d (.bl false)) r))) := by
  refine PW.of (pw_and ha hb) ?_
  rintro σ H Q ⟨t, B, w, ρ, a, P⟩
  have P' : PostG X.K W cls σ t (t + 0) B H w (fun _ _ _ (b : Bool) (o : Bool) => b = o) ((tst (f ρ)).bind fun k r => if k = true then tst (g r) else .ok false r) Q := by
    have e2 : tst ((tst (f ρ)).bind fun k r => if k = true then g r else .ok (.d (.bl false)) r) = (tst (f ρ)).bind fun k r => if k = true then tst (g r) else .ok false r := by
      cases tst (f ρ) with
      | ok k r => cases k <;> rfl
      | _ => rfl
    dsimp only at P
    rw [e2] at P; exact P
  refine truthT a P' fun k H1 B1 w1 ρ1 st a1 P1 => ?_
  cases k with
  | true => exact ⟨t, B1, w1, ρ1, a1, P1⟩
  | false => exact fin_t P1 a1.wf a1.env
theorem sw_or {rest : List Expr} (ha : PT X a (tT X.K W cls fun r => tst (f r))) (hb : PW X (.BoolOp .Or (b :: rest) pos) (tT X.K W cls fun r => tst (g r))) :
    PW X (.BoolOp .Or (a :: b :: rest) pos) (tT X.K W cls (fun r => tst ((tst (f r)).bind fun k r => if k = true then .ok (.d (.bl true)) r else g r))) := by
  refine PW.of (pw_or ha hb) ?_
  rintro σ H Q ⟨t, B, w, ρ, a, P⟩
  have P' : PostG X.K W cls σ t (t + 0) B H w (fun _ _ _ (b : Bool) (o : Bool) => b = o) ((tst (f ρ)).bind fun k r => if k = true then .ok true r else tst (g r)) Q := by
    have e2 : tst ((tst (f ρ)).bind fun k r => if k = true then .ok (.d (.bl true)) r else g r) = (tst (f ρ)).bind fun k r => if k = true then .ok true r else tst (g r) := by
      cases tst (f ρ) with
      | ok k r => cases k <;> rfl
      | _ => rfl
    dsimp only at P
    rw [e2] at P; exact P
  refine truthT a P' fun k H1 B1 w1 ρ1 st a1 P1 => ?_
  cases k with
  | true => exact fin_t P1 a1.wf a1.env
  | false => exact ⟨t, B1, w1, ρ1, a1, P1⟩
theorem se_ite {fb : Rho → Out Bool} (hc : PT X c (tT X.K W cls fun r => tst (h r))) (ha : PE X a (tE X.K W cls f)) (hb : PE X b (tE X.K W cls g)) :
    PE X (.IfExp c a b pos) (tE X.K W cls (fun r => (tst (h r)).bind fun k r => if k = true then f r else g r)) := by
  refine PE.of (pe_ifExp hc ha hb) ?_
  rintro σ H Q ⟨t, B, w, ρ, a, P⟩
  refine truthT (fb := fun r => tst (h r)) a P fun k H1 B1 w1 ρ1 st a1 P1 => ?_
  cases k with
  | true => exact cont_E a1 P1
  | false => exact cont_E a1 P1
/-- three parts of a chain -/
theorem se_chn (o o' : Cop) (hu : X.A.units + 66 < cLine) (hd : hdOk c = true) (ha : PE X a (tE X.K W cls f)) (hb : PE X b (tE X.K W cls g)) (hc : PE X c (tE X.K W cls h)) :
    PE X (.Compare a [opC o, opC o'] [b, c] pos) (tE X.K W cls (fun r => (f r).bind fun x r => (g r).bind fun y r => match cmpO o x y with
      | some true => (h r).bind fun z r => Out.of ((cmpO o' y z).map fun k => .d (.bl k)) r
      | some false => .ok (.d (.bl false)) r
      | none => .bad)) := by
  refine PE.of (pe_chain (cmp_sound o hu) (cmp_sound o' hu) ha hb hc (by show behindInMarks (opC o') c = false; exact mark_ok hd)) ?_
  rintro σ H Q ⟨t, B, w, ρ, a, P⟩
  refine ⟨t, B, w, ρ, a, bindP P (Nat.le_refl t) fun v1 H1 B1 w1 x ρ1 _ st1 wf1 tb1 en1 r1 P1 => ?_⟩
  refine ⟨t + 1, B1, w1, ρ1, ⟨wf1, tb1, en1⟩, bindP P1 (Nat.le_succ t) fun v2 H2 B2 w2 y ρ2 _ st2 wf2 tb2 en2 r2 P2 => ?_⟩
  have r1' := r1.kept st2 (Nat.lt_succ_self t)
  cases e : cmpO o x y with
  | none => rw [e] at P2; exact P2.elim
  | some k =>
    rw [e] at P2
    refine ⟨B2, x, y, k, wf2.sub, r1'.ro, r2.ro, e, k, rfl, ?_⟩
    cases k with
    | false => exact fin_bl (finO P2 wf2 en2)
    | true =>
      refine ⟨t + 2, B2, w2, ρ2, ⟨wf2, tb2, en2⟩, bindP P2 (Nat.le_add_right t 2) fun v3 H3 B3 w3 z ρ3 _ st3 wf3 tb3 en3 r3 P3 => ?_⟩
      have r2' := r2.kept st3 (Nat.lt_succ_self (t + 1))
      cases e' : cmpO o' y z with
      | none => rw [e'] at P3; exact P3.elim
      | some k' =>
        rw [e'] at P3
        exact ⟨B3, y, z, k', wf3.sub, r2'.ro, r3.ro, e', fin_bl (finO P3 wf3 en3)⟩
theorem st_chn (o o' : Cop) (hu : X.A.units + 66 < cLine) (hd : hdOk c = true) (ha : PE X a (tE X.K W cls f)) (hb : PE X b (tE X.K W cls g)) (hc : PE X c (tE X.K W cls h)) :
    PT X (.Compare a [opC o, opC o'] [b, c] pos) (tT X.K W cls (fun r => tst ((f r).bind fun x r => (g r).bind fun y r => match cmpO o x y with
      | some true => (h r).bind fun z r => Out.of ((cmpO o' y z).map fun k => .d (.bl k)) r
      | some false => .ok (.d (.bl false)) r
      | none => .bad))) := by
  refine PT.of (pt_chain (cmp_sound o hu) (cmp_sound o' hu) ha hb hc (by show behindInMarks (opC o') c = false; exact mark_ok hd)) ?_
  rintro σ H Q ⟨t, B, w, ρ, a, P⟩
  simp only [tst, Out.bind_assoc] at P
  refine ⟨t, B, w, ρ, a, bindP P (Nat.le_refl t) fun v1 H1 B1 w1 x ρ1 _ st1 wf1 tb1 en1 r1 P1 => ?_⟩
  refine ⟨t + 1, B1, w1, ρ1, ⟨wf1, tb1, en1⟩, bindP P1 (Nat.le_succ t) fun v2 H2 B2 w2 y ρ2 _ st2 wf2 tb2 en2 r2 P2 => ?_⟩
  have r1' := r1.kept st2 (Nat.lt_succ_self t)
  cases e : cmpO o x y with
  | none => rw [e] at P2; exact P2.elim
  | some k =>
    rw [e] at P2
    refine ⟨B2, x, y, k, wf2.sub, r1'.ro, r2.ro, e, k, rfl, ?_⟩
    cases k with
    | false => exact ⟨false, rfl, fin_t P2 wf2 en2⟩
    | true =>
      dsimp only at P2
      rw [Out.bind_assoc] at P2
      refine ⟨t + 2, B2, w2, ρ2, ⟨wf2, tb2, en2⟩, bindP P2 (Nat.le_add_right t 2) fun v3 H3 B3 w3 z ρ3 _ st3 wf3 tb3 en3 r3 P3 => ?_⟩
      have r2' := r2.kept st3 (Nat.lt_succ_self (t + 1))
      cases e' : cmpO o' y z with
      | none => rw [e'] at P3; exact P3.elim
      | some k' =>
        rw [e'] at P3
        exact ⟨B3, y, z, k', wf3.sub, r2'.ro, r3.ro, e', k', rfl, fin_t P3 wf3 en3⟩
/-! ### minus, built-ins, isinstance -/
theorem se_neg (ha : PE X a (tE X.K W cls f)) : PE X (.UnaryOp .USub a pos) (tE X.K W cls (fun r => (f r).bind fun x r => Out.of ((asI x).map fun i => .d (.int (-i))) r)) := by
  refine PE.of (pe_un un_neg ha) ?_
  rintro σ H Q ⟨t, B, w, ρ, a, P⟩
  refine ⟨t, B, w, ρ, a, bindP P (Nat.le_refl t) fun v1 H1 B1 w1 x ρ1 _ st1 wf1 tb1 en1 r1 P1 => ?_⟩
  cases e : asI x with
  | none => rw [e] at P1; exact P1.elim
  | some i => rw [e] at P1; exact ⟨i, or_int r1 e, fin_int (finO P1 wf1 en1)⟩
/-- one argument -/
theorem one {es : List Expr} {σ : L2.St} {H : Hp} {t : Nat} {B : Hp} {w : Wn} {ρ : Rho} {Q : VK} {F : O → Option O} {k : List V → Hp → Prop} (a : At K t B H w σ ρ)
    (P : PostG K W cls σ t (t + 1) B H w (RE K σ t) ((f ρ).bind fun x r => Out.of (F x) r) Q) (fin : ∀ v H1 B1 x z, Sub B1 H1 → RO K B1 H1 v x → F x = some z → FinO K B1 H1 z Q → k [v] H1) :
    tCons (tE K W cls f) tNil σ H k := by
  refine ⟨t, B, w, ρ, a, bindP P (Nat.le_refl t) fun v1 H1 B1 w1 x ρ1 _ st1 wf1 tb1 en1 r1 P1 => ?_⟩
  cases e : F x with
  | none => rw [e] at P1; exact P1.elim
  | some z => rw [e] at P1; exact fin v1 H1 B1 x z wf1.sub r1.ro e (finO P1 wf1 en1)
def biName : Bi → Str
  | .len => "len" | .list => "list" | .tuple => "tuple" | .sum => "sum" | .all => "all" | .any => "any" | .int => "int" | .abs => "abs" | .dict => "dict" | .str => "str"
theorem se_bi (o : Bi) {p : Pos} (hc : X.calm = true) (hg : Gl X (biName o)) (hm : X.mg (biName o) = none) (hd : hdOk a = true) (ha : PE X a (tE X.K W cls f)) :
    PE X (.Call (.Name (biName o) p) [a] [] pos) (tE X.K W cls (fun r => (f r).bind fun x r => Out.of (biO o x) r)) := by
  have key : ∀ σ H Q, tE X.K W cls (fun r => (f r).bind fun x r => Out.of (biO o x) r) σ H Q → tCB (rBi X.K o) (tCons (tE X.K W cls f) tNil) σ H Q := by
    rintro σ H Q ⟨t, B, w, ρ, a, P⟩
    exact one (es := []) a P fun v H1 B1 x z s r e q => ⟨B1, v, x, z, rfl, s, r, e, q⟩
  have args : PA X [a] (tCons (tE X.K W cls f) tNil) := pa_cons ha pa_nil (star_ok hd)
  cases o with
  | len => exact PE.of (pe_callB (bi_sound .len hc) hg hm (by decide +kernel) args (by decide +kernel) (by decide +kernel) (star_ok hd)) key
  | list => exact PE.of (pe_callTy (bi_sound .list hc) hg hm (by decide +kernel) args (by decide +kernel) (by decide +kernel) (star_ok hd)) key
  | tuple => exact PE.of (pe_callTy (bi_sound .tuple hc) hg hm (by decide +kernel) args (by decide +kernel) (by decide +kernel) (star_ok hd)) key
  | sum => exact PE.of (pe_callB (bi_sound .sum hc) hg hm (by decide +kernel) args (by decide +kernel) (by decide +kernel) (star_ok hd)) key
  | all => exact PE.of (pe_callB (bi_sound .all hc) hg hm (by decide +kernel) args (by decide +kernel) (by decide +kernel) (star_ok hd)) key
  | any => exact PE.of (pe_callB (bi_sound .any hc) hg hm (by decide +kernel) args (by decide +kernel) (by decide +kernel) (star_ok hd)) key
  | int => exact PE.of (pe_callTy (bi_sound .int hc) hg hm (by decide +kernel) args (by decide +kernel) (by decide +kernel) (star_ok hd)) key
  | abs => exact PE.of (pe_callB (bi_sound .abs hc) hg hm (by decide +kernel) args (by decide +kernel) (by decide +kernel) (star_ok hd)) key
  | str => exact PE.of (pe_callTy (bi_sound .str hc) hg hm (by decide +kernel) args (by decide +kernel) (by decide +kernel) (star_ok hd)) key
  | dict => exact PE.of (pe_callTy (bi_sound .dict hc) hg hm (by decide +kernel) args (by decide +kernel) (by decide +kernel) (star_ok hd)) key
def bi2Name : Bi2 → Str
  | .min => "min" | .max => "max"
theorem se_bi2 (o : Bi2) {p : Pos} (hc : X.calm = true) (hg : Gl X (bi2Name o)) (hm : X.mg (bi2Name o) = none) (hd : hdOk a = true) (hd2 : hdOk b = true) (ha : PE X a (tE X.K W cls f)) (hb : PE X b (tE X.K W cls g)) :
    PE X (.Call (.Name (bi2Name o) p) [a, b] [] pos) (tE X.K W cls (fun r => (f r).bind fun x r => (g r).bind fun y r => Out.of (bi2O o x y) r)) := by
  have key : ∀ σ H Q, tE X.K W cls (fun r => (f r).bind fun x r => (g r).bind fun y r => Out.of (bi2O o x y) r) σ H Q → tCB (rBi2 X.K o) (tCons (tE X.K W cls f) (tCons (tE X.K W cls g) tNil)) σ H Q := by
    rintro σ H Q ⟨t, B, w, ρ, a, P⟩
    refine two (k := fun v1 v2 H2 => rBi2 X.K o [v1, v2] H2 Q) a P fun v1 v2 H2 B2 w2 x y ρ2 st wf en r1 r2 P2 => ?_
    cases e : bi2O o x y with
    | none => rw [e] at P2; exact P2.elim
    | some z => rw [e] at P2; exact ⟨B2, v1, v2, x, y, z, rfl, wf.sub, r1, r2, e, finO P2 wf en⟩
  have args : PA X [a, b] (tCons (tE X.K W cls f) (tCons (tE X.K W cls g) tNil)) := pa_cons ha (pa_cons hb pa_nil (star_ok hd2)) (star_ok hd)
  have hpl : (backTo pos (starEach [b] X.env)).any (·.1) = false := by rw [star_ok hd2] <;> rfl
  cases o with
  | min => exact PE.of (pe_callB (bi2_sound .min hc) hg hm (by decide +kernel) args (by decide +kernel) (by decide +kernel) (star_ok hd) hpl) key
  | max => exact PE.of (pe_callB (bi2_sound .max hc) hg hm (by decide +kernel) args (by decide +kernel) (by decide +kernel) (star_ok hd) hpl) key
def tyStr : Ty → Str
  | .int => "int" | .bool => "bool" | .str => "str" | .list => "list" | .tuple => "tuple" | .dict => "dict"
theorem se_isi (ty : Ty) {p p2 : Pos} (hg : Gl X "isinstance") (hm : X.mg "isinstance" = none) (hg2 : Gl X (tyStr ty)) (hm2 : X.mg (tyStr ty) = none) (hd : hdOk a = true) (ha : PE X a (tE X.K W cls f)) :
    PE X (.Call (.Name "isinstance" p) [a, .Name (tyStr ty) p2] [] pos) (tE X.K W cls (fun r => (f r).bind fun x r => if isIns (frz x) = true then .bad else .ok (.d (.bl (isTy (frz x) ty))) r)) := by
  have ht : PE X (.Name (tyStr ty) p2) (tC (.ty (tyN ty))) := by
    cases ty with
    | int => exact pe_bltn hg2 hm2 (show bootBuiltins "int" = some (.type "int") by decide +kernel) rfl (by decide +kernel) (by decide +kernel)
    | bool => exact pe_bltn hg2 hm2 (show bootBuiltins "bool" = some (.type "bool") by decide +kernel) rfl (by decide +kernel) (by decide +kernel)
    | str => exact pe_bltn hg2 hm2 (show bootBuiltins "str" = some (.type "str") by decide +kernel) rfl (by decide +kernel) (by decide +kernel)
    | list => exact pe_bltn hg2 hm2 (show bootBuiltins "list" = some (.type "list") by decide +kernel) rfl (by decide +kernel) (by decide +kernel)
    | tuple => exact pe_bltn hg2 hm2 (show bootBuiltins "tuple" = some (.type "tuple") by decide +kernel) rfl (by decide +kernel) (by decide +kernel)
    | dict => exact pe_bltn hg2 hm2 (show bootBuiltins "dict" = some (.type "dict") by decide +kernel) rfl (by decide +kernel) (by decide +kernel)
  refine PE.of (pe_callB (isi_sound ty) hg hm (by decide +kernel) (pa_cons ha (pa_cons ht pa_nil) (star_ok hd)) (by decide +kernel) (by decide +kernel) (star_ok hd)) ?_
  rintro σ H Q ⟨t, B, w, ρ, a, P⟩
  refine ⟨t, B, w, ρ, a, bindP P (Nat.le_refl t) fun v1 H1 B1 w1 x ρ1 _ st1 wf1 tb1 en1 r1 P1 => ?_⟩
  split at P1
  · exact P1.elim
  · rename_i hno
    exact ⟨B1, v1, x, rfl, wf1.sub, r1.ro, by simpa using hno, fin_bl (finO P1 wf1 en1)⟩
theorem se_lrev {p p2 pos2 : Pos} (hc : X.calm = true) (hg : Gl X "list") (hm : X.mg "list" = none) (hg2 : Gl X "reversed") (hm2 : X.mg "reversed" = none) (hd : hdOk a = true) (ha : PE X a (tE X.K W cls f)) :
    PE X (.Call (.Name "list" p) [.Call (.Name "reversed" p2) [a] [] pos2] [] pos) (tE X.K W cls (fun r => (f r).bind fun x r => Out.of ((asL x).map fun xs => .lst xs.reverse) r)) := by
  refine PE.of (pe_lrev hc hg hm hg2 hm2 ha (star_ok hd)) ?_
  rintro σ H Q ⟨t, B, w, ρ, a, P⟩
  refine ⟨t, B, w, ρ, a, bindP P (Nat.le_refl t) fun v1 H1 B1 w1 x ρ1 _ st1 wf1 tb1 en1 r1 P1 => ?_⟩
  cases e : asL x with
  | none => rw [e] at P1; exact P1.elim
  | some xs => rw [e] at P1; exact ⟨B1, x, xs, wf1.sub, r1.ro, e, finO P1 wf1 en1⟩
/-! ### subscripts, slices -/
theorem se_ix (hu : X.A.units + 1 < cLine) (hd : hdOk b = true) (ha : PE X a (tE X.K W cls f)) (hb : PE X b (tE X.K W cls g)) : PE X (.Subscript a b pos) (tE X.K W cls (fun r => (f r).bind fun x r => (g r).bind fun y r => Out.of ((ixO x y).map .d) r)) := by
  refine PE.of (pe_ix (ix_sound hu) ha hb (plainIx_ok hd)) ?_
  rintro σ H Q ⟨t, B, w, ρ, a, P⟩
  refine two a P fun v1 v2 H2 B2 w2 x y ρ2 st wf en r1 r2 P2 => ?_
  cases e : ixO x y with
  | none => rw [e] at P2; exact P2.elim
  | some z => rw [e] at P2; exact ⟨B2, x, y, z, wf.sub, r1, r2, e, fun v hv => fin_dr (t0 := 0) P2 wf en hv⟩
theorem se_ixp {p : Nat} (hu : X.A.units + 1 < cLine) (hd : hdOk b = true) (ha : PE X a (tVar p)) (hb : PE X b (tE X.K W cls g)) :
    PE X (.Subscript a b pos) (tE X.K W cls (fun r => match getS p r with
      | none => .bad
      | some _ => (g r).bind fun y r => match getS p r with
        | some x => Out.of ((ixO x y).map .d) r
        | none => .bad)) := by
  refine PE.of (pe_ix (ix_sound hu) ha hb (plainIx_ok hd)) ?_
  rintro σ H Q ⟨t, B, w, ρ, a, P⟩
  dsimp only at P
  cases e0 : getS p ρ with
  | none => rw [e0] at P; exact P.elim
  | some x0 =>
    rw [e0] at P
    obtain ⟨v, hv, _⟩ := a.env.at' p x0 e0
    refine ⟨v, hv, t, B, w, ρ, a, bindP P (Nat.le_refl t) fun v2 H2 B2 w2 y ρ2 _ st2 wf2 tb2 en2 r2 P2 => ?_⟩
    cases e1 : getS p ρ2 with
    | none => rw [e1] at P2; exact P2.elim
    | some x =>
      rw [e1] at P2
      obtain ⟨v', hv', hx⟩ := en2.at' p x e1
      rw [hv] at hv'; cases hv'
      cases e : ixO x y with
      | none => simp only [e] at P2; exact P2.elim
      | some z => simp only [e] at P2; exact ⟨B2, x, y, z, wf2.sub, hx.ro, r2.ro, e, fun v hv => fin_dr (t0 := 0) P2 wf2 en2 hv⟩
theorem so_none : PO X none (tO X.K W cls (fun r => .ok none r)) := by
  refine ⟨fun pins s σ H Q I q => po_none.run pins s σ H Q I ?_⟩
  obtain ⟨t, B, w, ρ, a, P⟩ := q
  exact P none B H w (Stp.refl t B H w) a.wf a.tb a.env rfl
theorem so_some (ha : PE X a (tE X.K W cls f)) : PO X (some a) (tO X.K W cls (fun r => (f r).bind fun x r => match asI x with
    | some i => .ok (some i) r
    | none => .bad)) := by
  refine ⟨fun pins s σ H Q I q => (po_some ha).run pins s σ H Q I ?_⟩
  obtain ⟨t, B, w, ρ, a, P⟩ := q
  refine ⟨t, B, w, ρ, a, bindP P (Nat.le_refl t) fun v1 H1 B1 w1 x ρ1 _ st1 wf1 tb1 en1 r1 P1 => ?_⟩
  cases e : asI x with
  | none => rw [e] at P1; exact P1.elim
  | some i => rw [e] at P1; exact ⟨i, or_int r1 e, P1 _ _ _ _ (stp_drop t B1 H1 w1) wf1.drop (TB.drop t w1) en1.drop rfl⟩
theorem se_sl {lo hi : Option Expr} {p2 : Pos} {fl fh : Rho → Out (Option Int)} (ha : PE X a (tE X.K W cls f)) (hl : PO X lo (tO X.K W cls fl)) (hh : PO X hi (tO X.K W cls fh)) :
    PE X (.Subscript a (.Slice lo hi none p2) pos) (tE X.K W cls (fun r => (f r).bind fun x r => (fl r).bind fun i r => (fh r).bind fun j r => Out.of (slO x i j) r)) := by
  refine PE.of (pe_slice sl_sound ha hl hh) ?_
  rintro σ H Q ⟨t, B, w, ρ, a, P⟩
  refine ⟨t, B, w, ρ, a, bindP P (Nat.le_refl t) fun v1 H1 B1 w1 x ρ1 _ st1 wf1 tb1 en1 r1 P1 => ?_⟩
  refine ⟨t + 1, B1, w1, ρ1, ⟨wf1, tb1, en1⟩, bindP P1 (Nat.le_succ t) fun i H2 B2 w2 i' ρ2 _ st2 wf2 tb2 en2 r2 P2 => ?_⟩
  refine ⟨t + 1, B2, w2, ρ2, ⟨wf2, tb2, en2⟩, bindP P2 (Nat.le_succ t) fun j H3 B3 w3 j' ρ3 _ st3 wf3 tb3 en3 r3 P3 => ?_⟩
  subst r2 r3
  have r1' := (r1.kept st2 (Nat.lt_succ_self t)).kept st3 (Nat.lt_succ_self t)
  cases e : slO x i j with
  | none => rw [e] at P3; exact P3.elim
  | some z => rw [e] at P3; exact ⟨B3, x, z, wf3.sub, r1'.ro, e, finO P3 wf3 en3⟩
theorem se_slp {p : Nat} {lo hi : Option Expr} {p2 : Pos} {fl fh : Rho → Out (Option Int)} (ha : PE X a (tVar p)) (hl : PO X lo (tO X.K W cls fl)) (hh : PO X hi (tO X.K W cls fh)) :
    PE X (.Subscript a (.Slice lo hi none p2) pos) (tE X.K W cls (fun r => match getS p r with
      | none => .bad
      | some _ => (fl r).bind fun i r => (fh r).bind fun j r => match getS p r with
        | some x => Out.of (slO x i j) r
        | none => .bad)) := by
  refine PE.of (pe_slice sl_sound ha hl hh) ?_
  rintro σ H Q ⟨t, B, w, ρ, a, P⟩
  dsimp only at P
  cases e0 : getS p ρ with
  | none => rw [e0] at P; exact P.elim
  | some x0 =>
    rw [e0] at P
    obtain ⟨v, hv, _⟩ := a.env.at' p x0 e0
    refine ⟨v, hv, t, B, w, ρ, a, bindP P (Nat.le_refl t) fun i H2 B2 w2 i' ρ2 _ st2 wf2 tb2 en2 r2 P2 => ?_⟩
    refine ⟨t, B2, w2, ρ2, ⟨wf2, tb2, en2⟩, bindP P2 (Nat.le_refl t) fun j H3 B3 w3 j' ρ3 _ st3 wf3 tb3 en3 r3 P3 => ?_⟩
    subst r2 r3
    cases e1 : getS p ρ3 with
    | none => rw [e1] at P3; exact P3.elim
    | some x =>
      rw [e1] at P3
      obtain ⟨v', hv', hx⟩ := en3.at' p x e1
      rw [hv] at hv'; cases hv'
      cases e : slO x i j with
      | none => simp only [e] at P3; exact P3.elim
      | some z => simp only [e] at P3; exact ⟨B3, x, z, wf3.sub, hx.ro, e, finO P3 wf3 en3⟩
end
end Ev
end

section
set_option Elab.async false
set_option linter.all false
set_option maxRecDepth 100000
set_option maxHeartbeats 4000000
/-! Ev, part F: pop, borrowing, calls, comprehensions. -/
namespace Ev
open PySem PySem.Spec PyProof.Rows L2
variable [Γ : Clz]
section
variable {X : Cx} {K : PySem.W.Frag} {W : WX} {cls : Nat → Value} {cf : CallF} {G : Gs} {a b c e : Expr} {f g h : Rho → Out O} {pos : Pos}

/-- the list of a slot changed -/
theorem mutS {σ : L2.St} {t : Nat} {B H : Hp} {w : Wn} {ρ : Rho} {p : Nat} {xs : List D} (wf : Wf B H w) (env : EnvR K B H w σ ρ) (e : getS p ρ = some (.lst xs)) :
    ∃ l vs, σ[p]? = some (some (.ref l)) ∧ H l = some (.lst vs) ∧ DRs K B vs xs ∧ w l = some (.slot p) ∧
      ∀ vs' xs', DRs K B vs' xs' → Stp t B H w B (upd H l (.lst vs')) w ∧ Wf B (upd H l (.lst vs')) w ∧ EnvR K B (upd H l (.lst vs')) w σ (ρ.set p (some (.lst xs'))) := by
  obtain ⟨v, hv, ho⟩ := env.at' p _ e
  cases ho with
  | @lst l vs _ hw hl hd =>
  refine ⟨l, vs, hv, hl, hd, hw, fun vs' xs' hd' => ⟨⟨Ext.refl B, fun b o h1 h2 => ?_, fun b o k h1 h2 _ => ?_, fun _ _ h => .inl h⟩, ⟨sub_own wf hw _, wf.off, fun b q h1 => ?_⟩, ⟨by rw [List.length_set]; exact env.len, fun j o' e2 => ?_⟩⟩⟩
  · have hb : b ≠ l := fun z => by subst z; rw [hw] at h2; cases h2
    exact ⟨by rw [upd_ne hb]; exact h1, h2⟩
  · have hb : b ≠ l := fun z => by subst z; rw [hw] at h2; cases h2
    exact ⟨by rw [upd_ne hb]; exact h1, h2⟩
  · by_cases hb : b = l
    · subst hb; rw [upd_same]; exact fun z => nomatch z
    · rw [upd_ne hb]; exact wf.live b q h1
  · rw [getS_set] at e2
    by_cases hj : j = p
    · subst hj
      rw [if_pos rfl, if_pos (getS_lt e)] at e2
      cases e2
      exact ⟨_, hv, .lst hw upd_same hd'⟩
    · rw [if_neg hj] at e2
      obtain ⟨v', hv', ho'⟩ := env.at' j o' e2
      refine ⟨v', hv', ho'.mono (Ext.refl B) fun x ys f hx => ⟨f, ?_⟩⟩
      have hb : x ≠ l := fun z => by subst z; rw [hw] at f; cases f; exact hj rfl
      rw [upd_ne hb]; exact hx

/-- a slot's thing changed -/
theorem mut1 {σ : L2.St} {t : Nat} {B H : Hp} {w : Wn} {ρ : Rho} {p : Nat} {o0 o' : O} {l : Addr} {u : HO} (wf : Wf B H w) (env : EnvR K B H w σ ρ) (e : getS p ρ = some o0) (hv : σ[p]? = some (some (.ref l))) (hw : w l = some (.slot p))
    (ho : OR K B (upd H l u) (fun a => w a = some (.slot p)) (.ref l) o') : Stp t B H w B (upd H l u) w ∧ Wf B (upd H l u) w ∧ EnvR K B (upd H l u) w σ (ρ.set p (some o')) := by
  refine ⟨⟨Ext.refl B, fun b o h1 h2 => ?_, fun b o k h1 h2 _ => ?_, fun _ _ h => .inl h⟩, ⟨sub_own wf hw _, wf.off, fun b q h1 => ?_⟩, ⟨by rw [List.length_set]; exact env.len, fun j o1 e2 => ?_⟩⟩
  · have hb : b ≠ l := fun z => by subst z; rw [hw] at h2; cases h2
    exact ⟨by rw [upd_ne hb]; exact h1, h2⟩
  · have hb : b ≠ l := fun z => by subst z; rw [hw] at h2; cases h2
    exact ⟨by rw [upd_ne hb]; exact h1, h2⟩
  · by_cases hb : b = l
    · subst hb; rw [upd_same]; exact fun z => nomatch z
    · rw [upd_ne hb]; exact wf.live b q h1
  · rw [getS_set] at e2
    by_cases hj : j = p
    · subst hj
      rw [if_pos rfl, if_pos (getS_lt e)] at e2
      cases e2
      exact ⟨_, hv, ho⟩
    · rw [if_neg hj] at e2
      obtain ⟨v', hv', ho'⟩ := env.at' j o1 e2
      refine ⟨v', hv', ho'.mono (Ext.refl B) fun x ys f hx => ⟨f, ?_⟩⟩
      have hb : x ≠ l := fun z => by subst z; rw [hw] at f; cases f; exact hj rfl
      rw [upd_ne hb]; exact hx
/-- the dict of a slot changed -/
theorem mutD {σ : L2.St} {t : Nat} {B H : Hp} {w : Wn} {ρ : Rho} {p : Nat} {ks : List Ky} {xs : List D} (wf : Wf B H w) (env : EnvR K B H w σ ρ) (e : getS p ρ = some (.dct ks xs)) :
    ∃ l vs, σ[p]? = some (some (.ref l)) ∧ H l = some (.dK (ks.zip vs)) ∧ ks.length = vs.length ∧ DRs K B vs xs ∧ w l = some (.slot p) ∧
      ∀ ks' vs' xs', ks'.length = vs'.length → DRs K B vs' xs' → Stp t B H w B (upd H l (.dK (ks'.zip vs'))) w ∧ Wf B (upd H l (.dK (ks'.zip vs'))) w ∧ EnvR K B (upd H l (.dK (ks'.zip vs'))) w σ (ρ.set p (some (.dct ks' xs'))) := by
  obtain ⟨v, hv, ho⟩ := env.at' p _ e
  cases ho with
  | @dct l _ vs _ hw hl hn hd =>
    exact ⟨l, vs, hv, hl, hn, hd, hw, fun ks' vs' xs' hn' hd' => mut1 wf env e hv hw (.dct hw upd_same hn' hd')⟩
theorem any_zip {k : Ky} : ∀ {ks : List Ky} {vs : List V}, ks.length = vs.length → ((ks.zip vs).any fun kv => decide (kv.1 = k)) = ks.any fun j => decide (j = k)
  | [], _, _ => rfl
  | j :: ks, [], h => by simp at h
  | j :: ks, v :: vs, h => by rw [List.zip_cons_cons, List.any_cons, List.any_cons, any_zip (by simpa using h)]
theorem map_zip {k : Ky} {v : V} : ∀ {ks : List Ky} {vs : List V}, ks.length = vs.length → (ks.zip vs).map (fun kv => if kv.1 = k then (kv.1, v) else kv) = ks.zip ((ks.zip vs).map fun p => if p.1 = k then v else p.2)
  | [], _, _ => rfl
  | j :: ks, [], h => by simp at h
  | j :: ks, x :: vs, h => by
    rw [List.zip_cons_cons, List.map_cons, List.map_cons, List.zip_cons_cons, map_zip (by simpa using h)]
    congr 1
    by_cases e : j = k
    · simp only [if_pos e]
    · simp only [if_neg e]
theorem putVs_dr {B : Hp} {k : Ky} {v : V} {d : D} (hv : DR K B v d) : ∀ {ks : List Ky} {vs : List V} {ds : List D}, ks.length = vs.length → DRs K B vs ds → DRs K B ((ks.zip vs).map fun p => if p.1 = k then v else p.2) ((ks.zip ds).map fun p => if p.1 = k then d else p.2)
  | [], _, _, _, _ => .nil
  | j :: ks, [], _, h, _ => by simp at h
  | j :: ks, x :: vs, _, h, .cons a b => by
    rw [List.zip_cons_cons, List.map_cons, List.zip_cons_cons, List.map_cons]
    refine .cons ?_ (putVs_dr hv (by simpa using h) b)
    by_cases e : j = k
    · simp only [if_pos e]; exact hv
    · simp only [if_neg e]; exact a
theorem put_eq {B : Hp} {k : Ky} {v : V} {d : D} {ks : List Ky} {vs : List V} {ds : List D} (hl : ks.length = vs.length) (hd : DRs K B vs ds) (hv : DR K B v d) :
    putK (ks.zip vs) k v = (putKs ks k).zip (putVs ks vs k v) ∧ (putKs ks k).length = (putVs ks vs k v).length ∧ DRs K B (putVs ks vs k v) (putVs ks ds k d) := by
  unfold putK putKs putVs
  rw [any_zip hl]
  by_cases e : (ks.any fun j => decide (j = k)) = true
  · rw [if_pos e, if_pos e, if_pos e, if_pos e]
    exact ⟨map_zip hl, by rw [List.length_map, zip_len hl], putVs_dr hv hl hd⟩
  · rw [if_neg e, if_neg e, if_neg e, if_neg e]
    refine ⟨?_, by simp [hl], hd.snoc hv⟩
    rw [List.zip_append hl]; rfl
theorem se_pop {p : Nat} {apos : Pos} (ho : PE X a (tVar p)) (hb : attributeBase a "pop" X.env (eval a X.env) = eval a X.env) (hl : (apos.endLine == pos.line) = true) :
    PE X (.Call (.Attribute a "pop" apos) [] [] pos) (tE X.K W cls (fun r => match getS p r with
      | some (.lst xs) => match xs.getLast? with
        | some x => .ok (.d x) (r.set p (some (.lst xs.dropLast)))
        | none => .bad
      | _ => .bad)) := by
  refine PE.of (pe_bm0 PySem.F.plainAttrs_list PySem.F.slot_list_pop PySem.F.type_list_pop mt_pop ho hb hl) ?_
  rintro σ H Q ⟨t, B, w, ρ, at0, P⟩
  dsimp only at P
  split at P
  · rename_i xs e
    split at P
    · rename_i x ex
      obtain ⟨l, vs, hv, hl, hd, hw, mu⟩ := mutS (t := t) at0.wf at0.env e
      obtain ⟨st, wf, en⟩ := mu vs.dropLast xs.dropLast hd.dropLast
      have ex' : xs[xs.length - 1]? = some x := by rw [← List.getLast?_eq_getElem?]; exact ex
      obtain ⟨v, ev, dv⟩ := hd.get ex'
      refine ⟨.ref l, hv, .inl ⟨rfl, vs, SqL.of hl⟩, l, vs, v, rfl, rfl, hl, by rw [hd.length]; exact ev, ?_⟩
      exact fin_dr (t0 := 0) (P.after st) wf en dv
    · exact P.elim
  · exact P.elim

/-! ### borrowing -/
theorem frzR_at {i : Nat} {ρ : Rho} : getS i (frzR ρ) = (getS i ρ).map fun o => .d (frz o) := by
  unfold getS frzR
  rw [List.getElem?_map]
  cases ρ[i]? with
  | none => rfl
  | some x => cases x <;> rfl
theorem env_frz {σ : L2.St} {B H : Hp} {w : Wn} {ρ : Rho} (wf : Wf B H w) (env : EnvR K B H w σ ρ) : EnvR K H H (fun _ => none) σ (frzR ρ) :=
  ⟨by unfold frzR; rw [List.length_map]; exact env.len, fun i o h => by
    rw [frzR_at] at h
    obtain ⟨o', e1, rfl⟩ := Option.map_eq_some_iff.mp h
    obtain ⟨v, hv, ho⟩ := env.at' i o' e1
    exact ⟨v, hv, .d (ho.read wf.sub)⟩⟩
/-- behind what was borrowed: all is as it was -/
theorem back_snap {σ : L2.St} {t : Nat} {B H B' H' : Hp} {w w' : Wn} {ρ : Rho} {t0 : Nat} (a : At K t B H w σ ρ) (st : Stp t0 H H (fun _ => none) B' H' w') (wf' : Wf B' H' w') : Stp t B H w B H' w ∧ At K t B H' w σ ρ := by
  have kp : ∀ b o, H b = some o → H' b = some o := fun b o h => (st.keep b o h rfl).1
  refine ⟨⟨Ext.refl B, fun b o h1 h2 => ⟨kp b o h1, h2⟩, fun b o k h1 h2 _ => ⟨kp b o h1, h2⟩, fun _ _ h => .inl h⟩, ⟨⟨sub_kept a.wf.sub kp, a.wf.off, fun b q h1 h2 => ?_⟩, a.tb, a.env.mono (Ext.refl B) fun b xs i f h => ⟨f, kp b _ h⟩⟩⟩
  · cases h3 : H b with
    | none => exact a.wf.live b q h1 h3
    | some o => rw [kp b o h3] at h2; cases h2
theorem at_snap {σ : L2.St} {t : Nat} {B H : Hp} {w : Wn} {ρ : Rho} (a : At K t B H w σ ρ) : At K 0 H H (fun _ => none) σ (frzR ρ) :=
  ⟨⟨Sub.refl H, fun _ _ z => (nomatch z), fun _ _ z => (nomatch z)⟩, fun _ _ z => (nomatch z), env_frz a.wf a.env⟩
theorem XR.mono {B B' H : Hp} {d : Addr} {x : D} (h : XR K B H d x) (s : Sub B B') : XR K B' H d x := let ⟨v, h1, h2⟩ := h; ⟨v, h1, h2.sub s⟩
theorem se_snap (he : PE X e (tE X.K W cls f)) : PE X e (tE X.K W cls (fun r => snapO r (f (frzR r)))) := by
  refine PE.of he ?_
  rintro σ H Q ⟨t, B, w, ρ, a, P⟩
  refine ⟨0, H, fun _ => none, frzR ρ, at_snap a, ?_⟩
  cases e : f (frzR ρ) with
  | ok o r =>
    simp only [e, snapO] at P
    intro v B' H' w' st wf tb en hv
    obtain ⟨st2, a2⟩ := back_snap a st wf
    split at P
    · rename_i hs
      refine fin_dr (t0 := 0) (P.after st2) a2.wf a2.env ?_
      exact (hv.read wf.sub).scalar hs B
    · exact P.elim
  | exc c x r =>
    simp only [e, snapO] at P
    intro d B' H' w' st wf en hxr
    obtain ⟨st2, a2⟩ := back_snap a st wf
    obtain ⟨v, h1, h2⟩ := hxr
    split at P
    · rename_i hs
      exact P d B H' w st2 a2.wf a2.env ⟨v, h1, h2.scalar hs B⟩
    · exact P.elim
  | bad => simp only [e, snapO] at P; exact P.elim

/-! ### calls -/
/-- what the arguments are: data, or the slot that lends -/
def ArgR (K : PySem.W.Frag) (B : Hp) (σ : L2.St) : V → Sum D Nat → Prop
  | v, .inl x => DR K B v x
  | v, .inr i => σ[i]? = some (some v)
abbrev tAs (K : PySem.W.Frag) (W : WX) (cls : Nat → Value) (f : Rho → Out (List (Sum D Nat))) : TA := tG K W cls 0 (fun σ _ B _ _ (vs : List V) (as : List (Sum D Nat)) => Paired (ArgR K B σ) vs as) f
theorem ArgR.ext {B B' : Hp} {σ : L2.St} {v : V} {x : Sum D Nat} (h : ArgR K B σ v x) (e : Ext B B') : ArgR K B' σ v x := by
  cases x with
  | inl x => exact DR.ext e h
  | inr i => exact h
theorem sas_nil : PA X [] (tAs X.K W cls (fun r => .ok [] r)) := by
  refine PA.of pa_nil ?_
  rintro σ H Q ⟨t, B, w, ρ, a, P⟩
  exact P [] B H w (Stp.refl t B H w) a.wf a.tb a.env .nil
theorem sas_val {es : List Expr} {g : Rho → Out (List (Sum D Nat))} (hd : hdOk e = true) (he : PE X e (tE X.K W cls f)) (hs : PA X es (tAs X.K W cls g)) :
    PA X (e :: es) (tAs X.K W cls (fun r => (f r).bind fun x r => (g r).bind fun xs r => .ok (.inl (frz x) :: xs) r)) := by
  refine PA.of (pa_cons he hs (star_ok hd)) ?_
  rintro σ H Q ⟨t, B, w, ρ, a, P⟩
  refine ⟨t, B, w, ρ, a, bindP P (Nat.le_refl t) fun v H1 B1 w1 x ρ1 _ st1 wf1 tb1 en1 r1 P1 => ?_⟩
  obtain ⟨B2, w2, st2, a2, dr⟩ := frozen_item wf1 tb1 en1 r1
  refine ⟨t, B2, w2, ρ1, a2, bindP (P1.after st2) (Nat.le_refl t) fun vs H3 B3 w3 xs ρ3 _ st3 wf3 tb3 en3 r3 P3 => ?_⟩
  exact P3 _ _ _ _ (Stp.refl t B3 H3 w3) wf3 tb3 en3 (.cons (show DR X.K B3 v (frz x) from dr.ext st3.ext) r3)
theorem sas_lend {es : List Expr} {i : Nat} {g : Rho → Out (List (Sum D Nat))} (hd : hdOk e = true) (he : PE X e (tVar i)) (hs : PA X es (tAs X.K W cls g)) :
    PA X (e :: es) (tAs X.K W cls (fun r => match getS i r with
      | none => .bad
      | some _ => (g r).bind fun xs r => .ok (.inr i :: xs) r)) := by
  refine PA.of (pa_cons he hs (star_ok hd)) ?_
  rintro σ H Q ⟨t, B, w, ρ, a, P⟩
  dsimp only at P
  cases e0 : getS i ρ with
  | none => rw [e0] at P; exact P.elim
  | some x0 =>
    rw [e0] at P
    obtain ⟨v, hv, _⟩ := a.env.at' i x0 e0
    refine ⟨v, hv, t, B, w, ρ, a, bindP P (Nat.le_refl t) fun vs H3 B3 w3 xs ρ3 _ st3 wf3 tb3 en3 r3 P3 => ?_⟩
    exact P3 _ _ _ _ (Stp.refl t B3 H3 w3) wf3 tb3 en3 (.cons (show σ[i]? = some (some v) from hv) r3)

/-- the arguments at a call: the k-th is owned as slot k -/
def ArgsAt (K : PySem.W.Frag) (B H : Hp) (w : Wn) (vs : List V) (os : List O) : Prop := vs.length = os.length ∧ ∀ k o, os[k]? = some o → ∃ v, vs[k]? = some v ∧ OR K B H (fun a => w a = some (.slot k)) v o
/-- the promise of a def that comes to g -/
def spF (K : PySem.W.Frag) (cls : Nat → Value) (np : Nat) (g : List O → COut) : Sp := fun vs H Q E => ∃ B w os, Wf B H w ∧ TB 0 w ∧ ArgsAt K B H w vs os ∧ vs.length = np ∧ match g os with
  | .ok o os' => ∀ v B' H' w', Stp 0 B H w B' H' w' → Wf B' H' w' → TB 1 w' → OR K B' H' (fun a => w' a = some (.tmp 0)) v o → ArgsAt K B' H' w' vs os' → Q v H'
  | .exc c x os' => ∀ d B' H' w', Stp 0 B H w B' H' w' → Wf B' H' w' → ArgsAt K B' H' w' vs os' → XR K B' H' d x → E (cls c) (some d) H'
  | .bad => False
end
end Ev
end

section
set_option Elab.async false
set_option linter.all false
set_option maxRecDepth 100000
set_option maxHeartbeats 4000000
/-! Ev, part G: the call of a def. -/
namespace Ev
open PySem PySem.Spec PyProof.Rows L2
variable [Γ : Clz]

/-! ### who lends -/
theorem lend_len : ∀ {as : List (Sum D Nat)} {ρ : Rho} {os : List O}, lendAll as ρ = some os → as.length = os.length := by
  intro as
  induction as with
  | nil => intro ρ os h; cases h; rfl
  | cons x as ih =>
    intro ρ os h
    cases x with
    | inl d =>
      simp only [lendAll] at h
      split at h
      · rename_i os1 e; cases h; rw [List.length_cons, List.length_cons, ih e]
      · cases h
    | inr i =>
      simp only [lendAll] at h
      split at h
      · cases h
      · split at h
        · rename_i os1 e; cases h; rw [List.length_cons, List.length_cons, ih e]
        · cases h
theorem lend_no : ∀ {as : List (Sum D Nat)} {ρ : Rho} {os : List O} {i : Nat}, lendAll as ρ = some os → getS i ρ = none → ∀ k : Nat, as[k]? ≠ some (.inr i) := by
  intro as
  induction as with
  | nil => intro ρ os i h hn k e; simp at e
  | cons x as ih =>
    intro ρ os i h hn k e
    cases x with
    | inl d =>
      simp only [lendAll] at h
      split at h
      · rename_i os1 e1
        cases k with
        | zero => simp at e
        | succ k => exact ih e1 hn k (by simpa using e)
      · cases h
    | inr j =>
      simp only [lendAll] at h
      split at h
      · cases h
      · rename_i o eo
        split at h
        · rename_i os1 e1
          cases k with
          | zero =>
            simp at e
            subst e
            rw [hn] at eo; cases eo
          | succ k =>
            refine ih e1 ?_ k (by simpa using e)
            rw [getS_set]
            by_cases hj : i = j
            · rw [if_pos hj]; split <;> rfl
            · rw [if_neg hj]; exact hn
        · cases h
theorem lend_at : ∀ {as : List (Sum D Nat)} {ρ : Rho} {os : List O} {k : Nat} {x : Sum D Nat}, lendAll as ρ = some os → as[k]? = some x → ∃ o, os[k]? = some o ∧ match x with
    | .inl d => o = .d d
    | .inr i => getS i ρ = some o := by
  intro as
  induction as with
  | nil => intro ρ os k x h e; simp at e
  | cons y as ih =>
    intro ρ os k x h e
    cases y with
    | inl d =>
      simp only [lendAll] at h
      split at h
      · rename_i os1 e1
        cases h
        cases k with
        | zero => simp at e; subst e; exact ⟨_, rfl, rfl⟩
        | succ k => exact ih (k := k) e1 (show as[k]? = some x by simpa using e)
      · cases h
    | inr j =>
      simp only [lendAll] at h
      split at h
      · cases h
      · rename_i o eo
        split at h
        · rename_i os1 e1
          cases h
          cases k with
          | zero => simp at e; subst e; exact ⟨_, rfl, eo⟩
          | succ k =>
            obtain ⟨o', h1, h2⟩ := ih e1 (show as[k]? = some x by simpa using e)
            refine ⟨o', h1, ?_⟩
            cases x with
            | inl d => exact h2
            | inr i =>
              have h2 : getS i (ρ.set j none) = some o' := h2
              rw [getS_set] at h2
              by_cases hj : i = j
              · rw [if_pos hj] at h2; split at h2 <;> cases h2
              · rw [if_neg hj] at h2; exact h2
        · cases h
theorem lend_one : ∀ {as : List (Sum D Nat)} {ρ : Rho} {os : List O} {k k' i : Nat}, lendAll as ρ = some os → as[k]? = some (.inr i) → as[k']? = some (.inr i) → k = k' := by
  intro as
  induction as with
  | nil => intro ρ os k k' i h e; simp at e
  | cons y as ih =>
    intro ρ os k k' i h e e'
    cases y with
    | inl d =>
      simp only [lendAll] at h
      split at h
      · rename_i os1 e1
        cases k with
        | zero => simp at e
        | succ k => cases k' with
          | zero => simp at e'
          | succ k' => rw [ih (k := k) (k' := k') e1 (by simpa using e) (by simpa using e')]
      · cases h
    | inr j =>
      simp only [lendAll] at h
      split at h
      · cases h
      · split at h
        · rename_i os1 e1
          have no : i = j → ∀ k : Nat, as[k]? ≠ some (.inr i) := fun z => lend_no e1 (by rw [getS_set, if_pos z]; split <;> rfl)
          cases k with
          | zero =>
            simp at e
            cases k' with
            | zero => rfl
            | succ k' => exact absurd (show as[k']? = some (.inr i) by simpa using e') (no e.symm k')
          | succ k => cases k' with
            | zero =>
              simp at e'
              exact absurd (show as[k]? = some (.inr i) by simpa using e) (no e'.symm k)
            | succ k' => rw [ih (k := k) (k' := k') e1 (by simpa using e) (by simpa using e')]
        · cases h
theorem back_len : ∀ (as : List (Sum D Nat)) (os : List O) (ρ : Rho), (backAll as os ρ).length = ρ.length := by
  intro as
  induction as with
  | nil => intro os ρ; rfl
  | cons x as ih => intro os ρ; cases x <;> cases os <;> simp [backAll, ih]
theorem back_no : ∀ {as : List (Sum D Nat)} {os : List O} {ρ : Rho} {j : Nat}, (∀ k : Nat, as[k]? ≠ some (.inr j)) → getS j (backAll as os ρ) = getS j ρ := by
  intro as
  induction as with
  | nil => intro os ρ j h; rfl
  | cons x as ih =>
    intro os ρ j h
    have h1 : ∀ k : Nat, as[k]? ≠ some (.inr j) := fun k e => h (k + 1) (by simpa using e)
    cases x with
    | inl d => cases os with
      | nil => rfl
      | cons o os => exact ih h1
    | inr i => cases os with
      | nil => rfl
      | cons o os =>
        simp only [backAll]
        rw [getS_set, if_neg (fun z => h 0 (by simp [z]))]
        exact ih h1
theorem back_at : ∀ {as : List (Sum D Nat)} {os : List O} {ρ : Rho} {k j : Nat} {o : O}, as[k]? = some (.inr j) → os[k]? = some o → (∀ k' : Nat, as[k']? = some (.inr j) → k' = k) → j < ρ.length → getS j (backAll as os ρ) = some o := by
  intro as
  induction as with
  | nil => intro os ρ k j o e; simp at e
  | cons x as ih =>
    intro os ρ k j o e e2 un hl
    cases os with
    | nil => simp at e2
    | cons y os =>
      cases k with
      | zero =>
        simp at e e2
        subst e e2
        simp only [backAll]
        rw [getS_set, if_pos rfl, if_pos (by rw [back_len]; exact hl)]
      | succ k =>
        have r : getS j (backAll as os ρ) = some o := ih (by simpa using e) (by simpa using e2) (fun k' h => by have := un (k' + 1) (by simpa using h); omega) hl
        cases x with
        | inl d => exact r
        | inr i =>
          simp only [backAll]
          rw [getS_set, if_neg (fun z => by have := un 0 (by simp [z]); omega)]
          exact r

/-! ### the call -/
def isInr (i : Nat) : Sum D Nat → Bool
  | .inr j => decide (j = i)
  | .inl _ => false
theorem isInr_iff {i : Nat} {x : Sum D Nat} : isInr i x = true ↔ x = .inr i := by
  cases x with
  | inl d => simp [isInr]
  | inr j => simp [isInr]
/-- whose what is lent is within the call -/
def lendW (as : List (Sum D Nat)) (w : Wn) : Wn := fun a => match w a with
  | some (.slot i) => (as.findIdx? (isInr i)).map .slot
  | _ => none
def backQ (t : Nat) (as : List (Sum D Nat)) : Option Own → Option Own
  | some (.slot k) => match as[k]? with
    | some (.inr i) => some (.slot i)
    | _ => none
  | some (.tmp 0) => some (.tmp t)
  | _ => none
/-- whose what came back is -/
def backW (t : Nat) (as : List (Sum D Nat)) (w wc w' : Wn) : Wn := fun a => match w a, wc a with
  | some q, none => some q
  | _, _ => backQ t as (w' a)
section
variable {K : PySem.W.Frag} {W : WX} {cls : Nat → Value} {σ : L2.St} {t : Nat} {B H B' H' : Hp} {w w' : Wn} {ρ : Rho} {as : List (Sum D Nat)} {os : List O} {vs : List V}
theorem lendW_slot {a : Addr} {k : Nat} (h : lendW as w a = some (.slot k)) : ∃ i, w a = some (.slot i) ∧ as[k]? = some (.inr i) := by
  unfold lendW at h
  split at h
  · rename_i i e
    obtain ⟨k', e1, e2⟩ := Option.map_eq_some_iff.mp h
    cases e2
    obtain ⟨hk, hp, _⟩ := List.findIdx?_eq_some_iff_getElem.mp e1
    exact ⟨i, e, by rw [List.getElem?_eq_getElem hk, isInr_iff.mp hp]⟩
  · cases h
theorem lendW_of {a : Addr} {k i : Nat} (hu : ∀ k' : Nat, as[k']? = some (.inr i) → k' = k) (h1 : w a = some (.slot i)) (h2 : as[k]? = some (.inr i)) : lendW as w a = some (.slot k) := by
  unfold lendW
  rw [h1]
  cases e : as.findIdx? (isInr i) with
  | none =>
    have hk : as[k]? = some (.inr i) := h2
    have := List.findIdx?_eq_none_iff.mp e (.inr i) (List.mem_of_getElem? hk)
    rw [isInr_iff.mpr rfl] at this; cases this
  | some k' =>
    obtain ⟨hk, hp, _⟩ := List.findIdx?_eq_some_iff_getElem.mp e
    have := hu k' (by rw [List.getElem?_eq_getElem hk, isInr_iff.mp hp])
    subst this
    show (List.findIdx? (isInr i) as).map Own.slot = _
    rw [e]; rfl
theorem lendW_none {a : Addr} (h : w a = none) : lendW as w a = none := by unfold lendW; rw [h]
theorem lendW_some {a : Addr} {q : Own} (h : lendW as w a = some q) : ∃ i k, w a = some (.slot i) ∧ q = .slot k ∧ as[k]? = some (.inr i) := by
  cases q with
  | slot k => obtain ⟨i, h1, h2⟩ := lendW_slot h; exact ⟨i, k, h1, rfl, h2⟩
  | tmp k =>
    unfold lendW at h
    split at h
    · obtain ⟨_, _, e⟩ := Option.map_eq_some_iff.mp h; cases e
    · cases h
theorem paired_get {α β : Type} {F : α → β → Prop} : ∀ {xs : List α} {ys : List β} {k : Nat} {y : β}, Paired F xs ys → ys[k]? = some y → ∃ x, xs[k]? = some x ∧ F x y
  | _, _, _, _, .nil, e => by simp at e
  | _, _, 0, _, .cons r _, e => by simp at e; subst e; exact ⟨_, rfl, r⟩
  | _, _, k + 1, _, .cons _ p, e => by
    obtain ⟨x, h1, h2⟩ := paired_get p (show _ = some _ by simpa using e)
    exact ⟨x, by simpa using h1, h2⟩

/-- what the callee is handed -/
theorem args_in (a : At K t B H w σ ρ) (p : Paired (ArgR K B σ) vs as) (hl : lendAll as ρ = some os) : Wf B H (lendW as w) ∧ TB 0 (lendW as w) ∧ ArgsAt K B H (lendW as w) vs os := by
  have un := fun {k k' i} => lend_one (as := as) (ρ := ρ) (os := os) (k := k) (k' := k') (i := i) hl
  refine ⟨⟨a.wf.sub, fun b q h => ?_, fun b q h => ?_⟩, fun b k h => ?_, ⟨by rw [← lend_len hl]; exact p.length, fun k o h => ?_⟩⟩
  · obtain ⟨i, _, h1, _⟩ := lendW_some h; exact a.wf.off b _ h1
  · obtain ⟨i, _, h1, _⟩ := lendW_some h; exact a.wf.live b _ h1
  · obtain ⟨i, _, _, h1, _⟩ := lendW_some h; cases h1
  · have hk : k < as.length := by rw [lend_len hl]; exact (List.getElem?_eq_some_iff.mp h).1
    have ek : as[k]? = some as[k] := List.getElem?_eq_getElem hk
    obtain ⟨v, hv, hr⟩ := paired_get p ek
    obtain ⟨o', h1, h2⟩ := lend_at hl ek
    rw [h] at h1; cases h1
    refine ⟨v, hv, ?_⟩
    cases ex : as[k] with
    | inl x =>
      rw [ex] at hr h2
      rw [show o = .d x from h2]
      exact .d hr
    | inr i =>
      rw [ex] at hr h2 ek
      obtain ⟨v', hv', ho⟩ := a.env.at' i o h2
      have hr : σ[i]? = some (some v) := hr
      rw [hr] at hv'; cases hv'
      exact ho.mono (Ext.refl B) fun b xs f hb => ⟨lendW_of (fun k' h => un h ek) f ek, hb⟩

/-- what comes back -/
theorem args_out (a : At K t B H w σ ρ) (p : Paired (ArgR K B σ) vs as) (hl : lendAll as ρ = some os) {os' : List O} (st : Stp 0 B H (lendW as w) B' H' w') (wf' : Wf B' H' w') (ao : ArgsAt K B' H' w' vs os') :
    Stp t B H w B' H' (backW t as w (lendW as w) w') ∧ Wf B' H' (backW t as w (lendW as w) w') ∧ EnvR K B' H' (backW t as w (lendW as w) w') σ (backAll as os' ρ) ∧
      (∀ b, w' b = some (.tmp 0) → backW t as w (lendW as w) w' b = some (.tmp t)) ∧ TB (t + 1) (backW t as w (lendW as w) w') := by
  have un := fun {k k' i} => lend_one (as := as) (ρ := ρ) (os := os) (k := k) (k' := k') (i := i) hl
  generalize hwc : lendW as w = wc at st ⊢
  -- an owned address that is not lent
  have kept : ∀ b q, w b = some q → wc b = none → ∃ o, H b = some o ∧ H' b = some o ∧ w' b = none ∧ B' b = none ∧ backW t as w wc w' b = some q := fun b q h1 h2 => by
    cases ho : H b with
    | none => exact absurd ho (a.wf.live b q h1)
    | some o =>
      obtain ⟨e1, e2⟩ := st.keep b o ho h2
      refine ⟨o, rfl, e1, e2, ?_, by unfold backW; rw [h1, h2]⟩
      cases e3 : B' b with
      | none => rfl
      | some u =>
        rcases st.newB b u e3 with z | z | ⟨q', z, _⟩
        · rw [a.wf.off b q h1] at z; cases z
        · rw [ho] at z; cases z
        · rw [h2] at z; cases z
  have other : ∀ b, ¬ (w b ≠ none ∧ wc b = none) → backW t as w wc w' b = backQ t as (w' b) := fun b hn => by
    unfold backW
    cases h1 : w b with
    | none => rfl
    | some q => cases h2 : wc b with
      | none => exact absurd ⟨by rw [h1]; exact fun z => (nomatch z), h2⟩ hn
      | some _ => rfl
  have bq : ∀ {x q}, backQ t as x = some q → (∃ k i, x = some (.slot k) ∧ as[k]? = some (.inr i) ∧ q = .slot i) ∨ (x = some (.tmp 0) ∧ q = .tmp t) := fun {x q} h => by
    unfold backQ at h
    split at h
    · rename_i k
      split at h
      · rename_i i e; cases h; exact .inl ⟨k, i, rfl, e, rfl⟩
      · cases h
    · cases h; exact .inr ⟨rfl, rfl⟩
    · cases h
  have fromOwn : ∀ b q, w' b = some q → ¬ (w b ≠ none ∧ wc b = none) := fun b q h ⟨h1, h2⟩ => by
    cases h3 : w b with
    | none => exact h1 h3
    | some q' =>
      obtain ⟨_, _, _, z, _⟩ := kept b q' h3 h2
      rw [z] at h; cases h
  have wcw : ∀ b q, wc b = some q → ∃ i k, w b = some (.slot i) ∧ q = .slot k ∧ as[k]? = some (.inr i) := fun b q h => by subst hwc; exact lendW_some h
  refine ⟨⟨st.ext, fun b o h1 h2 => ?_, fun b o k h1 h2 hk => ?_, fun b o h => ?_⟩, ⟨wf'.sub, fun b q h => ?_, fun b q h => ?_⟩, ⟨by rw [back_len]; exact a.env.len, fun j o h => ?_⟩, fun b h => ?_, fun b k h => ?_⟩
  · have h3 : wc b = none := by subst hwc; exact lendW_none h2
    obtain ⟨e1, e2⟩ := st.keep b o h1 h3
    exact ⟨e1, by rw [other b (fun z => z.1 h2), e2]; rfl⟩
  · have h3 : wc b = none := by
      cases e : wc b with
      | none => rfl
      | some q => obtain ⟨i, _, z, _⟩ := wcw b q e; rw [h2] at z; cases z
    obtain ⟨o', e1, e2, _, _, e3⟩ := kept b _ h2 h3
    rw [h1] at e1; cases e1
    exact ⟨e2, e3⟩
  · rcases st.newB b o h with z | z | ⟨q, z, _⟩
    · exact .inl z
    · exact .inr (.inl z)
    · obtain ⟨i, _, z1, _⟩ := wcw b q z
      exact .inr (.inr ⟨_, z1, fun k e => nomatch e⟩)
  · by_cases hn : w b ≠ none ∧ wc b = none
    · cases h3 : w b with
      | none => exact absurd h3 hn.1
      | some q' => obtain ⟨_, _, _, _, z, _⟩ := kept b q' h3 hn.2; exact z
    · rw [other b hn] at h
      rcases bq h with ⟨k, i, e, _⟩ | ⟨e, _⟩
      · exact wf'.off b _ e
      · exact wf'.off b _ e
  · by_cases hn : w b ≠ none ∧ wc b = none
    · cases h3 : w b with
      | none => exact absurd h3 hn.1
      | some q' => obtain ⟨_, _, z, _⟩ := kept b q' h3 hn.2; rw [z]; exact fun y => nomatch y
    · rw [other b hn] at h
      rcases bq h with ⟨k, i, e, _⟩ | ⟨e, _⟩
      · exact wf'.live b _ e
      · exact wf'.live b _ e
  · by_cases hj : ∃ k : Nat, as[k]? = some (.inr j)
    · obtain ⟨k, hk⟩ := hj
      obtain ⟨v, hv, hr⟩ := paired_get p hk
      have hr : σ[j]? = some (some v) := hr
      have hkl : k < os'.length := by rw [← ao.1, p.length]; exact (List.getElem?_eq_some_iff.mp hk).1
      obtain ⟨o0, _, hg⟩ := lend_at hl hk
      have hg : getS j ρ = some o0 := hg
      rw [back_at hk (List.getElem?_eq_getElem hkl) (fun k' h => un h hk) (getS_lt hg)] at h
      cases h
      obtain ⟨v', hv', ho⟩ := ao.2 k _ (List.getElem?_eq_getElem hkl)
      rw [hv] at hv'; cases hv'
      refine ⟨v, hr, ho.mono (Ext.refl B') fun b xs f hb => ⟨?_, hb⟩⟩
      rw [other b (fromOwn b _ f), f]
      show (match as[k]? with
        | some (.inr i) => some (Own.slot i)
        | _ => none) = some (Own.slot j)
      rw [hk]
    · have hj : ∀ k : Nat, as[k]? ≠ some (.inr j) := fun k e => hj ⟨k, e⟩
      rw [back_no hj] at h
      obtain ⟨v, hv, ho⟩ := a.env.at' j o h
      refine ⟨v, hv, ho.mono st.ext fun b xs f hb => ?_⟩
      have h3 : wc b = none := by
        cases e : wc b with
        | none => rfl
        | some q =>
          obtain ⟨i, k, z, _, z2⟩ := wcw b q e
          rw [f] at z; cases z
          exact absurd z2 (hj k)
      obtain ⟨o', e1, e2, _, _, e3⟩ := kept b _ f h3
      rw [hb] at e1; cases e1
      exact ⟨e3, e2⟩
  · rw [other b (fromOwn b _ h), h]; rfl
  · by_cases hn : w b ≠ none ∧ wc b = none
    · cases h3 : w b with
      | none => exact absurd h3 hn.1
      | some q' =>
        obtain ⟨_, _, _, _, _, z⟩ := kept b q' h3 hn.2
        rw [z] at h; cases h
        exact Nat.lt_succ_of_lt (a.tb b k h3)
    · rw [other b hn] at h
      rcases bq h with ⟨_, _, _, _, e⟩ | ⟨_, e⟩
      · cases e
      · cases e; exact Nat.lt_succ_self t
/-- the callee's promise, from what is wanted behind the call -/
theorem call_core {cf : CallF} {f np : Nat} {Q : VK} (a : At K t B H w σ ρ) (p : Paired (ArgR K B σ) vs as) (P : PostG K W cls σ t (t + 1) B H w (RE K σ t) (callO cf f as ρ) Q)
    (hnp : ∀ os, cf f os ≠ .bad → os.length = np) : spF K cls np (cf f) vs H Q (WE W σ) := by
  unfold callO at P
  cases hl : lendAll as ρ with
  | none => rw [hl] at P; exact P.elim
  | some os =>
    rw [hl] at P
    obtain ⟨wf, tb, ar⟩ := args_in a p hl
    have hb : cf f os ≠ .bad := fun e => by simp only [e] at P; exact P
    refine ⟨B, lendW as w, os, wf, tb, ar, by rw [ar.1]; exact hnp os hb, ?_⟩
    cases e : cf f os with
    | ok o os' =>
      simp only [e] at P
      intro v B' H' w' st wf' tb' ho ao
      obtain ⟨st2, wf2, en2, ht, tb2⟩ := args_out a p hl st wf' ao
      exact P v B' H' _ st2 wf2 tb2 en2 (ho.mono (Ext.refl B') fun b xs f hb => ⟨ht b f, hb⟩)
    | exc c x os' =>
      simp only [e] at P
      intro d B' H' w' st wf' ao hx
      obtain ⟨st2, wf2, en2, ht, tb2⟩ := args_out a p hl st wf' ao
      exact P d B' H' _ st2 wf2 en2 hx
    | bad => exact hb e
end
/-- a def of the text that comes to what cf says -/
structure FnAt (X : Cx) (cls : Nat → Value) (k : Nat) (cf : CallF) (x : Str) (f : Nat) : Prop where
  ex : ∃ (ad : Addr) (fd : FuncData) (ps : List Str) (np : Nat), X.mg x = some (.ref ad) ∧ PySem.W.keepIn X.K (.ref ad) = true ∧ Binds X.K fd ps [] ∧ FnOk X.prog X.w X.K X.mg X.base (L2.CX X.prog X.w) k ad fd ps (spF X.K cls np (cf f)) ∧ (∀ os, cf f os ≠ .bad → os.length = np)
section
variable {X : Cx} {W : WX} {cls : Nat → Value} {cf : CallF} {k : Nat}
theorem pe_callS0 {CX : CXT} {f : Addr} {fd : FuncData} {ps : List Str} {sp : Sp} {x : Str} (F : FnOk X.prog X.w X.K X.mg X.base CX k f fd ps sp) (hr : Room k X.A) (hg : Gl X x) (hm : X.mg x = some (.ref f)) (hk : PySem.W.keepIn X.K (.ref f) = true) (hb : Binds X.K fd ps []) {E : L2.St → XK} (hx : ∀ σ, PassesAt CX X σ (E σ))
    (hdb : (x == ("__debug__" : Str)) = false) {p pos : Pos} : PE X (.Call (.Name x p) [] [] pos) (tCallS sp E tNil) := by
  refine ⟨fun pins s σ H Q I h => ?_⟩
  refine wpAny_Call_Name_kw (ld_glob I hg hm ?_ hdb)
  exact PySem.W.callWith_K0 I.kIn hk (run_fnS (us := []) F hr hb (hx σ) I .nil h)
theorem any_plain {es : List Expr} {env : Env} {pos : Pos} (h : es.all hdOk = true) : (backTo pos (starEach es env)).any (·.1) = false := by
  induction es with
  | nil => rfl
  | cons e es ih =>
    rw [List.all_cons, Bool.and_eq_true] at h
    rw [star_ok h.1]
    show (false || (backTo pos (starEach es env)).any (·.1)) = false
    rw [ih h.2] <;> rfl
theorem se_call {x : Str} {f : Nat} {e : Expr} {es : List Expr} {g : Rho → Out (List (Sum D Nat))} {p pos : Pos} (hr : Room k X.A) (hg : Gl X x) (F : FnAt X cls k cf x f) (tk : Takes X W) (hdb : (x == ("__debug__" : Str)) = false) (hd : (e :: es).all hdOk = true) (ha : PA X (e :: es) (tAs X.K W cls g)) :
    PE X (.Call (.Name x p) (e :: es) [] pos) (tE X.K W cls (fun r => (g r).bind fun as r => callO cf f as r)) := by
  obtain ⟨ad, fd, ps, np, hm, hk, hb, F, hnp⟩ := F.ex
  rw [List.all_cons, Bool.and_eq_true] at hd
  refine PE.of (pe_callS F hr hg hm hk hb (fun σ => passAt tk σ) ha hdb (star_ok hd.1) (any_plain hd.2)) ?_
  rintro σ H Q ⟨t, B, w, ρ, a, P⟩
  refine ⟨t, B, w, ρ, a, bindP P (Nat.le_refl t) fun vs H1 B1 w1 as ρ1 _ st1 wf1 tb1 en1 r1 P1 => ?_⟩
  exact call_core ⟨wf1, tb1, en1⟩ r1 P1 hnp
theorem se_call0 {x : Str} {f : Nat} {p pos : Pos} (hr : Room k X.A) (hg : Gl X x) (F : FnAt X cls k cf x f) (tk : Takes X W) (hdb : (x == ("__debug__" : Str)) = false) :
    PE X (.Call (.Name x p) [] [] pos) (tE X.K W cls (fun r => callO cf f [] r)) := by
  obtain ⟨ad, fd, ps, np, hm, hk, hb, F, hnp⟩ := F.ex
  refine PE.of (pe_callS0 F hr hg hm hk hb (fun σ => passAt tk σ) hdb) ?_
  rintro σ H Q ⟨t, B, w, ρ, a, P⟩
  exact call_core a .nil P hnp
end
end Ev
end

section
set_option Elab.async false
set_option linter.all false
set_option maxRecDepth 100000
set_option maxHeartbeats 4000000
/-! Ev: dicts, t[:0:-1]. -/
namespace Ev
open PySem PySem.Spec PyProof.Rows L2 HT
variable [Γ : Clz]
section
variable {prog : Program} {w : World} {A : Around} {E : Value → Shared → Prop} {s : Shared}
theorem adjust_rev0 (n : Nat) : ∃ hi, Builtin.Slice.sliceAdjust none (some 0) (-1) (n : Int) = ((n : Int) - 1, hi) ∧ Builtin.Slice.slicePlaces ((n : Int) - 1) hi (-1) = n - 1 := by
  unfold Builtin.Slice.sliceAdjust Builtin.Slice.slicePlaces
  have h1 : ((-1 : Int) < 0) := by omega
  have h2 : ¬ ((-1 : Int) > 0) := by omega
  have h3 : ¬ ((0 : Int) < 0) := by omega
  refine ⟨_, by simp only [h1, if_true]; rfl, ?_⟩
  simp only [h1, h2, h3, if_true, if_false]
  have h4 : (- -1 : Int) = 1 := by omega
  rw [h4, Int.ediv_one]
  split <;> omega
theorem sliceApplied_rev0 {sl : Addr} {vl vu vs : Value} {n : Nat} {Q : Int × Int × Nat → Shared → Prop} (hs : s.heap.IsSliceOf sl vl vu vs) (pl : IsPart vl none) (pu : IsPart vu (some 0)) (ps : IsPart vs (some (-1)))
    (h : Q (((n : Int) - 1), -1, n - 1) s) : wpAny (model prog w) A (Builtin.Slice.sliceApplied (.ref sl) (pure (n : Int))) Q E s := by
  obtain ⟨os, hos, hcs, hds⟩ := id hs
  unfold Builtin.Slice.sliceApplied Builtin.Slice.sliceFields
  refine wpAny_bind (wpAny_bind (wpAny_field hos hds (x := vl) rfl (wpAny_bind (wpAny_field hos hds (x := vu) rfl (wpAny_bind (wpAny_field hos hds (x := vs) rfl (wpAny_pure ?_)))))))
  refine wpAny_bind (slicePart_ ps ?_)
  show wpAny _ _ (if ((-1 : Int) == 0) = true then _ else _) _ _ s
  rw [if_neg (by decide)]
  refine wpAny_bind (slicePart_ pl (wpAny_bind (slicePart_ pu (wpAny_bind (wpAny_pure ?_)))))
  show wpAny _ _ (match Builtin.Slice.sliceAdjust none (some 0) (-1) (n : Int) with | (lo, hi) => pure (lo, (-1 : Int), Builtin.Slice.slicePlaces lo hi (-1))) _ _ s
  obtain ⟨hi, e1, e2⟩ := adjust_rev0 n
  rw [e1]
  show wpAny _ _ (pure (((n : Int) - 1), (-1 : Int), Builtin.Slice.slicePlaces ((n : Int) - 1) hi (-1))) _ _ s
  rw [e2]
  exact wpAny_pure h
theorem fm_congr {α β : Type} {f g : α → Option β} : ∀ {l : List α}, (∀ x ∈ l, f x = g x) → l.filterMap f = l.filterMap g
  | [], _ => rfl
  | x :: l, h => by rw [List.filterMap_cons, List.filterMap_cons, h x (.head _), fm_congr fun y hy => h y (.tail _ hy)]
theorem pick_rev0 (xs : Array Value) : ((List.range (xs.size - 1)).filterMap fun (m : Nat) => xs[(((xs.size : Int) - 1) + (m : Int) * (-1)).toNat]?).toArray = (xs.toList.drop 1).reverse.toArray := by
  have e : ∀ m ∈ List.range (xs.size - 1), xs[(((xs.size : Int) - 1) + (m : Int) * (-1)).toNat]? = (xs.toList.reverse.toArray)[0 + m]? := fun m hm => by
    have hlt := List.mem_range.mp hm
    have : (((xs.size : Int) - 1) + (m : Int) * (-1)).toNat = xs.size - 1 - m := by omega
    have e1 : (xs.toList.reverse.toArray)[0 + m]? = xs.toList.reverse[m]? := by rw [Nat.zero_add]; simp
    have hl : m < xs.toList.length := by rw [Array.length_toList]; omega
    rw [this, e1, List.getElem?_reverse hl, Array.length_toList, Array.getElem?_toList]
  rw [fm_congr e]
  have := pick_run xs.toList.reverse.toArray 0 (xs.size - 1)
  rw [List.filterMap_map] at this
  have e2 : ((fun x => (xs.toList.reverse.toArray)[x]?) ∘ fun x => 0 + x) = fun m => (xs.toList.reverse.toArray)[0 + m]? := rfl
  rw [e2] at this
  rw [this, List.drop_zero]
  congr 1
  rw [List.reverse_drop, Array.length_toList]
theorem getItem_tuple_rev0 {t sl : Addr} {items : Array Value} {vl vu vs : Value} {Q : Value → Shared → Prop} (ht : IsTup s.heap t items) (hs : s.heap.IsSliceOf sl vl vu vs) (pl : IsPart vl none) (pu : IsPart vu (some 0)) (ps : IsPart vs (some (-1)))
    (h : Q (.ref s.heap.objs.size) { s with heap := s.heap.push { cls := .type "tuple", data := .seq (items.toList.drop 1).reverse.toArray } })
    (hsz : items.size ≤ sizeLine) : wpAny (model prog w) A (getItem (.ref t) (.ref sl)) Q E s := by
  have htake : sizeOk (.seq (items.toList.drop 1).reverse.toArray) := by
    show (items.toList.drop 1).reverse.toArray.size ≤ sizeLine
    rw [List.size_toArray, List.length_reverse, List.length_drop, Array.length_toList]
    omega
  obtain ⟨os, hos, hcs, hds⟩ := id hs
  have hTs : s.TypeIs (.ref sl) "slice" := ⟨os, hos, hcs⟩
  unfold getItem
  try with_reducible refine wpAny_holding ?_
  first | refine wpAny_bind (wpAny_pure ?_) | skip
  refine wpAny_bind (wpAny_sequenceKey ht.typeIs (by decide) ?_)
  refine wpAny_bind (wpAny_callSpecial?_slot (name := Str.ofString "__getitem__") ht.typeIs PyProof.Rows.slot_tuple_getitem
    (wpAny_call_entry PyProof.Rows.slot_tuple_getitem ht.typeIs entry_tuple_getitem ?_ (args_tuple_getitem _ _)))
  show wpAny _ _ (Builtin.Tuple.tupleItemsOf (.ref t) >>= _) _ _ s
  refine wpAny_bind (tupleItemsOf_ ht ?_)
  refine wpAny_bind (wpAny_typeOf hTs ?_)
  rw [if_pos (by decide)]
  refine wpAny_bind (sliceApplied_rev0 hs pl pu ps ?_)
  have hno : ¬ ((((items.size : Int) - 1) == 0 && (-1 : Int) == 1 && (items.size - 1) == items.size) = true) := by
    intro q
    rw [Bool.and_eq_true, Bool.and_eq_true] at q
    exact absurd (eq_of_beq q.1.2) (by decide)
  show wpAny _ _ (if (((items.size : Int) - 1) == 0 && (-1 : Int) == 1 && (items.size - 1) == items.size) = true then _ else _) _ _ s
  rw [if_neg hno, pick_rev0]
  first
    | exact wpAny_bind (m := Builtin.Tuple.tupleExact _) (wpAny_newObj_type (wpAny_pure ⟨_, rfl, wpAny_pure h⟩) htake)
    | exact wpAny_bind (m := Builtin.Tuple.tupleExact _) (wpAny_newObj_type (wpAny_bind (wpAny_pure (wpAny_pure ⟨_, rfl, wpAny_pure h⟩))) htake)
    | exact wpAny_bind (wpAny_bind (m := Builtin.Tuple.tupleExact _) (wpAny_newObj_type (wpAny_pure (wpAny_pure ⟨_, rfl, wpAny_pure h⟩)) htake))
    | exact wpAny_bind (wpAny_bind (m := Builtin.Tuple.tupleExact _) (wpAny_newObj_type (wpAny_pure ⟨_, rfl, wpAny_pure h⟩) htake))
end
section
variable {X : Cx} {W : WX} {cls : Nat → Value} {f g h : Rho → Out O}
def tRev0 (K : PySem.W.Frag) (te : TE) : TE := fun σ H Q => te σ H fun x H1 => ∃ a xs, x = .ref a ∧ SqT K H1 a xs ∧ ∀ p, H1 p = none → Q (.ref p) (upd H1 p (.tup (xs.drop 1).reverse))
theorem pe_rev0 {e : Expr} {te : TE} {k k0 : Nat} {p0 p1 p2 p3 pos : Pos} (he : PE X e te) : PE X (.Subscript e (.Slice none (some (.Constant (.int 0) k0 p0)) (some (.UnaryOp .USub (.Constant (.int 1) k p1) p2)) p3) pos) (tRev0 X.K te) := by
  refine ⟨fun pins s σ H Q I h => ?_⟩
  refine Subscript_ (thn (he.run pins s σ H _ I h) fun v s1 ⟨x, H1, I1, r1, q1⟩ => ?_)
  obtain ⟨a, xs, ex, hx, q⟩ := q1
  subst ex
  cases r1
  have hup : PO X (some (.Constant (.int 0) k0 p0)) (tPart (tC (.int 0))) := po_some pe_int
  have hst : PO X (some (.UnaryOp .USub (.Constant (.int 1) k p1) p2)) (tPart (tUn (rU fun i => .int (-i)) (tC (.int 1)))) := po_some (pe_un un_neg pe_int)
  refine wpAny_Slice (thn (po_none.run pins s1 σ H1 (fun o H2 => o = none ∧ H2 = H1) I1 ⟨rfl, rfl⟩) fun vl s2 ⟨l, H2, I2, pl, el, e2⟩ => ?_)
  subst el e2
  refine thn (hup.run pins s2 σ H2 (fun o H3 => o = some 0 ∧ H3 = H2) I2 ⟨0, rfl, rfl, rfl⟩) fun vu s3 ⟨u, H3, I3, pu, eu, e3⟩ => ?_
  subst eu e3
  refine thn (hst.run pins s3 σ H3 (fun o H4 => o = some (-1) ∧ H4 = H3) I3 ⟨1, rfl, -1, rfl, rfl, rfl⟩) fun vs s4 ⟨o, H4, I4, ps, eo, e4⟩ => ?_
  subst eo e4
  have I5 : Inv X pins σ H4 { s4 with heap := s4.heap.push { cls := .type "slice", data := .fields #[vl, vu, vs] } } := I4.kept (t' := s4.toks) fun b ob q => Heap.get?_push_of_some _ q
  obtain ⟨its, r, ht, hz⟩ := I5.tuple hx
  have hlen : its.toArray.size = xs.length := by rw [List.size_toArray]; exact r.length.symm
  show wpAny (model X.prog X.w) X.A (subscriptTail e (.Slice none (some (.Constant (.int 0) k0 p0)) (some (.UnaryOp .USub (.Constant (.int 1) k p1) p2)) p3) (.ref a) (.ref s4.heap.objs.size)) (EP X pins σ Q) X.xe { s4 with heap := s4.heap.push { cls := .type "slice", data := .fields #[vl, vu, vs] } }
  refine tail_any (ops := [.ref a, .ref s4.heap.objs.size]) ht.typeIs (PyProof.Rows.slot_tuple_getitem.lookup) ?_ (by with_unfolding_all rfl)
  refine getItem_tuple_rev0 ht (Heap.IsSliceOf.new _ vl vu vs) pl pu ps ?_ (by rw [hlen]; exact hz)
  refine ⟨.ref _, _, I5.laid (t' := s4.toks) (o := .tup (xs.drop 1).reverse) (fun b ob q => Heap.get?_push_of_some _ q) (Nat.le_refl _) ?_, rfl, q _ (I5.hok.fresh (Nat.le_refl _))⟩
  exact ⟨by rw [List.length_reverse, List.length_drop]; omega, _, (r.drop 1).reverse, IsTup.new _ _⟩
theorem se_rev0 {a : Expr} {k k0 : Nat} {p0 p1 p2 p3 pos : Pos} (ha : PE X a (tE X.K W cls f)) : PE X (.Subscript a (.Slice none (some (.Constant (.int 0) k0 p0)) (some (.UnaryOp .USub (.Constant (.int 1) k p1) p2)) p3) pos)
    (tE X.K W cls (fun r => (f r).bind fun x r => Out.of ((asT x).map fun xs => .d (.tup (xs.drop 1).reverse)) r)) := by
  refine PE.of (pe_rev0 ha) ?_
  rintro σ H Q ⟨t, B, w, ρ, a, P⟩
  refine ⟨t, B, w, ρ, a, bindP P (Nat.le_refl t) fun v1 H1 B1 w1 x ρ1 _ st1 wf1 tb1 en1 r1 P1 => ?_⟩
  cases e : asT x with
  | none => rw [e] at P1; exact P1.elim
  | some xs =>
    rw [e] at P1
    have ex : x = .d (.tup xs) := by
      cases x with
      | lst _ => cases e
      | dct _ _ => cases e
      | dtt _ _ => cases e
      | ins _ _ => cases e
      | d y => cases y <;> first | (cases e; rfl) | cases e
    subst ex
    obtain ⟨p, ys, rfl, h1, d1⟩ := r1.ro.asT wf1.sub
    exact ⟨p, ys, rfl, h1, fun q hq => (finO P1 wf1 en1).2 _ _ q rfl (d1.drop 1).reverse hq⟩
/-! ### dicts -/
theorem se_dnew {pos : Pos} : PE X (.Dict [] [] pos) (tE X.K W cls (fun r => .ok (.dct [] []) r)) := by
  refine PE.of pe_dnewK ?_
  rintro σ H Q ⟨t, B, w, ρ, a, P⟩
  exact fun p hp => finO P a.wf a.env [] p rfl .nil hp
theorem isD_of {H : Hp} {a : Addr} {kvs : List (Key × V)} (h : Rd H a (.dK kvs)) : IsD H a := .inl ⟨_, h⟩
theorem asM_frz {x : O} {m : List Ky × List D} (h : asM x = some m) : asM (.d (frz x)) = some m := by
  cases x with
  | lst _ => cases h
  | dtt _ _ => cases h
  | ins _ _ => cases h
  | dct _ _ => exact h
  | d _ => exact h
theorem get_fin {K : PySem.W.Frag} {B H : Hp} {w : Wn} {Q : VK} {x y z : O} {v1 v2 v3 : V} {d : D} {kvs : List Ky × List D} (e : getO x y z = some d) (em : asM x = some kvs)
    (hx : RO K B H v1 x) (hy : RO K B H v2 y) (hz : DR K B v3 (frz z)) (wf : Wf B H w) (q : ∀ v, DR K B v d → Q v H) : ∃ a, v1 = .ref a ∧ ∃ o, DGet H a v2 o ∧ Q (o.getD v3) H := by
  obtain ⟨ks, vs⟩ := kvs
  obtain ⟨p, ys, rfl, h1, hl, d1⟩ := hx.asM wf.sub em
  unfold getO at e
  rw [em] at e
  cases ek : asK y with
  | none => rw [ek] at e; cases e
  | some k =>
    rw [ek] at e
    cases e
    refine ⟨p, rfl, _, .inl ⟨_, k, h1, hy.asK ek, rfl⟩, q _ ?_⟩
    rcases getK_eq hl d1 k with ⟨g1, g2⟩ | ⟨w', d', g1, g2, g3⟩
    · rw [g1, g2]; exact hz
    · rw [g1, g2]; exact g3
theorem few2_ok {b c : Expr} {cpos : Pos} (hd : hdOk b = true) (hd2 : hdOk c = true) : ((backTo cpos (starEach [b, c] X.env)).all (fun x => !x.1) && (backToKw cpos (keywordEach [] X.env)).all (fun x => x.1.isSome)
    && decide (([b, c] : List Expr).length + ([] : List Keyword).length + (if ([] : List Keyword).isEmpty then 0 else 1) < 30)) = true := by
  rw [star_ok hd, star_ok hd2]
  rfl
theorem m2_ok {a b c : Expr} {apos cpos : Pos} (hb : attributeBase a "get" X.env (eval a X.env) = eval a X.env) (hd : hdOk b = true) (hd2 : hdOk c = true) (hl : (apos.endLine == cpos.line) = true) (few : ((backTo cpos (starEach [b, c] X.env)).all (fun x => !x.1) && (backToKw cpos (keywordEach [] X.env)).all (fun x => x.1.isSome)
    && decide (([b, c] : List Expr).length + ([] : List Keyword).length + (if ([] : List Keyword).isEmpty then 0 else 1) < 30)) = true) : M2 X a "get" apos b c cpos :=
  ⟨hb, few, hl, by rw [star_ok hd, star_ok hd2] <;> rfl⟩
/-- p.get(k, f), p a slot's dict -/
theorem se_getp {p : Nat} {a b c : Expr} {apos cpos : Pos} (hu : X.A.units + 1 < cLine) (ho : PE X a (tVar p)) (m : M2 X a "get" apos b c cpos) (hb : PE X b (tE X.K W cls g)) (hc : PE X c (tE X.K W cls h)) :
    PE X (.Call (.Attribute a "get" apos) [b, c] [] cpos) (tE X.K W cls (fun r => match getS p r with
      | none => .bad
      | some x0 => match asM x0 with
        | none => .bad
        | some _ => (g r).bind fun y r => (h r).bind fun z r => match getS p r with
          | some x => Out.of ((getO x y z).map .d) r
          | none => .bad)) := by
  refine PE.of (pe_dget2 hu ho hb hc m) ?_
  rintro σ H Q ⟨t, B, w, ρ, a, P⟩
  dsimp only at P
  cases e0 : getS p ρ with
  | none => rw [e0] at P; exact P.elim
  | some x0 =>
    rw [e0] at P
    dsimp only at P
    cases em : asM x0 with
    | none => rw [em] at P; exact P.elim
    | some kv =>
      rw [em] at P
      obtain ⟨v, hv, ho0⟩ := a.env.at' p x0 e0
      obtain ⟨ks, vs⟩ := kv
      obtain ⟨ad, ys, rfl, h1, _⟩ := ho0.ro.asM a.wf.sub em
      refine ⟨_, hv, ad, rfl, isD_of h1, t, B, w, ρ, a, bindP P (Nat.le_refl t) fun v2 H2 B2 w2 y ρ2 _ st2 wf2 tb2 en2 r2 P2 => ?_⟩
      refine ⟨t + 1, B2, w2, ρ2, ⟨wf2, tb2, en2⟩, bindP P2 (Nat.le_succ t) fun v3 H3 B3 w3 z ρ3 _ st3 wf3 tb3 en3 r3 P3 => ?_⟩
      obtain ⟨B4, w4, st4, a4, dz⟩ := frozen_item (t := t + 1) wf3 tb3 en3 r3
      have r2' := (r2.kept st3 (Nat.lt_succ_self t)).kept st4 (Nat.lt_succ_self t)
      replace P3 := P3.after (st4.mono (Nat.le_succ t))
      cases e1 : getS p ρ3 with
      | none => rw [e1] at P3; exact P3.elim
      | some x =>
        rw [e1] at P3
        obtain ⟨v', hv', hx⟩ := a4.env.at' p x e1
        rw [hv] at hv'; cases hv'
        cases e : getO x y z with
        | none => simp only [e] at P3; exact P3.elim
        | some d =>
          simp only [e] at P3
          cases em3 : asM x with
          | none => unfold getO at e; rw [em3] at e; cases e
          | some kv3 =>
            obtain ⟨a', ea, q⟩ := get_fin e em3 hx.ro r2'.ro dz a4.wf fun v hv => fin_dr (t0 := 0) P3 a4.wf a4.env hv
            cases ea
            exact q
/-- d.get(k, f) -/
theorem se_getd {a b c : Expr} {apos cpos : Pos} (hu : X.A.units + 1 < cLine) (ha : PE X a (tE X.K W cls f)) (m : M2 X a "get" apos b c cpos) (hb : PE X b (tE X.K W cls g)) (hc : PE X c (tE X.K W cls h)) :
    PE X (.Call (.Attribute a "get" apos) [b, c] [] cpos) (tE X.K W cls (fun r => (f r).bind fun x r => match asM x with
        | none => .bad
        | some _ => (g r).bind fun y r => (h r).bind fun z r => Out.of ((getO x y z).map .d) r)) := by
  refine PE.of (pe_dget2 hu ha hb hc m) ?_
  rintro σ H Q ⟨t, B, w, ρ, a, P⟩
  refine ⟨t, B, w, ρ, a, bindP P (Nat.le_refl t) fun v H1 B1 w1 x ρ1 _ st1 wf1 tb1 en1 r1 P1 => ?_⟩
  cases em : asM x with
  | none => rw [em] at P1; exact P1.elim
  | some kv =>
    rw [em] at P1
    obtain ⟨ks, vs⟩ := kv
    obtain ⟨ad, ys, rfl, h1, _⟩ := r1.ro.asM wf1.sub em
    refine ⟨ad, rfl, isD_of h1, t + 1, B1, w1, ρ1, ⟨wf1, tb1, en1⟩, bindP P1 (Nat.le_succ t) fun v2 H2 B2 w2 y ρ2 _ st2 wf2 tb2 en2 r2 P2 => ?_⟩
    refine ⟨t + 1 + 1, B2, w2, ρ2, ⟨wf2, tb2, en2⟩, bindP P2 (by omega) fun v3 H3 B3 w3 z ρ3 _ st3 wf3 tb3 en3 r3 P3 => ?_⟩
    obtain ⟨B4, w4, st4, a4, dz⟩ := frozen_item (t := t + 1 + 1) wf3 tb3 en3 r3
    have r1' := ((r1.kept st2 (Nat.lt_succ_self t)).kept st3 (by omega)).kept st4 (by omega)
    have r2' := (r2.kept st3 (Nat.lt_succ_self _)).kept st4 (by omega)
    replace P3 := P3.after (st4.mono (by omega))
    cases e : getO x y z with
    | none => rw [e] at P3; exact P3.elim
    | some d =>
      rw [e] at P3
      obtain ⟨a', ea, q⟩ := get_fin e em r1'.ro r2'.ro dz a4.wf fun v hv => fin_dr (t0 := 0) P3 a4.wf a4.env hv
      cases ea
      exact q
end
end Ev
end

section
set_option Elab.async false
set_option linter.all false
set_option maxRecDepth 100000
set_option maxHeartbeats 4000000
/-! Ev, part H: what is walked; list comprehensions. -/
namespace Ev
open PySem PySem.Spec PyProof.Rows L2
variable [Γ : Clz]

/-- the iterator hands out just these data, whatever else happens -/
structure WalkD (K : PySem.W.Frag) (J : L2.It) (B : Hp) (ds : List D) : Prop where
  go : ∀ (i : Nat) (B' H : Hp), Ext B B' → Sub B' H → i < ds.length → J.go i H
  yld : ∀ (i : Nat) (B' H : Hp) (x : V) (H' : Hp), Ext B B' → Sub B' H → i < ds.length → J.yld i H x H' →
    ∃ B'' d, Ext B' B'' ∧ Sub B'' H' ∧ (∀ a o, H a = some o → H' a = some o) ∧ (∀ a o, B'' a = some o → B' a = some o ∨ H a = none) ∧ ds[i]? = some d ∧ DR K B'' x d
  stop : ∀ (i : Nat) (B' H : Hp), Ext B B' → Sub B' H → ds.length ≤ i → J.stop i H
section
variable {K : PySem.W.Frag} {B H : Hp} {ds : List D} {xs : List V} {l : Addr}
theorem WalkD.ext {J : L2.It} {B' : Hp} (h : WalkD K J B ds) (e : Ext B B') : WalkD K J B' ds :=
  ⟨fun i C H e1 => h.go i C H (e.trans e1), fun i C H x H' e1 => h.yld i C H x H' (e.trans e1), fun i C H e1 => h.stop i C H (e.trans e1)⟩
/-- an iterator that yields without making anything -/
theorem walk_still {J : L2.It} (go : ∀ (i : Nat) (B' H : Hp), Ext B B' → Sub B' H → i < ds.length → J.go i H) (stop : ∀ (i : Nat) (B' H : Hp), Ext B B' → Sub B' H → ds.length ≤ i → J.stop i H)
    (yld : ∀ (i : Nat) (B' H : Hp) (x : V) (H' : Hp), Ext B B' → Sub B' H → i < ds.length → J.yld i H x H' → H' = H ∧ ∃ d, ds[i]? = some d ∧ DR K B x d) : WalkD K J B ds :=
  ⟨go, fun i B' H x H' e s h y => by
    obtain ⟨e1, d, h1, h2⟩ := yld i B' H x H' e s h y
    subst e1
    exact ⟨B', d, Ext.refl B', s, fun _ _ h => h, fun _ _ h => .inl h, h1, h2.ext e⟩, stop⟩
theorem walk_list (h : SqL K B l xs) (hd : DRs K B xs ds) : WalkD K (Itl K l) B ds := by
  have rd : ∀ {B' H : Hp}, Ext B B' → Sub B' H → SqL K H l xs := fun e s => sqL_sub s (sqL_sub e.sub h)
  refine walk_still (fun i B' H e s hi => ?_) (fun i B' H e s hi => ⟨xs, rd e s, by rw [hd.length]; exact hi⟩) fun i B' H x H' e s hi y => ⟨y.1, ?_⟩
  · have : i < xs.length := by rw [hd.length]; exact hi
    exact ⟨xs, xs[i], rd e s, List.getElem?_eq_getElem this⟩
  · obtain ⟨d, h1, h2⟩ := hd.get' (y.2 xs (rd e s))
    exact ⟨d, h1, h2⟩
theorem walk_tup (h : SqT K B l xs) (hd : DRs K B xs ds) : WalkD K (Itt K l) B ds := by
  have rd : ∀ {B' H : Hp}, Ext B B' → Sub B' H → SqT K H l xs := fun e s => sqT_sub s (sqT_sub e.sub h)
  refine walk_still (fun i B' H e s hi => ?_) (fun i B' H e s hi => ⟨xs, rd e s, by rw [hd.length]; exact hi⟩) fun i B' H x H' e s hi y => ⟨y.1, ?_⟩
  · have : i < xs.length := by rw [hd.length]; exact hi
    exact ⟨xs, xs[i], rd e s, List.getElem?_eq_getElem this⟩
  · obtain ⟨d, h1, h2⟩ := hd.get' (y.2 xs (rd e s))
    exact ⟨d, h1, h2⟩
theorem walk_str (z : Str) : WalkD K (Its z) B (z.cps.toList.map fun c => .str ⟨#[c]⟩) := by
  refine walk_still (fun i B' H e s hi => ?_) (fun i B' H e s hi => ?_) fun i B' H x H' e s hi y => ⟨y.1, ?_⟩
  · show i < z.cps.size
    simpa using hi
  · show z.cps.size ≤ i
    simpa using hi
  · obtain ⟨c, hc, rfl⟩ := y.2
    exact ⟨_, by rw [List.getElem?_map, Array.getElem?_toList, hc]; rfl, .str _⟩
theorem rngD_len (a b : Int) : (rngD a b).length = (b - a).toNat := by unfold rngD; rw [List.length_map, List.length_range]
theorem walk_rng (a b : Int) : WalkD K (Itr a (b - a).toNat) B (rngD a b) := by
  refine walk_still (fun i B' H e s hi => ?_) (fun i B' H e s hi => ?_) fun i B' H x H' e s hi y => ⟨y.1, ?_⟩
  · rw [rngD_len] at hi; exact hi
  · rw [rngD_len] at hi; exact hi
  · rw [rngD_len] at hi
    refine ⟨.int (a + i), ?_, by rw [y.2]; exact .int _⟩
    unfold rngD
    rw [List.getElem?_map, List.getElem?_range hi]; rfl
theorem rev_at {α : Type} (xs : List α) {i : Nat} (h : i < xs.length) : xs.reverse[i]? = xs[xs.length - 1 - i]? := by
  rw [List.getElem?_reverse h]
theorem walk_revL (h : SqL K B l xs) (hd : DRs K B xs ds) : WalkD K (Itv K l xs.length) B ds.reverse := by
  have rd : ∀ {B' H : Hp}, Ext B B' → Sub B' H → SqL K H l xs := fun e s => sqL_sub s (sqL_sub e.sub h)
  refine walk_still (fun i B' H e s hi => ?_) (fun i B' H e s hi => ?_) fun i B' H x H' e s hi y => ⟨y.1, ?_⟩
  · rw [List.length_reverse] at hi
    have : i < xs.length := by rw [hd.length]; exact hi
    exact ⟨this, xs, xs[xs.length - 1 - i]'(by omega), rd e s, List.getElem?_eq_getElem (by omega)⟩
  · show xs.length ≤ i
    rw [List.length_reverse] at hi; rw [hd.length]; exact hi
  · rw [List.length_reverse] at hi
    obtain ⟨d, h1, h2⟩ := hd.get' (y.2 xs (rd e s))
    rw [hd.length] at h1
    exact ⟨d, by rw [rev_at _ hi]; exact h1, h2⟩
theorem walk_revT (h : SqT K B l xs) (hd : DRs K B xs ds) : WalkD K (RT.ItvT K l xs.length) B ds.reverse := by
  have rd : ∀ {B' H : Hp}, Ext B B' → Sub B' H → SqT K H l xs := fun e s => sqT_sub s (sqT_sub e.sub h)
  refine walk_still (fun i B' H e s hi => ?_) (fun i B' H e s hi => ?_) fun i B' H x H' e s hi y => ⟨y.1, ?_⟩
  · rw [List.length_reverse] at hi
    have : i < xs.length := by rw [hd.length]; exact hi
    exact ⟨this, xs, xs[xs.length - 1 - i]'(by omega), rd e s, List.getElem?_eq_getElem (by omega)⟩
  · show xs.length ≤ i
    rw [List.length_reverse] at hi; rw [hd.length]; exact hi
  · rw [List.length_reverse] at hi
    obtain ⟨d, h1, h2⟩ := hd.get' (y.2 xs (rd e s))
    rw [hd.length] at h1
    exact ⟨d, by rw [rev_at _ hi]; exact h1, h2⟩
end
section
variable {X : Cx} {K : PySem.W.Frag} {W : WX} {cls : Nat → Value} {cf : CallF} {G : Gs} {a b c e tg : Expr} {f g h : Rho → Out O} {pos : Pos}
abbrev tI (K : PySem.W.Frag) (W : WX) (cls : Nat → Value) (f : Rho → Out (List D)) : TI := tG K W cls 0 (fun _ _ B _ _ (J : L2.It) (ds : List D) => WalkD K J B ds) f
theorem si_val (he : PE X e (tE X.K W cls f)) : PI X tg e (tI X.K W cls (fun r => (f r).bind fun x r => Out.of (iterO x) r)) := by
  refine PI.of (PI.or (pi_list he) (PI.or (pi_tup he) (pi_str he))) ?_
  rintro σ H R ⟨t, B, w, ρ, a, P⟩
  have go : ∀ (Q1 : VK), (∀ v H1 B1 w1 x ρ1, f ρ = .ok x ρ1 → DR X.K B1 v (frz x) → Sub B1 H1 → (∀ ds J, iterO x = some ds → WalkD X.K J B1 ds → R J H1) → (∃ ds, iterO x = some ds) → Q1 v H1) → tE X.K W cls f σ H Q1 := fun Q1 k =>
    ⟨t, B, w, ρ, a, bindP P (Nat.le_refl t) fun v H1 B1 w1 x ρ1 er st1 wf1 tb1 en1 r1 P1 => by
      obtain ⟨B2, w2, st2, a2, dr⟩ := frozen_item wf1 tb1 en1 r1
      refine k v H1 B2 w2 x ρ1 er dr a2.wf.sub (fun ds J e1 wd => ?_) ?_
      · rw [e1] at P1
        exact P1 J B2 H1 w2 st2 a2.wf a2.tb a2.env wd
      · cases e1 : iterO x with
        | none => rw [e1] at P1; exact P1.elim
        | some ds => exact ⟨ds, rfl⟩⟩
  cases hf : f ρ with
  | exc c x ρ1 => exact .inl (go _ fun v H1 B1 w1 x ρ1 er => by rw [hf] at er; cases er)
  | bad => exact .inl (go _ fun v H1 B1 w1 x ρ1 er => by rw [hf] at er; cases er)
  | ok o ρ1 =>
    have key : ∀ (Q1 : VK), (∀ v H1 B1, DR X.K B1 v (frz o) → Sub B1 H1 → (∀ ds J, iterO o = some ds → WalkD X.K J B1 ds → R J H1) → (∃ ds, iterO o = some ds) → Q1 v H1) → tE X.K W cls f σ H Q1 := fun Q1 k =>
      go Q1 fun v H1 B1 w1 x ρ2 er dr s r1 r2 => by rw [hf] at er; cases er; exact k v H1 B1 dr s r1 r2
    cases o with
    | lst ds => exact .inl (key _ fun v H1 B1 dr s r1 _ => by
        cases dr with
        | lst hl hd => exact ⟨_, rfl, ⟨_, sqL_sub s hl⟩, r1 ds _ rfl (walk_list hl hd)⟩)
    | dct _ _ => exact .inl (key _ fun v H1 B1 dr s r1 ⟨ds, hds⟩ => by cases hds)
    | dtt _ _ => exact .inl (key _ fun v H1 B1 dr s r1 ⟨ds, hds⟩ => by cases hds)
    | ins _ _ => exact .inl (key _ fun v H1 B1 dr s r1 ⟨ds, hds⟩ => by cases hds)
    | d x => cases x with
      | dct _ _ => exact .inl (key _ fun v H1 B1 dr s r1 ⟨ds, hds⟩ => by cases hds)
      | dtt _ _ => exact .inl (key _ fun v H1 B1 dr s r1 ⟨ds, hds⟩ => by cases hds)
      | ins _ _ => exact .inl (key _ fun v H1 B1 dr s r1 ⟨ds, hds⟩ => by cases hds)
      | lst ds => exact .inl (key _ fun v H1 B1 dr s r1 _ => by
          cases dr with
          | lst hl hd => exact ⟨_, rfl, ⟨_, sqL_sub s hl⟩, r1 ds _ rfl (walk_list hl hd)⟩)
      | tup ds => exact .inr (.inl (key _ fun v H1 B1 dr s r1 _ => by
          cases dr with
          | tup hl hd => exact ⟨_, rfl, ⟨_, sqT_sub s hl⟩, r1 ds _ rfl (walk_tup hl hd)⟩))
      | str z => exact .inr (.inr (key _ fun v H1 B1 dr s r1 ⟨ds, hds⟩ => by
          cases dr
          refine ⟨z, rfl, r1 _ _ hds ?_⟩
          simp only [iterO] at hds
          split at hds
          · cases hds; exact walk_str z
          · cases hds))
      | non => exact .inl (key _ fun v H1 B1 dr s r1 ⟨ds, hds⟩ => by cases hds)
      | bl _ => exact .inl (key _ fun v H1 B1 dr s r1 ⟨ds, hds⟩ => by cases hds)
      | int _ => exact .inl (key _ fun v H1 B1 dr s r1 ⟨ds, hds⟩ => by cases hds)
theorem smallI_of {i : Int} (h : smallI i = true) : -(2 ^ 62) ≤ i ∧ i < 2 ^ 62 := by
  unfold smallI at h
  rw [decide_eq_true_eq] at h
  omega
theorem si_rng {p : Pos} (hg : Gl X "range") (hm : X.mg "range" = none) (hd : hdOk a = true) (ha : PE X a (tE X.K W cls f)) :
    PI X tg (.Call (.Name "range" p) [a] [] pos) (tI X.K W cls (fun r => (f r).bind fun x r => match asI x with
      | some i => if smallI i then .ok (rngD 0 i) r else .bad
      | none => .bad)) := by
  refine PI.of (pi_range1 hg hm (pa_cons ha pa_nil (star_ok hd)) (star_ok hd)) ?_
  rintro σ H R ⟨t, B, w, ρ, a, P⟩
  refine ⟨t, B, w, ρ, a, bindP P (Nat.le_refl t) fun v H1 B1 w1 x ρ1 er st1 wf1 tb1 en1 r1 P1 => ?_⟩
  cases e : asI x with
  | none => rw [e] at P1; exact P1.elim
  | some i =>
    simp only [e] at P1
    split at P1
    · rename_i hs
      have hs := smallI_of hs
      refine ⟨i, by rw [or_int r1 e], hs.1, hs.2, ?_⟩
      have wd := walk_rng (K := X.K) (B := B1) 0 i
      rw [Int.sub_zero] at wd
      exact P1 _ B1 H1 _ (stp_drop t B1 H1 w1) wf1.drop (TB.drop t w1) en1.drop wd
    · exact P1.elim
theorem rng3_size {a b k : Int} (h : 0 < k) : Builtin.Range.rangeSize a b k = ((Builtin.Range.rangeSize a b k).toNat : Int) := PyProof.Rows.rangeSize_toNat a b k
theorem walk_rng3 (a b k : Int) : WalkD K (Itc a k (Builtin.Range.rangeSize a b k).toNat) B (rng3D a b k) := by
  have hl : (rng3D a b k).length = (Builtin.Range.rangeSize a b k).toNat := by unfold rng3D; rw [List.length_map, List.length_range]
  refine walk_still (fun i B' H e s hi => ?_) (fun i B' H e s hi => ?_) fun i B' H x H' e s hi y => ⟨y.1, ?_⟩
  · rw [hl] at hi; exact hi
  · rw [hl] at hi; exact hi
  · rw [hl] at hi
    refine ⟨.int (a + (i : Int) * k), ?_, by rw [y.2]; exact .int _⟩
    unfold rng3D
    rw [List.getElem?_map, List.getElem?_range hi]; rfl
theorem si_rng3 {p p3 : Pos} {k : Int} {kk : Nat} (hg : Gl X "range") (hm : X.mg "range" = none) (hd : hdOk a = true) (hd2 : hdOk b = true) (ha : PE X a (tE X.K W cls f)) (hb : PE X b (tE X.K W cls g)) :
    PI X tg (.Call (.Name "range" p) [a, b, .Constant (.int k) kk p3] [] pos) (tI X.K W cls (fun r => (f r).bind fun x r => (g r).bind fun y r => match asI x, asI y with
      | some i, some j => if smallI i && (smallI j && (Builtin.Range.small i j k && decide (0 < k) && decide (k ≤ 1000))) then .ok (rng3D i j k) r else .bad
      | _, _ => .bad)) := by
  have hs2 : starEach [b, .Constant (.int k) kk p3] X.env = [(false, eval b X.env), (false, eval (.Constant (.int k) kk p3) X.env)] := by rw [star_ok hd2] <;> rfl
  refine PI.of (pi_range3 hg hm (pa_cons ha (pa_cons hb (pa_cons pe_int pa_nil (star_ok rfl)) (star_ok hd2)) (star_ok hd)) (star_ok hd) (by rw [hs2] <;> rfl)) ?_
  rintro σ H R ⟨t, B, w, ρ, a, P⟩
  refine ⟨t, B, w, ρ, a, bindP P (Nat.le_refl t) fun v H1 B1 w1 x ρ1 er st1 wf1 tb1 en1 r1 P1 => ?_⟩
  refine ⟨t + 1, B1, w1, ρ1, ⟨wf1, tb1, en1⟩, bindP P1 (Nat.le_succ t) fun v2 H2 B2 w2 y ρ2 _ st2 wf2 tb2 en2 r2 P2 => ?_⟩
  have r1' := r1.kept st2 (Nat.lt_succ_self t)
  cases e : asI x with
  | none => simp only [e] at P2; exact P2.elim
  | some i =>
    cases e2 : asI y with
    | none => simp only [e, e2] at P2; exact P2.elim
    | some j =>
      simp only [e, e2] at P2
      split at P2
      · rename_i hs
        rw [Bool.and_eq_true, Bool.and_eq_true, Bool.and_eq_true, Bool.and_eq_true, decide_eq_true_eq, decide_eq_true_eq] at hs
        obtain ⟨_, _, ⟨h1, h2⟩, h3⟩ := hs
        refine ⟨i, j, k, _, by rw [or_int r1' e, or_int r2 e2], ⟨by omega, by omega, h1, rng3_size h2⟩, ?_⟩
        exact P2 _ B2 H2 _ (stp_drop t B2 H2 w2) wf2.drop (TB.drop t w2) en2.drop (walk_rng3 (K := X.K) (B := B2) i j k)
      · exact P2.elim
theorem si_rng2 {p : Pos} (hg : Gl X "range") (hm : X.mg "range" = none) (hd : hdOk a = true) (hd2 : hdOk b = true) (ha : PE X a (tE X.K W cls f)) (hb : PE X b (tE X.K W cls g)) :
    PI X tg (.Call (.Name "range" p) [a, b] [] pos) (tI X.K W cls (fun r => (f r).bind fun x r => (g r).bind fun y r => match asI x, asI y with
      | some i, some j => if smallI i && smallI j then .ok (rngD i j) r else .bad
      | _, _ => .bad)) := by
  have hs1 : starEach [a, b] X.env = [(false, eval a X.env), (false, eval b X.env)] := by rw [star_ok hd, star_ok hd2] <;> rfl
  refine PI.of (pi_range2 hg hm (pa_cons ha (pa_cons hb pa_nil (star_ok hd2)) (star_ok hd)) hs1 (star_ok hd2)) ?_
  rintro σ H R ⟨t, B, w, ρ, a, P⟩
  refine ⟨t, B, w, ρ, a, bindP P (Nat.le_refl t) fun v H1 B1 w1 x ρ1 er st1 wf1 tb1 en1 r1 P1 => ?_⟩
  refine ⟨t + 1, B1, w1, ρ1, ⟨wf1, tb1, en1⟩, bindP P1 (Nat.le_succ t) fun v2 H2 B2 w2 y ρ2 _ st2 wf2 tb2 en2 r2 P2 => ?_⟩
  have r1' := r1.kept st2 (Nat.lt_succ_self t)
  cases e : asI x with
  | none => simp only [e] at P2; exact P2.elim
  | some i =>
    cases e2 : asI y with
    | none => simp only [e, e2] at P2; exact P2.elim
    | some j =>
      simp only [e, e2] at P2
      split at P2
      · rename_i hs
        rw [Bool.and_eq_true] at hs
        have h1 := smallI_of hs.1
        have h2 := smallI_of hs.2
        exact ⟨i, j, by rw [or_int r1' e, or_int r2 e2], ⟨h1.1, h1.2, h2.1, h2.2⟩, P2 _ B2 H2 _ (stp_drop t B2 H2 w2) wf2.drop (TB.drop t w2) en2.drop (walk_rng i j)⟩
      · exact P2.elim
theorem si_rev {p : Pos} (hg : Gl X "reversed") (hm : X.mg "reversed" = none) (hd : hdOk a = true) (ha : PE X a (tE X.K W cls f)) :
    PI X tg (.Call (.Name "reversed" p) [a] [] pos) (tI X.K W cls (fun r => (f r).bind fun x r => match frz x with
      | .lst xs => .ok xs.reverse r
      | .tup xs => .ok xs.reverse r
      | _ => .bad)) := by
  refine PI.of (RT.pi_revA hg hm ha (star_ok hd)) ?_
  rintro σ H R ⟨t, B, w, ρ, a, P⟩
  refine ⟨t, B, w, ρ, a, bindP P (Nat.le_refl t) fun v H1 B1 w1 x ρ1 er st1 wf1 tb1 en1 r1 P1 => ?_⟩
  obtain ⟨B2, w2, st2, a2, dr⟩ := frozen_item wf1 tb1 en1 r1
  have P2 := P1.after st2
  generalize frz x = y at dr P2
  cases dr with
  | lst hl hd => exact ⟨_, _, rfl, .inl ⟨sqL_sub a2.wf.sub hl, P2 _ B2 H1 w2 (Stp.refl t B2 H1 w2) a2.wf a2.tb a2.env (walk_revL hl hd)⟩⟩
  | tup hl hd => exact ⟨_, _, rfl, .inr ⟨sqT_sub a2.wf.sub hl, P2 _ B2 H1 w2 (Stp.refl t B2 H1 w2) a2.wf a2.tb a2.env (walk_revT hl hd)⟩⟩
  | _ => exact P2.elim
end
end Ev
end

section
set_option Elab.async false
set_option linter.all false
set_option maxRecDepth 100000
set_option maxHeartbeats 4000000
/-! Ev, part I: targets; list comprehensions. -/
namespace Ev
open PySem PySem.Spec PyProof.Rows L2
variable [Γ : Clz]

/-! ### slots forgotten, brought back -/
theorem clr_len (is : List Nat) (r : Rho) : (clr is r).length = r.length := by
  unfold clr
  induction is generalizing r with
  | nil => rfl
  | cons i is ih => rw [List.foldl_cons, ih, List.length_set]
theorem getS_clr {is : List Nat} {r : Rho} {j : Nat} : getS j (clr is r) = if j ∈ is then none else getS j r := by
  unfold clr
  induction is generalizing r with
  | nil => simp
  | cons i is ih =>
    rw [List.foldl_cons, ih, getS_set]
    by_cases h1 : j ∈ is
    · simp [h1]
    · by_cases h2 : j = i
      · simp [h2]
      · simp [h1, h2]
theorem restore_len (is : List Nat) (r r1 : Rho) : (restore is r r1).length = r1.length := by
  unfold restore
  induction is generalizing r1 with
  | nil => rfl
  | cons i is ih => rw [List.foldl_cons, ih, List.length_set]
theorem getS_getD {j : Nat} {r : Rho} : getS j r = (r[j]?).getD none := by
  unfold getS
  cases r[j]? with
  | none => rfl
  | some x => cases x <;> rfl
theorem getS_restore {is : List Nat} {r r1 : Rho} {j : Nat} (hl : r.length = r1.length) : getS j (restore is r r1) = if j ∈ is then getS j r else getS j r1 := by
  unfold restore
  induction is generalizing r1 with
  | nil => simp
  | cons i is ih =>
    rw [List.foldl_cons, ih (by rw [List.length_set]; exact hl), getS_set]
    by_cases h1 : j ∈ is
    · simp [h1]
    · by_cases h2 : j = i
      · subst h2
        simp only [h1, if_false, List.mem_cons, true_or, if_true]
        by_cases h3 : j < r1.length
        · rw [if_pos h3, getS_getD]
        · rw [if_neg h3, getS_getD, List.getElem?_eq_none (by omega)]; rfl
      · simp [h1, h2]
theorem wipe_at (σ : L2.St) : ∀ (vs : List Nat) (j : Nat), (wipe σ vs)[j]? = if j ∈ vs then (if j < σ.length then some none else none) else σ[j]? := by
  intro vs
  induction vs with
  | nil => intro j; simp [wipe]
  | cons v vs ih =>
    intro j
    unfold wipe
    by_cases h : v = j
    · subst h
      by_cases hl : v < σ.length
      · rw [List.getElem?_set_self (by rw [wipe_length]; exact hl)]; simp [hl]
      · rw [List.getElem?_eq_none (by rw [List.length_set, wipe_length]; omega)]; simp [hl]
    · rw [List.getElem?_set_ne h, ih]
      by_cases h2 : j ∈ vs
      · simp [h2]
      · have h3 : j ∉ v :: vs := by simp only [List.mem_cons, not_or]; exact ⟨fun z => h z.symm, h2⟩
        rw [if_neg h2, if_neg h3]
theorem wipe_eq {σ σ' : L2.St} {vs : List Nat} (hl : σ'.length = σ.length) (h : ∀ j, j ∉ vs → σ'[j]? = σ[j]?) : wipe σ' vs = wipe σ vs := by
  apply List.ext_getElem?
  intro j
  rw [wipe_at, wipe_at, hl]
  by_cases hj : j ∈ vs
  · simp [hj]
  · simp [hj, h j hj]

/-- what these slots owned is nobody's -/
def offS (is : List Nat) (w : Wn) : Wn := fun a => match w a with
  | some (.slot j) => if j ∈ is then none else some (.slot j)
  | q => q
section
variable {K : PySem.W.Frag} {σ : L2.St} {t : Nat} {B H : Hp} {w : Wn} {ρ ρ' : Rho} {is : List Nat} {x : V} {d : D}
theorem offS_some {a : Addr} {q : Own} (h : offS is w a = some q) : w a = some q := by
  unfold offS at h
  split at h
  · split at h
    · cases h
    · rename_i e _; rw [e]; exact h
  · exact h
theorem offS_slot {a : Addr} {j : Nat} (h : w a = some (.slot j)) (hj : j ∉ is) : offS is w a = some (.slot j) := by unfold offS; rw [h]; simp [hj]
theorem offS_tmp {a : Addr} {k : Nat} (h : w a = some (.tmp k)) : offS is w a = some (.tmp k) := by unfold offS; rw [h]
theorem offS_none {a : Addr} (h : w a = none) : offS is w a = none := by unfold offS; rw [h]
theorem offS_nil : offS [] w = w := by
  funext a; unfold offS
  split
  · rename_i j e; simp [e]
  · rfl
theorem offS_cons {i : Nat} : offS is (offS [i] w) = offS (i :: is) w := by
  funext a
  cases h : w a with
  | none => rw [offS_none (offS_none h), offS_none h]
  | some q => cases q with
    | tmp k => rw [offS_tmp (offS_tmp h), offS_tmp h]
    | slot j =>
      unfold offS
      by_cases h1 : j = i
      · simp [h, h1]
      · by_cases h2 : j ∈ is
        · simp [h, h1, h2]
        · simp [h, h1, h2]
theorem Wf.offS (W : Wf B H w) : Wf B H (offS is w) := ⟨W.sub, fun a q e => W.off a q (offS_some e), fun a q e => W.live a q (offS_some e)⟩
theorem TB.offS (h : TB t w) : TB t (offS is w) := fun a k e => h a k (offS_some e)
theorem stp_offS : Stp t B H w B H (offS is w) := ⟨Ext.refl B, fun _ _ h e => ⟨h, offS_none e⟩, fun _ _ _ h e _ => ⟨h, offS_tmp e⟩, fun _ _ h => .inl h⟩
/-- a slot set to data -/
theorem env_set {i : Nat} (env : EnvR K B H w σ ρ) (hx : DR K B x d) (hi : i < σ.length) : EnvR K B H (offS [i] w) (σ.set i (some x)) (ρ.set i (some (.d d))) := by
  refine ⟨by rw [List.length_set, List.length_set]; exact env.len, fun j o h => ?_⟩
  rw [getS_set] at h
  by_cases hj : j = i
  · subst hj
    rw [if_pos rfl] at h
    split at h
    · cases h
      exact ⟨x, List.getElem?_set_self hi, .d hx⟩
    · cases h
  · rw [if_neg hj] at h
    obtain ⟨v, hv, ho⟩ := env.at' j o h
    exact ⟨v, by rw [List.getElem?_set_ne (Ne.symm hj)]; exact hv, ho.mono (Ext.refl B) fun a xs f ha => ⟨offS_slot f (by simpa using hj), ha⟩⟩
def gNames : List Nat → TGs
  | [] => gNil
  | i :: is => gCons (gName i) (gNames is)
def gT (K : PySem.W.Frag) : Tg → TG
  | .one i => gName i
  | .many is => gTup K is.length (gNames is)
theorem setDs_run : ∀ {is : List Nat} {ds : List D} {xs : List V} {σ : L2.St} {ρ ρ' : Rho} {w : Wn} {Q : L2.St → Hp → Prop}, setDs is ds ρ = some ρ' → DRs K B xs ds → EnvR K B H w σ ρ → (∀ i ∈ is, i < σ.length) →
    (∀ σ', EnvR K B H (offS is w) σ' ρ' → (∀ j, j ∉ is → σ'[j]? = σ[j]?) → σ'.length = σ.length → Q σ' H) → gNames is xs σ H Q := by
  intro is
  induction is with
  | nil =>
    intro ds xs σ ρ ρ' w Q h hd env hl k
    cases ds with
    | cons _ _ => cases h
    | nil =>
      cases h
      cases hd
      exact ⟨rfl, k σ (by rw [offS_nil]; exact env) (fun _ _ => rfl) rfl⟩
  | cons i is ih =>
    intro ds xs σ ρ ρ' w Q h hd env hl k
    cases ds with
    | nil => cases h
    | cons d ds =>
      cases hd with
      | @cons v vs _ _ hv hvs =>
        refine ⟨v, vs, rfl, ?_⟩
        have hi : i < σ.length := hl i List.mem_cons_self
        refine ih h hvs (env_set env hv hi) (fun j hj => by rw [List.length_set]; exact hl j (List.mem_cons_of_mem _ hj)) fun σ' e1 e2 e3 => ?_
        refine k σ' (by rw [← offS_cons]; exact e1) (fun j hj => ?_) (by rw [e3, List.length_set])
        simp only [List.mem_cons, not_or] at hj
        rw [e2 j hj.2, List.getElem?_set_ne (Ne.symm hj.1)]
theorem setDs_len : ∀ {is : List Nat} {ds : List D} {ρ ρ' : Rho}, setDs is ds ρ = some ρ' → ds.length = is.length := by
  intro is
  induction is with
  | nil => intro ds ρ ρ' h; cases ds with
    | nil => rfl
    | cons _ _ => cases h
  | cons i is ih => intro ds ρ ρ' h; cases ds with
    | nil => cases h
    | cons d ds => rw [List.length_cons, List.length_cons, ih h]
theorem bindT_run {tg : Tg} {Q : L2.St → Hp → Prop} (h : bindT tg d ρ = some ρ') (hs : Sub B H) (env : EnvR K B H w σ ρ) (hx : DR K B x d) (hl : ∀ i ∈ tg.slots, i < σ.length)
    (k : ∀ σ', EnvR K B H (offS tg.slots w) σ' ρ' → (∀ j, j ∉ tg.slots → σ'[j]? = σ[j]?) → σ'.length = σ.length → Q σ' H) : gT K tg x σ H Q := by
  cases tg with
  | one i =>
    cases h
    have hi : i < σ.length := hl i (by simp [Tg.slots])
    exact k _ (env_set env hx hi) (fun j hj => List.getElem?_set_ne (fun z => hj (by simp [Tg.slots, z]))) (List.length_set ..)
  | many is =>
    cases hx with
    | tup hq hd =>
      have h : setDs is _ ρ = some ρ' := h
      exact ⟨_, _, rfl, sqT_sub hs hq, by rw [hd.length]; exact setDs_len h, setDs_run h hd env hl k⟩
    | _ => cases h
end
/-- where a name of the text is stored -/
def NameAt (X : Cx) (i : Nat) (e : Expr) : Prop := ∃ x pos, e = .Name x pos ∧ X.N[i]? = some x ∧ Loc X.env.scope x ∧ (X.fn x = true ∨ X.env.scope.names.lookup x = some .local)
def NamesAt (X : Cx) : List Nat → List Expr → Prop
  | [], [] => True
  | i :: is, e :: es => NameAt X i e ∧ NamesAt X is es
  | _, _ => False
def TgAt (X : Cx) : Tg → Expr → Prop
  | .one i, e => NameAt X i e
  | .many is, e => ∃ es k pos, e = .Tuple es k pos ∧ NamesAt X is es
section
variable {X : Cx}
theorem pgs_of (hN : X.N.Nodup) : ∀ {is : List Nat} {es : List Expr}, NamesAt X is es → PGs X es (gNames is)
  | [], [], _ => pgs_nil
  | i :: is, e :: es, h => by
    obtain ⟨⟨x, pos, rfl, h1, h2, h3⟩, h4⟩ := h
    exact pgs_cons (pg_name hN h1 h2 h3) (pgs_of hN h4)
  | [], _ :: _, h => h.elim
  | _ :: _, [], h => h.elim
theorem names_len : ∀ {is : List Nat} {es : List Expr}, NamesAt X is es → es.length = is.length
  | [], [], _ => rfl
  | i :: is, e :: es, h => by rw [List.length_cons, List.length_cons, names_len h.2]
  | [], _ :: _, h => h.elim
  | _ :: _, [], h => h.elim
theorem names_each : ∀ {is : List Nat} {es : List Expr}, NamesAt X is es → (assignEach es X.env).length = is.length ∧ (assignEach es X.env).findIdx? (·.1) = none
  | [], [], _ => ⟨rfl, rfl⟩
  | i :: is, e :: es, h => by
    obtain ⟨⟨x, pos, rfl, _⟩, h4⟩ := h
    obtain ⟨e1, e2⟩ := names_each h4
    have e3 : assignEach (.Name x pos :: es) X.env = (false, assign (.Name x pos) X.env) :: assignEach es X.env := rfl
    rw [e3]
    refine ⟨by rw [List.length_cons, List.length_cons, e1], ?_⟩
    rw [List.findIdx?_cons, e2]
    rfl
  | [], _ :: _, h => h.elim
  | _ :: _, [], h => h.elim
theorem pg_of (hN : X.N.Nodup) (hc : X.calm = true) {tg : Tg} {e : Expr} (h : TgAt X tg e) : PG X e (gT X.K tg) := by
  cases tg with
  | one i =>
    obtain ⟨x, pos, rfl, h1, h2, h3⟩ := h
    exact pg_name hN h1 h2 h3
  | many is =>
    obtain ⟨es, k, pos, rfl, h⟩ := h
    exact pg_tup hc (pgs_of hN h) (names_each h).1 (names_each h).2
theorem names_lt : ∀ {is : List Nat} {es : List Expr}, NamesAt X is es → ∀ i ∈ is, i < X.N.length
  | [], [], _, i, hi => by simp at hi
  | j :: is, e :: es, h, i, hi => by
    obtain ⟨⟨x, pos, rfl, h1, _⟩, h4⟩ := h
    rcases List.mem_cons.mp hi with z | z
    · rw [z]; exact (List.getElem?_eq_some_iff.mp h1).1
    · exact names_lt h4 i z
  | [], _ :: _, h, _, _ => h.elim
  | _ :: _, [], h, _, _ => h.elim
theorem tg_lt {tg : Tg} {e : Expr} (h : TgAt X tg e) : ∀ i ∈ tg.slots, i < X.N.length := by
  cases tg with
  | one i =>
    obtain ⟨x, pos, rfl, h1, _⟩ := h
    intro j hj
    simp [Tg.slots] at hj
    rw [hj]; exact (List.getElem?_eq_some_iff.mp h1).1
  | many is =>
    obtain ⟨es, k, pos, rfl, h⟩ := h
    exact names_lt h
end

/-! ### list comprehensions -/
/-- slots put away as temporaries from u on -/
def hideS (u : Nat) (is : List Nat) (w : Wn) : Wn := fun a => match w a with
  | some (.slot j) => if j ∈ is then some (.tmp (u + j)) else some (.slot j)
  | q => q
/-- .. brought back, the list at p as temporary t -/
def showS (t u : Nat) (is : List Nat) (p : Addr) (w : Wn) : Wn := fun a => if a = p then some (.tmp t) else match w a with
  | some (.slot j) => if j ∈ is then none else some (.slot j)
  | some (.tmp k) => if k < t then some (.tmp k) else if u ≤ k ∧ (k - u) ∈ is then some (.slot (k - u)) else none
  | none => none
section
variable {K : PySem.W.Frag} {W : WX} {cls : Nat → Value} {σ : L2.St} {t u : Nat} {B H : Hp} {w : Wn} {ρ ρ' : Rho} {is : List Nat}
abbrev noX : WX := fun _ _ _ _ => False
theorem hide_slot {a : Addr} {j : Nat} (h : w a = some (.slot j)) (hj : j ∉ is) : hideS u is w a = some (.slot j) := by unfold hideS; rw [h]; simp [hj]
theorem hide_in {a : Addr} {j : Nat} (h : w a = some (.slot j)) (hj : j ∈ is) : hideS u is w a = some (.tmp (u + j)) := by unfold hideS; rw [h]; simp [hj]
theorem hide_tmp {a : Addr} {k : Nat} (h : w a = some (.tmp k)) : hideS u is w a = some (.tmp k) := by unfold hideS; rw [h]
theorem hide_none {a : Addr} (h : w a = none) : hideS u is w a = none := by unfold hideS; rw [h]
theorem hide_some {a : Addr} {q : Own} (h : hideS u is w a = some q) : ∃ q', w a = some q' := by
  cases e : w a with
  | none => rw [hide_none e] at h; cases h
  | some q' => exact ⟨q', rfl⟩
/-- the step of a comprehension -/
def stepLc (fc : Rho → Out Bool) (fe : Rho → Out O) : Rho → Out (Option D) := fun r => (fc r).bind fun k r => if k = true then (fe r).bind fun o r => .ok (some (frz o)) r else .ok none r
/-- a part run where nothing may be raised -/
theorem run0 {α β : Type} {R : Hp → Hp → Wn → β → α → Prop} {r : Out α} {a : α} {ρ1 : Rho} {Q : β → Hp → Prop} (e : r = .ok a ρ1) (k : ∀ v B' H' w', Stp t B H w B' H' w' → Wf B' H' w' → TB u w' → EnvR K B' H' w' σ ρ1 → R B' H' w' v a → Q v H') : PostG K noX cls σ t u B H w R r Q := by
  subst e; exact k
theorem comp_next {F : List D → Rho → Out O} {y : D} (o : Out (List D)) : ((o.bind fun ys r2 => (Out.ok (y :: ys) r2 : Out (List D))).calm).bind F = (o.calm).bind fun ys r => F (y :: ys) r := by cases o <;> rfl
theorem comp_skip {F : List D → Rho → Out O} (o : Out (List D)) : ((o.bind fun ys r2 => (Out.ok ys r2 : Out (List D))).calm).bind F = (o.calm).bind fun ys r => F ys r := by cases o <;> rfl
theorem lc_read {fi : Rho → Out (List D)} {fc : Rho → Out Bool} {fe : Rho → Out O} {tg : Tg} {Q : VK} (hl : ∀ i ∈ tg.slots, i < σ.length)
    (h : tE K W cls (fun r => (fi r).bind fun xs r => if line < xs.length then .bad else ((compN (stepLc fc fe) tg xs r).calm).bind fun ys r1 => .ok (.lst ys) (restore tg.slots r r1)) σ H Q) :
    tLc (tI K W cls fi) (gT K tg) (tT K noX cls fc) (tE K noX cls fe) tg.slots σ H Q := by
  obtain ⟨t, B, w, ρ, a, P⟩ := h
  refine ⟨t, B, w, ρ, a, bindP P (Nat.le_refl t) fun J H1 B1 w1 ds ρ1 _ st1 wf1 tb1 en1 wd P1 => ?_⟩
  intro p hp
  split at P1
  · exact P1.elim
  rename_i hline
  have hline : ds.length ≤ line := Nat.not_lt.mp hline
  -- t: where the slots are put away; t1: the list's own; from t1 + 1 on the parts' temporaries
  obtain ⟨t1, ht1⟩ : ∃ t1, t1 = t + ρ1.length := ⟨_, rfl⟩
  have hlen : ρ1.length = σ.length := en1.len
  have hin : ∀ j ∈ tg.slots, t + j < t1 := fun j hj => by have := hl j hj; omega
  have tt1 : t ≤ t1 := by omega
  obtain ⟨w0, hw0⟩ : ∃ w0, w0 = putW (hideS t tg.slots w1) p (some (.tmp t1)) := ⟨_, rfl⟩
  have w0p : w0 p = some (.tmp t1) := by rw [hw0, putW_same]
  have w0n : ∀ b, b ≠ p → w0 b = hideS t tg.slots w1 b := fun b hb => by rw [hw0, putW_ne hb]
  have wp0 : w1 p = none := by
    cases e : w1 p with
    | none => rfl
    | some q => exact absurd hp (wf1.live p q e)
  have wf0 : Wf B1 (upd H1 p (.lst [])) w0 := by
    rw [hw0]
    refine Wf.new (w := hideS t tg.slots w1) ⟨wf1.sub, fun b q e => ?_, fun b q e => ?_⟩ hp _ _
    · obtain ⟨q', e'⟩ := hide_some e; exact wf1.off b q' e'
    · obtain ⟨q', e'⟩ := hide_some e; exact wf1.live b q' e'
  have tb0 : TB (t1 + 1) w0 := fun b k e => by
    by_cases hb : b = p
    · subst hb; rw [w0p] at e; cases e; omega
    · rw [w0n b hb] at e
      cases e2 : w1 b with
      | none => rw [hide_none e2] at e; cases e
      | some q => cases q with
        | tmp k' =>
          rw [hide_tmp e2] at e; cases e
          have := tb1 b k e2
          omega
        | slot j =>
          by_cases hj : j ∈ tg.slots
          · rw [hide_in e2 hj] at e; cases e
            have := hin j hj
            omega
          · rw [hide_slot e2 hj] at e; cases e
  have en0 : EnvR K B1 (upd H1 p (.lst [])) w0 (wipe σ tg.slots) (clr tg.slots ρ1) := by
    refine ⟨by rw [clr_len, wipe_length]; exact en1.len, fun j o h => ?_⟩
    rw [getS_clr] at h
    split at h
    · cases h
    · rename_i hj
      obtain ⟨v, hv, ho⟩ := en1.at' j o h
      refine ⟨v, by rw [wipe_at, if_neg hj]; exact hv, ho.mono (Ext.refl B1) fun b xs f hb => ?_⟩
      have hbp : b ≠ p := ne_of_none hb hp
      exact ⟨by rw [w0n b hbp]; exact hide_slot f hj, by rw [upd_ne hbp]; exact hb⟩
  refine ⟨fun i m H => i ≤ ds.length ∧ m = ds.length - i ∧ ∃ B2 w2 ρ2 acc done, Stp t1 B1 (upd H1 p (.lst [])) w0 B2 H w2 ∧ Wf B2 H w2 ∧ TB (t1 + 1) w2 ∧
    EnvR K B2 H w2 (wipe σ tg.slots) (clr tg.slots ρ2) ∧ H p = some (.lst acc) ∧ w2 p = some (.tmp t1) ∧ DRs K B2 acc done ∧ done.length ≤ i ∧
    PostG K W cls σ t (t + 1) B1 H1 w1 (RE K σ t) (((compN (stepLc fc fe) tg (ds.drop i) ρ2).calm).bind fun ys r1 => .ok (.lst (done ++ ys)) (restore tg.slots ρ1 r1)) Q, ?_, ?_⟩
  · exact ⟨ds.length, Nat.zero_le _, rfl, B1, w0, ρ1, [], [], Stp.refl t1 B1 _ w0, wf0, tb0, en0, upd_same, w0p, .nil, Nat.le_refl 0, P1⟩
  rintro i m H ⟨hi, rfl, B2, w2, ρ2, acc, done, st2, wf2, tb2, en2, hH, hwp, hacc, hdn, P2⟩
  by_cases hlt : i < ds.length
  · refine .inr ⟨wd.go i B2 H st2.ext wf2.sub hlt, fun H' => ∃ B2 w2 ρ2 acc done, Stp t1 B1 (upd H1 p (.lst [])) w0 B2 H' w2 ∧ Wf B2 H' w2 ∧ TB (t1 + 1) w2 ∧
      EnvR K B2 H' w2 (wipe σ tg.slots) (clr tg.slots ρ2) ∧ H' p = some (.lst acc) ∧ w2 p = some (.tmp t1) ∧ DRs K B2 acc done ∧ done.length ≤ i + 1 ∧
      PostG K W cls σ t (t + 1) B1 H1 w1 (RE K σ t) (((compN (stepLc fc fe) tg (ds.drop (i + 1)) ρ2).calm).bind fun ys r1 => .ok (.lst (done ++ ys)) (restore tg.slots ρ1 r1)) Q,
      fun H' h => ⟨ds.length - (i + 1), by omega, hlt, rfl, h⟩, fun x H' y => ?_⟩
    obtain ⟨B3, d, e3, s3, kp3, nb3, ed, hx⟩ := wd.yld i B2 H x H' st2.ext wf2.sub hlt y
    have hdrop : ds.drop i = d :: ds.drop (i + 1) := by
      rw [List.drop_eq_getElem_cons hlt]
      have := List.getElem?_eq_getElem hlt
      rw [this] at ed; cases ed; rfl
    rw [hdrop] at P2
    simp only [compN] at P2
    cases hb : bindT tg d (clr tg.slots ρ2) with
    | none => rw [hb] at P2; exact P2.elim
    | some ρ3 =>
      simp only [hb] at P2
      have wf3 : Wf B3 H' w2 := ⟨s3, fun b q e => by
        cases e5 : B3 b with
        | none => rfl
        | some u =>
          rcases nb3 b u e5 with z | z
          · rw [wf2.off b q e] at z; cases z
          · exact absurd z (wf2.live b q e), fun b q e z => by
        cases e5 : H b with
        | none => exact wf2.live b q e e5
        | some u => rw [kp3 b u e5] at z; cases z⟩
      have st3 : Stp t1 B2 H w2 B3 H' w2 := ⟨e3, fun b o h1 h2 => ⟨kp3 b o h1, h2⟩, fun b o k h1 h2 _ => ⟨kp3 b o h1, h2⟩, fun b o h => (nb3 b o h).imp id .inl⟩
      have en3 : EnvR K B3 H' w2 (wipe σ tg.slots) (clr tg.slots ρ2) := en2.mono e3 fun b xs j f h => ⟨f, kp3 b _ h⟩
      refine bindT_run hb s3 en3 hx (fun j hj => by rw [wipe_length]; exact hl j hj) fun σ' en4 ag le => ?_
      refine ⟨wipe_eq (by rw [le, wipe_length]) fun j hj => by rw [ag j hj, wipe_at, if_neg hj], ?_⟩
      have wf4 : Wf B3 H' (offS tg.slots w2) := wf3.offS
      have tb4 : TB (t1 + 1) (offS tg.slots w2) := tb2.offS
      have st4 : Stp t1 B1 (upd H1 p (.lst [])) w0 B3 H' (offS tg.slots w2) := (st2.trans st3).trans stp_offS
      have back : ∀ {B5 H5 : Hp} {w5 : Wn} {ρ5 : Rho}, EnvR K B5 H5 w5 σ' ρ5 → EnvR K B5 H5 w5 (wipe σ tg.slots) (clr tg.slots ρ5) := fun {B5 H5 w5 ρ5} en => by
        refine ⟨by rw [clr_len, wipe_length, en.len, le, wipe_length], fun j o h => ?_⟩
        rw [getS_clr] at h
        split at h
        · cases h
        · rename_i hj
          obtain ⟨v, hv, ho⟩ := en.at' j o h
          exact ⟨v, by rw [← ag j hj]; exact hv, ho⟩
      cases hc : fc ρ3 with
      | exc c x r => simp only [stepLc, hc, Out.bind_exc] at P2; exact P2.elim
      | bad => simp only [stepLc, hc, Out.bind_bad] at P2; exact P2.elim
      | ok k ρ4 =>
        simp only [stepLc, hc, Out.bind_ok] at P2
        refine ⟨t1 + 1, B3, offS tg.slots w2, ρ3, ⟨wf4, tb4, en4⟩, run0 hc fun k' B5 H5 w5 st5 wf5 tb5 en5 ek => ?_⟩
        have ek : k' = k := ek
        subst ek
        have pH' : H' p = some (.lst acc) := kp3 p _ hH
        obtain ⟨pH5, pw5⟩ := st5.prot p _ t1 pH' (offS_tmp hwp) (Nat.lt_succ_self t1)
        have st5' := st4.trans (st5.mono (Nat.le_succ t1))
        cases k' with
        | false =>
          simp only [Bool.false_eq_true, if_false, Out.bind_ok] at P2
          rw [if_neg Bool.false_ne_true]
          rw [comp_skip] at P2
          exact ⟨B5, w5, ρ4, acc, done, st5', wf5, tb5, back en5, pH5, pw5, hacc.ext (e3.trans st5.ext), by omega, P2⟩
        | true =>
          simp only [if_true] at P2
          rw [if_pos rfl]
          cases he : fe ρ4 with
          | exc c x r => simp only [he, Out.bind_exc] at P2; exact P2.elim
          | bad => simp only [he, Out.bind_bad] at P2; exact P2.elim
          | ok o ρ5 =>
            simp only [he, Out.bind_ok] at P2
            refine ⟨t1 + 1, B5, w5, ρ4, ⟨wf5, tb5, en5⟩, run0 he fun v B6 H6 w6 st6 wf6 tb6 en6 r6 => ?_⟩
            obtain ⟨pH6, pw6⟩ := st6.prot p _ t1 pH5 pw5 (Nat.lt_succ_self t1)
            obtain ⟨B7, w7, st7, a7, dr⟩ := frozen_item wf6 tb6 en6 r6
            obtain ⟨pH7, pw7⟩ := st7.prot p _ t1 pH6 pw6 (Nat.lt_succ_self t1)
            have hacc7 : DRs K B7 acc done := hacc.ext (((e3.trans st5.ext).trans st6.ext).trans st7.ext)
            refine ⟨acc, pH6, by rw [hacc7.length]; exact line_lt (by omega), ?_⟩
            rw [comp_next] at P2
            have st8 : Stp t1 B7 H6 w7 B7 (upd H6 p (.lst (acc ++ [v]))) w7 := ⟨Ext.refl B7, fun b u h1 h2 => ⟨by rw [upd_ne (fun z => by rw [z, pw7] at h2; cases h2)]; exact h1, h2⟩,
              fun b u k h1 h2 hk => ⟨by rw [upd_ne (fun z => by rw [z, pw7] at h2; cases h2; omega)]; exact h1, h2⟩, fun _ _ h => .inl h⟩
            have wf8 : Wf B7 (upd H6 p (.lst (acc ++ [v]))) w7 := ⟨sub_own a7.wf pw7 _, a7.wf.off, fun b q e => by
              by_cases hb : b = p
              · subst hb; rw [upd_same]; exact fun z => nomatch z
              · rw [upd_ne hb]; exact a7.wf.live b q e⟩
            have en8 : EnvR K B7 (upd H6 p (.lst (acc ++ [v]))) w7 σ' ρ5 := a7.env.mono (Ext.refl B7) fun b xs j f h => ⟨f, by rw [upd_ne (fun z => by rw [z, pw7] at f; cases f)]; exact h⟩
            refine ⟨B7, w7, ρ5, acc ++ [v], done ++ [frz o], (st5'.trans ((st6.trans st7).mono (Nat.le_succ t1))).trans st8, wf8, a7.tb, back en8, upd_same, pw7, hacc7.snoc dr, by rw [List.length_append, List.length_singleton]; omega, ?_⟩
            simpa only [List.append_assoc, List.singleton_append] using P2
  · have hi' : i = ds.length := by omega
    subst hi'
    refine .inl ⟨wd.stop _ B2 H st2.ext wf2.sub (Nat.le_refl _), ?_⟩
    rw [List.drop_length] at P2
    simp only [compN, Out.calm, Out.bind_ok, List.append_nil] at P2
    -- what the list and the slots are behind it
    have H1p : ∀ b o, H1 b = some o → b ≠ p := fun b o h => ne_of_none h hp
    have kp : ∀ b o, H1 b = some o → w1 b = none → H b = some o ∧ w2 b = none := fun b o h1 h2 =>
      st2.keep b o (by rw [upd_ne (H1p b o h1)]; exact h1) (by rw [w0n b (H1p b o h1)]; exact hide_none h2)
    have pr : ∀ b o k, H1 b = some o → w0 b = some (.tmp k) → k < t1 → H b = some o ∧ w2 b = some (.tmp k) := fun b o k h1 h2 h3 =>
      st2.prot b o k (by rw [upd_ne (H1p b o h1)]; exact h1) h2 h3
    have sh : ∀ {b q}, showS t t tg.slots p w2 b = some q → (b = p ∧ q = .tmp t) ∨ ∃ q', w2 b = some q' := fun {b q} h => by
      unfold showS at h
      split at h
      · rename_i e; cases h; exact .inl ⟨e, rfl⟩
      · cases e : w2 b with
        | none => rw [e] at h; cases h
        | some q' => exact .inr ⟨q', rfl⟩
    refine P2 (.ref p) B2 H (showS t t tg.slots p w2) ⟨st2.ext, fun b o h1 h2 => ?_, fun b o k h1 h2 hk => ?_, fun b o h => ?_⟩ ⟨wf2.sub, fun b q h => ?_, fun b q h => ?_⟩ (fun b k h => ?_) ⟨?_, fun j o h => ?_⟩ (.lst ?_ hH hacc)
    · obtain ⟨e1, e2⟩ := kp b o h1 h2
      refine ⟨e1, ?_⟩
      unfold showS
      rw [if_neg (H1p b o h1), e2]
    · have e0 : w0 b = some (.tmp k) := by rw [w0n b (H1p b o h1)]; exact hide_tmp h2
      obtain ⟨e1, e2⟩ := pr b o k h1 e0 (by omega)
      refine ⟨e1, ?_⟩
      unfold showS
      rw [if_neg (H1p b o h1), e2]
      simp [hk]
    · rcases st2.newB b o h with z | z | ⟨q, z, hz⟩
      · exact .inl z
      · by_cases hb : b = p
        · exact .inr (.inl (by rw [hb]; exact hp))
        · rw [upd_ne hb] at z; exact .inr (.inl z)
      · by_cases hb : b = p
        · exact .inr (.inl (by rw [hb]; exact hp))
        · rw [w0n b hb] at z
          obtain ⟨q', e'⟩ := hide_some z
          refine .inr (.inr ⟨q', e', fun k ek => ?_⟩)
          subst ek
          rw [hide_tmp e'] at z; cases z
          have := hz k rfl
          omega
    · rcases sh h with ⟨rfl, _⟩ | ⟨q', e⟩
      · exact wf2.off _ _ hwp
      · exact wf2.off _ _ e
    · rcases sh h with ⟨rfl, _⟩ | ⟨q', e⟩
      · exact wf2.live _ _ hwp
      · exact wf2.live _ _ e
    · unfold showS at h
      split at h
      · cases h; omega
      · split at h
        · split at h <;> cases h
        · split at h
          · cases h; omega
          · split at h <;> cases h
        · cases h
    · rw [restore_len]
      have := en2.len
      rw [clr_len, wipe_length] at this
      exact this
    · have hl2 : ρ1.length = ρ2.length := by
        have := en2.len
        rw [clr_len, wipe_length] at this
        omega
      rw [getS_restore hl2] at h
      by_cases hj : j ∈ tg.slots
      · rw [if_pos hj] at h
        obtain ⟨v, hv, ho⟩ := en1.at' j o h
        refine ⟨v, hv, ho.mono st2.ext fun b xs f hb => ?_⟩
        have e0 : w0 b = some (.tmp (t + j)) := by rw [w0n b (H1p b _ hb)]; exact hide_in f hj
        obtain ⟨e1, e2⟩ := pr b _ _ hb e0 (hin j hj)
        refine ⟨?_, e1⟩
        unfold showS
        rw [if_neg (H1p b _ hb), e2]
        have h3 : ¬ t + j < t := by omega
        have h4 : t + j - t = j := by omega
        simp [h3, h4, hj]
      · rw [if_neg hj] at h
        obtain ⟨v, hv, ho⟩ := en2.at' j o (by rw [getS_clr, if_neg hj]; exact h)
        rw [wipe_at, if_neg hj] at hv
        refine ⟨v, hv, ho.mono (Ext.refl B2) fun b xs f hb => ⟨?_, hb⟩⟩
        have hbp : b ≠ p := fun z => by rw [z, hwp] at f; cases f
        unfold showS
        rw [if_neg hbp, f]
        simp [hj]
    · unfold showS; rw [if_pos rfl]
end
end Ev
end

section
set_option Elab.async false
set_option linter.all false
set_option maxRecDepth 100000
set_option maxHeartbeats 4000000
/-! Ev, part J: statements. -/
namespace Ev
open PySem PySem.Spec PyProof.Rows L2
variable [Γ : Clz]

def LkS (lent : List Nat) (σ σ' : L2.St) : Prop := σ'.length = σ.length ∧ ∀ i ∈ lent, σ'[i]? = σ[i]?
/-- what a statement that comes to r must lead to -/
def PostS (K : PySem.W.Frag) (W : WX) (cls : Nat → Value) (lent : List Nat) (σ : L2.St) (B H : Hp) (w : Wn) (r : Out Fl) (D : Ends) : Prop := match r with
  | .ok fl ρ => ∀ σ' B' H' w', Stp 0 B H w B' H' w' → Wf B' H' w' → EnvR K B' H' w' σ' ρ → LkS lent σ σ' → match fl with
    | .nx => TB 0 w' → D.nx σ' H'
    | .brk => TB 0 w' → D.bk σ' H'
    | .cont => TB 0 w' → D.ct σ' H'
    | .ret o => ∀ v, TB 1 w' → OR K B' H' (fun a => w' a = some (.tmp 0)) v o → D.rt v H'
  | .exc c x ρ => ∀ σ' d B' H' w', Stp 0 B H w B' H' w' → Wf B' H' w' → EnvR K B' H' w' σ' ρ → LkS lent σ σ' → XR K B' H' d x → W (cls c) (some d) σ' H'
  | .bad => False
abbrev tS (K : PySem.W.Frag) (W : WX) (cls : Nat → Value) (lent : List Nat) (f : Rho → Out Fl) : TS := fun D σ H => ∃ B w ρ, At K 0 B H w σ ρ ∧ PostS K W cls lent σ B H w (f ρ) D
section
variable {K : PySem.W.Frag} {W : WX} {cls : Nat → Value} {lent : List Nat} {σ σ1 : L2.St} {B H B1 H1 : Hp} {w w1 : Wn} {D D' : Ends} {α γ : Type}
theorem LkS.refl : LkS lent σ σ := ⟨rfl, fun _ _ => rfl⟩
theorem LkS.trans {σ2 : L2.St} (a : LkS lent σ σ1) (b : LkS lent σ1 σ2) : LkS lent σ σ2 := ⟨b.1.trans a.1, fun i h => (b.2 i h).trans (a.2 i h)⟩
theorem PostS.after {r : Out Fl} (P : PostS K W cls lent σ B H w r D) (st : Stp 0 B H w B1 H1 w1) (lk : LkS lent σ σ1) : PostS K W cls lent σ1 B1 H1 w1 r D := by
  cases r with
  | ok fl ρ => exact fun σ' B' H' w' s1 wf en l => P σ' B' H' w' (st.trans s1) wf en (lk.trans l)
  | exc c x ρ => exact fun σ' d B' H' w' s1 wf en l => P σ' d B' H' w' (st.trans s1) wf en (lk.trans l)
  | bad => exact P
/-- an expression is run ahead of the rest -/
theorem bindS {β : Type} {R1 : Hp → Hp → Wn → β → α → Prop} {u : Nat} {r : Out α} {g : α → Rho → Out Fl} {Q1 : β → Hp → Prop} (P : PostS K W cls lent σ B H w (r.bind g) D)
    (k : ∀ v H1 B1 w1 x ρ1, r = .ok x ρ1 → Stp 0 B H w B1 H1 w1 → Wf B1 H1 w1 → TB u w1 → EnvR K B1 H1 w1 σ ρ1 → R1 B1 H1 w1 v x → PostS K W cls lent σ B1 H1 w1 (g x ρ1) D → Q1 v H1) : PostG K W cls σ 0 u B H w R1 r Q1 := by
  cases r with
  | ok x ρ1 =>
    intro v B1 H1 w1 st wf tb env hR
    exact k v H1 B1 w1 x ρ1 rfl st wf tb env hR (PostS.after (show PostS K W cls lent σ B H w (g x ρ1) D from P) st LkS.refl)
  | exc c y ρ => exact fun d B2 H2 w2 s2 wf2 e2 x2 => P σ d B2 H2 w2 s2 wf2 e2 LkS.refl x2
  | bad => exact P
theorem bindS1 {β : Type} {R1 : Hp → Hp → Wn → β → α → Prop} {t u : Nat} {r : Out α} {g : α → Rho → Out Fl} {Q1 : β → Hp → Prop} (P : PostS K W cls lent σ B H w (r.bind g) D)
    (k : ∀ v H1 B1 w1 x ρ1, r = .ok x ρ1 → Stp t B H w B1 H1 w1 → Wf B1 H1 w1 → TB u w1 → EnvR K B1 H1 w1 σ ρ1 → R1 B1 H1 w1 v x → PostS K W cls lent σ B1 H1 w1 (g x ρ1) D → Q1 v H1) : PostG K W cls σ t u B H w R1 r Q1 := by
  cases r with
  | ok x ρ1 =>
    intro v B1 H1 w1 st wf tb env hR
    exact k v H1 B1 w1 x ρ1 rfl st wf tb env hR (PostS.after (show PostS K W cls lent σ B H w (g x ρ1) D from P) (st.mono (Nat.zero_le t)) LkS.refl)
  | exc c y ρ => exact fun d B2 H2 w2 s2 wf2 e2 x2 => P σ d B2 H2 w2 (s2.mono (Nat.zero_le t)) wf2 e2 LkS.refl x2
  | bad => exact P
/-- a temporary changed, and forgotten -/
theorem junk {K : PySem.W.Frag} {σ : L2.St} {B H : Hp} {w : Wn} {ρ : Rho} {l : Addr} {u : HO} {k : Nat} (wf : Wf B H w) (env : EnvR K B H w σ ρ) (hw : w l = some (.tmp k)) :
    Stp 0 B H w B (upd H l u) (dropT 0 w) ∧ At K 0 B (upd H l u) (dropT 0 w) σ ρ := by
  refine ⟨⟨Ext.refl B, fun b o h1 h2 => ?_, fun b o k h1 h2 hk => absurd hk (by omega), fun _ _ h => .inl h⟩, ⟨⟨sub_own wf hw _, fun b q e => wf.off b q (dropT_some e), fun b q h1 => ?_⟩, TB.drop 0 w, ?_⟩⟩
  · have hb : b ≠ l := fun z => by subst z; rw [hw] at h2; cases h2
    exact ⟨by rw [upd_ne hb]; exact h1, dropT_none h2⟩
  · by_cases hb : b = l
    · subst hb; rw [upd_same]; exact fun z => nomatch z
    · rw [upd_ne hb]; exact wf.live b q (dropT_some h1)
  · refine env.drop.mono (Ext.refl B) fun a u' i f h => ⟨f, ?_⟩
    have hb : a ≠ l := fun z => by
      subst z
      have := dropT_slot.mp f
      rw [hw] at this; cases this
    rw [upd_ne hb]; exact h
theorem post_nx {ρ : Rho} {t : Nat} (P : PostS K W cls lent σ B H w (.ok .nx ρ) D) {σ' : L2.St} {B' H' : Hp} {w' : Wn} (st : Stp 0 B H w B' H' w') (a : At K 0 B' H' w' σ' ρ) (lk : LkS lent σ σ') : D.nx σ' H' :=
  P σ' B' H' w' st a.wf a.env lk a.tb
/-- one flow, then the rest -/
def thenS (r : Out Fl) (g : Rho → Out Fl) : Out Fl := r.bind fun f r => match f with
  | .nx => g r
  | f => .ok f r
theorem post_seq {r : Out Fl} {g : Rho → Out Fl} (P : PostS K W cls lent σ B H w (thenS r g) D) : PostS K W cls lent σ B H w r { D with nx := tS K W cls lent g D } := by
  cases r with
  | bad => exact P
  | exc c x ρ => exact P
  | ok fl ρ =>
    cases fl with
    | nx => exact fun σ' B' H' w' st wf en lk tb => ⟨B', w', ρ, ⟨wf, tb, en⟩, PostS.after (show PostS K W cls lent σ B H w (g ρ) D from P) st lk⟩
    | brk => exact P
    | cont => exact P
    | ret o => exact P

/-- a temporary stored into a slot -/
def mvS (i : Nat) (w : Wn) : Wn := fun a => match w a with
  | some (.tmp 0) => some (.slot i)
  | some (.tmp _) => none
  | some (.slot j) => if j = i then none else some (.slot j)
  | none => none
theorem mvS_some {i : Nat} {a : Addr} {q : Own} (h : mvS i w a = some q) : ∃ q', w a = some q' := by
  unfold mvS at h
  cases e : w a with
  | none => rw [e] at h; cases h
  | some q' => exact ⟨q', rfl⟩
theorem store_slot {ρ : Rho} {i : Nat} {v : V} {o : O} (wf : Wf B H w) (env : EnvR K B H w σ ρ) (ho : OR K B H (fun a => w a = some (.tmp 0)) v o) (hi : i < σ.length) (hl : i ∉ lent) :
    Stp 0 B H w B H (mvS i w) ∧ At K 0 B H (mvS i w) (σ.set i (some v)) (ρ.set i (some o)) ∧ LkS lent σ (σ.set i (some v)) := by
  refine ⟨⟨Ext.refl B, fun a u h1 h2 => ⟨h1, by unfold mvS; rw [h2]⟩, fun a u k h1 h2 hk => absurd hk (Nat.not_lt_zero k), fun _ _ h => .inl h⟩, ⟨⟨wf.sub, fun a q h => ?_, fun a q h => ?_⟩, fun a k h => ?_, ⟨by rw [List.length_set, List.length_set]; exact env.len, fun j o' h => ?_⟩⟩, List.length_set .., fun j hj => ?_⟩
  · obtain ⟨q', e⟩ := mvS_some h; exact wf.off a q' e
  · obtain ⟨q', e⟩ := mvS_some h; exact wf.live a q' e
  · unfold mvS at h
    split at h
    · cases h
    · cases h
    · split at h <;> cases h
    · cases h
  · rw [getS_set] at h
    by_cases hj : j = i
    · subst hj
      rw [if_pos rfl] at h
      split at h
      · cases h
        exact ⟨v, List.getElem?_set_self hi, ho.mono (Ext.refl B) fun a xs f ha => ⟨by unfold mvS; simp [f], ha⟩⟩
      · cases h
    · rw [if_neg hj] at h
      obtain ⟨v', hv, ho'⟩ := env.at' j o' h
      exact ⟨v', by rw [List.getElem?_set_ne (Ne.symm hj)]; exact hv, ho'.mono (Ext.refl B) fun a xs f ha => ⟨by unfold mvS; rw [f]; simp [hj], ha⟩⟩
  · exact List.getElem?_set_ne (fun z => hl (by rw [z]; exact hj))
/-- what a slot has, handed out -/
def outS (i : Nat) (w : Wn) : Wn := fun a => match w a with
  | some (.slot j) => if j = i then some (.tmp 0) else some (.slot j)
  | _ => none
theorem outS_some {i : Nat} {a : Addr} {q : Own} (h : outS i w a = some q) : ∃ q', w a = some q' := by
  unfold outS at h
  cases e : w a with
  | none => rw [e] at h; cases h
  | some q' => exact ⟨q', rfl⟩
theorem out_slot {ρ : Rho} {i : Nat} {v : V} {o : O} (wf : Wf B H w) (tb : TB 0 w) (env : EnvR K B H w σ ρ) (e : getS i ρ = some o) (hv : σ[i]? = some (some v)) :
    Stp 0 B H w B H (outS i w) ∧ Wf B H (outS i w) ∧ TB 1 (outS i w) ∧ EnvR K B H (outS i w) σ (ρ.set i none) ∧ OR K B H (fun a => outS i w a = some (.tmp 0)) v o := by
  obtain ⟨v', hv', ho⟩ := env.at' i o e
  rw [hv] at hv'; cases hv'
  refine ⟨⟨Ext.refl B, fun a u h1 h2 => ⟨h1, by unfold outS; rw [h2]⟩, fun a u k h1 h2 hk => absurd hk (Nat.not_lt_zero k), fun _ _ h => .inl h⟩, ⟨wf.sub, fun a q h => ?_, fun a q h => ?_⟩, fun a k h => ?_, ⟨by rw [List.length_set]; exact env.len, fun j o' h => ?_⟩, ho.mono (Ext.refl B) fun a xs f ha => ⟨by unfold outS; rw [f]; simp, ha⟩⟩
  · obtain ⟨q', e⟩ := outS_some h; exact wf.off a q' e
  · obtain ⟨q', e⟩ := outS_some h; exact wf.live a q' e
  · unfold outS at h
    split at h
    · split at h
      · cases h; exact Nat.lt_succ_self 0
      · cases h
    · cases h
  · rw [getS_set] at h
    by_cases hj : j = i
    · subst hj; rw [if_pos rfl] at h; split at h <;> cases h
    · rw [if_neg hj] at h
      obtain ⟨v', hv', ho'⟩ := env.at' j o' h
      exact ⟨v', hv', ho'.mono (Ext.refl B) fun a xs f ha => ⟨by unfold outS; rw [f]; simp [hj], ha⟩⟩
end

section
variable {X : Cx} {W : WX} {cls : Nat → Value} {lent : List Nat} {e a b c : Expr} {f g h : Rho → Out O} {pos : Pos}
theorem asg_out {K : PySem.W.Frag} {σ : L2.St} {H : Hp} {i : Nat} {D : Ends} (hi : i < σ.length) (q : tS K W cls lent (fun r => (f r).bind fun o r => match setS lent i o r with
      | some r => .ok .nx r
      | none => .bad) D σ H) : tAsg (tE K W cls f) (gName i) D σ H := by
  obtain ⟨B, w, ρ, a, P⟩ := q
  refine ⟨0, B, w, ρ, a, bindS P fun v H1 B1 w1 x ρ1 _ st1 wf1 tb1 en1 r1 P1 => ?_⟩
  by_cases hl : i ∈ lent
  · simp only [setS, hl, if_true] at P1
    exact P1.elim
  · simp only [setS, hl, if_false] at P1
    obtain ⟨st2, a2, lk⟩ := store_slot (lent := lent) wf1 en1 r1 hi hl
    exact post_nx (t := 0) P1 st2 a2 lk
theorem ss_set {i : Nat} {x : Str} {pos' : Pos} (hN : X.N.Nodup) (hi : X.N[i]? = some x) (hx : Loc X.env.scope x) (hf : X.fn x = true) (he : PE X e (tE X.K W cls f)) (hs : swapsWith e (some (.Name x pos')) pos.line X.env = pure false) :
    PS X (.Assign [.Name x pos'] e pos) (tS X.K W cls lent (fun r => (f r).bind fun o r => match setS lent i o r with
      | some r => .ok .nx r
      | none => .bad)) := by
  have base := ps_set (pos := pos) hN hi hx he hs (.inl hf)
  refine ⟨fun pins s σ H D I q => base.run pins s σ H D I (asg_out (by rw [I.len]; exact (List.getElem?_eq_some_iff.mp hi).1) q)⟩
theorem ss_setLc {i : Nat} {y : Str} {py spos : Pos} {elt tg iter : Expr} {ifs : List Expr} {scope : Scope} {own : List (Str × Nat)} {T : Tg} {fi : Rho → Out (List D)} {fc : Rho → Out Bool} {fe : Rho → Out O}
    (hc : X.calm = true) (hN : X.N.Nodup) (hy : X.N[i]? = some y) (hyl : X.env.scope.names.lookup y = some .local)
    (hsw : swapsWith (.ListComp elt [⟨tg, iter, ifs, 0⟩] scope pos) (some (.Name y py)) spos.line X.env = pure true) (hi : PI X tg iter (tI X.K W cls fi)) (ok : BlkOk X.N X.env.scope scope own) (hown : own.map (·.2) = T.slots) (hl : ∀ j ∈ T.slots, j < X.N.length)
    (hg : ∀ (s : Shared) (H : Hp) (C : Addr) (cl : List (Str × Addr)) (fp : List Addr), PG (X.blk s H scope (compEnvC scope cl C X.env) fp) tg (gT X.K T)) (ht : ∀ (s : Shared) (H : Hp) (C : Addr) (cl : List (Str × Addr)) (fp : List Addr), PTs (X.blk s H scope (compEnvC scope cl C X.env) fp) ifs (tT X.K noX cls fc))
    (he : ∀ (s : Shared) (H : Hp) (C : Addr) (cl : List (Str × Addr)) (fp : List Addr), PE (X.blk s H scope (compEnvC scope cl C X.env) fp) elt (tE X.K noX cls fe)) (hd : hdOk iter = true) :
    PS X (.Assign [.Name y py] (.ListComp elt [⟨tg, iter, ifs, 0⟩] scope pos) spos) (tS X.K W cls lent (fun r => ((fi r).bind fun xs r => if line < xs.length then .bad else ((compN (stepLc fc fe) T xs r).calm).bind fun ys r1 => .ok (.lst ys) (restore T.slots r r1)).bind fun o r => match setS lent i o r with
      | some r => .ok .nx r
      | none => .bad)) := by
  have base := ps_setLc hc hN hy hyl hsw hi ok hg ht he (fold_ok hd)
  refine ⟨fun pins s σ H D I q => base.run pins s σ H D I ?_⟩
  have q2 := asg_out (f := fun r => (fi r).bind fun xs r => if line < xs.length then .bad else ((compN (stepLc fc fe) T xs r).calm).bind fun ys r1 => .ok (.lst ys) (restore T.slots r r1)) (by rw [I.len]; exact (List.getElem?_eq_some_iff.mp hy).1) q
  rw [hown]
  exact lc_read (fun j hj => by rw [I.len]; exact hl j hj) q2
theorem se_lc {elt tg iter : Expr} {ifs : List Expr} {scope : Scope} {own : List (Str × Nat)} {T : Tg} {fi : Rho → Out (List D)} {fc : Rho → Out Bool} {fe : Rho → Out O}
    (hc : X.calm = true) (hN : X.N.Nodup) (hi : PI X tg iter (tI X.K W cls fi)) (ok : BlkOk X.N X.env.scope scope own) (hown : own.map (·.2) = T.slots) (hl : ∀ j ∈ T.slots, j < X.N.length)
    (hg : ∀ (s : Shared) (H : Hp) (C : Addr) (cl : List (Str × Addr)) (fp : List Addr), PG (X.blk s H scope (compEnvC scope cl C X.env) fp) tg (gT X.K T)) (ht : ∀ (s : Shared) (H : Hp) (C : Addr) (cl : List (Str × Addr)) (fp : List Addr), PTs (X.blk s H scope (compEnvC scope cl C X.env) fp) ifs (tT X.K noX cls fc))
    (he : ∀ (s : Shared) (H : Hp) (C : Addr) (cl : List (Str × Addr)) (fp : List Addr), PE (X.blk s H scope (compEnvC scope cl C X.env) fp) elt (tE X.K noX cls fe)) (hd : hdOk iter = true) :
    PE X (.ListComp elt [⟨tg, iter, ifs, 0⟩] scope pos) (tE X.K W cls (fun r => (fi r).bind fun xs r => if line < xs.length then .bad else ((compN (stepLc fc fe) T xs r).calm).bind fun ys r1 => .ok (.lst ys) (restore T.slots r r1))) := by
  have base := pe_lc (pos := pos) hc hN hi ok hg ht he (fold_ok hd)
  refine ⟨fun pins s σ H Q I q => base.run pins s σ H Q I ?_⟩
  rw [hown]
  exact lc_read (fun j hj => by rw [I.len]; exact hl j hj) q
/-! ### other assignments -/
theorem asgT_run {K : PySem.W.Frag} {σ : L2.St} {B H : Hp} {w : Wn} {ρ ρ1 : Rho} {tg : Tg} {v : V} {x : D} {D : Ends} (h : asgT lent tg x ρ = some ρ1) (a : At K 0 B H w σ ρ) (hx : DR K B v x) (hl : ∀ i ∈ tg.slots, i < σ.length)
    {Q : L2.St → Hp → Prop} (k : ∀ σ', Stp 0 B H w B H (offS tg.slots w) → At K 0 B H (offS tg.slots w) σ' ρ1 → LkS lent σ σ' → Q σ' H) : gT K tg v σ H Q := by
  unfold asgT at h
  split at h
  · rename_i hb
    refine bindT_run h a.wf.sub a.env hx hl fun σ' en ag le => k σ' stp_offS ⟨a.wf.offS, a.tb.offS, en⟩ ⟨le, fun j hj => ag j fun z => ?_⟩
    have := List.all_eq_true.mp hb j z
    simp at this
    exact this hj
  · cases h
theorem ss_unp {tg : Expr} {is : List Nat} (hN : X.N.Nodup) (hc : X.calm = true) (ht : TgAt X (.many is) tg) (he : PE X e (tE X.K W cls f)) (hs : swapsWithSole [tg] e pos.line X.env = pure false) (hw : swappedStores [tg] e X.env = pure none)
    (h1 : (assignEach [tg] X.env).map (·.2) = [assign tg X.env]) :
    PS X (.Assign [tg] e pos) (tS X.K W cls lent (fun r => (f r).bind fun o r => match asgT lent (.many is) (frz o) r with
      | some r => .ok .nx r
      | none => .bad)) := by
  have base := ps_asg (pos := pos) he (pg_of hN hc ht) hs hw h1
  refine ⟨fun pins s σ H D I q => base.run pins s σ H D I ?_⟩
  obtain ⟨B, w, ρ, a, P⟩ := q
  refine ⟨0, B, w, ρ, a, bindS P fun v H1 B1 w1 x ρ1 _ st1 wf1 tb1 en1 r1 P1 => ?_⟩
  obtain ⟨B2, w2, st2, a2, dr⟩ := frozen_item wf1 tb1 en1 r1
  cases hb : asgT lent (.many is) (frz x) ρ1 with
  | none => rw [hb] at P1; exact P1.elim
  | some ρ2 =>
    rw [hb] at P1
    exact asgT_run (D := D) hb a2 dr (fun i hi => by rw [I.len]; exact tg_lt ht i hi) fun σ' st3 a3 lk => post_nx (t := 0) P1 (st2.trans st3) a3 lk
/-- a[y] = v, a list or a dict -/
def rSetO : V → V → V → Hp → (Hp → Prop) → Prop := fun o i v H Q => rSetL o i v H Q ∨ ∃ a H', o = .ref a ∧ DPut H a i v H' ∧ Q H'
theorem set_any (hu : X.A.units + 1 < cLine) : PSet X rSetO := by
  intro pins s σ H o i v ov iv u Q I ro ri rv h
  rcases h with h | ⟨a, H', rfl, g, q⟩
  · exact set_list pins s σ H o i v ov iv u Q I ro ri rv h
  · obtain rfl : ov = Value.ref a := ro
    exact d_setItem hu I g ri rv fun s' I' => ⟨H', I', q⟩
theorem ss_seti {p : Nat} {tpos : Pos} (hu : X.A.units + 1 < cLine) (ho : PE X a (tVar p)) (hd : hdOk b = true) (hb : PE X b (tE X.K W cls g)) (he : PE X e (tE X.K W cls f)) (hs : swapsWithSole [.Subscript a b tpos] e pos.line X.env = pure false) (hw : swappedStores [.Subscript a b tpos] e X.env = pure none)
    (h1 : (assignEach [.Subscript a b tpos] X.env).map (·.2) = [assign (.Subscript a b tpos) X.env]) :
    PS X (.Assign [.Subscript a b tpos] e pos) (tS X.K W cls lent (fun r => (f r).bind fun o r => match getS p r with
      | none => .bad
      | some _ => (g r).bind fun y r => match getS p r, asI y with
        | some (.lst xs), some i => if 0 ≤ i ∧ i < xs.length then .ok .nx (r.set p (some (.lst (xs.set i.toNat (frz o))))) else .bad
        | some (.dct ks vs), _ => match asK y with
          | some k => if ks.length < line then .ok .nx (r.set p (some (.dct (putKs ks k) (putVs ks vs k (frz o))))) else .bad
          | none => .bad
        | _, _ => .bad)) := by
  have ha : ∀ v, assign (.Subscript a b tpos) X.env v = (do
      let ov ← holding [v] (eval a X.env)
      let iv ← holding [v, ov] (eval b X.env)
      standAt tpos
      holding [v, ov, iv] (setItem ov iv v)
      release [v, ov, iv] []) := by
    intro v
    cases b <;> first | rfl | cases hd
  have base := ps_asg (pos := pos) he (pg_sub ho hb (set_any hu) ha) hs hw h1
  refine PS.of base ?_
  rintro D σ H ⟨B, w, ρ, a, P⟩
  refine ⟨0, B, w, ρ, a, bindS P fun v H1 B1 w1 x ρ1 _ st1 wf1 tb1 en1 r1 P1 => ?_⟩
  obtain ⟨B2, w2, st2, a2, dr⟩ := frozen_item wf1 tb1 en1 r1
  replace P1 := P1.after st2 LkS.refl
  cases e0 : getS p ρ1 with
  | none => rw [e0] at P1; exact P1.elim
  | some x0 =>
    simp only [e0] at P1
    obtain ⟨vp, hvp, _⟩ := a2.env.at' p x0 e0
    refine ⟨vp, hvp, 0, B2, w2, ρ1, a2, bindS P1 fun vi H3 B3 w3 y ρ3 _ st3 wf3 tb3 en3 r3 P3 => ?_⟩
    split at P3
    · rename_i xs i e1 e2
      split at P3
      · rename_i hb2
        obtain ⟨l, vs, hv, hl, hd', hw', mu⟩ := mutS (t := 0) wf3 en3 e1
        rw [hvp] at hv; cases hv
        obtain ⟨st4, wf4, en4⟩ := mu (vs.set i.toNat v) (xs.set i.toNat (frz x)) (hd'.set _ (dr.ext st3.ext))
        refine .inl ⟨l, vs, i, i.toNat, rfl, or_int r3 e2, hl, ?_, ?_⟩
        · unfold ixN
          rw [if_pos hb2.1, if_pos (by rw [hd'.length]; exact hb2.2)]
        · exact post_nx (t := 0) P3 (st4.trans (stp_drop 0 _ _ w3)) ⟨wf4.drop, TB.drop 0 w3, en4.drop⟩ LkS.refl
      · exact P3.elim
    · rename_i ks xs e1
      cases ek : asK y with
      | none => simp only [ek] at P3; exact P3.elim
      | some k =>
        simp only [ek] at P3
        split at P3
        · rename_i hb2
          obtain ⟨l, vs, hv, hl, hn, hd', hw', mu⟩ := mutD (t := 0) wf3 en3 e1
          rw [hvp] at hv; cases hv
          obtain ⟨p1, p2, p3⟩ := put_eq (k := k) hn hd' (dr.ext st3.ext)
          obtain ⟨st4, wf4, en4⟩ := mu _ _ _ p2 p3
          refine .inr ⟨l, _, rfl, .inl ⟨_, k, hl, r3.ro.asK ek, by rw [zip_len hn]; exact line_lt hb2, rfl⟩, ?_⟩
          rw [p1]
          exact post_nx (t := 0) P3 (st4.trans (stp_drop 0 _ _ w3)) ⟨wf4.drop, TB.drop 0 w3, en4.drop⟩ LkS.refl
        · exact P3.elim
    · exact P3.elim
/-- in place, by values -/
def opA : Bop → Option Operator
  | .add => some .Add
  | .sub => some .Sub
  | _ => none
def rAug (K : PySem.W.Frag) (o : Bop) : TIp := fun x y H Q => ∃ C a b z, Sub C H ∧ RO K C H x (.d a) ∧ RO K C H y b ∧ augO o a b = some z ∧ ∀ v, DR K C v z → Q v H
theorem aug_sound {o : Bop} {op : Operator} (h : opA o = some op) : PIp X op (rAug X.K o) := by
  intro pins s σ H x y v u Q I rx ry q
  obtain ⟨C, a, b, z, sC, ra, rb, e, q⟩ := q
  unfold augO at e
  split at e
  · cases h
    cases e
    exact iop_add pins s σ H x y v u Q I rx ry ⟨_, _, ra.int, rb.int, q _ (.int _)⟩
  · cases h
    split at e
    · cases e
      exact iop_add_str pins s σ H x y v u Q I rx ry ⟨_, _, ra.str, rb.str, line_le (by assumption), q _ (.str _)⟩
    · cases e
  · cases h
    cases e
    exact iop_sub pins s σ H x y v u Q I rx ry ⟨_, _, ra.int, rb.int, q _ (.int _)⟩
  · cases e
theorem ss_aug {i : Nat} {x : Str} {o : Bop} {op : Operator} {pos' : Pos} (ho : opA o = some op) (hN : X.N.Nodup) (hi : X.N[i]? = some x) (hx : Loc X.env.scope x) (hf : X.fn x = true) (he : PE X e (tE X.K W cls f)) :
    PS X (.AugAssign (.Name x pos') op e pos) (tS X.K W cls lent (fun r => match getS i r with
      | some (.d x) => (f r).bind fun y r => match augO o x y with
        | some z => match setS lent i (.d z) r with
          | some r => .ok .nx r
          | none => .bad
        | none => .bad
      | _ => .bad)) := by
  have base := ps_aug (pos := pos) (pos' := pos') hN hi hx he (aug_sound ho) (.inl hf)
  refine ⟨fun pins s σ H D I q => base.run pins s σ H D I ?_⟩
  obtain ⟨B, w, ρ, a, P⟩ := q
  have hlt : i < σ.length := by rw [I.len]; exact (List.getElem?_eq_some_iff.mp hi).1
  dsimp only at P
  split at P
  · rename_i z e0
    obtain ⟨v, hv, hz⟩ := a.env.at' i _ e0
    refine ⟨v, hv, 0, B, w, ρ, a, bindS P fun v2 H1 B1 w1 y ρ1 _ st1 wf1 tb1 en1 r1 P1 => ?_⟩
    cases e2 : augO o z y with
    | none => rw [e2] at P1; exact P1.elim
    | some z2 =>
      simp only [e2] at P1
      by_cases hl : i ∈ lent
      · simp only [setS, hl, if_true] at P1; exact P1.elim
      · simp only [setS, hl, if_false] at P1
        cases hz with | d hz =>
        refine ⟨B1, z, y, z2, wf1.sub, .d (hz.ext st1.ext), r1.ro, e2, fun v3 h3 => ?_⟩
        obtain ⟨st2, a2, lk⟩ := store_slot (lent := lent) wf1 en1 (.d h3 : OR X.K B1 H1 _ v3 (.d z2)) hlt hl
        exact post_nx (t := 0) P1 st2 a2 lk
  · exact P.elim
/-! ### flow -/
theorem ss_nil : PSs X [] (tS X.K W cls lent (fun r => .ok .nx r)) := by
  refine PSs.of pss_nil ?_
  rintro D σ H ⟨B, w, ρ, a, P⟩
  exact post_nx (t := 0) P (Stp.refl 0 B H w) a LkS.refl
theorem ss_cons {st : Stmt} {rest : List Stmt} {f g : Rho → Out Fl} (h1 : PS X st (tS X.K W cls lent f)) (h2 : PSs X rest (tS X.K W cls lent g)) : PSs X (st :: rest) (tS X.K W cls lent (fun r => thenS (f r) g)) := by
  refine PSs.of (pss_cons h1 h2) ?_
  rintro D σ H ⟨B, w, ρ, a, P⟩
  exact ⟨B, w, ρ, a, post_seq P⟩
theorem ss_pass : PS X (.Pass pos) (tS X.K W cls lent (fun r => .ok .nx r)) := by
  refine PS.of ps_pass ?_
  rintro D σ H ⟨B, w, ρ, a, P⟩
  exact post_nx (t := 0) P (Stp.refl 0 B H w) a LkS.refl
theorem ss_brk : PS X (.Break pos) (tS X.K W cls lent (fun r => .ok .brk r)) := by
  refine PS.of ps_break ?_
  rintro D σ H ⟨B, w, ρ, a, P⟩
  exact P σ B H w (Stp.refl 0 B H w) a.wf a.env LkS.refl a.tb
theorem ss_cont : PS X (.Continue pos) (tS X.K W cls lent (fun r => .ok .cont r)) := by
  refine PS.of ps_continue ?_
  rintro D σ H ⟨B, w, ρ, a, P⟩
  exact P σ B H w (Stp.refl 0 B H w) a.wf a.env LkS.refl a.tb
theorem ss_if {th el : List Stmt} {fb : Rho → Out Bool} {g1 g2 : Rho → Out Fl} (hc : PT X c (tT X.K W cls fb)) (h1 : PSs X th (tS X.K W cls lent g1)) (h2 : PSs X el (tS X.K W cls lent g2)) :
    PS X (.If c th el pos) (tS X.K W cls lent (fun r => (fb r).bind fun k r => if k = true then g1 r else g2 r)) := by
  refine PS.of (ps_if hc h1 h2) ?_
  rintro D σ H ⟨B, w, ρ, a, P⟩
  refine ⟨0, B, w, ρ, a, bindS P fun k H1 B1 w1 x ρ1 _ st1 wf1 tb1 en1 r1 P1 => ?_⟩
  subst r1
  cases k with
  | true => exact ⟨B1, w1, ρ1, ⟨wf1, tb1, en1⟩, P1⟩
  | false => exact ⟨B1, w1, ρ1, ⟨wf1, tb1, en1⟩, P1⟩
theorem ss_ret (he : PE X e (tE X.K W cls f)) : PS X (.Return (some e) pos) (tS X.K W cls lent (fun r => (f r).bind fun o r => .ok (.ret o) r)) := by
  refine PS.of (ps_ret he) ?_
  rintro D σ H ⟨B, w, ρ, a, P⟩
  refine ⟨0, B, w, ρ, a, bindS P fun v H1 B1 w1 x ρ1 _ st1 wf1 tb1 en1 r1 P1 => ?_⟩
  exact P1 σ B1 H1 w1 (Stp.refl 0 B1 H1 w1) wf1 en1 LkS.refl v tb1 r1
theorem ss_retN : PS X (.Return none pos) (tS X.K W cls lent (fun r => .ok (.ret (.d .non)) r)) := by
  refine PS.of ps_retN ?_
  rintro D σ H ⟨B, w, ρ, a, P⟩
  exact P σ B H w (Stp.refl 0 B H w) a.wf a.env LkS.refl .non (a.tb.mono (Nat.zero_le 1)) (.d .non)
theorem ss_retv {i : Nat} (he : PE X e (tVar i)) : PS X (.Return (some e) pos) (tS X.K W cls lent (fun r => match getS i r with
      | some (.d x) => .ok (.ret (.d x)) r
      | some o => if i ∈ lent then .bad else .ok (.ret o) (r.set i none)
      | none => .bad)) := by
  refine PS.of (ps_ret he) ?_
  rintro D σ H ⟨B, w, ρ, a, P⟩
  dsimp only at P
  split at P
  · rename_i x e0
    obtain ⟨v, hv, ho⟩ := a.env.at' i _ e0
    cases ho with | d ho =>
    exact ⟨v, hv, P σ B H w (Stp.refl 0 B H w) a.wf a.env LkS.refl v (a.tb.mono (Nat.zero_le 1)) (.d ho)⟩
  · rename_i o _ e0
    split at P
    · exact P.elim
    · obtain ⟨v, hv, _⟩ := a.env.at' i _ e0
      obtain ⟨st, wf, tb, en, ho⟩ := out_slot a.wf a.tb a.env e0 hv
      exact ⟨v, hv, P σ B H _ st wf en LkS.refl v tb ho⟩
  · exact P.elim
theorem ss_ex (he : PE X e (tE X.K W cls f)) (hs : swapsWith e none pos.line X.env = pure false) : PS X (.Expr e pos) (tS X.K W cls lent (fun r => (f r).bind fun _ r => .ok .nx r)) := by
  refine PS.of (ps_expr he hs) ?_
  rintro D σ H ⟨B, w, ρ, a, P⟩
  refine ⟨0, B, w, ρ, a, bindS P fun v H1 B1 w1 x ρ1 _ st1 wf1 tb1 en1 r1 P1 => ?_⟩
  exact post_nx (t := 0) P1 (stp_drop 0 B1 H1 w1) ⟨wf1.drop, TB.drop 0 w1, en1.drop⟩ LkS.refl
/-! ### methods of a list of a slot -/
theorem few_ok {es : List Expr} {cpos : Pos} {env : Env} (h : es.all hdOk = true) (hn : es.length < 30) :
    ((backTo cpos (starEach es env)).all (fun x => !x.1) && (backToKw cpos (keywordEach [] env)).all (fun x => x.1.isSome)
      && decide (es.length + ([] : List Keyword).length + (if ([] : List Keyword).isEmpty then 0 else 1) < 30)) = true := by
  have h1 : (backTo cpos (starEach es env)).all (fun x => !x.1) = true := by
    clear hn
    induction es with
    | nil => rfl
    | cons e es ih =>
      rw [List.all_cons, Bool.and_eq_true] at h
      rw [star_ok h.1]
      show (!false && (backTo cpos (starEach es env)).all (fun x => !x.1)) = true
      rw [ih h.2] <;> rfl
  rw [h1]
  show (true && true && decide (es.length + 0 + 0 < 30)) = true
  simpa using hn
theorem ss_app {p : Nat} {apos cpos : Pos} (ho : PE X a (tVar p)) (hb : attributeBase a "append" X.env (eval a X.env) = eval a X.env) (hl : (apos.endLine == cpos.line) = true) (hd : hdOk e = true) (he : PE X e (tE X.K W cls f)) :
    PS X (.Expr (.Call (.Attribute a "append" apos) [e] [] cpos) pos) (tS X.K W cls lent (fun r => match getS p r with
      | some (.lst _) => (f r).bind fun o r => match getS p r with
        | some (.lst xs) => if xs.length < line then .ok .nx (r.set p (some (.lst (xs ++ [frz o])))) else .bad
        | _ => .bad
      | _ => .bad)) := by
  have base := pe_bm (cpos := cpos) (apos := apos) PySem.F.plainAttrs_list PySem.F.slot_list_append PySem.F.type_list_append mt_append ho (pa_cons he pa_nil (star_ok hd)) hb (few_ok (by simp [hd]) (by simp)) hl (star_ok hd)
  refine PS.of (ps_expr base rfl) ?_
  rintro D σ H ⟨B, w, ρ, a, P⟩
  dsimp only at P
  split at P
  · rename_i xs0 e0
    obtain ⟨l0, vs0, hv0, hl0, _⟩ := mutS (t := 0) a.wf a.env e0
    refine ⟨.ref l0, hv0, .inl ⟨rfl, vs0, SqL.of hl0⟩, 0, B, w, ρ, a, bindS P fun v H1 B1 w1 x ρ1 _ st1 wf1 tb1 en1 r1 P1 => ?_⟩
    obtain ⟨B2, w2, st2, a2, dr⟩ := frozen_item wf1 tb1 en1 r1
    replace P1 := P1.after st2 LkS.refl
    split at P1
    · rename_i xs e1
      split at P1
      · rename_i hn
        obtain ⟨l, vs, hv, hl, hd', hw', mu⟩ := mutS (t := 0) a2.wf a2.env e1
        rw [hv0] at hv; cases hv
        obtain ⟨st4, wf4, en4⟩ := mu (vs ++ [v]) (xs ++ [frz x]) (hd'.snoc dr)
        exact ⟨l0, vs, v, rfl, rfl, hl, by rw [hd'.length]; exact line_lt hn, post_nx (t := 0) P1 st4 ⟨wf4, a2.tb, en4⟩ LkS.refl⟩
      · exact P1.elim
    · exact P1.elim
  · exact P.elim
theorem ss_ext {p : Nat} {apos cpos : Pos} (ho : PE X a (tVar p)) (hb : attributeBase a "extend" X.env (eval a X.env) = eval a X.env) (hl : (apos.endLine == cpos.line) = true) (hd : hdOk e = true) (he : PE X e (tE X.K W cls f)) :
    PS X (.Expr (.Call (.Attribute a "extend" apos) [e] [] cpos) pos) (tS X.K W cls lent (fun r => match getS p r with
      | some (.lst _) => (f r).bind fun o r => match getS p r, frz o with
        | some (.lst xs), .lst ys => if xs.length + ys.length ≤ line then .ok .nx (r.set p (some (.lst (xs ++ ys)))) else .bad
        | some (.lst xs), .tup ys => if xs.length + ys.length ≤ line then .ok .nx (r.set p (some (.lst (xs ++ ys)))) else .bad
        | _, _ => .bad
      | _ => .bad)) := by
  have base := pe_bm (cpos := cpos) (apos := apos) PySem.F.plainAttrs_list PySem.F.slot_list_extend PySem.F.type_list_extend (MtR.or mt_extR (mt_extT (X := X))) ho (pa_cons he pa_nil (star_ok hd)) hb (few_ok (by simp [hd]) (by simp)) hl (star_ok hd)
  refine PS.of (ps_expr base rfl) ?_
  rintro D σ H ⟨B, w, ρ, a, P⟩
  dsimp only at P
  split at P
  · rename_i xs0 e0
    obtain ⟨l0, vs0, hv0, hl0, _⟩ := mutS (t := 0) a.wf a.env e0
    refine ⟨.ref l0, hv0, .inl ⟨rfl, vs0, SqL.of hl0⟩, 0, B, w, ρ, a, bindS P fun v H1 B1 w1 x ρ1 _ st1 wf1 tb1 en1 r1 P1 => ?_⟩
    obtain ⟨B2, w2, st2, a2, dr⟩ := frozen_item wf1 tb1 en1 r1
    replace P1 := P1.after st2 LkS.refl
    generalize frz x = y at dr P1
    split at P1
    · rename_i xs ys e1
      split at P1
      · rename_i hn
        obtain ⟨l, vs, hv, hl, hd', hw', mu⟩ := mutS (t := 0) a2.wf a2.env e1
        rw [hv0] at hv; cases hv
        cases dr with
        | @lst b zs _ hb hz =>
          obtain ⟨st4, wf4, en4⟩ := mu (vs ++ zs) (xs ++ ys) (hd'.append hz)
          exact .inl ⟨l0, b, vs, zs, rfl, rfl, hl, sqL_sub a2.wf.sub hb, by rw [hd'.length, hz.length]; exact line_le hn, post_nx (t := 0) P1 st4 ⟨wf4, a2.tb, en4⟩ LkS.refl⟩
      · exact P1.elim
    · rename_i xs ys e1
      split at P1
      · rename_i hn
        obtain ⟨l, vs, hv, hl, hd', hw', mu⟩ := mutS (t := 0) a2.wf a2.env e1
        rw [hv0] at hv; cases hv
        cases dr with
        | @tup b zs _ hb hz =>
          obtain ⟨st4, wf4, en4⟩ := mu (vs ++ zs) (xs ++ ys) (hd'.append hz)
          exact .inr ⟨l0, b, vs, zs, rfl, rfl, hl, sqT_sub a2.wf.sub hb, by rw [hd'.length, hz.length]; exact line_le hn, post_nx (t := 0) P1 st4 ⟨wf4, a2.tb, en4⟩ LkS.refl⟩
      · exact P1.elim
    · exact P1.elim
  · exact P.elim
/-- e.append(x), e a list of no slot -/
theorem ss_apx {apos cpos : Pos} (ho : PE X a (tE X.K W cls g)) (hb : attributeBase a "append" X.env (eval a X.env) = eval a X.env) (hl : (apos.endLine == cpos.line) = true) (hd : hdOk e = true) (he : PE X e (tE X.K W cls f)) :
    PS X (.Expr (.Call (.Attribute a "append" apos) [e] [] cpos) pos) (tS X.K W cls lent (fun r => (g r).bind fun x r => match x with
      | .lst xs => (f r).bind fun _ r => if xs.length < line then .ok .nx r else .bad
      | _ => .bad)) := by
  have base := pe_bm (cpos := cpos) (apos := apos) PySem.F.plainAttrs_list PySem.F.slot_list_append PySem.F.type_list_append mt_append ho (pa_cons he pa_nil (star_ok hd)) hb (few_ok (by simp [hd]) (by simp)) hl (star_ok hd)
  refine PS.of (ps_expr base rfl) ?_
  rintro D σ H ⟨B, w, ρ, a, P⟩
  refine ⟨0, B, w, ρ, a, bindS P fun v H1 B1 w1 x ρ1 _ st1 wf1 tb1 en1 r1 P1 => ?_⟩
  cases x with
  | d _ => exact P1.elim
  | dct _ _ => exact P1.elim
  | dtt _ _ => exact P1.elim
  | ins _ _ => exact P1.elim
  | lst xs =>
    dsimp only at P1
    cases r1 with
    | @lst l vs _ hw hl hd =>
    refine ⟨.inl ⟨rfl, vs, SqL.of hl⟩, 1, B1, w1, ρ1, ⟨wf1, tb1, en1⟩, bindS1 P1 fun v H2 B2 w2 y ρ2 _ st2 wf2 tb2 en2 r2 P2 => ?_⟩
    split at P2
    · rename_i hn
      obtain ⟨hl2, hw2⟩ := st2.prot l _ 0 hl hw (by omega)
      refine ⟨l, vs, v, rfl, rfl, hl2, by rw [hd.length]; exact line_lt hn, ?_⟩
      obtain ⟨st5, a5⟩ := junk (u := .lst (vs ++ [v])) wf2 en2 hw2
      exact post_nx (t := 0) P2 st5 a5 LkS.refl
    · exact P2.elim
theorem mt_dclear : MtM X "dict.clear" (fun x vs H Q => ∃ a kvs, x = .ref a ∧ vs = [] ∧ H a = some (.dK kvs) ∧ Q .non (upd H a (.dK []))) := by
  intro pins s σ H x vs v us Q I rx rv h
  obtain ⟨a, kvs, rfl, rfl, hH, q⟩ := h
  obtain rfl : v = Value.ref a := rx
  cases rv
  exact d_clear I hH fun s' I' => ⟨.non, _, I', rfl, q⟩
theorem ss_clr {p : Nat} {apos cpos : Pos} (ho : PE X a (tVar p)) (hb : attributeBase a "clear" X.env (eval a X.env) = eval a X.env) (hl : (apos.endLine == cpos.line) = true) :
    PS X (.Expr (.Call (.Attribute a "clear" apos) [] [] cpos) pos) (tS X.K W cls lent (fun r => match getS p r with
      | some (.lst _) => .ok .nx (r.set p (some (.lst [])))
      | some (.dct _ _) => .ok .nx (r.set p (some (.dct [] [])))
      | _ => .bad)) := by
  have base := pe_bm0 (cpos := cpos) (apos := apos) PySem.F.plainAttrs_list PySem.F.slot_list_clear PySem.F.type_list_clear mt_clear ho hb hl
  have base2 := pe_bm0 (cpos := cpos) (apos := apos) PySem.F.plainAttrs_dict PySem.F.slot_dict_clear PySem.F.type_dict_clear mt_dclear ho hb hl
  refine ⟨fun pins s σ H D I h => ?_⟩
  obtain ⟨B, w, ρ, a, P⟩ := h
  dsimp only at P
  split at P
  · rename_i xs0 e0
    obtain ⟨l, vs, hv, hl, hd', hw', mu⟩ := mutS (t := 0) a.wf a.env e0
    obtain ⟨st4, wf4, en4⟩ := mu [] [] .nil
    exact (ps_expr base rfl).run pins s σ H D I ⟨.ref l, hv, .inl ⟨rfl, vs, SqL.of hl⟩, l, vs, rfl, rfl, hl, post_nx (t := 0) P st4 ⟨wf4, a.tb, en4⟩ LkS.refl⟩
  · rename_i ks0 xs0 e0
    obtain ⟨l, vs, hv, hl, hn, hd', hw', mu⟩ := mutD (t := 0) a.wf a.env e0
    obtain ⟨st4, wf4, en4⟩ := mu [] [] [] rfl .nil
    exact (ps_expr base2 rfl).run pins s σ H D I ⟨.ref l, hv, .inr (.inr (.inl ⟨rfl, .inl ⟨_, hl⟩⟩)), l, _, rfl, rfl, hl, post_nx (t := 0) P st4 ⟨wf4, a.tb, en4⟩ LkS.refl⟩
  · exact P.elim
/-! ### loops -/
theorem ss_whl {body : List Stmt} {fb : Rho → Out Bool} {g : Rho → Out Fl} {n : Nat} (hp : PassesOwn (model X.prog X.w) X.A X.env X.xe) (hc : PT X c (tT X.K W cls fb)) (hb : PSs X body (tS X.K W cls lent g)) :
    PS X (.While c body [] pos) (tS X.K W cls lent (whileN fb g n)) := by
  refine PS.of (ps_while hp hc hb) ?_
  intro D σ H q
  refine ⟨fun m σ H => tS X.K W cls lent (whileN fb g m) D σ H, ⟨n, q⟩, ?_⟩
  rintro m σ H ⟨B, w, ρ, a, P⟩
  cases m with
  | zero => exact P.elim
  | succ m =>
    unfold whileN at P
    refine ⟨0, B, w, ρ, a, bindS P fun k H1 B1 w1 x ρ1 _ st1 wf1 tb1 en1 r1 P1 => ?_⟩
    subst r1
    cases k with
    | false =>
      rw [if_neg Bool.false_ne_true] at P1 ⊢
      exact post_nx (t := 0) P1 (Stp.refl 0 B1 H1 w1) ⟨wf1, tb1, en1⟩ LkS.refl
    | true =>
      rw [if_pos rfl] at P1 ⊢
      refine ⟨fun σ' H' => tS X.K W cls lent (whileN fb g m) D σ' H', fun σ' H' h => ⟨m, Nat.lt_succ_self m, h⟩, B1, w1, ρ1, ⟨wf1, tb1, en1⟩, ?_⟩
      cases hg : g ρ1 with
      | bad => rw [hg] at P1; exact P1
      | exc c x ρ2 => rw [hg] at P1; exact P1
      | ok fl ρ2 =>
        rw [hg] at P1
        intro σ' B' H' w' st wf en lk
        cases fl with
        | nx => exact fun tb => ⟨B', w', ρ2, ⟨wf, tb, en⟩, PostS.after (show PostS X.K W cls lent σ B1 H1 w1 (whileN fb g m ρ2) D from P1) st lk⟩
        | cont => exact fun tb => ⟨B', w', ρ2, ⟨wf, tb, en⟩, PostS.after (show PostS X.K W cls lent σ B1 H1 w1 (whileN fb g m ρ2) D from P1) st lk⟩
        | brk => exact fun tb => P1 σ' B' H' w' st wf en lk tb
        | ret o => exact P1 σ' B' H' w' st wf en lk
theorem ss_for {tg : Expr} {iter : Expr} {body : List Stmt} {T : Tg} {fi : Rho → Out (List D)} {g : Rho → Out Fl} (hN : X.N.Nodup) (hp : PassesOwn (model X.prog X.w) X.A X.env X.xe) (hc : X.calm = true) (hi : PI X tg iter (tI X.K W cls fi)) (ht : TgAt X T tg) (hb : PSs X body (tS X.K W cls lent g)) (hd : hdOk iter = true) :
    PS X (.For tg iter body [] pos) (tS X.K W cls lent (fun r => (fi r).bind fun xs r => forN (asgT lent T) g xs r)) := by
  have base := ps_for (pos := pos) hp hc hi (pg_of hN hc ht) hb (fold_ok hd)
  refine ⟨fun pins s σ H D I q => base.run pins s σ H D I ?_⟩
  have hlen : ∀ i ∈ T.slots, i < σ.length := fun i h => by rw [I.len]; exact tg_lt ht i h
  obtain ⟨B, w, ρ, a, P⟩ := q
  refine ⟨0, B, w, ρ, a, bindS P fun J H1 B1 w1 ds ρ1 _ st1 wf1 tb1 en1 wd P1 => ?_⟩
  refine ⟨fun i m σ1 H => i ≤ ds.length ∧ m = ds.length - i ∧ σ1.length = σ.length ∧ ∃ B2 w2 ρ2, Ext B1 B2 ∧ At X.K 0 B2 H w2 σ1 ρ2 ∧ PostS X.K W cls lent σ1 B2 H w2 (forN (asgT lent T) g (ds.drop i) ρ2) D, ⟨ds.length, Nat.zero_le _, rfl, rfl, B1, w1, ρ1, Ext.refl B1, ⟨wf1, tb1, en1⟩, P1⟩, ?_⟩
  rintro i m σ1 H ⟨hi', rfl, hs1, B2, w2, ρ2, ex2, a2, P2⟩
  by_cases hlt : i < ds.length
  · refine .inr ⟨wd.go i B2 H ex2 a2.wf.sub hlt, fun σ1 H => σ1.length = σ.length ∧ ∃ B2 w2 ρ2, Ext B1 B2 ∧ At X.K 0 B2 H w2 σ1 ρ2 ∧ PostS X.K W cls lent σ1 B2 H w2 (forN (asgT lent T) g (ds.drop (i + 1)) ρ2) D,
      fun σ' H' h => ⟨ds.length - (i + 1), by omega, hlt, rfl, h⟩, fun x H' y => ?_⟩
    obtain ⟨B3, d, e3, s3, kp3, nb3, ed, hx⟩ := wd.yld i B2 H x H' ex2 a2.wf.sub hlt y
    have hdrop : ds.drop i = d :: ds.drop (i + 1) := by
      rw [List.drop_eq_getElem_cons hlt]
      have := List.getElem?_eq_getElem hlt
      rw [this] at ed; cases ed; rfl
    rw [hdrop] at P2
    simp only [forN] at P2
    have wf3 : Wf B3 H' w2 := ⟨s3, fun b q e => by
      cases e5 : B3 b with
      | none => rfl
      | some u =>
        rcases nb3 b u e5 with z | z
        · rw [a2.wf.off b q e] at z; cases z
        · exact absurd z (a2.wf.live b q e), fun b q e z => by
      cases e5 : H b with
      | none => exact a2.wf.live b q e e5
      | some u => rw [kp3 b u e5] at z; cases z⟩
    have st3 : Stp 0 B2 H w2 B3 H' w2 := ⟨e3, fun b o h1 h2 => ⟨kp3 b o h1, h2⟩, fun b o k h1 h2 _ => ⟨kp3 b o h1, h2⟩, fun b o h => (nb3 b o h).imp id .inl⟩
    have en3 : EnvR X.K B3 H' w2 σ1 ρ2 := a2.env.mono e3 fun b xs j f h => ⟨f, kp3 b _ h⟩
    cases hb2 : asgT lent T d ρ2 with
    | none => rw [hb2] at P2; exact P2.elim
    | some ρ3 =>
      rw [hb2] at P2
      refine asgT_run (D := D) hb2 ⟨wf3, a2.tb, en3⟩ hx (fun j hj => by rw [hs1]; exact hlen j hj) fun σ2 st4 a4 lk4 => ?_
      have P3 := PostS.after (show PostS X.K W cls lent σ1 B2 H w2 ((g ρ3).bind fun f r => match f with
        | .nx => forN (asgT lent T) g (ds.drop (i + 1)) r
        | .cont => forN (asgT lent T) g (ds.drop (i + 1)) r
        | .brk => .ok .nx r
        | .ret o => .ok (.ret o) r) D from P2) (st3.trans st4) lk4
      refine ⟨B3, _, ρ3, a4, ?_⟩
      cases hg : g ρ3 with
      | bad => rw [hg] at P3; exact P3
      | exc c x ρ4 => rw [hg] at P3; exact P3
      | ok fl ρ4 =>
        rw [hg] at P3
        intro σ' B' H2 w' st wf en lk
        have hs3 : σ'.length = σ.length := by rw [lk.1, lk4.1, hs1]
        cases fl with
        | nx => exact fun tb => ⟨hs3, B', w', ρ4, (ex2.trans e3).trans st.ext, ⟨wf, tb, en⟩, PostS.after (show PostS X.K W cls lent σ2 B3 H' _ (forN (asgT lent T) g (ds.drop (i + 1)) ρ4) D from P3) st lk⟩
        | cont => exact fun tb => ⟨hs3, B', w', ρ4, (ex2.trans e3).trans st.ext, ⟨wf, tb, en⟩, PostS.after (show PostS X.K W cls lent σ2 B3 H' _ (forN (asgT lent T) g (ds.drop (i + 1)) ρ4) D from P3) st lk⟩
        | brk => exact fun tb => P3 σ' B' H2 w' st wf en lk tb
        | ret o => exact P3 σ' B' H2 w' st wf en lk
  · have hi2 : i = ds.length := by omega
    subst hi2
    refine .inl ⟨wd.stop _ B2 H ex2 a2.wf.sub (Nat.le_refl _), ?_⟩
    rw [List.drop_length] at P2
    exact post_nx (t := 0) P2 (Stp.refl 0 B2 H w2) a2 LkS.refl
end
end Ev
end

section
set_option Elab.async false
set_option linter.all false
set_option maxRecDepth 100000
set_option maxHeartbeats 6400000
/-! Ev: len(set(xs)) of texts. -/
namespace Ev
open PySem PySem.Spec PyProof.Rows L2
/-! ### each text once -/
theorem dd_any (l : List Str) (x y : Str) : (ddStep l x).any (· == y) = (l.any (· == y) || decide (y = x)) := by
  unfold ddStep
  by_cases h : l.any (· == x) = true
  · rw [if_pos h]
    by_cases e : y = x
    · rw [e, h, decide_eq_true rfl]; rfl
    · simp [e]
  · rw [if_neg h, List.any_append]
    congr 1
    simp only [List.any_cons, List.any_nil, Bool.or_false]
    by_cases e : y = x
    · subst e; simp
    · rw [decide_eq_false e]
      exact beq_eq_false_iff_ne.mpr fun z => e z.symm
theorem dd_len (l : List Str) (x : Str) : (ddStep l x).length = if l.any (· == x) = true then l.length else l.length + 1 := by
  unfold ddStep
  split <;> simp
theorem dd_le (l : List Str) (x : Str) : (ddStep l x).length ≤ l.length + 1 := by rw [dd_len]; split <;> omega
theorem ddup_le : ∀ xs : List Str, (ddup xs).length ≤ xs.length := by
  have key : ∀ (xs l : List Str), (xs.foldl ddStep l).length ≤ l.length + xs.length := by
    intro xs
    induction xs with
    | nil => intro l; exact Nat.le_refl _
    | cons x xs ih =>
      intro l
      have h1 := ih (ddStep l x)
      have h2 := dd_le l x
      simp only [List.foldl_cons, List.length_cons]
      omega
  intro xs
  simpa [ddup] using key xs []
/-- what of the texts has come in at the i-th -/
abbrev ddAt (xs : List Str) (i : Nat) : List Str := ddup (xs.take i)
theorem ddAt_s {xs : List Str} {i : Nat} {x : Str} (h : xs[i]? = some x) : ddAt xs (i + 1) = ddStep (ddAt xs i) x := by
  unfold ddAt ddup
  rw [List.take_add_one, h, List.foldl_append]
  rfl
section
variable {prog : Program} {w : World} {A : Around} {E : Value → Shared → Prop} {s : Shared}
abbrev TxSet (prog : Program) (w : World) (h : Heap) (S : Addr) (l : List Str) : Prop := h.SetOf (PySem.strKind prog w) S (fun y => l.any (· == y)) l.length
theorem TxSet.move {h h' : Heap} {S : Addr} {l : List Str} (T : TxSet prog w h S l) (k : ∀ o, h.get? S = some o → h'.get? S = some o) : TxSet prog w h' S l :=
  let ⟨o, es, ep, t, a, b⟩ := T
  ⟨o, es, ep, t, k o a, b⟩
/-- the texts go in, one behind the other -/
theorem tx_update {R : Result → Shared → Prop} {I : Addr} {fp wr : List Addr} {G : Array GenState → Array GenState → Prop} {n : Nat} {Pv : Nat → Value → Prop} {St : Nat → Shared → Prop}
    (W : WalksS prog w A.in1 I fp wr G n Pv St) {S : Addr} (off : S ∉ fp) {xs : List Str} (en : xs.length = n) (room : n + 1 < scanBound) (is : ∀ i v, Pv i v → ∃ x t, xs[i]? = some x ∧ v = .str x t)
    (i : Nat) (s : Shared) (hi : i ≤ n) (hst : St i s) (T : TxSet prog w s.heap S (ddAt xs i))
    (out : ∀ s', Moved (S :: wr) G s s' → TxSet prog w s'.heap S (ddup xs) → R (.ok (.ret .none)) s') : codeAny (model prog w) A (.builtin "set.update.loop" ⟨[.ref S, .ref I], []⟩) R s := by
  have offw : S ∉ wr := fun z => off (W.sub _ z)
  have wide : ∀ b ∈ wr, b ∈ S :: wr := fun b z => .tail _ z
  generalize hk : n - i = k
  induction k generalizing i s with
  | zero =>
    obtain rfl : i = n := by omega
    refine codeAny_builtin F.entry_set_update_loop ((Around.under_plainId (A := A) F.plain_set_update_loop _).symm ▸ ?_)
    refine wpAny_bind (m := pyNext (.ref I)) (W.done s _ _ hst fun s' mv => ?_)
    have all_ : ddAt xs i = ddup xs := congrArg ddup (List.take_of_length_le (Nat.le_of_eq en))
    have T1 : TxSet prog w s'.heap S (ddup xs) := all_ ▸ T.move fun o e => mv.heap S o offw e
    show wpAny _ A.in1 (ret Value.none) _ _ s'
    exact wpAny_pure (out s' (mv.mono wide) T1)
  | succ k ih =>
    refine codeAny_builtin F.entry_set_update_loop ((Around.under_plainId (A := A) F.plain_set_update_loop _).symm ▸ ?_)
    refine wpAny_bind (m := pyNext (.ref I)) (W.item i s _ _ (by omega) hst fun v s' pv hst' mv => ?_)
    obtain ⟨x, t, hx, rfl⟩ := is i v pv
    have T' : TxSet prog w s'.heap S (ddAt xs i) := T.move fun o e => mv.heap S o offw e
    have small : (ddAt xs i).length + 1 < scanBound := by
      have := ddup_le (xs.take i)
      rw [List.length_take] at this
      show (ddup (xs.take i)).length + 1 < scanBound
      omega
    refine wpAny_bind (m := holding [Value.str x t] (setAdd S (.str x t))) (wpAny_holding ?_)
    unfold setAdd
    refine wpAny_holding (wpAny_bind ((PySem.strKind prog w).pyHash (k := x) (strKind_is _ _ _ _) ?_))
    refine wpAny_setAddHashed_of (s := { s' with toks := s'.toks + 1 }) (knd := PySem.strKind prog w) (strKind_is _ _ _ _) rfl T' small fun h2 only T2 => ?_
    have T3 : TxSet prog w h2 S (ddAt xs (i + 1)) := SetOf_congr T2 (fun y => by rw [ddAt_s hx, dd_any]) (by rw [ddAt_s hx, dd_len])
    have far : ∀ b, b ≠ S → h2.get? b = s'.heap.get? b := only.2
    refine wpAny_pure ⟨plainId_quiet F.plain_set_update_loop _, ih (i + 1) _ (by omega) (W.frame _ s' _ _ hst' (Nat.le_succ _) fun b hb o e => (far b fun z => off (z ▸ hb)).trans e) T3 (fun s3 mv3 T4 => out s3 (Moved.trans W.gtrans ((mv.mono wide).then_heap (Nat.le_succ _) fun b o hb e => (far b fun z => hb (z ▸ .head _)).trans e) mv3) T4) (by omega)⟩
abbrev IsLT_list (h : Heap) (l : Addr) (items : Array Value) : Prop := h.IsList l items
abbrev IsLT_tuple (h : Heap) (l : Addr) (items : Array Value) : Prop := h.IsTuple l items
/-- a new set's object -/
abbrev newS (led : Bool) : Obj := { cls := .type "set", dict := none, data := .set #[] 0 (.fresh 0 0 led) }
/-- where a set of these texts stands behind the call -/
def SetMade (prog : Program) (w : World) (s : Shared) (xs : List Str) (h : Heap) : Prop := TxSet prog w h s.heap.objs.size (ddup xs) ∧ ∀ b o, s.heap.get? b = some o → h.get? b = some o
theorem tx_at {us : List Value} {xs : List Str} (r : StrsAre us xs) : ∀ {i : Nat} {v : Value}, us[i]? = some v → ∃ x t, xs[i]? = some x ∧ v = .str x t := by
  induction r with
  | nil => intro i v h; simp at h
  | cons n t hr ih =>
    intro i v h
    cases i with
    | zero => exact ⟨n, t, rfl, by simpa using h.symm⟩
    | succ i => simpa using ih (by simpa using h)
theorem set_of_list {l : Addr} {items : Array Value} {xs : List Str} {Q : Value → Shared → Prop} (calm : A.handled = none) (hl : IsLT_list s.heap l items) (hi : StrsAre items.toList xs) (room : xs.length + 1 < scanBound)
    (done : ∀ (h : Heap) (tk : Nat), SetMade prog w s xs h → Q (.ref s.heap.objs.size) { s with heap := h, toks := tk }) : wpAny (model prog w) A (call (.type "set") [.ref l]) Q E s := by
  have size_ : xs.length = items.size := by rw [← StrsAre.len_eq hi, Array.length_toList]
  have hmade := F.called_set.made
  have hsub := F.called_set.sub
  have h1 := F.called_set.notType
  have h2 := F.called_set.canCreate
  have hct := F.typeCall_set_1 (.ref l)
  obtain ⟨c, tl, hmro⟩ := F.called_set.mro
  refine wpAny_call (codeAny_of_tree (show wpAny _ _ (callAny (.type "set") _) _ _ _ from ?_))
  refine wpAny_pure ⟨Code.quiet_builtin _ (by decide +kernel), codeAny_builtin F.entry_type_call ((Around.under_plain (A := A) (weight_type_call_type "set" [.ref l] []) rfl).symm ▸ ?_)⟩
  repeat (any_goals (first | assumption | wp_step))
  refine codeAny_mono (code_set_new_1 (E := E) (.ref l) (Q₁ := fun v s' => ∃ led : Bool, v = .ref s.heap.objs.size ∧ s' = { s with heap := s.heap.push (newS led) }) fun led => ⟨led, rfl, rfl⟩) fun r s' hr => ?_
  cases r with
  | error e => exact hr
  | ok fl =>
   cases fl with
   | ret v =>
    obtain ⟨led, e1, e2⟩ := hr
    subst e1; subst e2
    have at_ : (s.heap.push (newS led)).get? s.heap.objs.size = some (newS led) := Heap.get?_push_size _ rfl
    have ty : Shared.TypeIs { s with heap := s.heap.push (newS led) } (.ref s.heap.objs.size) "set" := ⟨_, at_, rfl⟩
    have hli := F.called_set.init.lookup
    have hbi := F.called_set.init.bind (.ref s.heap.objs.size)
    repeat (any_goals (first | assumption | wp_step))
    refine codeAny_mono (codeAny_call_builtin (R := wants (fun v s' => v = .none ∧ ∃ h tk, s' = { s with heap := h, toks := tk } ∧ SetMade prog w s xs h) E) F.called_set.init.plain F.entry_set_init (check_set_init_1 ty ?_)) fun r s' hr => ?_
    · have hl1 : IsLT_list (s.heap.push (newS led)) l items := hl.push _
      have lt : l < s.heap.objs.size := let ⟨_, q, _⟩ := hl; Heap.lt_size q
      obtain ⟨ol, q1, q2, nl, q3⟩ := id hl1
      obtain ⟨ocls, odict, odata, oslots⟩ := ol
      dsimp only at q2 q3
      subst q2; subst q3
      have hsls := F.sub_list_set
      have hslf := F.sub_list_frozenset
      have hne : (Value.type "list" == Value.type "dict") = false := by decide
      unfold Builtin.«set.__init__» Builtin.Frozenset.updateFrom noKeywords
      generalize hPI : pyIter = PI
      wp_walk
      subst hPI
      refine wpAny_pyIter_list hl1 (wpAny_bind (wpAny_runValue ?_))
      have calm3 : A.in1.in1.in1.handled = none := by simp [calm]
      have z1 : (s.heap.push (newS led)).objs.size = s.heap.objs.size + 1 := Heap.size_push ..
      have n1 : l ≠ (s.heap.push (newS led)).objs.size := z1 ▸ Nat.ne_of_lt (Nat.lt_succ_of_lt lt)
      have n2 : s.heap.objs.size ∉ [(s.heap.push (newS led)).objs.size, l] := fun z => by
        rw [List.mem_cons, List.mem_singleton, z1] at z
        exact z.elim (Nat.ne_of_lt (Nat.lt_succ_self _)) (Nat.ne_of_gt lt)
      refine tx_update (W := (Walks.list calm3 _ l n1 items).toS) n2 size_ (by omega) (fun i v hv => tx_at hi (by rw [Array.getElem?_toList]; exact hv)) 0 _ (Nat.zero_le _) ⟨⟨_, Heap.get?_push_size _ rfl, rfl, rfl⟩, hl1.push _⟩ ?_ fun s' mv T => ?_
      · exact SetOf_congr ((setObjOf_fresh (knd := PySem.strKind prog w) led).setOf (Heap.get?_push_of_some _ at_) (by unfold scanBound; omega)) (fun _ => rfl) rfl
      · obtain ⟨h, g, d, tk, os⟩ := s'
        obtain rfl : g = s.gens := mv.gens
        obtain rfl : d = s.drawn := mv.drawn
        obtain rfl : os = s.os := mv.os
        refine wpAny_pure (Q := _) (show wpAny _ _ (ret Value.none) _ _ _ from wpAny_pure ⟨rfl, h, tk, rfl, T, fun b o e => ?_⟩)
        have lb := Heap.lt_size e
        refine mv.heap b o (fun z => ?_) (Heap.get?_push_of_some _ (Heap.get?_push_of_some _ e))
        rw [List.mem_cons, List.mem_singleton, z1] at z
        exact z.elim (Nat.ne_of_lt lb) (Nat.ne_of_lt (Nat.lt_succ_of_lt lb))
    · cases r with
      | error e => exact hr
      | ok fl =>
       cases fl with
       | ret v =>
        obtain ⟨e1, h, tk, e2, T⟩ := hr
        subst e1; subst e2
        repeat (any_goals (first | assumption | wp_step))
        exact done _ _ T
       | _ => exact hr.elim
   | _ => exact hr.elim
theorem set_of_tuple {l : Addr} {items : Array Value} {xs : List Str} {Q : Value → Shared → Prop} (calm : A.handled = none) (hl : IsLT_tuple s.heap l items) (hi : StrsAre items.toList xs) (room : xs.length + 1 < scanBound)
    (done : ∀ (h : Heap) (tk : Nat), SetMade prog w s xs h → Q (.ref s.heap.objs.size) { s with heap := h, toks := tk }) : wpAny (model prog w) A (call (.type "set") [.ref l]) Q E s := by
  have size_ : xs.length = items.size := by rw [← StrsAre.len_eq hi, Array.length_toList]
  have hmade := F.called_set.made
  have hsub := F.called_set.sub
  have h1 := F.called_set.notType
  have h2 := F.called_set.canCreate
  have hct := F.typeCall_set_1 (.ref l)
  obtain ⟨c, tl, hmro⟩ := F.called_set.mro
  refine wpAny_call (codeAny_of_tree (show wpAny _ _ (callAny (.type "set") _) _ _ _ from ?_))
  refine wpAny_pure ⟨Code.quiet_builtin _ (by decide +kernel), codeAny_builtin F.entry_type_call ((Around.under_plain (A := A) (weight_type_call_type "set" [.ref l] []) rfl).symm ▸ ?_)⟩
  repeat (any_goals (first | assumption | wp_step))
  refine codeAny_mono (code_set_new_1 (E := E) (.ref l) (Q₁ := fun v s' => ∃ led : Bool, v = .ref s.heap.objs.size ∧ s' = { s with heap := s.heap.push (newS led) }) fun led => ⟨led, rfl, rfl⟩) fun r s' hr => ?_
  cases r with
  | error e => exact hr
  | ok fl =>
   cases fl with
   | ret v =>
    obtain ⟨led, e1, e2⟩ := hr
    subst e1; subst e2
    have at_ : (s.heap.push (newS led)).get? s.heap.objs.size = some (newS led) := Heap.get?_push_size _ rfl
    have ty : Shared.TypeIs { s with heap := s.heap.push (newS led) } (.ref s.heap.objs.size) "set" := ⟨_, at_, rfl⟩
    have hli := F.called_set.init.lookup
    have hbi := F.called_set.init.bind (.ref s.heap.objs.size)
    repeat (any_goals (first | assumption | wp_step))
    refine codeAny_mono (codeAny_call_builtin (R := wants (fun v s' => v = .none ∧ ∃ h tk, s' = { s with heap := h, toks := tk } ∧ SetMade prog w s xs h) E) F.called_set.init.plain F.entry_set_init (check_set_init_1 ty ?_)) fun r s' hr => ?_
    · have hl1 : IsLT_tuple (s.heap.push (newS led)) l items := hl.push _
      have lt : l < s.heap.objs.size := let ⟨_, q, _⟩ := hl; Heap.lt_size q
      obtain ⟨ol, q1, q2, nl, q3⟩ := id hl1
      obtain ⟨ocls, odict, odata, oslots⟩ := ol
      dsimp only at q2 q3
      subst q2; subst q3
      have hsls := F.sub_tuple_set
      have hslf := F.sub_tuple_frozenset
      have hne : (Value.type "tuple" == Value.type "dict") = false := by decide
      unfold Builtin.«set.__init__» Builtin.Frozenset.updateFrom noKeywords
      generalize hPI : pyIter = PI
      wp_walk
      subst hPI
      refine wpAny_pyIter_tuple hl1 (wpAny_bind (wpAny_runValue ?_))
      have calm3 : A.in1.in1.in1.handled = none := by simp [calm]
      have z1 : (s.heap.push (newS led)).objs.size = s.heap.objs.size + 1 := Heap.size_push ..
      have n1 : l ≠ (s.heap.push (newS led)).objs.size := z1 ▸ Nat.ne_of_lt (Nat.lt_succ_of_lt lt)
      have n2 : s.heap.objs.size ∉ [(s.heap.push (newS led)).objs.size, l] := fun z => by
        rw [List.mem_cons, List.mem_singleton, z1] at z
        exact z.elim (Nat.ne_of_lt (Nat.lt_succ_self _)) (Nat.ne_of_gt lt)
      refine tx_update (W := (Walks.tuple calm3 _ l n1 items).toS) n2 size_ (by omega) (fun i v hv => tx_at hi (by rw [Array.getElem?_toList]; exact hv)) 0 _ (Nat.zero_le _) ⟨⟨_, Heap.get?_push_size _ rfl, rfl, rfl⟩, hl1.push _⟩ ?_ fun s' mv T => ?_
      · exact SetOf_congr ((setObjOf_fresh (knd := PySem.strKind prog w) led).setOf (Heap.get?_push_of_some _ at_) (by unfold scanBound; omega)) (fun _ => rfl) rfl
      · obtain ⟨h, g, d, tk, os⟩ := s'
        obtain rfl : g = s.gens := mv.gens
        obtain rfl : d = s.drawn := mv.drawn
        obtain rfl : os = s.os := mv.os
        refine wpAny_pure (Q := _) (show wpAny _ _ (ret Value.none) _ _ _ from wpAny_pure ⟨rfl, h, tk, rfl, T, fun b o e => ?_⟩)
        have lb := Heap.lt_size e
        refine mv.heap b o (fun z => ?_) (Heap.get?_push_of_some _ (Heap.get?_push_of_some _ e))
        rw [List.mem_cons, List.mem_singleton, z1] at z
        exact z.elim (Nat.ne_of_lt lb) (Nat.ne_of_lt (Nat.lt_succ_of_lt lb))
    · cases r with
      | error e => exact hr
      | ok fl =>
       cases fl with
       | ret v =>
        obtain ⟨e1, h, tk, e2, T⟩ := hr
        subst e1; subst e2
        repeat (any_goals (first | assumption | wp_step))
        exact done _ _ T
       | _ => exact hr.elim
   | _ => exact hr.elim
end
/-- len(set(xs)) -/
def tLSet (K : PySem.W.Frag) (ta : TE) : TE := fun σ H Q => ta σ H fun x H1 => ∃ l ys, x = .ref l ∧ (SqL K H1 l (ys.map V.str) ∨ SqT K H1 l (ys.map V.str)) ∧ ys.length ≤ 1000 ∧ Q (.int (ddup ys).length) H1
theorem strs_of : ∀ {ys : List Str} {us : List Value}, Vals (ys.map V.str) us → StrsAre us ys
  | [], _, .nil => .nil
  | y :: _, _, .cons ⟨k, e⟩ t => e ▸ .cons y k (strs_of t)
theorem pe_lset {X : Cx} {a : Expr} {ta : TE} {p p2 q pos : Pos} (hc : X.calm = true) (g1 : Gl X "len") (m1 : X.mg "len" = none) (g2 : Gl X "set") (m2 : X.mg "set" = none) (ha : PE X a ta)
    (na : starEach [a] X.env = (false, eval a X.env) :: starEach [] X.env) : PE X (.Call (.Name "len" p) [.Call (.Name "set" p2) [a] [] q] [] pos) (tLSet X.K ta) := by
  refine ⟨fun pins s σ H Q I h => Call_ (ld_blt I g1 m1 boot_len (callWith_builtin1 (args_cons (Call_ (ld_blt I g2 m2 boot_set (callWith_type1 (args_cons (thn (ha.run pins s σ H _ I h) fun v s1 ⟨x, H1, I1, r1, q1⟩ => args_nil ?_) na) na rfl))) rfl) rfl rfl))⟩
  obtain ⟨l, ys, rfl, hq, hl, q1⟩ := q1
  cases r1
  have small : ys.length + 1 < scanBound := Nat.lt_of_le_of_lt (Nat.succ_le_succ hl) (by decide)
  have last : ∀ (h : Heap) (tk : Nat), SetMade X.prog X.w s1 ys h → wpAny (model X.prog X.w) X.A (spliced (backTo pos (starEach [] X.env))) (fun vs s2 => wpAny (model X.prog X.w) X.A (call (.builtin "len") (Value.ref s1.heap.objs.size :: vs)) (EP X pins σ Q) X.xe s2) X.xe { s1 with heap := h, toks := tk } := fun h tk T => by
    obtain ⟨⟨o, es, ep, t, ho, hex, hd, _, _, _, hf, hn⟩, keep⟩ := T
    have I2 : Inv X pins σ H1 { s1 with heap := h, toks := tk } := I1.kept keep
    have := ddup_le ys
    exact args_nil (call_len_set ho hex hd hf (by rw [hn]; omega) ⟨.int (ddup ys).length, H1, I2.tok _, ⟨_, by rw [hn]⟩, q1⟩)
  rcases hq with hq | hq
  · obtain ⟨its, rv, pl, _⟩ := I1.list hq
    exact set_of_list (I1.ok.hd hc) pl.isList (by simpa using strs_of rv) small last
  · obtain ⟨its, rv, pl, _⟩ := I1.tuple hq
    exact set_of_tuple (I1.ok.hd hc) pl (by simpa using strs_of rv) small last
end Ev
end

section
set_option Elab.async false
set_option linter.all false
set_option maxRecDepth 100000
set_option maxHeartbeats 4000000
/-! Ev, part N: instances, texts put together, dict displays. -/
namespace Ev
open PySem PySem.Spec PyProof.Rows L2
variable [Γ : Clz]
/-! ### fields -/
section
variable {K : PySem.W.Frag} {B B' H H' : Hp} {F F' : Addr → Prop}
theorem FR1.monoA {v : V} {o : Fo} (h : FR1 K B H F v o) (e : Ext B B') (k : ∀ a w, a ∈ ownA v o → F a → H a = some w → F' a ∧ H' a = some w) : FR1 K B' H' F' v o := by
  cases h with
  | d h => exact .d (h.ext e)
  | lst f ha hs => have z := k _ _ (List.mem_singleton.mpr rfl) f ha; exact .lst z.1 z.2 (hs.ext e)
  | dct f ha hl hs => have z := k _ _ (List.mem_singleton.mpr rfl) f ha; exact .dct z.1 z.2 hl (hs.ext e)
  | dtt f ha hl hs => have z := k _ _ (List.mem_singleton.mpr rfl) f ha; exact .dtt z.1 z.2 hl (hs.ext e)
theorem ownAs_cons (v : V) (f : Fo) (vs : List V) (fs : List Fo) : ownAs (v :: vs) (f :: fs) = ownA v f ++ ownAs vs fs := by simp [ownAs]
theorem frs_monoA (e : Ext B B') : ∀ {vs : List V} {fs : List Fo}, Paired (FR1 K B H F) vs fs → (∀ a w, a ∈ ownAs vs fs → F a → H a = some w → F' a ∧ H' a = some w) → Paired (FR1 K B' H' F') vs fs
  | _, _, .nil, _ => .nil
  | v :: vs, f :: fs, .cons h hp, k => .cons (h.monoA e fun a w ha => k a w (by rw [ownAs_cons]; exact List.mem_append_left _ ha)) (frs_monoA e hp fun a w ha => k a w (by rw [ownAs_cons]; exact List.mem_append_right _ ha))
/-- what a field owns is a list or a dict -/
theorem own_kind {v : V} {f : Fo} (h : FR1 K B H F v f) {b : Addr} (hb : b ∈ ownA v f) : F b ∧ ((∃ xs, H b = some (.lst xs)) ∨ (∃ xs, H b = some (.dK xs)) ∨ ∃ xs, H b = some (.dT xs)) := by
  cases h with
  | d _ => cases hb
  | lst g ha _ => rw [List.mem_singleton.mp hb]; exact ⟨g, .inl ⟨_, ha⟩⟩
  | dct g ha _ _ => rw [List.mem_singleton.mp hb]; exact ⟨g, .inr (.inl ⟨_, ha⟩)⟩
  | dtt g ha _ _ => rw [List.mem_singleton.mp hb]; exact ⟨g, .inr (.inr ⟨_, ha⟩)⟩
theorem owns_kind : ∀ {vs : List V} {fs : List Fo}, Paired (FR1 K B H F) vs fs → ∀ {b : Addr}, b ∈ ownAs vs fs → F b ∧ ((∃ xs, H b = some (.lst xs)) ∨ (∃ xs, H b = some (.dK xs)) ∨ ∃ xs, H b = some (.dT xs))
  | _, _, .nil, b, hb => by simp [ownAs] at hb
  | v :: vs, f :: fs, .cons h hp, b, hb => by
    rw [ownAs_cons, List.mem_append] at hb
    exact hb.elim (own_kind h) (owns_kind hp)
theorem own_nins {vs : List V} {fs : List Fo} (hp : Paired (FR1 K B H F) vs fs) {a b C dx : Addr} {ns : List (Str × V)} (hb : b ∈ ownAs vs fs) (ha : H a = some (.ins C dx ns)) : b ≠ a := fun z => by
  subst z
  obtain ⟨_, ⟨_, e⟩ | ⟨_, e⟩ | ⟨_, e⟩⟩ := owns_kind hp hb <;> rw [ha] at e <;> cases e
theorem own_nown {vs : List V} {fs : List Fo} (hp : Paired (FR1 K B H F) vs fs) {a b x : Addr} (hb : b ∈ ownAs vs fs) (ha : H a = some (.own x)) : b ≠ a := fun z => by
  subst z
  obtain ⟨_, ⟨_, e⟩ | ⟨_, e⟩ | ⟨_, e⟩⟩ := owns_kind hp hb <;> rw [ha] at e <;> cases e
theorem own_at : ∀ {vs : List V} {fs : List Fo} {j : Nat} {u : V} {f : Fo}, vs[j]? = some u → fs[j]? = some f → ∀ b ∈ ownA u f, b ∈ ownAs vs fs
  | v :: vs, g :: fs, 0, u, f, h1, h2, b, hb => by cases h1; cases h2; rw [ownAs_cons]; exact List.mem_append_left _ hb
  | v :: vs, g :: fs, j + 1, u, f, h1, h2, b, hb => by rw [ownAs_cons]; exact List.mem_append_right _ (own_at (by simpa using h1) (by simpa using h2) b hb)
  | [], _, _, _, _, h1, _, _, _ => by simp at h1
  | _ :: _, [], _, _, _, _, h2, _, _ => by simp at h2
/-- one field exchanged -/
theorem fr_set (e : Ext B B') {v' : V} {f' : Fo} (hn : FR1 K B' H' F' v' f') (hd' : (ownA v' f').Nodup) : ∀ {vs : List V} {fs : List Fo} {j : Nat} {u : V} {f : Fo}, Paired (FR1 K B H F) vs fs → (ownAs vs fs).Nodup → vs[j]? = some u → fs[j]? = some f →
    (∀ b w, b ∈ ownAs vs fs → b ∉ ownA u f → F b → H b = some w → F' b ∧ H' b = some w) → (∀ b ∈ ownA v' f', b ∈ ownA u f ∨ b ∉ ownAs vs fs) →
    Paired (FR1 K B' H' F') (vs.set j v') (fs.set j f') ∧ (ownAs (vs.set j v') (fs.set j f')).Nodup ∧ ∀ b ∈ ownAs (vs.set j v') (fs.set j f'), b ∈ ownA v' f' ∨ (b ∈ ownAs vs fs ∧ b ∉ ownA u f)
  | _, _, _, _, _, .nil, _, h1, _, _, _ => by simp at h1
  | v :: vs, g :: fs, 0, u, f, .cons h hp, hd, h1, h2, k, hnew => by
    cases h1; cases h2
    rw [ownAs_cons, List.nodup_append] at hd
    obtain ⟨d1, d2, d3⟩ := hd
    have dis : ∀ b ∈ ownAs vs fs, b ∉ ownA v g := fun b hb z => d3 b z b hb rfl
    show Paired _ (v' :: vs) (f' :: fs) ∧ (ownAs (v' :: vs) (f' :: fs)).Nodup ∧ ∀ b ∈ ownAs (v' :: vs) (f' :: fs), _
    refine ⟨.cons hn (frs_monoA e hp fun a w ha => k a w (by rw [ownAs_cons]; exact List.mem_append_right _ ha) (dis a ha)), ?_, fun b hb => ?_⟩
    · rw [ownAs_cons, List.nodup_append]
      refine ⟨hd', d2, fun a ha b hb z => ?_⟩
      subst z
      rcases hnew a ha with q | q
      · exact dis a hb q
      · exact q (by rw [ownAs_cons]; exact List.mem_append_right _ hb)
    · rw [ownAs_cons, List.mem_append] at hb
      rcases hb with hb | hb
      · exact .inl hb
      · exact .inr ⟨by rw [ownAs_cons]; exact List.mem_append_right _ hb, dis b hb⟩
  | v :: vs, g :: fs, j + 1, u, f, .cons h hp, hd, h1, h2, k, hnew => by
    rw [ownAs_cons, List.nodup_append] at hd
    obtain ⟨d1, d2, d3⟩ := hd
    have h1 : vs[j]? = some u := by simpa using h1
    have h2 : fs[j]? = some f := by simpa using h2
    have hat := own_at h1 h2
    obtain ⟨r1, r2, r3⟩ := fr_set e hn hd' hp d2 h1 h2 (fun b w hb => k b w (by rw [ownAs_cons]; exact List.mem_append_right _ hb)) fun b hb => (hnew b hb).imp id fun q z => q (by rw [ownAs_cons]; exact List.mem_append_right _ z)
    have dis : ∀ b ∈ ownA v g, b ∉ ownA u f := fun b hb z => d3 b hb b (hat b z) rfl
    show Paired _ (v :: vs.set j v') (g :: fs.set j f') ∧ (ownAs (v :: vs.set j v') (g :: fs.set j f')).Nodup ∧ ∀ b ∈ ownAs (v :: vs.set j v') (g :: fs.set j f'), _
    refine ⟨.cons (h.monoA e fun a w ha => k a w (by rw [ownAs_cons]; exact List.mem_append_left _ ha) (dis a ha)) r1, ?_, fun b hb => ?_⟩
    · rw [ownAs_cons, List.nodup_append]
      refine ⟨d1, r2, fun a ha b hb z => ?_⟩
      subst z
      rcases r3 a hb with q | q
      · rcases hnew a q with q | q
        · exact dis a ha q
        · exact q (by rw [ownAs_cons]; exact List.mem_append_left _ ha)
      · exact d3 a ha a q.1 rfl
    · rw [ownAs_cons, List.mem_append] at hb
      rcases hb with hb | hb
      · exact .inr ⟨by rw [ownAs_cons]; exact List.mem_append_left _ hb, dis b hb⟩
      · exact (r3 b hb).imp id fun q => ⟨by rw [ownAs_cons]; exact List.mem_append_right _ q.1, q.2⟩
/-- one field more -/
theorem fr_app (e : Ext B B') {v' : V} {f' : Fo} (hn : FR1 K B' H' F' v' f') (hd' : (ownA v' f').Nodup) : ∀ {vs : List V} {fs : List Fo}, Paired (FR1 K B H F) vs fs → (ownAs vs fs).Nodup →
    (∀ b w, b ∈ ownAs vs fs → F b → H b = some w → F' b ∧ H' b = some w) → (∀ b ∈ ownA v' f', b ∉ ownAs vs fs) →
    Paired (FR1 K B' H' F') (vs ++ [v']) (fs ++ [f']) ∧ (ownAs (vs ++ [v']) (fs ++ [f'])).Nodup ∧ ∀ b ∈ ownAs (vs ++ [v']) (fs ++ [f']), b ∈ ownA v' f' ∨ b ∈ ownAs vs fs
  | _, _, .nil, _, _, _ => by
    refine ⟨.cons hn .nil, ?_, fun b hb => ?_⟩
    · show (ownAs [v'] [f']).Nodup
      rw [ownAs_cons]; simpa [ownAs] using hd'
    · have hb : b ∈ ownAs [v'] [f'] := hb
      rw [ownAs_cons] at hb
      left; simpa [ownAs] using hb
  | v :: vs, g :: fs, .cons h hp, hd, k, hnew => by
    rw [ownAs_cons, List.nodup_append] at hd
    obtain ⟨d1, d2, d3⟩ := hd
    obtain ⟨r1, r2, r3⟩ := fr_app e hn hd' hp d2 (fun b w hb => k b w (by rw [ownAs_cons]; exact List.mem_append_right _ hb)) fun b hb z => hnew b hb (by rw [ownAs_cons]; exact List.mem_append_right _ z)
    show Paired _ (v :: (vs ++ [v'])) (g :: (fs ++ [f'])) ∧ (ownAs (v :: (vs ++ [v'])) (g :: (fs ++ [f']))).Nodup ∧ ∀ b ∈ ownAs (v :: (vs ++ [v'])) (g :: (fs ++ [f'])), _
    refine ⟨.cons (h.monoA e fun a w ha => k a w (by rw [ownAs_cons]; exact List.mem_append_left _ ha)) r1, ?_, fun b hb => ?_⟩
    · rw [ownAs_cons, List.nodup_append]
      refine ⟨d1, r2, fun a ha b hb z => ?_⟩
      subst z
      rcases r3 a hb with q | q
      · exact hnew a q (by rw [ownAs_cons]; exact List.mem_append_left _ ha)
      · exact d3 a ha a q rfl
    · rw [ownAs_cons, List.mem_append] at hb
      rcases hb with hb | hb
      · exact .inr (by rw [ownAs_cons]; exact List.mem_append_left _ hb)
      · exact (r3 b hb).imp id fun q => by rw [ownAs_cons]; exact List.mem_append_right _ q
end
/-! ### names of fields -/
theorem look_zip : ∀ {ns : List Str} {vs : List V} {j : Nat} {n : Str} {u : V}, ns.Nodup → ns[j]? = some n → vs[j]? = some u → (ns.zip vs).lookup n = some u
  | [], _, _, _, _, _, h, _ => by simp at h
  | _ :: _, [], _, _, _, _, _, h => by simp at h
  | m :: ns, v :: vs, 0, n, u, _, h1, h2 => by
    cases h1; cases h2
    rw [List.zip_cons_cons, List.lookup_cons]; simp
  | m :: ns, v :: vs, j + 1, n, u, hd, h1, h2 => by
    rw [List.nodup_cons] at hd
    have h1 : ns[j]? = some n := by simpa using h1
    have h2 : vs[j]? = some u := by simpa using h2
    have hne : (n == m) = false := by
      rw [beq_eq_false_iff_ne]
      exact fun z => hd.1 (by rw [← z]; exact List.mem_of_getElem? h1)
    rw [List.zip_cons_cons, List.lookup_cons, hne]
    exact look_zip hd.2 h1 h2
theorem look_none : ∀ {ns : List Str} {vs : List V} {n : Str}, n ∉ ns → (ns.zip vs).lookup n = none
  | [], _, _, _ => rfl
  | _ :: _, [], _, _ => rfl
  | m :: ns, v :: vs, n, h => by
    have hne : (n == m) = false := by
      rw [beq_eq_false_iff_ne]
      exact fun z => h (by rw [z]; exact List.mem_cons_self)
    rw [List.zip_cons_cons, List.lookup_cons, hne]
    exact look_none fun z => h (List.mem_cons_of_mem _ z)
theorem put_zip {y : V} : ∀ {ns : List Str} {vs : List V} {j : Nat} {n : Str}, ns.Nodup → ns[j]? = some n → j < vs.length → putF n y (ns.zip vs) = ns.zip (vs.set j y)
  | [], _, _, _, _, h, _ => by simp at h
  | _ :: _, [], _, _, _, _, h => by simp at h
  | m :: ns, v :: vs, 0, n, _, h1, h2 => by
    cases h1
    rw [List.zip_cons_cons]
    show (if m = m then _ else _) = _
    rw [if_pos rfl]; rfl
  | m :: ns, v :: vs, j + 1, n, hd, h1, h2 => by
    rw [List.nodup_cons] at hd
    have h1 : ns[j]? = some n := by simpa using h1
    have hne : ¬ m = n := fun z => hd.1 (by rw [z]; exact List.mem_of_getElem? h1)
    rw [List.zip_cons_cons]
    show (if m = n then _ else _) = _
    rw [if_neg hne, put_zip hd.2 h1 (by simpa using h2)]; rfl
theorem put_app {y : V} : ∀ {ns : List Str} {vs : List V} {n : Str}, ns.Nodup → ns[vs.length]? = some n → putF n y (ns.zip vs) = ns.zip (vs ++ [y])
  | [], _, _, _, h => by simp at h
  | m :: ns, [], n, _, h => by
    simp at h
    subst h
    simp [putF]
  | m :: ns, v :: vs, n, hd, h1 => by
    rw [List.nodup_cons] at hd
    have h1 : ns[vs.length]? = some n := by simpa using h1
    have hne : ¬ m = n := fun z => hd.1 (by rw [z]; exact List.mem_of_getElem? h1)
    rw [List.zip_cons_cons]
    show (if m = n then _ else _) = _
    rw [if_neg hne, put_app hd.2 h1]; rfl
/-- what is asked of the text about a class -/
structure InsOk (K : PySem.W.Frag) (c : Nat) : Prop where
  cl : Cls K (Clz.ca c)
  no : ∀ f ∈ Clz.fn c, NoAttr K (Clz.ca c) f
  nd : (Clz.fn c).Nodup
  sm : (Clz.fn c).length ≤ 900
end Ev
end

section
set_option Elab.async false
set_option linter.all false
set_option maxRecDepth 100000
set_option maxHeartbeats 4000000
/-! Ev, part O: the rules of instances, texts put together, dict displays. -/
namespace Ev
open PySem PySem.Spec PyProof.Rows L2
variable [Γ : Clz]
section
variable {X : Cx} {K : PySem.W.Frag} {W : WX} {cls : Nat → Value} {cf : CallF} {G : Gs} {a b c e : Expr} {f g h : Rho → Out O} {pos : Pos}
theorem paired_at {α β : Type} {R : α → β → Prop} : ∀ {xs : List α} {ys : List β} {k : Nat} {x : α}, Paired R xs ys → xs[k]? = some x → ∃ y, ys[k]? = some y ∧ R x y
  | _, _, _, _, .nil, e => by simp at e
  | _, _, 0, _, .cons r _, e => by simp at e; subst e; exact ⟨_, rfl, r⟩
  | _, _, k + 1, _, .cons _ p, e => by
    obtain ⟨y, h1, h2⟩ := paired_at p (show _ = some _ by simpa using e)
    exact ⟨y, by simpa using h1, h2⟩
/-- an instance that stands in a slot -/
theorem slot_ins {B H : Hp} {w : Wn} {σ : L2.St} {ρ : Rho} (wf : Wf B H w) (en : EnvR K B H w σ ρ) {p : Nat} {o : O} (e : getS p ρ = some o) {c : Nat} {ds : List D} (ei : insO o = some (c, ds)) :
    ∃ a dx vs, σ[p]? = some (some (.ref a)) ∧ H a = some (.ins (Clz.ca c) dx ((Clz.fn c).zip vs)) ∧ vs.length ≤ (Clz.fn c).length := by
  obtain ⟨v, hv, ho⟩ := en.at' p o e
  cases ho with
  | ins f g ha hd hl hp hn => cases ei; exact ⟨_, _, _, hv, ha, hl⟩
  | d h => cases h with
    | ins hb hl hs => cases ei; exact ⟨_, _, _, hv, wf.sub.ins _ _ _ _ hb, hl⟩
    | _ => cases ei
  | _ => cases ei
theorem fld_ins {c j : Nat} {o : O} {r : D × O} (h : fldO c j o = some r) : ∃ ds, insO o = some (c, ds) := by
  unfold fldO at h
  split at h
  · split at h
    · rename_i e; subst e; exact ⟨_, rfl⟩
    · cases h
  · split at h
    · rename_i e; subst e; exact ⟨_, rfl⟩
    · cases h
  · cases h
/-- a field read: what it owns is data from here on -/
theorem fld_read {B H : Hp} {w : Wn} {σ : L2.St} {ρ : Rho} {t : Nat} (wf : Wf B H w) (en : EnvR K B H w σ ρ) {p c j : Nat} {o o' : O} {x : D} (I : InsOk K c) (e : getS p ρ = some o) (ef : fldO c j o = some (x, o')) :
    ∃ a dx vs u n, σ[p]? = some (some (.ref a)) ∧ H a = some (.ins (Clz.ca c) dx ((Clz.fn c).zip vs)) ∧ (Clz.fn c)[j]? = some n ∧ vs[j]? = some u ∧ ((Clz.fn c).zip vs).lookup n = some u ∧
      ∃ B' w', Stp t B H w B' H w' ∧ Wf B' H w' ∧ DR K B' u x ∧ EnvR K B' H w' σ (ρ.set p (some o')) ∧ (∀ k, TB k w → TB k w') := by
  obtain ⟨v, hv, ho⟩ := en.at' p o e
  have nm : ∀ (vs : List V), vs.length ≤ (Clz.fn c).length → ∀ u, vs[j]? = some u → ∃ n, (Clz.fn c)[j]? = some n ∧ ((Clz.fn c).zip vs).lookup n = some u := fun vs hl u hu => by
    have hj : j < vs.length := (List.getElem?_eq_some_iff.mp hu).1
    obtain ⟨n, hn⟩ : ∃ n, (Clz.fn c)[j]? = some n := ⟨_, List.getElem?_eq_getElem (by omega)⟩
    exact ⟨n, hn, look_zip I.nd hn hu⟩
  have keep : ∀ {o1 : O} {B' : Hp} {w' : Wn}, Ext B B' → (∀ b, w' b = w b ∨ (w b = some (.slot p) ∧ w' b = none)) → OR K B' H (fun b => w' b = some (.slot p)) v o1 → EnvR K B' H w' σ (ρ.set p (some o1)) := fun {o1 B' w'} ex hw ho1 => by
    refine ⟨by rw [List.length_set]; exact en.len, fun i o2 e2 => ?_⟩
    rw [getS_set] at e2
    by_cases hi : i = p
    · subst hi
      rw [if_pos rfl, if_pos (getS_lt e)] at e2
      cases e2
      exact ⟨v, hv, ho1⟩
    · rw [if_neg hi] at e2
      obtain ⟨v', hv', ho'⟩ := en.at' i o2 e2
      refine ⟨v', hv', ho'.mono ex fun b xs f hb => ⟨?_, hb⟩⟩
      rcases hw b with z | ⟨z, _⟩
      · rw [z]; exact f
      · rw [f] at z; cases z; exact absurd rfl hi
  cases ho with
  | d hd =>
    cases hd with
    | @ins a dx c' vs ds hb hl hs =>
      simp only [fldO] at ef
      split at ef
      · rename_i ec
        subst ec
        obtain ⟨y, ey, e2⟩ := Option.map_eq_some_iff.mp ef
        cases e2
        obtain ⟨u, hu, du⟩ := hs.get ey
        obtain ⟨n, hn, hlk⟩ := nm vs hl u hu
        refine ⟨a, dx, vs, u, n, hv, wf.sub.ins _ _ _ _ hb, hn, hu, hlk, B, w, Stp.refl t B H w, wf, du, ?_, fun k h => h⟩
        exact keep (Ext.refl B) (fun b => .inl rfl) (.d (.ins hb hl hs))
      · cases ef
    | _ => cases ef
  | @ins a dx c' vs fs f g ha hd hl hp hn =>
    simp only [fldO] at ef
    split at ef
    · rename_i ec
      subst ec
      split at ef
      · rename_i fo efo
        cases ef
        obtain ⟨u, hu, hf⟩ := paired_get hp efo
        obtain ⟨n, hnn, hlk⟩ := nm vs hl u hu
        obtain ⟨B', w', e1, e2, e3, e4, e5, e6, e7⟩ := freezeS wf (q := .slot p) (fun b => b ∈ ownA u fo) fun b hb => (own_kind hf hb).1
        have dr : DR K B' u (frzF fo) := by
          cases hf with
          | d h => exact h.ext e1
          | lst q hq hs => exact .lst (SqL.of ((e5 _ (List.mem_singleton.mpr rfl)).trans hq)) (hs.ext e1)
          | dct q hq hl hs => exact .dct (.inl ((e5 _ (List.mem_singleton.mpr rfl)).trans hq)) hl (hs.ext e1)
          | dtt q hq hl hs => exact .dtt (.inl ((e5 _ (List.mem_singleton.mpr rfl)).trans hq)) hl (hs.ext e1)
        have hmem := own_at hu efo
        obtain ⟨s1, s2, s3⟩ := fr_set (F' := fun b => w' b = some (.slot p)) (H' := H) e1 (v' := u) (f' := .d (frzF fo)) (.d dr) List.nodup_nil hp hn hu efo (fun b z hb hnb hF hz => ⟨by rw [e7 b hnb]; exact hF, hz⟩) (fun b hb => by cases hb)
        have hset : vs.set j u = vs := by
          apply List.ext_getElem?
          intro i
          by_cases hi : j = i
          · subst hi; rw [List.getElem?_set_self (List.getElem?_eq_some_iff.mp hu).1, hu]
          · rw [List.getElem?_set_ne hi]
        rw [hset] at s1 s2
        have na : a ∉ ownA u fo := fun z => own_nins hp (hmem a z) ha rfl
        have nd : dx ∉ ownA u fo := fun z => own_nown hp (hmem dx z) hd rfl
        refine ⟨a, dx, vs, u, n, hv, ha, hnn, hu, hlk, B', w', stp_of_freeze (fun k z => by cases z) e1 e3 e4, e2, dr, ?_, fun k h => h.frozen e3⟩
        exact keep e1 e3 (.ins (by rw [e7 a na]; exact f) (by rw [e7 dx nd]; exact g) ha hd hl s1 s2)
      · cases ef
    · cases ef
  | _ => cases ef
theorem se_fld {cc p j : Nat} {n : Str} (I : InsOk X.K cc) (hn : (Clz.fn cc)[j]? = some n) (ho : PE X a (tVar p)) (hb : attributeBase a n X.env (eval a X.env) = eval a X.env) :
    PE X (.Attribute a n pos) (tE X.K W cls (fun r => match getS p r with
      | none => .bad
      | some o => match fldO cc j o with
        | some (x, o') => .ok (.d x) (r.set p (some o'))
        | none => .bad)) := by
  refine PE.of (pe_fld ho hb) ?_
  rintro σ H Q ⟨t, B, w, ρ, a0, P⟩
  dsimp only at P
  split at P
  · exact P.elim
  · rename_i o e
    split at P
    · rename_i x o' ef
      obtain ⟨ad, dx, vs, u, n', hv, ha, hn', hu, hlk, B', w', st, wf, dr, en, tb⟩ := fld_read (t := t) a0.wf a0.env I e ef
      rw [hn] at hn'; cases hn'
      exact ⟨_, hv, ad, _, dx, _, u, rfl, ha, I.cl, I.no n (List.mem_of_getElem? hn), hlk, P _ _ _ _ st wf ((tb t a0.tb).mono (Nat.le_succ t)) en (.d dr)⟩
    · exact P.elim
/-! ### methods -/
def tMethS (C : Addr) (m : Str) (sp : Sp) (E : L2.St → XK) (ta : TE) (t : TA) : TE := fun σ H Q => ta σ H fun x H1 => ∃ a dx fs, x = .ref a ∧ H1 a = some (.ins C dx fs) ∧ fs.lookup m = none ∧
  t σ H1 fun vs H2 => sp (x :: vs) H2 Q (E σ)
theorem pe_methE {CX : CXT} {k : Nat} {f C : Addr} {fd : FuncData} {ps : List Str} {sp : Sp} {E : L2.St → XK} {m : Str} {apos : Pos} {e o : Expr} {es : List Expr} {ta : TE} {t : TA} {pl : Sem Bool} (he : PE X o ta) (cl : Cls X.K C) (hm : Meth X.K C m f)
    (F : FnOk X.prog X.w X.K X.mg X.base CX k f fd ps sp) (hr : Room k X.A) (hb : Binds X.K fd ps []) (hx : ∀ σ, PassesAt CX X σ (E σ)) (ha : PA X (e :: es) t)
    (hst : starEach (e :: es) X.env = (false, eval e X.env) :: starEach es X.env) (hpl : (backTo pos (starEach es X.env)).any (·.1) = false)
    (ht : eval (.Call (.Attribute o m apos) (e :: es) [] pos) X.env = (do
      let ov ← eval o X.env
      standAt apos.atName
      let (f, first) ← holding [ov] (getMethod ov m pl)
      callWith pos f first (backTo pos (starEach (e :: es) X.env)) (backToKw pos (keywordEach [] X.env)))) :
    PE X (.Call (.Attribute o m apos) (e :: es) [] pos) (tMethS C m sp E ta t) := by
  refine ⟨fun pins s σ H Q I h => ?_⟩
  refine PySem.W.methodCall_KW (pl := pl) (thn (he.run pins s σ H _ I h) fun u s1 ⟨x, H1, I1, rx, a, dx, fs, ex, ea, l, q⟩ => ?_) ht
  subst ex
  obtain rfl : u = Value.ref a := rx
  refine getmeth_ok I1 ea cl hm l ?_
  refine PySem.W.callWith_K (first := [.ref a]) (h₀ := X.base) I.ok.mod.kin hm.kp (thn (ha.run pos pins s1 σ H1 _ I1 q) fun us s2 ⟨vs, H2, I2, r, q2⟩ => ⟨I2.kIn, ?_⟩) hst hpl
  exact run_fnS (us := .ref a :: us) (vs := .ref a :: vs) F hr hb (hx σ) I2 (.cons rfl r) q2
theorem pe_methE0 {CX : CXT} {k : Nat} {f C : Addr} {fd : FuncData} {ps : List Str} {sp : Sp} {E : L2.St → XK} {m : Str} {apos : Pos} {o : Expr} {ta : TE} {pl : Sem Bool} (he : PE X o ta) (cl : Cls X.K C) (hm : Meth X.K C m f)
    (F : FnOk X.prog X.w X.K X.mg X.base CX k f fd ps sp) (hr : Room k X.A) (hb : Binds X.K fd ps []) (hx : ∀ σ, PassesAt CX X σ (E σ))
    (ht : eval (.Call (.Attribute o m apos) [] [] pos) X.env = (do
      let ov ← eval o X.env
      standAt apos.atName
      let (f, first) ← holding [ov] (getMethod ov m pl)
      callWith pos f first (backTo pos (starEach [] X.env)) (backToKw pos (keywordEach [] X.env)))) :
    PE X (.Call (.Attribute o m apos) [] [] pos) (tMethS C m sp E ta tNil) := by
  refine ⟨fun pins s σ H Q I h => ?_⟩
  refine PySem.W.methodCall_KW (pl := pl) (thn (he.run pins s σ H _ I h) fun u s1 ⟨x, H1, I1, rx, a, dx, fs, ex, ea, l, q⟩ => ?_) ht
  subst ex
  obtain rfl : u = Value.ref a := rx
  refine getmeth_ok I1 ea cl hm l ?_
  exact PySem.W.callWith_K0 (first := [.ref a]) I1.kIn hm.kp (run_fnS (us := [.ref a]) (vs := [.ref a]) F hr hb (hx σ) I1 (.cons rfl .nil) q)
/-- a method of the text that comes to what cf says -/
structure MtAt (X : Cx) (cls : Nat → Value) (k : Nat) (cf : CallF) (cc : Nat) (m : Str) (f : Nat) : Prop where
  ex : ∃ (ad : Addr) (fd : FuncData) (ps : List Str) (np : Nat), Meth X.K (Clz.ca cc) m ad ∧ m ∉ Clz.fn cc ∧ Binds X.K fd ps [] ∧ FnOk X.prog X.w X.K X.mg X.base (L2.CX X.prog X.w) k ad fd ps (spF X.K cls np (cf f)) ∧ (∀ os, cf f os ≠ .bad → os.length = np)
theorem meth_read {cc f p : Nat} {g : Rho → Out (List (Sum D Nat))} {m : Str} {np : Nat} (hno : m ∉ Clz.fn cc) (hnp : ∀ os, cf f os ≠ .bad → os.length = np) {ta : TA} (hta : ∀ σ H Q, tAs X.K W cls g σ H Q → ta σ H Q) : ∀ σ H Q,
    tE X.K W cls (fun r => match getS p r with
      | none => .bad
      | some o => match insO o with
        | some (c', _) => if c' = cc then (g r).bind fun as r => callO cf f (.inr p :: as) r else .bad
        | none => .bad) σ H Q → tMethS (Clz.ca cc) m (spF X.K cls np (cf f)) (WE W) (tVar p) ta σ H Q := by
  rintro σ H Q ⟨t, B, w, ρ, a0, P⟩
  dsimp only at P
  split at P
  · exact P.elim
  · rename_i o e
    split at P
    · rename_i c' ds ei
      split at P
      · rename_i ec
        subst ec
        obtain ⟨a, dx, vs, hv, ha, hl⟩ := slot_ins a0.wf a0.env e ei
        refine ⟨_, hv, a, dx, _, rfl, ha, look_none hno, hta σ H _ ⟨t, B, w, ρ, a0, bindP P (Nat.le_refl t) fun vs H1 B1 w1 as ρ1 _ st1 wf1 tb1 en1 r1 P1 => ?_⟩⟩
        exact call_core ⟨wf1, tb1, en1⟩ (.cons (show ArgR X.K B1 σ (.ref a) (.inr p) from hv) r1) P1 hnp
      · exact P.elim
    · exact P.elim
theorem se_meth {k cc f p : Nat} {m : Str} {e : Expr} {es : List Expr} {g : Rho → Out (List (Sum D Nat))} {apos : Pos} {pl : Sem Bool} (I : InsOk X.K cc) (hr : Room k X.A) (M : MtAt X cls k cf cc m f) (tk : Takes X W) (ho : PE X a (tVar p)) (hd : (e :: es).all hdOk = true) (ha : PA X (e :: es) (tAs X.K W cls g))
    (ht : eval (.Call (.Attribute a m apos) (e :: es) [] pos) X.env = (do
      let ov ← eval a X.env
      standAt apos.atName
      let (f, first) ← holding [ov] (getMethod ov m pl)
      callWith pos f first (backTo pos (starEach (e :: es) X.env)) (backToKw pos (keywordEach [] X.env)))) :
    PE X (.Call (.Attribute a m apos) (e :: es) [] pos) (tE X.K W cls (fun r => match getS p r with
      | none => .bad
      | some o => match insO o with
        | some (c', _) => if c' = cc then (g r).bind fun as r => callO cf f (.inr p :: as) r else .bad
        | none => .bad)) := by
  obtain ⟨ad, fd, ps, np, hm, hno, hb, F, hnp⟩ := M.ex
  rw [List.all_cons, Bool.and_eq_true] at hd
  exact PE.of (pe_methE ho I.cl hm F hr hb (fun σ => passAt tk σ) ha (star_ok hd.1) (any_plain hd.2) ht) (meth_read hno hnp fun _ _ _ q => q)
theorem se_meth0 {k cc f p : Nat} {m : Str} {apos : Pos} {pl : Sem Bool} (I : InsOk X.K cc) (hr : Room k X.A) (M : MtAt X cls k cf cc m f) (tk : Takes X W) (ho : PE X a (tVar p))
    (ht : eval (.Call (.Attribute a m apos) [] [] pos) X.env = (do
      let ov ← eval a X.env
      standAt apos.atName
      let (f, first) ← holding [ov] (getMethod ov m pl)
      callWith pos f first (backTo pos (starEach [] X.env)) (backToKw pos (keywordEach [] X.env)))) :
    PE X (.Call (.Attribute a m apos) [] [] pos) (tE X.K W cls (fun r => match getS p r with
      | none => .bad
      | some o => match insO o with
        | some (c', _) => if c' = cc then ((Out.ok [] r : Out (List (Sum D Nat)))).bind fun as r => callO cf f (.inr p :: as) r else .bad
        | none => .bad)) := by
  obtain ⟨ad, fd, ps, np, hm, hno, hb, F, hnp⟩ := M.ex
  refine PE.of (pe_methE0 ho I.cl hm F hr hb (fun σ => passAt tk σ) ht) (meth_read hno hnp (g := fun r => .ok [] r) fun σ H Q q => ?_)
  obtain ⟨t, B, w, ρ, a, P⟩ := q
  exact P [] B H w (Stp.refl t B H w) a.wf a.tb a.env .nil
/-! ### a new instance -/
theorem getS_app {ρ : Rho} {y : Option O} {i : Nat} (h : i < ρ.length) : getS i (ρ ++ [y]) = getS i ρ := by
  unfold getS; rw [List.getElem?_append_left h]
theorem getS_last {ρ : Rho} {y : Option O} : getS ρ.length (ρ ++ [y]) = y := by
  unfold getS; rw [List.getElem?_append_right (Nat.le_refl _)]; simp; cases y <;> rfl
theorem set_app {ρ : Rho} {y x : Option O} {i : Nat} (h : i < ρ.length) : (ρ ++ [y]).set i x = ρ.set i x ++ [y] := by
  rw [List.set_append, if_pos h]
theorem lend_ext : ∀ {as : List (Sum D Nat)} {ρ : Rho} {os : List O} {y : Option O}, lendAll as ρ = some os → lendAll as (ρ ++ [y]) = some os
  | [], _, _, _, h => h
  | .inl d :: as, ρ, os, y, h => by
    simp only [lendAll] at h ⊢
    split at h
    · rename_i os1 e; cases h; rw [lend_ext e]
    · cases h
  | .inr i :: as, ρ, os, y, h => by
    simp only [lendAll] at h ⊢
    split at h
    · cases h
    · rename_i o eo
      have hi := getS_lt eo
      rw [getS_app hi, eo, set_app hi]
      split at h
      · rename_i os1 e; cases h; simp only [lend_ext e]
      · cases h
theorem lend_lt : ∀ {as : List (Sum D Nat)} {ρ : Rho} {os : List O}, lendAll as ρ = some os → ∀ i, .inr i ∈ as → i < ρ.length
  | [], _, _, _, i, hi => by cases hi
  | .inl d :: as, ρ, os, h, i, hi => by
    simp only [lendAll] at h
    split at h
    · rename_i os1 e
      cases hi with
      | tail _ hi => exact lend_lt e i hi
    · cases h
  | .inr j :: as, ρ, os, h, i, hi => by
    simp only [lendAll] at h
    split at h
    · cases h
    · rename_i o eo
      split at h
      · rename_i os1 e
        cases hi with
        | head => exact getS_lt eo
        | tail _ hi => have := lend_lt e i hi; rwa [List.length_set] at this
      · cases h
theorem back_ext : ∀ {as : List (Sum D Nat)} {os : List O} {ρ : Rho} {y : Option O}, (∀ i, .inr i ∈ as → i < ρ.length) → backAll as os (ρ ++ [y]) = backAll as os ρ ++ [y]
  | [], _, _, _, _ => rfl
  | .inl d :: as, [], _, _, _ => rfl
  | .inl d :: as, o :: os, ρ, y, h => by
    simp only [backAll]
    exact back_ext fun i hi => h i (List.mem_cons_of_mem _ hi)
  | .inr i :: as, [], _, _, _ => rfl
  | .inr i :: as, o :: os, ρ, y, h => by
    simp only [backAll]
    rw [back_ext fun i hi => h i (List.mem_cons_of_mem _ hi), set_app (by rw [back_len]; exact h i List.mem_cons_self)]
/-- the last slot of a longer frame, taken as temporary t -/
def lastT (n t : Nat) (w : Wn) : Wn := fun a => match w a with
  | some (.slot i) => if i = n then some (.tmp t) else some (.slot i)
  | some (.tmp k) => if k < t then some (.tmp k) else none
  | none => none
theorem lastT_some {n t : Nat} {w : Wn} {a : Addr} {q : Own} (h : lastT n t w a = some q) : ∃ q', w a = some q' := by
  unfold lastT at h
  cases e : w a with
  | none => rw [e] at h; cases h
  | some q' => exact ⟨q', rfl⟩
theorem stp_last {n t : Nat} {B H : Hp} {w : Wn} : Stp t B H w B H (lastT n t w) := ⟨Ext.refl B, fun a o h e => ⟨h, by unfold lastT; rw [e]⟩, fun a o k h e hk => ⟨h, by unfold lastT; rw [e]; simp [hk]⟩, fun _ _ h => .inl h⟩
theorem back_last {B H : Hp} {w : Wn} {σ : L2.St} {ρ : Rho} {x : V} {o : O} {t : Nat} (hl : ρ.length = σ.length) (wf : Wf B H w) (en : EnvR K B H w (σ ++ [some x]) (ρ ++ [some o])) :
    Wf B H (lastT ρ.length t w) ∧ TB (t + 1) (lastT ρ.length t w) ∧ EnvR K B H (lastT ρ.length t w) σ ρ ∧ OR K B H (fun a => lastT ρ.length t w a = some (.tmp t)) x o := by
  refine ⟨⟨wf.sub, fun a q e => ?_, fun a q e => ?_⟩, fun a k e => ?_, ⟨hl, fun i o' e => ?_⟩, ?_⟩
  · obtain ⟨q', e'⟩ := lastT_some e; exact wf.off a q' e'
  · obtain ⟨q', e'⟩ := lastT_some e; exact wf.live a q' e'
  · unfold lastT at e
    split at e
    · split at e
      · cases e; exact Nat.lt_succ_self t
      · cases e
    · split at e
      · cases e; omega
      · cases e
    · cases e
  · have hi := getS_lt e
    obtain ⟨v, hv, ho⟩ := en.at' i o' (by rw [getS_app hi]; exact e)
    rw [List.getElem?_append_left (by omega)] at hv
    refine ⟨v, hv, ho.mono (Ext.refl B) fun b u f hb => ⟨?_, hb⟩⟩
    unfold lastT
    rw [f]
    have : i ≠ ρ.length := by omega
    simp [this]
  · obtain ⟨v, hv, ho⟩ := en.at' ρ.length o getS_last
    rw [hl, List.getElem?_append_right (Nat.le_refl _)] at hv
    simp at hv
    subst hv
    refine ho.mono (Ext.refl B) fun b u f hb => ⟨?_, hb⟩
    unfold lastT
    rw [f]
    simp
/-- the promise of __init__, from what is wanted behind the making -/
theorem new_core {f np cc t : Nat} {σ : L2.St} {B H : Hp} {w : Wn} {ρ : Rho} {as : List (Sum D Nat)} {vs : List V} {Q : VK} (a : At K t B H w σ ρ) (p : Paired (ArgR K B σ) vs as) (P : PostG K W cls σ t (t + 1) B H w (RE K σ t) (newO cf cc f as ρ) Q)
    (hnp : ∀ os, cf f os ≠ .bad → os.length = np) {x dx : Addr} (nx : H x = none) (nd : H dx = none) (ne : dx ≠ x) :
    spF K cls np (cf f) (.ref x :: vs) (upd (upd H dx (.own x)) x (.ins (Clz.ca cc) dx [])) (fun v H2 => v = .non ∧ Q (.ref x) H2) (WE W σ) := by
  unfold newO at P
  cases hl : lendAll as ρ with
  | none => rw [hl] at P; exact P.elim
  | some os =>
    rw [hl] at P
    dsimp only at P
    have nx2 : upd H dx (.own x) x = none := by rw [upd_ne (Ne.symm ne)]; exact nx
    have hlen := a.env.len
    -- the longer frame
    obtain ⟨n, hn⟩ : ∃ n, n = ρ.length := ⟨_, rfl⟩
    have st1 : Stp t B H w B (upd H dx (.own x)) (putW w dx (some (.slot n))) := stp_new nd _ _
    have wf1 : Wf B (upd H dx (.own x)) (putW w dx (some (.slot n))) := a.wf.new nd _ _
    have en1 : EnvR K B (upd H dx (.own x)) (putW w dx (some (.slot n))) σ ρ := a.env.new nd _ _
    have st2 : Stp t B (upd H dx (.own x)) (putW w dx (some (.slot n))) B (upd (upd H dx (.own x)) x (.ins (Clz.ca cc) dx [])) (putW (putW w dx (some (.slot n))) x (some (.slot n))) := stp_new nx2 _ _
    have wf2 := wf1.new nx2 (.ins (Clz.ca cc) dx []) (some (.slot n))
    have en2 := en1.new nx2 (.ins (Clz.ca cc) dx []) (some (.slot n))
    have wx : putW (putW w dx (some (.slot n))) x (some (.slot n)) x = some (.slot n) := putW_same
    have wd : putW (putW w dx (some (.slot n))) x (some (.slot n)) dx = some (.slot n) := by rw [putW_ne ne, putW_same]
    have tb2 : TB t (putW (putW w dx (some (.slot n))) x (some (.slot n))) := fun b k e => by
      by_cases hb : b = x
      · subst hb; rw [putW_same] at e; cases e
      · rw [putW_ne hb] at e
        by_cases hb2 : b = dx
        · subst hb2; rw [putW_same] at e; cases e
        · rw [putW_ne hb2] at e; exact a.tb b k e
    have st12 := st1.trans st2
    have hx2 : upd (upd H dx (.own x)) x (.ins (Clz.ca cc) dx []) x = some (.ins (Clz.ca cc) dx []) := upd_same
    have hd2 : upd (upd H dx (.own x)) x (.ins (Clz.ca cc) dx []) dx = some (.own x) := by rw [upd_ne ne, upd_same]
    generalize upd (upd H dx (.own x)) x (.ins (Clz.ca cc) dx []) = H2 at *
    generalize putW (putW w dx (some (.slot n))) x (some (.slot n)) = w2 at *
    have en3 : EnvR K B H2 w2 (σ ++ [some (.ref x)]) (ρ ++ [some (O.ins cc [])]) := by
      refine ⟨by rw [List.length_append, List.length_append, hlen]; rfl, fun i o e => ?_⟩
      by_cases hi : i < ρ.length
      · rw [getS_app hi] at e
        obtain ⟨v, hv, ho⟩ := en2.at' i o e
        exact ⟨v, by rw [List.getElem?_append_left (by omega)]; exact hv, ho⟩
      · have hi' := getS_lt e
        rw [List.length_append, List.length_singleton] at hi'
        have hi2 : i = ρ.length := by omega
        subst hi2
        rw [getS_last] at e
        cases e
        refine ⟨.ref x, by rw [hlen, List.getElem?_append_right (Nat.le_refl _)]; simp, ?_⟩
        rw [← hn]
        exact OR.ins (c := cc) (vs := []) (fs := []) wx wd (by rw [List.zip_nil_right]; exact hx2) hd2 (Nat.zero_le _) .nil List.nodup_nil
    have a3 : At K t B H2 w2 (σ ++ [some (.ref x)]) (ρ ++ [some (.ins cc [])]) := ⟨wf2, tb2, en3⟩
    have p3 : Paired (ArgR K B (σ ++ [some (.ref x)])) (.ref x :: vs) (.inr n :: as) := by
      refine .cons ?_ (Paired.mono (fun v y h => ?_) p)
      · show (σ ++ [some (.ref x)])[n]? = _
        rw [hn, hlen, List.getElem?_append_right (Nat.le_refl _)]; simp
      · cases y with
        | inl d => exact h
        | inr i =>
          have h : σ[i]? = some (some v) := h
          show (σ ++ [some (.ref x)])[i]? = some (some v)
          rw [List.getElem?_append_left (List.getElem?_eq_some_iff.mp h).1]; exact h
    have hl3 : lendAll (.inr n :: as) (ρ ++ [some (.ins cc [])]) = some (.ins cc [] :: os) := by
      simp only [lendAll]
      rw [hn, getS_last]
      have es : (ρ ++ [some (O.ins cc [])]).set ρ.length none = ρ ++ [none] := by
        rw [List.set_append, if_neg (Nat.lt_irrefl _), Nat.sub_self]; rfl
      dsimp only
      rw [es, lend_ext hl]
    obtain ⟨wfa, tba, ar⟩ := args_in a3 p3 hl3
    have hback : ∀ o0 os', backAll (.inr n :: as) (o0 :: os') (ρ ++ [some (.ins cc [])]) = backAll as os' ρ ++ [some o0] := fun o0 os' => by
      simp only [backAll]
      rw [back_ext (lend_lt hl), List.set_append, if_neg (by rw [back_len]; omega), back_len, hn, Nat.sub_self]; rfl
    have hb : cf f (.ins cc [] :: os) ≠ .bad := fun e => by simp only [e] at P; exact P
    refine ⟨B, lendW (.inr n :: as) w2, .ins cc [] :: os, wfa, tba, ar, by rw [ar.1]; exact hnp _ hb, ?_⟩
    cases e : cf f (O.ins cc [] :: os) with
    | bad => exact hb e
    | ok r os1 =>
      simp only [e] at P
      intro v B' H' w' st wf' tb' ho ao
      obtain ⟨st4, wf4, en4, ht, tb4⟩ := args_out a3 p3 hl3 st wf' ao
      cases os1 with
      | nil => cases r <;> first | exact P.elim | (rename_i d; cases d <;> exact P.elim)
      | cons o0 os' =>
        cases r with
        | d d =>
          cases d with
          | non =>
            dsimp only at P
            rw [hback] at en4
            have hl5 : (backAll as os' ρ).length = σ.length := by rw [back_len]; exact hlen
            obtain ⟨q1, q2, q3, q4⟩ := back_last (t := t) hl5 wf4 en4
            refine ⟨by cases ho with | d h => cases h; rfl, ?_⟩
            exact P _ B' H' _ ((st12.trans st4).trans stp_last) q1 q2 q3 q4
          | _ => exact P.elim
        | _ => exact P.elim
    | exc kk y os1 =>
      simp only [e] at P
      intro d B' H' w' st wf' ao hxr
      obtain ⟨st4, wf4, en4, ht, tb4⟩ := args_out a3 p3 hl3 st wf' ao
      cases os1 with
      | nil => exact P.elim
      | cons o0 os' =>
        dsimp only at P
        rw [hback] at en4
        have hl5 : (backAll as os' ρ).length = σ.length := by rw [back_len]; exact hlen
        obtain ⟨q1, q2, q3, q4⟩ := back_last (t := t) hl5 wf4 en4
        exact P d B' H' _ ((st12.trans st4).trans stp_last) q1 q3 hxr
def tMakeS (C : Addr) (sp : Sp) (E : L2.St → XK) (t : TA) : TE := fun σ H Q => t σ H fun vs H1 => ∀ x dx, H1 x = none → H1 dx = none → dx ≠ x →
  sp (.ref x :: vs) (upd (upd H1 dx (.own x)) x (.ins C dx [])) (fun v H2 => v = .non ∧ Q (.ref x) H2) (E σ)
theorem run_makeE {CX : CXT} {k : Nat} {f C : Addr} {fd : FuncData} {ps : List Str} {sp : Sp} {E : L2.St → XK} {pins : List (Addr × Obj)} {σ : L2.St} {H : Hp} {s : Shared} {Q : VK} {us : List Value} {vs : List V} (M : Mk X.K C f) (F : FnOk X.prog X.w X.K X.mg X.base CX k f fd ps sp) (hr : Room (k + 1) X.A) (hb : Binds X.K fd ps [])
    (hx : ∀ σ, PassesAt CX X σ (E σ)) (I : Inv X pins σ H s) (r : Vals vs us)
    (h : ∀ x dx, H x = none → H dx = none → dx ≠ x → sp (.ref x :: vs) (upd (upd H dx (.own x)) x (.ins C dx [])) (fun v H2 => v = .non ∧ Q (.ref x) H2) (E σ)) :
    wpAny (model X.prog X.w) X.A (call (.ref C) us) (EP X pins σ Q) X.xe s := by
  have hq := h (s.heap.objs.size + 1) s.heap.objs.size (I.hok.fresh (Nat.le_succ _)) (I.hok.fresh (Nat.le_refl _)) (Nat.ne_of_lt (Nat.lt_succ_self _))
  have I2 := Inv.made (C := C) I
  have r2 : Vals (V.ref (s.heap.objs.size + 1) :: vs) (Value.ref (s.heap.objs.size + 1) :: us) := .cons rfl r
  have hl : (Value.ref (s.heap.objs.size + 1) :: us).length = ps.length := by
    have e := r2.length
    rw [F.len _ _ _ _ hq] at e
    exact e.symm
  have hb2 := hb _ (Value.ref (s.heap.objs.size + 1) :: us) I2.kIn (by rw [List.append_nil]; exact hl)
  rw [List.append_nil] at hb2
  refine wpAny_call (make_map (f := f) I.kIn M.makes M.init (beq_iff_eq.mp M.fn) (codeAny_mono (F.run _ X.stack _ _ ⟨Value.ref (s.heap.objs.size + 1) :: us, []⟩ (Value.ref (s.heap.objs.size + 1) :: us) _ _ (E σ) (hr.make C us [])
    (I2.env0.make C us []) hb2 r2 hq) fun r s' hq' => ?_))
  cases r with
  | error e => exact hx σ pins _ _ e s' I2 hq'
  | ok fl =>
    cases fl with
    | ret u =>
      obtain ⟨v, H', I3, rv, ev, q3⟩ := I2.after hq'
      subst ev
      exact ⟨rv, ⟨V.ref (s.heap.objs.size + 1), H', I3, rfl, q3⟩⟩
    | next => exact False.elim hq'
    | brk => exact False.elim hq'
    | cont => exact False.elim hq'
/-- a class of the text that is made by what cf says -/
structure MkAt (X : Cx) (cls : Nat → Value) (k : Nat) (cf : CallF) (x : Str) (cc f : Nat) : Prop where
  ex : ∃ (ad : Addr) (fd : FuncData) (ps : List Str) (np : Nat), X.mg x = some (.ref (Clz.ca cc)) ∧ Mk X.K (Clz.ca cc) ad ∧ Binds X.K fd ps [] ∧ FnOk X.prog X.w X.K X.mg X.base (L2.CX X.prog X.w) k ad fd ps (spF X.K cls np (cf f)) ∧ (∀ os, cf f os ≠ .bad → os.length = np)
theorem se_new {k cc f : Nat} {x : Str} {e : Expr} {es : List Expr} {g : Rho → Out (List (Sum D Nat))} {p : Pos} (hr : Room (k + 1) X.A) (hg : Gl X x) (M : MkAt X cls k cf x cc f) (tk : Takes X W) (hdb : (x == ("__debug__" : Str)) = false) (hd : (e :: es).all hdOk = true) (ha : PA X (e :: es) (tAs X.K W cls g)) :
    PE X (.Call (.Name x p) (e :: es) [] pos) (tE X.K W cls (fun r => (g r).bind fun as r => newO cf cc f as r)) := by
  obtain ⟨ad, fd, ps, np, hm, mk, hb, F, hnp⟩ := M.ex
  rw [List.all_cons, Bool.and_eq_true] at hd
  have base : PE X (.Call (.Name x p) (e :: es) [] pos) (tMakeS (Clz.ca cc) (spF X.K cls np (cf f)) (WE W) (tAs X.K W cls g)) := by
    refine ⟨fun pins s σ H Q I h => ?_⟩
    refine wpAny_Call_Name_kw (ld_glob I hg hm ?_ hdb)
    refine PySem.W.callWith_K (h₀ := X.base) I.ok.mod.kin mk.kp (thn (ha.run pos pins s σ H _ I h) fun us s1 ⟨vs, H1, I1, r, q⟩ => ⟨I1.kIn, ?_⟩) (star_ok hd.1) (any_plain hd.2)
    exact run_makeE mk F hr hb (fun σ => passAt tk σ) I1 r q
  refine PE.of base ?_
  rintro σ H Q ⟨t, B, w, ρ, a, P⟩
  refine ⟨t, B, w, ρ, a, bindP P (Nat.le_refl t) fun vs H1 B1 w1 as ρ1 _ st1 wf1 tb1 en1 r1 P1 => ?_⟩
  exact fun x dx nx nd ne => new_core ⟨wf1, tb1, en1⟩ r1 P1 hnp nx nd ne
theorem se_new0 {k cc f : Nat} {x : Str} {p : Pos} (hr : Room (k + 1) X.A) (hg : Gl X x) (M : MkAt X cls k cf x cc f) (tk : Takes X W) (hdb : (x == ("__debug__" : Str)) = false) :
    PE X (.Call (.Name x p) [] [] pos) (tE X.K W cls (fun r => ((Out.ok [] r : Out (List (Sum D Nat)))).bind fun as r => newO cf cc f as r)) := by
  obtain ⟨ad, fd, ps, np, hm, mk, hb, F, hnp⟩ := M.ex
  have base : PE X (.Call (.Name x p) [] [] pos) (tMakeS (Clz.ca cc) (spF X.K cls np (cf f)) (WE W) tNil) := by
    refine ⟨fun pins s σ H Q I h => ?_⟩
    refine wpAny_Call_Name_kw (ld_glob I hg hm ?_ hdb)
    exact PySem.W.callWith_K0 I.kIn mk.kp (run_makeE (us := []) mk F hr hb (fun σ => passAt tk σ) I .nil h)
  refine PE.of base ?_
  rintro σ H Q ⟨t, B, w, ρ, a, P⟩
  exact fun x dx nx nd ne => new_core a .nil P hnp nx nd ne
/-! ### texts put together -/
theorem allS_sound {H : Hp} : ∀ {vs : List V} {ds : List D} {is : List Str}, DRs K H vs ds → allS ds = some is → vs = is.map V.str := by
  intro vs ds is h e
  induction ds generalizing vs is with
  | nil => cases h; cases e; rfl
  | cons d r ih => cases h with | cons hd hs =>
    cases hd with
    | str i =>
      simp only [allS] at e
      split at e
      · rename_i js ej
        cases e
        rw [ih hs ej]; rfl
      · cases e
    | _ => cases e
theorem se_join {apos : Pos} (hd : hdOk b = true) (ho : PE X a (tE X.K W cls f)) (he : PE X b (tE X.K W cls g)) (hbase : attributeBase a "join" X.env (eval a X.env) = eval a X.env) (hline : (apos.endLine == pos.line) = true) :
    PE X (.Call (.Attribute a "join" apos) [b] [] pos) (tE X.K W cls (fun r => (f r).bind fun x r => match x with
      | .d (.str s) => (g r).bind fun y r => Out.of (joinO s y) r
      | _ => .bad)) := by
  refine PE.of (pe_join ho he (by rw [star_ok hd] <;> rfl) hbase hline) ?_
  rintro σ H Q ⟨t, B, w, ρ, a, P⟩
  refine ⟨t, B, w, ρ, a, bindP P (Nat.le_refl t) fun v1 H1 B1 w1 x ρ1 _ st1 wf1 tb1 en1 r1 P1 => ?_⟩
  split at P1
  · rename_i z _
    cases r1 with | d r1 =>
    cases r1
    refine ⟨⟨_, rfl⟩, t, B1, dropT t w1, ρ1, ⟨wf1.drop, TB.drop t w1, en1.drop⟩, bindP (P1.after (stp_drop t B1 H1 w1)) (Nat.le_refl t) fun v2 H2 B2 w2 y ρ2 _ st2 wf2 tb2 en2 r2 P2 => ?_⟩
    cases e : joinO z y with
    | none => rw [e] at P2; exact P2.elim
    | some zz =>
      rw [e] at P2
      unfold joinO at e
      split at e
      · rename_i xs es
        split at e
        · rename_i ys ey
          split at e
          · rename_i hb
            cases e
            have fr := r2.ro.frz wf2.sub
            unfold seqO at es
            split at es
            · rename_i xs' ex
              cases es
              rw [ex] at fr
              cases fr with
              | lst hq hs =>
                have ev := allS_sound hs ey
                subst ev
                exact ⟨z, _, ys, rfl, rfl, .inl hq, Nat.le_trans hb (by decide), fin_str (finO P2 wf2 en2)⟩
            · rename_i xs' ex
              cases es
              rw [ex] at fr
              cases fr with
              | tup hq hs =>
                have ev := allS_sound hs ey
                subst ev
                exact ⟨z, _, ys, rfl, rfl, .inr hq, Nat.le_trans hb (by decide), fin_str (finO P2 wf2 en2)⟩
            · cases es
          · cases e
        · cases e
      · cases e
  · exact P1.elim
theorem se_lset {p p2 q pos : Pos} (hc : X.calm = true) (g1 : Gl X "len") (m1 : X.mg "len" = none) (g2 : Gl X "set") (m2 : X.mg "set" = none) (hd : hdOk a = true) (ha : PE X a (tE X.K W cls f)) :
    PE X (.Call (.Name "len" p) [.Call (.Name "set" p2) [a] [] q] [] pos) (tE X.K W cls (fun r => (f r).bind fun x r => Out.of (lsetO x) r)) := by
  refine PE.of (pe_lset hc g1 m1 g2 m2 ha (star_ok hd)) ?_
  rintro σ H Q ⟨t, B, w, ρ, a, P⟩
  refine ⟨t, B, w, ρ, a, bindP P (Nat.le_refl t) fun v H1 B1 w1 x ρ1 _ st1 wf1 tb1 en1 r1 P1 => ?_⟩
  cases e : lsetO x with
  | none => rw [e] at P1; exact P1.elim
  | some z =>
    rw [e] at P1
    unfold lsetO at e
    split at e
    · rename_i xs es
      split at e
      · rename_i ys ey
        split at e
        · rename_i hb
          cases e
          have fr := r1.ro.frz wf1.sub
          unfold seqO at es
          split at es
          · rename_i xs' ex
            cases es
            rw [ex] at fr
            cases fr with
            | lst hq hs =>
              have ev := allS_sound hs ey
              subst ev
              exact ⟨_, ys, rfl, .inl hq, hb, fin_int (finO P1 wf1 en1)⟩
          · rename_i xs' ex
            cases es
            rw [ex] at fr
            cases fr with
            | tup hq hs =>
              have ev := allS_sound hs ey
              subst ev
              exact ⟨_, ys, rfl, .inr hq, hb, fin_int (finO P1 wf1 en1)⟩
          · cases es
        · cases e
      · cases e
    · cases e
/-! ### {k: v, ..} -/
theorem merge_new : ∀ (kvs acc : List (Key × V)), (acc ++ kvs).map (·.1) |>.Nodup → mergeK acc kvs = acc ++ kvs
  | [], acc, _ => by simp [mergeK]
  | (k, v) :: kvs, acc, h => by
    have e : putK acc k v = acc ++ [(k, v)] := by
      unfold putK
      rw [if_neg]
      intro z
      obtain ⟨q, hq, hk⟩ := List.any_eq_true.mp z
      have hk : q.1 = k := of_decide_eq_true hk
      rw [List.map_append, List.nodup_append] at h
      exact h.2.2 q.1 (List.mem_map.mpr ⟨q, hq, rfl⟩) k (by simp) hk
    show mergeK (putK acc k v) kvs = _
    rw [e, merge_new kvs (acc ++ [(k, v)]) (by rw [List.append_assoc]; exact h), List.append_assoc]
    rfl
def trsOf (K : PySem.W.Frag) (W : WX) (cls : Nat → Value) (cf : CallF) (G : Gs) : List Ky → Es → List (TE × TE)
  | k :: ks, .cons e es => (tC (kV k), tE K W cls (evE cf G e)) :: trsOf K W cls cf G ks es
  | _, _ => []
def esLen : Es → Nat
  | .nil => 0
  | .cons _ es => esLen es + 1
theorem pairs_read {σ : L2.St} {α β : Type} {R : Hp → Hp → Wn → β → α → Prop} {Q : β → Hp → Prop} {t0 u : Nat} : ∀ (es : Es) (ks : List Ky) {H : Hp} {t : Nat} {B : Hp} {w : Wn} {ρ : Rho} {F : List D → Rho → Out α} {S : List (V × V) → Hp → Prop}, ks.length = esLen es → At K t B H w σ ρ → t0 ≤ t →
    PostG K W cls σ t0 u B H w R ((evEs cf G es ρ).bind F) Q →
    (∀ vs H1 B1 w1 ds ρ1, Stp t B H w B1 H1 w1 → At K t B1 H1 w1 σ ρ1 → DRs K B1 vs ds → vs.length = ks.length → PostG K W cls σ t0 u B1 H1 w1 R (F ds ρ1) Q → S ((ks.map kV).zip vs) H1) → tPairs (trsOf K W cls cf G ks es) σ H S
  | .nil, [], H, t, B, w, ρ, F, S, _, a, _, P, k => k [] H B w [] ρ (Stp.refl t B H w) a .nil rfl (by simpa only [evEs, Out.bind_ok] using P)
  | .nil, _ :: _, _, _, _, _, _, _, _, h, _, _, _, _ => by simp [esLen] at h
  | .cons e es, [], _, _, _, _, _, _, _, h, _, _, _, _ => by simp [esLen] at h
  | .cons e es, kk :: ks, H, t, B, w, ρ, F, S, hl, a, ht, P, k => by
    simp only [evEs, Out.bind_assoc] at P
    show tE K W cls (evE cf G e) σ H fun y H2 => tPairs (trsOf K W cls cf G ks es) σ H2 fun ps H3 => S ((kV kk, y) :: ps) H3
    refine ⟨t, B, w, ρ, a, bindP P ht fun v H1 B1 w1 x ρ1 _ st1 wf1 tb1 en1 r1 P1 => ?_⟩
    obtain ⟨B2, w2, st2, a2, dr⟩ := frozen_item wf1 tb1 en1 r1
    refine pairs_read es ks (by simpa [esLen] using hl) a2 ht (P1.after (st2.mono ht)) fun vs H3 B3 w3 ds ρ3 st3 a3 d3 hl3 P3 => ?_
    have st123 := (st1.trans st2).trans st3
    exact k (v :: vs) H3 B3 w3 (frz x :: ds) ρ3 st123 a3 (.cons (dr.ext st3.ext) d3) (by rw [List.length_cons, List.length_cons, hl3]) (by simpa only [Out.bind_ok] using P3)
theorem se_dd {ks : List Ky} {es : Es} {keys : List (Option Expr)} {values : List Expr} (h : PPs X pos keys values (trsOf X.K W cls cf G ks es)) (hl : ks.length = esLen es) (hall : keys.all (·.isSome) = true) (hkv : keys.length = values.length) (h0 : keys ≠ []) (h15 : keys.length ≤ 15) (hk15 : ks.length ≤ 15) :
    PE X (.Dict keys values pos) (tE X.K W cls (fun r => (evEs cf G es r).bind fun xs r => Out.of (ddO ks xs) r)) := by
  refine PE.of (pe_disp h hall hkv h0 h15) ?_
  rintro σ H Q ⟨t, B, w, ρ, a, P⟩
  intro p hp
  have st0 : Stp t B H w B (upd H p (.dK [])) (putW w p (some (.tmp t))) := stp_new hp _ _
  have wf0 : Wf B (upd H p (.dK [])) (putW w p (some (.tmp t))) := a.wf.new hp _ _
  have en0 : EnvR X.K B (upd H p (.dK [])) (putW w p (some (.tmp t))) σ ρ := a.env.new hp _ _
  have tb0 : TB (t + 1) (putW w p (some (.tmp t))) := fun b k e => by
    by_cases hb : b = p
    · subst hb; rw [putW_same] at e; cases e; omega
    · rw [putW_ne hb] at e; exact Nat.lt_succ_of_lt (a.tb b k e)
  refine pairs_read es ks hl ⟨wf0, tb0, en0⟩ (Nat.le_succ t) (P.after st0) fun vs H1 B1 w1 ds ρ1 st1 a1 d1 hl1 P1 => ?_
  obtain ⟨hp1, hw1⟩ := st1.prot p _ t upd_same putW_same (Nat.lt_succ_self t)
  cases e : ddO ks ds with
  | none => rw [e] at P1; exact P1.elim
  | some z =>
    rw [e] at P1
    unfold ddO at e
    split at e
    · rename_i hb
      rw [Bool.and_eq_true, decide_eq_true_eq, decide_eq_true_eq] at hb
      cases e
      have ez : (ks.zip vs).map (fun kv => (kV kv.1, kv.2)) = (ks.map kV).zip vs := by
        rw [List.zip_map_left]; rfl
      have en : (ks.zip vs).map (·.1) = ks := by rw [← List.unzip_fst, List.unzip_zip (by omega)]
      refine ⟨hp1, ks.zip vs, ez.symm, by rw [List.length_zip]; omega, ?_⟩
      rw [merge_new _ [] (by rw [List.nil_append, en]; exact hb.1), List.nil_append]
      have st2 : Stp t B1 H1 w1 B1 (upd H1 p (.dK (ks.zip vs))) w1 := ⟨Ext.refl B1, fun b u h1 h2 => ⟨by rw [upd_ne (fun z => by rw [z, hw1] at h2; cases h2)]; exact h1, h2⟩,
        fun b u k h1 h2 hk => ⟨by rw [upd_ne (fun z => by rw [z, hw1] at h2; cases h2; omega)]; exact h1, h2⟩, fun _ _ h => .inl h⟩
      have wf2 : Wf B1 (upd H1 p (.dK (ks.zip vs))) w1 := ⟨sub_own a1.wf hw1 _, a1.wf.off, fun b q e => by
        by_cases hb : b = p
        · subst hb; rw [upd_same]; exact fun z => nomatch z
        · rw [upd_ne hb]; exact a1.wf.live b q e⟩
      have en2 : EnvR X.K B1 (upd H1 p (.dK (ks.zip vs))) w1 σ ρ1 := a1.env.mono (Ext.refl B1) fun b xs j f h => ⟨f, by rw [upd_ne (fun z => by rw [z, hw1] at f; cases f)]; exact h⟩
      exact P1 (.ref p) B1 _ w1 st2 wf2 a1.tb en2 (.dct hw1 upd_same (by omega) d1)
    · cases e
end
end Ev
end

section
set_option Elab.async false
set_option linter.all false
set_option maxRecDepth 100000
set_option maxHeartbeats 4000000
/-! Ev, part U: a call whose first argument is a temporary that the callee may change. -/
namespace Ev
open PySem PySem.Spec PyProof.Rows L2
variable [Γ : Clz]
section
variable {X : Cx} {K : PySem.W.Frag} {W : WX} {cls : Nat → Value} {cf : CallF} {G : Gs} {a b c e : Expr} {f g h : Rho → Out O} {pos : Pos}
/-- temporary t, taken as slot n -/
def upT (n t : Nat) (w : Wn) : Wn := fun a => match w a with
  | some (.tmp k) => if k = t then some (.slot n) else some (.tmp k)
  | q => q
theorem upT_some {n t : Nat} {w : Wn} {a : Addr} {q : Own} (h : upT n t w a = some q) : ∃ q', w a = some q' := by
  unfold upT at h
  cases e : w a with
  | none => rw [e] at h; cases h
  | some q' => exact ⟨q', rfl⟩
theorem stp_up {n t : Nat} {B H : Hp} {w : Wn} : Stp t B H w B H (upT n t w) := ⟨Ext.refl B, fun a o h e => ⟨h, by unfold upT; rw [e]⟩, fun a o k h e hk => ⟨h, by
  have : ¬ k = t := by omega
  unfold upT; rw [e]; simp [this]⟩, fun _ _ h => .inl h⟩
theorem up_at {B H : Hp} {w : Wn} {σ : L2.St} {ρ : Rho} {x : V} {o : O} {t : Nat} (wf : Wf B H w) (tb : TB (t + 1) w) (en : EnvR K B H w σ ρ) (ho : OR K B H (fun a => w a = some (.tmp t)) x o) :
    At K t B H (upT ρ.length t w) (σ ++ [some x]) (ρ ++ [some o]) := by
  refine ⟨⟨wf.sub, fun a q e => ?_, fun a q e => ?_⟩, fun a k e => ?_, ⟨by rw [List.length_append, List.length_append, en.len]; rfl, fun i o' e => ?_⟩⟩
  · obtain ⟨q', e'⟩ := upT_some e; exact wf.off a q' e'
  · obtain ⟨q', e'⟩ := upT_some e; exact wf.live a q' e'
  · unfold upT at e
    split at e
    · rename_i k' ek
      split at e
      · cases e
      · cases e
        have := tb a k ek
        omega
    · rename_i q hq
      exact absurd e (hq k)
  · by_cases hi : i < ρ.length
    · rw [getS_app hi] at e
      obtain ⟨v, hv, ho'⟩ := en.at' i o' e
      refine ⟨v, by rw [List.getElem?_append_left (by rw [en.len] at hi; exact hi)]; exact hv, ho'.mono (Ext.refl B) fun b u f hb => ⟨?_, hb⟩⟩
      unfold upT
      rw [f]
    · have hi' := getS_lt e
      rw [List.length_append, List.length_singleton] at hi'
      have hi2 : i = ρ.length := by omega
      subst hi2
      rw [getS_last] at e
      cases e
      refine ⟨x, by rw [en.len, List.getElem?_append_right (Nat.le_refl _)]; simp, ho.mono (Ext.refl B) fun b u f hb => ⟨?_, hb⟩⟩
      unfold upT
      rw [f]
      simp
/-- the last slot of a longer frame, let go -/
def dropL (n : Nat) (w : Wn) : Wn := fun a => match w a with
  | some (.slot i) => if i = n then none else some (.slot i)
  | q => q
theorem dropL_some {n : Nat} {w : Wn} {a : Addr} {q : Own} (h : dropL n w a = some q) : w a = some q := by
  unfold dropL at h
  split at h
  · rename_i i e
    split at h
    · cases h
    · rw [e]; exact h
  · exact h
theorem dropL_tmp {n k : Nat} {w : Wn} {a : Addr} (h : w a = some (.tmp k)) : dropL n w a = some (.tmp k) := by
  unfold dropL; rw [h]
theorem stp_dropL {n t : Nat} {B H : Hp} {w : Wn} : Stp t B H w B H (dropL n w) := ⟨Ext.refl B, fun a o h e => ⟨h, by unfold dropL; rw [e]⟩, fun a o k h e hk => ⟨h, dropL_tmp e⟩, fun _ _ h => .inl h⟩
theorem back_drop {B H : Hp} {w : Wn} {σ : L2.St} {ρ : Rho} {x : V} {o : O} {t : Nat} (hl : ρ.length = σ.length) (wf : Wf B H w) (en : EnvR K B H w (σ ++ [some x]) (ρ ++ [some o])) :
    Wf B H (dropL ρ.length w) ∧ EnvR K B H (dropL ρ.length w) σ ρ := by
  refine ⟨⟨wf.sub, fun a q e => wf.off a q (dropL_some e), fun a q e => wf.live a q (dropL_some e)⟩, ⟨hl, fun i o' e => ?_⟩⟩
  have hi := getS_lt e
  obtain ⟨v, hv, ho⟩ := en.at' i o' (by rw [getS_app hi]; exact e)
  rw [List.getElem?_append_left (by omega)] at hv
  refine ⟨v, hv, ho.mono (Ext.refl B) fun b u f hb => ⟨?_, hb⟩⟩
  unfold dropL
  rw [f]
  have : i ≠ ρ.length := by omega
  simp [this]
theorem tmp_core {f np t : Nat} {σ : L2.St} {B H : Hp} {w : Wn} {ρ : Rho} {as : List (Sum D Nat)} {v0 : V} {x0 : O} {vs : List V} {Q : VK} (wf : Wf B H w) (tb : TB (t + 1) w) (en : EnvR K B H w σ ρ) (hx : OR K B H (fun a => w a = some (.tmp t)) v0 x0)
    (p : Paired (ArgR K B σ) vs as) (P : PostG K W cls σ t (t + 1) B H w (RE K σ t) (tmpO cf f x0 as ρ) Q)
    (hnp : ∀ os, cf f os ≠ .bad → os.length = np) :
    spF K cls np (cf f) (v0 :: vs) H Q (WE W σ) := by
  unfold tmpO at P
  cases hl : lendAll as ρ with
  | none => rw [hl] at P; exact P.elim
  | some os =>
    rw [hl] at P
    dsimp only at P
    have hlen := en.len
    obtain ⟨n, hn⟩ : ∃ n, n = ρ.length := ⟨_, rfl⟩
    have a3 := up_at wf tb en hx
    have st12 : Stp t B H w B H (upT ρ.length t w) := stp_up
    rw [← hn] at a3 st12
    generalize upT n t w = w2 at a3 st12
    have p3 : Paired (ArgR K B (σ ++ [some v0])) (v0 :: vs) (.inr n :: as) := by
      refine .cons ?_ (Paired.mono (fun v y h => ?_) p)
      · show (σ ++ [some v0])[n]? = _
        rw [hn, hlen, List.getElem?_append_right (Nat.le_refl _)]; simp
      · cases y with
        | inl d => exact h
        | inr i =>
          have h : σ[i]? = some (some v) := h
          show (σ ++ [some v0])[i]? = some (some v)
          rw [List.getElem?_append_left (List.getElem?_eq_some_iff.mp h).1]; exact h
    have hl3 : lendAll (.inr n :: as) (ρ ++ [some x0]) = some (x0 :: os) := by
      simp only [lendAll]
      rw [hn, getS_last]
      have es : (ρ ++ [some x0]).set ρ.length none = ρ ++ [none] := by
        rw [List.set_append, if_neg (Nat.lt_irrefl _), Nat.sub_self]; rfl
      dsimp only
      rw [es, lend_ext hl]
    obtain ⟨wfa, tba, ar⟩ := args_in a3 p3 hl3
    have hback : ∀ o0 os', backAll (.inr n :: as) (o0 :: os') (ρ ++ [some x0]) = backAll as os' ρ ++ [some o0] := fun o0 os' => by
      simp only [backAll]
      rw [back_ext (lend_lt hl), List.set_append, if_neg (by rw [back_len]; omega), back_len, hn, Nat.sub_self]; rfl
    have hb : cf f (x0 :: os) ≠ .bad := fun e => by simp only [e] at P; exact P
    refine ⟨B, lendW (.inr n :: as) w2, x0 :: os, wfa, tba, ar, by rw [ar.1]; exact hnp _ hb, ?_⟩
    cases e : cf f (x0 :: os) with
    | bad => exact hb e
    | ok r os1 =>
      simp only [e] at P
      intro v B' H' w' st wf' tb' ho ao
      obtain ⟨st4, wf4, en4, ht, tb4⟩ := args_out a3 p3 hl3 st wf' ao
      cases os1 with
      | nil => exact P.elim
      | cons o0 os' =>
        dsimp only at P
        rw [hback] at en4
        have hl5 : (backAll as os' ρ).length = σ.length := by rw [back_len]; exact hlen
        obtain ⟨q1, q3⟩ := back_drop (t := t) hl5 wf4 en4
        refine P v B' H' _ ((st12.trans st4).trans stp_dropL) q1 (fun a k z => tb4 a k (dropL_some z)) q3 ?_
        exact ho.mono (Ext.refl B') fun b xs f hb => ⟨dropL_tmp (ht b f), hb⟩
    | exc kk y os1 =>
      simp only [e] at P
      intro d B' H' w' st wf' ao hxr
      obtain ⟨st4, wf4, en4, ht, tb4⟩ := args_out a3 p3 hl3 st wf' ao
      cases os1 with
      | nil => exact P.elim
      | cons o0 os' =>
        dsimp only at P
        rw [hback] at en4
        have hl5 : (backAll as os' ρ).length = σ.length := by rw [back_len]; exact hlen
        obtain ⟨q1, q3⟩ := back_drop (t := t) hl5 wf4 en4
        exact P d B' H' _ ((st12.trans st4).trans stp_dropL) q1 q3 hxr
theorem se_callT {k f : Nat} {x : Str} {e : Expr} {es : List Expr} {h : Rho → Out O} {g : Rho → Out (List (Sum D Nat))} {p pos : Pos} (hr : Room k X.A) (hg : Gl X x) (F : FnAt X cls k cf x f) (tk : Takes X W) (hdb : (x == ("__debug__" : Str)) = false) (hd : hdOk e = true) (hds : es.all hdOk = true) (he : PE X e (tE X.K W cls h)) (ha : PA X es (tAs X.K W cls g)) :
    PE X (.Call (.Name x p) (e :: es) [] pos) (tE X.K W cls (fun r => (h r).bind fun x r => (g r).bind fun as r => tmpO cf f x as r)) := by
  obtain ⟨ad, fd, ps, np, hm, hk, hb, F, hnp⟩ := F.ex
  refine PE.of (pe_callS F hr hg hm hk hb (fun σ => passAt tk σ) (pa_cons he ha (star_ok hd)) hdb (star_ok hd) (any_plain hds)) ?_
  rintro σ H Q ⟨t, B, w, ρ, a, P⟩
  refine ⟨t, B, w, ρ, a, bindP P (Nat.le_refl t) fun v H1 B1 w1 x0 ρ1 _ st1 wf1 tb1 en1 r1 P1 => ?_⟩
  refine ⟨t + 1, B1, w1, ρ1, ⟨wf1, tb1, en1⟩, bindP P1 (Nat.le_succ t) fun vs H2 B2 w2 as ρ2 _ st2 wf2 tb2 en2 r2 P2 => ?_⟩
  exact tmp_core wf2 tb2 en2 (OR.kept r1 st2 (Nat.lt_succ_self t)) r2 P2 hnp
end
end Ev
end

section
set_option Elab.async false
set_option linter.all false
set_option maxRecDepth 100000
set_option maxHeartbeats 4000000
/-! Ev, part P: fields stored, raise, try. -/
namespace Ev
open PySem PySem.Spec PyProof.Rows L2
variable [Γ : Clz]
/-- a temporary stored into what a slot owns -/
def mvF (p : Nat) (w : Wn) : Wn := fun a => match w a with
  | some (.tmp 0) => some (.slot p)
  | some (.tmp _) => none
  | some (.slot i) => some (.slot i)
  | none => none
theorem mvF_some {p : Nat} {w : Wn} {a : Addr} {q : Own} (h : mvF p w a = some q) : ∃ q', w a = some q' := by
  unfold mvF at h
  cases e : w a with
  | none => rw [e] at h; cases h
  | some q' => exact ⟨q', rfl⟩
theorem or_toF {K : PySem.W.Frag} {B H : Hp} {F : Addr → Prop} {v : V} {o : O} {f : Fo} (h : OR K B H F v o) (e : toF o = some f) : FR1 K B H F v f := by
  cases h with
  | d h => cases e; exact .d h
  | lst a b c => cases e; exact .lst a b c
  | dct a b c d => cases e; exact .dct a b c d
  | dtt a b c d => cases e; exact .dtt a b c d
  | ins _ _ _ _ _ _ _ => cases e
theorem own_nodup {v : V} {f : Fo} : (ownA v f).Nodup := by
  cases f <;> cases v <;> simp [ownA, refA]
theorem setf_core {K : PySem.W.Frag} {B H : Hp} {w : Wn} {σ : L2.St} {ρ : Rho} {p c j : Nat} {q q' x : O} {v : V} {n : Str} (I : InsOk K c) (wf : Wf B H w) (en : EnvR K B H w σ ρ) (e : getS p ρ = some q) (es : setFld c j q x = some q') (hn : (Clz.fn c)[j]? = some n) (r : OR K B H (fun a => w a = some (.tmp 0)) v x) :
    ∃ a dx vs w', σ[p]? = some (some (.ref a)) ∧ H a = some (.ins (Clz.ca c) dx ((Clz.fn c).zip vs)) ∧ vs.length ≤ (Clz.fn c).length ∧
      Stp 0 B H w B (upd H a (.ins (Clz.ca c) dx (putF n v ((Clz.fn c).zip vs)))) w' ∧ At K 0 B (upd H a (.ins (Clz.ca c) dx (putF n v ((Clz.fn c).zip vs)))) w' σ (ρ.set p (some q')) := by
  obtain ⟨v0, hv, ho⟩ := en.at' p q e
  have key : ∃ fs f', q = .ins c fs ∧ toF x = some f' ∧ ((j < fs.length ∧ q' = .ins c (fs.set j f')) ∨ (j = fs.length ∧ q' = .ins c (fs ++ [f']))) := by
    unfold setFld at es
    split at es
    · rename_i c' fs f' ef
      split at es
      · rename_i ec
        subst ec
        split at es
        · rename_i hj; cases es; exact ⟨fs, f', rfl, ef, .inl ⟨hj, rfl⟩⟩
        · split at es
          · rename_i hj; cases es; exact ⟨fs, f', rfl, ef, .inr ⟨hj, rfl⟩⟩
          · cases es
      · cases es
    · cases es
  obtain ⟨fs, f', rfl, ef, hcase⟩ := key
  cases ho with
  | @ins a dx _ vs _ f g ha hd hl hp hnd =>
  have fr := or_toF r ef
  have st1 : Stp 0 B H w B H (mvF p w) := ⟨Ext.refl B, fun b u h1 h2 => ⟨h1, by unfold mvF; rw [h2]⟩, fun b u k h1 h2 hk => absurd hk (Nat.not_lt_zero k), fun _ _ h => .inl h⟩
  have wf1 : Wf B H (mvF p w) := ⟨wf.sub, fun b q h => by obtain ⟨q', e'⟩ := mvF_some h; exact wf.off b q' e', fun b q h => by obtain ⟨q', e'⟩ := mvF_some h; exact wf.live b q' e'⟩
  have tb1 : TB 0 (mvF p w) := fun b k h => by
    unfold mvF at h
    split at h <;> cases h
  have sl : ∀ {b i}, w b = some (.slot i) → mvF p w b = some (.slot i) := fun {b i} h => by unfold mvF; rw [h]
  have en1 : EnvR K B H (mvF p w) σ ρ := en.mono (Ext.refl B) fun b u i f h => ⟨sl f, h⟩
  have ax : dx ≠ a := fun z => by rw [z, ha] at hd; cases hd
  have wa := sl f
  have wd := sl g
  -- the new field's own things are none of the old ones
  have hown : ∀ b ∈ ownA v f', w b = some (.tmp 0) := fun b hb => (own_kind fr hb).1
  have hne : ∀ b ∈ ownA v f', b ≠ a := fun b hb z => by have := hown b hb; rw [z, f] at this; cases this
  have hdis : ∀ b ∈ ownA v f', b ∉ ownAs vs fs := fun b hb z => by
    have h1 := hown b hb
    have h2 := (owns_kind hp z).1
    rw [h1] at h2; cases h2
  have go : ∀ (vs' : List V) (fs' : List Fo), putF n v ((Clz.fn c).zip vs) = (Clz.fn c).zip vs' → vs'.length ≤ (Clz.fn c).length → Paired (FR1 K B (upd H a (.ins (Clz.ca c) dx ((Clz.fn c).zip vs'))) fun b => mvF p w b = some (.slot p)) vs' fs' → (ownAs vs' fs').Nodup → q' = .ins c fs' →
      Stp 0 B H w B (upd H a (.ins (Clz.ca c) dx (putF n v ((Clz.fn c).zip vs)))) (mvF p w) ∧ At K 0 B (upd H a (.ins (Clz.ca c) dx (putF n v ((Clz.fn c).zip vs)))) (mvF p w) σ (ρ.set p (some q')) := fun vs' fs' ep hl' hp' hnd' eq => by
    rw [ep, eq]
    obtain ⟨st2, wf2, en2⟩ := mut1 (t := 0) (u := .ins (Clz.ca c) dx ((Clz.fn c).zip vs')) (o' := .ins c fs') wf1 en1 e hv wa (.ins wa wd upd_same (by rw [upd_ne ax]; exact hd) hl' hp' hnd')
    exact ⟨st1.trans st2, wf2, tb1, en2⟩
  have keep : ∀ (u : HO) b z, b ∈ ownAs vs fs → w b = some (.slot p) → H b = some z → mvF p w b = some (.slot p) ∧ upd H a u b = some z := fun u b z hb hF hz => ⟨sl hF, by rw [upd_ne (own_nins hp hb ha)]; exact hz⟩
  have frn : ∀ u : HO, FR1 K B (upd H a u) (fun b => mvF p w b = some (.slot p)) v f' := fun u => fr.monoA (Ext.refl B) fun b z hb hF hz => ⟨by unfold mvF; rw [hF] <;> rfl, by rw [upd_ne (hne b hb)]; exact hz⟩
  have hlen : vs.length = fs.length := hp.length
  refine ⟨a, dx, vs, mvF p w, hv, ha, hl, ?_⟩
  rcases hcase with ⟨hj, eq⟩ | ⟨hj, eq⟩
  · obtain ⟨u, hu⟩ : ∃ u, vs[j]? = some u := ⟨_, List.getElem?_eq_getElem (by omega)⟩
    obtain ⟨f0, hf0⟩ : ∃ f0, fs[j]? = some f0 := ⟨_, List.getElem?_eq_getElem hj⟩
    obtain ⟨r1, r2, _⟩ := fr_set (Ext.refl B) (frn (.ins (Clz.ca c) dx ((Clz.fn c).zip (vs.set j v)))) own_nodup hp hnd hu hf0 (fun b z hb _ => keep _ b z hb) fun b hb => .inr (hdis b hb)
    exact go (vs.set j v) (fs.set j f') (put_zip I.nd hn (by omega)) (by rw [List.length_set]; exact hl) r1 r2 eq
  · obtain ⟨r1, r2, _⟩ := fr_app (Ext.refl B) (frn (.ins (Clz.ca c) dx ((Clz.fn c).zip (vs ++ [v])))) own_nodup hp hnd (fun b z hb => keep _ b z hb) hdis
    have hn' : (Clz.fn c)[vs.length]? = some n := by rw [hlen, ← hj]; exact hn
    have := (List.getElem?_eq_some_iff.mp hn').1
    exact go (vs ++ [v]) (fs ++ [f']) (put_app I.nd hn') (by rw [List.length_append, List.length_singleton]; omega) r1 r2 eq
section
variable {X : Cx} {W : WX} {cls : Nat → Value} {lent : List Nat} {e a b c : Expr} {f g h : Rho → Out O} {pos : Pos}
theorem fld_few {K : PySem.W.Frag} {cc : Nat} (I : InsOk K cc) (vs : List V) : ((Clz.fn cc).zip vs).length < 1000 := by
  rw [List.length_zip]
  have := I.sm
  omega
theorem ss_setf {cc p j : Nat} {n : Str} {pos' : Pos} (I : InsOk X.K cc) (hn : (Clz.fn cc)[j]? = some n) (ho : PE X a (tVar p)) (he : PE X e (tE X.K W cls f)) (hs : swapsWith e (some (.Attribute a n pos')) pos.line X.env = pure false) :
    PS X (.Assign [.Attribute a n pos'] e pos) (tS X.K W cls lent (fun r => (f r).bind fun o r => match getS p r with
      | none => .bad
      | some q => match setFld cc j q o with
        | some q => .ok .nx (r.set p (some q))
        | none => .bad)) := by
  refine PS.of (ps_fld ho he hs) ?_
  rintro D σ H ⟨B, w, ρ, a0, P⟩
  refine ⟨0, B, w, ρ, a0, bindS P fun v H1 B1 w1 x ρ1 _ st1 wf1 tb1 en1 r1 P1 => ?_⟩
  split at P1
  · exact P1.elim
  · rename_i q eq
    split at P1
    · rename_i q' es
      obtain ⟨ad, dx, vs, w', hv, ha, hl, st2, a2⟩ := setf_core I wf1 en1 eq es hn r1
      exact ⟨_, hv, ad, _, dx, _, rfl, ha, I.cl, I.no n (List.mem_of_getElem? hn), fld_few I vs, post_nx (t := 0) P1 st2 a2 LkS.refl⟩
    · exact P1.elim
theorem ss_augf {cc p j : Nat} {n : Str} {tpos : Pos} {o : Bop} {op : Operator} (hop : opA o = some op) (I : InsOk X.K cc) (hn : (Clz.fn cc)[j]? = some n) (ho : PE X a (tVar p)) (he : PE X e (tE X.K W cls f)) :
    PS X (.AugAssign (.Attribute a n tpos) op e pos) (tS X.K W cls lent (fun r => match getS p r with
      | none => .bad
      | some q => match fldO cc j q with
        | none => .bad
        | some (x, _) => (f r).bind fun y r => match augO o x y, getS p r with
          | some z, some q => match setFld cc j q (.d z) with
            | some q => .ok .nx (r.set p (some q))
            | none => .bad
          | _, _ => .bad)) := by
  refine PS.of (ps_fldaug ho he (rd := rAug X.K o) fun pins s σ H x y v u Q I rx ry q => aug_sound hop pins s σ H x y v u Q I rx ry q) ?_
  rintro D σ H ⟨B, w, ρ, a0, P⟩
  dsimp only at P
  split at P
  · exact P.elim
  · rename_i q eq
    split at P
    · exact P.elim
    · rename_i x q1 ef
      obtain ⟨ds, ei⟩ := fld_ins ef
      obtain ⟨ad, dx, vs, u, nm, hv, ha, hnm, hu, hlk, B', w', st', wf', dr, _, _⟩ := fld_read (t := 0) a0.wf a0.env I eq ef
      rw [hn] at hnm; cases hnm
      refine ⟨_, hv, ad, _, dx, _, u, rfl, ha, I.cl, I.no n (List.mem_of_getElem? hn), hlk, 0, B, w, ρ, a0, bindS P fun y H2 B2 w2 yo ρ2 _ st2 wf2 tb2 en2 r2 P2 => ?_⟩
      split at P2
      · rename_i z q2 ez eq2
        split at P2
        · rename_i q3 es
          -- what is added to is a scalar
          have du : DR X.K B2 u x := by
            have sc : x.scalar = true := by
              unfold augO at ez
              split at ez <;> first | rfl | cases ez
            exact dr.scalar sc B2
          refine ⟨B2, x, yo, z, wf2.sub, .d du, r2.ro, ez, fun v3 h3 => ?_⟩
          obtain ⟨ad', dx', vs', w3, hv', ha', hl', st3, a3⟩ := setf_core (v := v3) I wf2 en2 eq2 es hn (.d h3)
          rw [hv] at hv'; cases hv'
          exact ⟨dx', _, ha', fld_few I vs', post_nx (t := 0) P2 st3 a3 LkS.refl⟩
        · exact P2.elim
      · exact P2.elim
/-! ### raise -/
/-- the promise of an own error's __init__ -/
def spXI (K : PySem.W.Frag) : Sp := fun vs H Q _ => ∃ (a C : Addr) (y : V), vs = [.ref a, y] ∧ OexC K C ∧ PySem.W.findIn K (.ref C) "place" = some none ∧ H a = some (exo a C none) ∧
  ∀ d, H d = none → d ≠ a → Q .non (upd (upd H d (exd d [(("place" : Str), y)])) a (exo a C (some d)))
/-- an exception's class of the text -/
structure XcAt (X : Cx) (cls : Nat → Value) (k : Nat) (x : Str) (i : Nat) : Prop where
  ex : ∃ (C fI : Addr) (fd : FuncData) (ps : List Str), cls i = .ref C ∧ X.mg x = some (.ref C) ∧ OexC X.K C ∧ PySem.W.findIn X.K (.ref C) "__init__" = some (some (.ref fI)) ∧ PySem.W.typeIn X.K (.ref fI) = some (.type "function") ∧
    PySem.W.findIn X.K (.ref C) "place" = some none ∧ Binds X.K fd ps [] ∧ FnOk X.prog X.w X.K X.mg X.base (L2.CX X.prog X.w) k fI fd ps (spXI X.K)
theorem ss_raise {k i : Nat} {x : Str} {p cpos : Pos} (hc : X.calm = true) (tk : Takes X W) (hr : Room (k + 1) X.A) (M : XcAt X cls k x i) (hg : Gl X x) (hdb : (x == ("__debug__" : Str)) = false) (hd : hdOk e = true) (he : PE X e (tE X.K W cls f)) :
    PS X (.Raise (some (.Call (.Name x p) [e] [] cpos)) none pos) (tS X.K W cls lent (fun r => (f r).bind fun o r => .exc i (frz o) r)) := by
  obtain ⟨C, fI, fd, ps, ec, hm, T, iC, tI, hno, hb, F⟩ := M.ex
  have ta : PA X [e] (tCons (tE X.K W cls f) tNil) := pa_cons he pa_nil (star_ok hd)
  refine PS.of (ps_raise hc tk (pmk_oex T iC tI F hr hb .nil (passes_call tk (E := fun _ _ _ => False) fun _ _ _ _ z => z.elim) hg hm ta hdb (star_ok hd) (by rfl))) ?_
  rintro D σ H ⟨B, w, ρ, a0, P⟩
  refine ⟨0, B, w, ρ, a0, bindS P fun v H1 B1 w1 y ρ1 _ st1 wf1 tb1 en1 r1 P1 => ?_⟩
  obtain ⟨B2, w2, st2, a2, dr⟩ := frozen_item wf1 tb1 en1 r1
  refine ⟨by simp, fun a na => ?_⟩
  refine ⟨a, C, v, rfl, T, hno, upd_same, fun d nd nda => ?_⟩
  have nd1 : H1 d = none := by rw [upd_ne nda] at nd; exact nd
  refine ⟨rfl, d, _, upd_same, by rw [upd_ne nda, upd_same], nd1, ?_⟩
  have eh : upd (L2.del (upd (upd (upd H1 a (exo a C none)) d (exd d [(("place" : Str), v)])) a (exo a C (some d))) a) d (.xd [(("place" : Str), v)]) = upd H1 d (.xd [(("place" : Str), v)]) := by
    funext b
    by_cases hb : b = d
    · subst hb; rw [upd_same, upd_same]
    · rw [upd_ne hb, upd_ne hb]
      by_cases hb2 : b = a
      · subst hb2; rw [L2.del_same]; exact na.symm
      · rw [L2.del_ne hb2, upd_ne hb2, upd_ne hb, upd_ne hb2]
  rw [eh]
  have st3 : Stp 0 B2 H1 w2 B2 (upd H1 d (.xd [(("place" : Str), v)])) (putW w2 d none) := stp_new nd1 _ _
  have P2 := P1.after st2 LkS.refl
  rw [← ec]
  exact P2 σ d B2 _ _ st3 (a2.wf.new nd1 _ _) (a2.env.new nd1 _ _) LkS.refl ⟨v, upd_same, dr⟩
end
end Ev
end

section
set_option Elab.async false
set_option linter.all false
set_option maxRecDepth 100000
set_option maxHeartbeats 4000000
/-! Ev, part Q: suites of except clauses, try. -/
namespace Ev
open PySem PySem.Spec PyProof.Rows L2
variable [Γ : Clz]
/-- isinstance of the exception that a suite holds, with its own dict -/
theorem call_isX {X : Cx} {a D dd : Addr} {oe : Obj} {pn : List (Addr × Obj)} (C : ExcC X.K D) (hz : Zc (.ref D) (some dd) oe) (hf : ∃ vs, oe.data = .fields vs) :
    CallR (X.suite a ((a, oe) :: pn)) (.builtin "isinstance") (fun xs H Q => ∃ (fs : List (Str × V)), H dd = some (.xd fs) ∧ ((∃ (c : V) (cv : Value) (b : Bool), xs = [.ref a, c] ∧ ClsV c cv ∧ PySem.W.kitOne X.K (.ref D) cv = some b ∧ Q (.bl b) H) ∨
      ∃ (tp : Addr) (cs : List V) (us : List Value) (b : Bool), xs = [.ref a, .ref tp] ∧ H tp = some (.tup cs) ∧ Paired ClsV cs us ∧ PySem.W.kitAny X.K (.ref D) us = some b ∧ Q (.bl b) H)) := by
  intro pins s σ H xs us Q I r h
  obtain ⟨fs, hdd, h⟩ := h
  obtain ⟨hget, _⟩ := I.pin (a, oe) (List.mem_append.mpr (.inl List.mem_cons_self))
  obtain ⟨vs, hv⟩ := hf
  have hx : ObjOk X.prog X.w H s.heap dd (.xd fs) := I.hok dd _ hdd
  obtain ⟨mA, hns, _⟩ := hx
  obtain ⟨od, ho, _⟩ := lookIn_ns hns
  have J : PySem.W.InstAt s.heap a oe D (some od) := ⟨hget, hz.1, by unfold PySem.W.notCls; rw [hv] <;> rfl, by rw [hz.2]; exact ho⟩
  have Z := PySem.W.kitx_exc (x := a) (ox := oe) (od := some od) (K := X.K) (C := D) (gt := none) (by obtain ⟨cd, hc, _⟩ := PySem.W.any_some C.hd; rw [hc]; rfl) C.hg C.hk C.hs C.ha C.hn C.ht C.hm
  rcases h with ⟨c, cv, b, rfl, hcv, e, q⟩ | ⟨tp, cs, us2, b, rfl, hT, k, e, q⟩
  · obtain ⟨u1, u2, rfl, r1, r2⟩ := vals2 r
    cases (show u1 = Value.ref a from r1)
    have e2 := hcv.eq r2
    subst e2
    exact PySem.W.kia_one Z I.kIn J e (fun z => nomatch z) fun tk => ⟨.bl b, H, I.kept (t' := tk) fun _ _ z => z, rfl, q⟩
  · obtain ⟨u1, u2, rfl, r1, r2⟩ := vals2 r
    cases (show u1 = Value.ref a from r1)
    cases (show u2 = Value.ref tp from r2)
    obtain ⟨_, its, rv, o, h1, h2, n, h3⟩ := (show ObjOk X.prog X.w H s.heap tp (.tup cs) from I.hok tp _ hT)
    have e3 := ClsV.all k rv
    subst e3
    obtain ⟨oc, od2, dt, sl⟩ := o
    simp only at h2 h3
    subst h2 h3
    exact PySem.W.kia_tup Z I.kIn J h1 e (fun z => nomatch z) fun tk => ⟨.bl b, H, I.kept (t' := tk) fun _ _ z => z, rfl, q⟩
/-- the state within a suite: a the exception, dd its dict, x its place, i the name's slot -/
structure SuOk (K : PySem.W.Frag) (i : Option Nat) (a dd : Addr) (x : D) (B H : Hp) (w : Wn) (σ : L2.St) (ρ : Rho) : Prop where
  at' : At K 0 B H w σ ρ
  wd : w dd = none
  xr : XR K B H dd x
  sl : ∀ j, i = some j → σ[j]? = some (some (.ref a))
section
variable {K : PySem.W.Frag} {i : Option Nat} {a dd : Addr} {x : D} {B B' H H' : Hp} {w w' : Wn} {σ σ' : L2.St} {ρ ρ' : Rho}
theorem XR.step {t : Nat} (h : XR K B H dd x) (hw : w dd = none) (st : Stp t B H w B' H' w') : XR K B' H' dd x ∧ w' dd = none := by
  obtain ⟨v, h1, h2⟩ := h
  obtain ⟨e1, e2⟩ := st.keep dd _ h1 hw
  exact ⟨⟨v, e1, h2.ext st.ext⟩, e2⟩
theorem SuOk.grow (S : SuOk K i a dd x B H w σ ρ) (kp : ∀ b o, H b = some o → H' b = some o) : SuOk K i a dd x B H' w σ ρ ∧ Stp 0 B H w B H' w := by
  obtain ⟨v, h1, h2⟩ := S.xr
  refine ⟨⟨⟨⟨sub_kept S.at'.wf.sub kp, S.at'.wf.off, fun b q e z => ?_⟩, S.at'.tb, S.at'.env.mono (Ext.refl B) fun b u j f h => ⟨f, kp b u h⟩⟩, S.wd, ⟨v, kp _ _ h1, h2⟩, S.sl⟩, ⟨Ext.refl B, fun b o h1 h2 => ⟨kp b o h1, h2⟩, fun b o k h1 h2 _ => ⟨kp b o h1, h2⟩, fun _ _ h => .inl h⟩⟩
  cases h3 : H b with
  | none => exact S.at'.wf.live b q e h3
  | some o => rw [kp b o h3] at z; cases z
theorem SuOk.stp (S : SuOk K i a dd x B H w σ ρ) (st : Stp 0 B H w B' H' w') (at1 : At K 0 B' H' w' σ' ρ') (hs : ∀ j, i = some j → σ'[j]? = σ[j]?) : SuOk K i a dd x B' H' w' σ' ρ' := by
  obtain ⟨e1, e2⟩ := S.xr.step S.wd st
  exact ⟨at1, e2, e1, fun j hj => by rw [hs j hj]; exact S.sl j hj⟩
end
/-- a truth in a suite -/
abbrev tXE (K : PySem.W.Frag) (i : Option Nat) (a dd : Addr) (x : D) (f : Rho → Option Bool) : TE := fun σ H Q => ∃ B w ρ, SuOk K i a dd x B H w σ ρ ∧ ∃ b, f ρ = some b ∧ ∀ H', (∀ b o, H b = some o → H' b = some o) → Q (.bl b) H'
abbrev tXT (K : PySem.W.Frag) (i : Option Nat) (a dd : Addr) (x : D) (f : Rho → Option Bool) : TT := fun σ H Q => ∃ B w ρ, SuOk K i a dd x B H w σ ρ ∧ ∃ b, f ρ = some b ∧ ∀ H', (∀ b o, H b = some o → H' b = some o) → Q b H'
section
variable {X : Cx} {K : PySem.W.Frag} {i : Option Nat} {a dd : Addr} {x : D} {p q : Expr} {rest : List Expr} {pos : Pos} {f g : Rho → Option Bool}
def andX (f g : Rho → Option Bool) : Rho → Option Bool := fun r => match f r with
  | some true => g r
  | o => o
def orX (f g : Rho → Option Bool) : Rho → Option Bool := fun r => match f r with
  | some false => g r
  | o => o
theorem sx_and (hp : PE X p (tXE K i a dd x f)) (hq : PE X (.BoolOp .And (q :: rest) pos) (tXE K i a dd x g)) : PE X (.BoolOp .And (p :: q :: rest) pos) (tXE K i a dd x (andX f g)) := by
  refine PE.of (pe_and hp hq) ?_
  rintro σ H Q ⟨B, w, ρ, S, b, hb, k⟩
  unfold andX at hb
  cases e : f ρ with
  | none => rw [e] at hb; cases hb
  | some c =>
    rw [e] at hb
    refine ⟨B, w, ρ, S, c, e, fun H1 k1 => ⟨c, rfl, ?_⟩⟩
    cases c with
    | true => exact ⟨B, w, ρ, (S.grow k1).1, b, hb, fun H2 k2 => k H2 fun b o h => k2 b o (k1 b o h)⟩
    | false => cases hb; exact k H1 k1
theorem sx_or (hp : PE X p (tXE K i a dd x f)) (hq : PE X (.BoolOp .Or (q :: rest) pos) (tXE K i a dd x g)) : PE X (.BoolOp .Or (p :: q :: rest) pos) (tXE K i a dd x (orX f g)) := by
  refine PE.of (pe_or hp hq) ?_
  rintro σ H Q ⟨B, w, ρ, S, b, hb, k⟩
  unfold orX at hb
  cases e : f ρ with
  | none => rw [e] at hb; cases hb
  | some c =>
    rw [e] at hb
    refine ⟨B, w, ρ, S, c, e, fun H1 k1 => ⟨c, rfl, ?_⟩⟩
    cases c with
    | false => exact ⟨B, w, ρ, (S.grow k1).1, b, hb, fun H2 k2 => k H2 fun b o h => k2 b o (k1 b o h)⟩
    | true => cases hb; exact k H1 k1
theorem sx_not (hp : PE X p (tXE K i a dd x f)) : PE X (.UnaryOp .Not p pos) (tXE K i a dd x fun r => (f r).map (!·)) := by
  refine PE.of (pe_not hp) ?_
  rintro σ H Q ⟨B, w, ρ, S, b, hb, k⟩
  obtain ⟨c, hc, rfl⟩ := Option.map_eq_some_iff.mp hb
  exact ⟨B, w, ρ, S, c, hc, fun H1 k1 => ⟨c, rfl, k H1 k1⟩⟩
theorem sxt_and (hp : PT X p (tXT K i a dd x f)) (hq : PW X (.BoolOp .And (q :: rest) pos) (tXT K i a dd x g)) : PW X (.BoolOp .And (p :: q :: rest) pos) (tXT K i a dd x (andX f g)) := by
  refine PW.of (pw_and hp hq) ?_
  rintro σ H Q ⟨B, w, ρ, S, b, hb, k⟩
  unfold andX at hb
  cases e : f ρ with
  | none => rw [e] at hb; cases hb
  | some c =>
    rw [e] at hb
    refine ⟨B, w, ρ, S, c, e, fun H1 k1 => ?_⟩
    cases c with
    | true => exact ⟨B, w, ρ, (S.grow k1).1, b, hb, fun H2 k2 => k H2 fun b o h => k2 b o (k1 b o h)⟩
    | false => cases hb; exact k H1 k1
theorem sxt_or (hp : PT X p (tXT K i a dd x f)) (hq : PW X (.BoolOp .Or (q :: rest) pos) (tXT K i a dd x g)) : PW X (.BoolOp .Or (p :: q :: rest) pos) (tXT K i a dd x (orX f g)) := by
  refine PW.of (pw_or hp hq) ?_
  rintro σ H Q ⟨B, w, ρ, S, b, hb, k⟩
  unfold orX at hb
  cases e : f ρ with
  | none => rw [e] at hb; cases hb
  | some c =>
    rw [e] at hb
    refine ⟨B, w, ρ, S, c, e, fun H1 k1 => ?_⟩
    cases c with
    | false => exact ⟨B, w, ρ, (S.grow k1).1, b, hb, fun H2 k2 => k H2 fun b o h => k2 b o (k1 b o h)⟩
    | true => cases hb; exact k H1 k1
theorem sxt_not (hp : PT X p (tXT K i a dd x f)) : PT X (.UnaryOp .Not p pos) (tXT K i a dd x fun r => (f r).map (!·)) := by
  refine PT.of (pt_not hp) ?_
  rintro σ H Q ⟨B, w, ρ, S, b, hb, k⟩
  obtain ⟨c, hc, rfl⟩ := Option.map_eq_some_iff.mp hb
  exact ⟨B, w, ρ, S, c, hc, fun H1 k1 => k H1 k1⟩
theorem sxt_val (hd : hdT p = true) (hp : PE X p (tXE K i a dd x f)) : PT X p (tXT K i a dd x f) := by
  refine PT.of (pt_val hp (truth_ok hd)) ?_
  rintro σ H Q ⟨B, w, ρ, S, b, hb, k⟩
  exact ⟨B, w, ρ, S, b, hb, fun H1 k1 => ⟨b, rfl, k H1 k1⟩⟩
end
end Ev
end

section
set_option Elab.async false
set_option linter.all false
set_option maxRecDepth 100000
set_option maxHeartbeats 4000000
/-! Ev, part R: leaves and statements of suites; the try statement. -/
namespace Ev
open PySem PySem.Spec PyProof.Rows L2
variable [Γ : Clz]
/-- what is asked of the text about a class of exceptions -/
structure XtOk (K : PySem.W.Frag) (cls : Nat → Value) (G : Gs) : Prop where
  at' : ∀ c k b, isSub G c k = some b → ∃ C, cls c = .ref C ∧ PySem.W.exmOne K (cls c) (cls k) = some b ∧ PySem.W.kitOne K (cls c) (cls k) = some b ∧ ExcC K C ∧ PySem.W.findIn K (.ref C) "place" = some none
theorem xfC_of {K : PySem.W.Frag} {C : Addr} (h : ExcC K C) : XfC K C := ⟨h.hg, h.hk, h.hs, h.hd⟩
section
variable {K : PySem.W.Frag} {cls : Nat → Value} {G : Gs}
theorem any_kit (T : XtOk K cls G) {c : Nat} : ∀ {ks : List Nat} {b : Bool}, anyK G c ks = some b → PySem.W.kitAny K (cls c) (ks.map cls) = some b
  | [], b, h => by cases h; rfl
  | k :: ks, b, h => by
    unfold anyK at h
    split at h
    · rename_i e
      cases h
      obtain ⟨_, _, _, h2, _⟩ := T.at' c k _ e
      show PySem.W.kitAny K (cls c) (cls k :: ks.map cls) = _
      unfold PySem.W.kitAny
      rw [h2]
    · rename_i e
      obtain ⟨_, _, _, h2, _⟩ := T.at' c k _ e
      show PySem.W.kitAny K (cls c) (cls k :: ks.map cls) = _
      unfold PySem.W.kitAny
      rw [h2]
      exact any_kit T h
    · cases h
theorem any_one {c k : Nat} {b : Bool} (h : anyK G c [k] = some b) : isSub G c k = some b := by
  unfold anyK at h
  split at h
  · rename_i e; cases h; exact e
  · rename_i e; cases h; exact e
  · cases h
end
section
variable {X : Cx} {cls : Nat → Value} {G : Gs} {i : Nat} {a dd C : Addr} {x : D} {c : Nat} {oe : Obj} {pn : List (Addr × Obj)} {ev : Expr} {pos : Pos}
/-- e.place -/
theorem sx_place {K' : PySem.W.Frag} {apos : Pos} (hX : ExcC X.K C) (hno : PySem.W.findIn X.K (.ref C) "place" = some none) (hz : Zc (.ref C) (some dd) oe) (hf : ∃ vs, oe.data = .fields vs) (he : PE (X.suite a ((a, oe) :: pn)) ev (tVar i)) (hb : attributeBase ev "place" X.env (eval ev X.env) = eval ev X.env) :
    PE (X.suite a ((a, oe) :: pn)) (.Attribute ev "place" apos) (fun σ H Q => ∃ B w ρ, SuOk X.K (some i) a dd x B H w σ ρ ∧ ∀ v, DR X.K B v x → Q v H) := by
  refine PE.of (pe_xf (xfC_of hX) hno hz hf he hb) ?_
  rintro σ H Q ⟨B, w, ρ, S, k⟩
  obtain ⟨v, h1, h2⟩ := S.xr
  refine ⟨_, S.sl i rfl, rfl, rfl, dd, _, v, rfl, h1, ?_, k v h2⟩
  simp [List.lookup]
theorem sx_pln {apos p2 : Pos} {k2 : Nat} (hX : ExcC X.K C) (hno : PySem.W.findIn X.K (.ref C) "place" = some none) (hz : Zc (.ref C) (some dd) oe) (hf : ∃ vs, oe.data = .fields vs) (he : PE (X.suite a ((a, oe) :: pn)) ev (tVar i)) (hb : attributeBase ev "place" X.env (eval ev X.env) = eval ev X.env) :
    PE (X.suite a ((a, oe) :: pn)) (.Compare (.Attribute ev "place" apos) [.Is] [.Constant .none k2 p2] pos) (tXE X.K (some i) a dd x fun _ => some (match x with | .non => true | _ => false)) ∧
    PT (X.suite a ((a, oe) :: pn)) (.Compare (.Attribute ev "place" apos) [.Is] [.Constant .none k2 p2] pos) (tXT X.K (some i) a dd x fun _ => some (match x with | .non => true | _ => false)) := by
  have key : ∀ {B : Hp} {v : V}, DR X.K B v x → decide (v = .non) = (match x with | .non => true | _ => false) := fun {B v} h => by cases h <;> rfl
  have hp := sx_place (K' := X.K) (x := x) (apos := apos) hX hno hz hf he hb
  refine ⟨PE.of (pe_cmpR op_isN hp pe_non (by rfl)) ?_, PT.of (pt_cmpR op_isN hp pe_non (by rfl)) ?_⟩
  · rintro σ H Q ⟨B, w, ρ, S, b, hb2, k⟩
    cases hb2
    refine ⟨B, w, ρ, S, fun v hv => ⟨rfl, ?_⟩⟩
    rw [key hv]
    exact k H fun _ _ h => h
  · rintro σ H Q ⟨B, w, ρ, S, b, hb2, k⟩
    cases hb2
    refine ⟨B, w, ρ, S, fun v hv => ⟨rfl, ?_⟩⟩
    rw [key hv]
    exact ⟨_, rfl, k H fun _ _ h => h⟩
/-- a class's name, read -/
structure ClPE (X : Cx) (cls : Nat → Value) (k : Nat) (e : Expr) : Prop where
  hd : hdOk e = true
  ex : ∃ v, ClsV v (cls k) ∧ PE X e (tC v)
theorem sx_is {f : Str} {p1 : Pos} {k : Nat} {ke : Expr} (T : XtOk X.K cls G) (ec : cls c = .ref C) (hX : ExcC X.K C) (hz : Zc (.ref C) (some dd) oe) (hf : ∃ vs, oe.data = .fields vs) (hg : Gl X "isinstance") (hm : X.mg "isinstance" = none) (hd : hdOk ev = true) (he : PE (X.suite a ((a, oe) :: pn)) ev (tVar i)) (hk : ClPE (X.suite a ((a, oe) :: pn)) cls k ke) :
    PE (X.suite a ((a, oe) :: pn)) (.Call (.Name "isinstance" p1) [ev, ke] [] pos) (tXE X.K (some i) a dd x fun _ => anyK G c [k]) := by
  obtain ⟨v, hv, hpe⟩ := hk.ex
  refine PE.of (pe_callB (call_isX hX hz hf) hg hm (show bootBuiltins "isinstance" = some (.builtin "isinstance") by decide +kernel) (pa_cons he (pa_cons hpe pa_nil (star_ok hk.hd)) (star_ok hd)) (by decide +kernel) (by decide +kernel) (star_ok hd) (by rw [star_ok hk.hd] <;> rfl)) ?_
  rintro σ H Q ⟨B, w, ρ, S, b, hb, kk⟩
  obtain ⟨pv, h1, h2⟩ := S.xr
  obtain ⟨_, _, _, h3, _⟩ := T.at' c k b (any_one hb)
  exact ⟨_, S.sl i rfl, _, h1, .inl ⟨v, cls k, b, rfl, hv, by rw [← ec]; exact h3, kk H fun _ _ h => h⟩⟩
/-- classes' names, read -/
inductive ClsPE (X : Cx) (cls : Nat → Value) : List Nat → List Expr → Prop
  | nil : ClsPE X cls [] []
  | cons {k : Nat} {ks : List Nat} {e : Expr} {es : List Expr} : ClPE X cls k e → ClsPE X cls ks es → ClsPE X cls (k :: ks) (e :: es)
theorem cls_pa {Y : Cx} : ∀ {ks : List Nat} {es : List Expr}, ClsPE Y cls ks es → ∃ vs, Paired ClsV vs (ks.map cls) ∧ vs.length = ks.length ∧ PA Y es (fun σ H Q => Q vs H)
  | _, _, .nil => ⟨[], .nil, rfl, pa_nil⟩
  | _, _, .cons h hs => by
    obtain ⟨v, hv, hp⟩ := h.ex
    obtain ⟨vs, h1, h2, h3⟩ := cls_pa hs
    exact ⟨v :: vs, .cons hv h1, by rw [List.length_cons, List.length_cons, h2], PA.of (pa_cons hp h3 (star_ok h.hd)) fun σ H Q q => q⟩
theorem sx_isT {p1 tpos : Pos} {kk : Nat} {ks : List Nat} {es : List Expr} (T : XtOk X.K cls G) (ec : cls c = .ref C) (hX : ExcC X.K C) (hz : Zc (.ref C) (some dd) oe) (hf : ∃ vs, oe.data = .fields vs) (hg : Gl X "isinstance") (hm : X.mg "isinstance" = none) (hd : hdOk ev = true) (he : PE (X.suite a ((a, oe) :: pn)) ev (tVar i)) (hk : ClsPE (X.suite a ((a, oe) :: pn)) cls ks es) (hl : ks.length ≤ 100) :
    PE (X.suite a ((a, oe) :: pn)) (.Call (.Name "isinstance" p1) [ev, .Tuple es kk tpos] [] pos) (tXE X.K (some i) a dd x fun _ => anyK G c ks) := by
  obtain ⟨vs, hv, hvl, hpa⟩ := cls_pa hk
  refine PE.of (pe_callB (call_isX hX hz hf) hg hm (show bootBuiltins "isinstance" = some (.builtin "isinstance") by decide +kernel) (pa_cons he (pa_cons (pe_tup hpa) pa_nil (star_ok rfl)) (star_ok hd)) (by decide +kernel) (by decide +kernel) (star_ok hd) (by rw [star_ok rfl] <;> rfl)) ?_
  rintro σ H Q ⟨B, w, ρ, S, b, hb, kk⟩
  obtain ⟨pv, h1, h2⟩ := S.xr
  refine ⟨_, S.sl i rfl, by rw [hvl]; exact Nat.le_trans hl (by decide), fun p hp => ?_⟩
  have ne : dd ≠ p := ne_of_none h1 hp
  refine ⟨_, by rw [upd_ne ne]; exact h1, .inr ⟨p, vs, ks.map cls, b, rfl, upd_same, hv, by rw [← ec]; exact any_kit T hb, ?_⟩⟩
  exact kk _ fun b o h => by rw [upd_ne (ne_of_none h hp)]; exact h
end
/-! ### statements -/
abbrev tX (K : PySem.W.Frag) (cls : Nat → Value) (i : Option Nat) (a dd : Addr) (x : D) (lent : List Nat) (f : Rho → Out Fl) : TS := fun D σ H => ∃ B w ρ, SuOk K i a dd x B H w σ ρ ∧ PostS K noX cls lent σ B H w (f ρ) D
section
variable {X : Cx} {cls : Nat → Value} {i : Option Nat} {a dd : Addr} {x : D} {lent : List Nat} {f g : Rho → Out Fl} {s : Stmt} {ss : List Stmt} {pos : Pos} {e : Expr}
theorem sx_lift (h : PS X s (tS X.K noX cls lent f)) : PS X s (tX X.K cls i a dd x lent f) := PS.of h fun D σ H ⟨B, w, ρ, S, P⟩ => ⟨B, w, ρ, S.at', P⟩
theorem sx_nil : PSs X [] (tX X.K cls i a dd x lent fun r => .ok .nx r) := by
  refine PSs.of pss_nil ?_
  rintro D σ H ⟨B, w, ρ, S, P⟩
  exact post_nx (t := 0) P (Stp.refl 0 B H w) S.at' LkS.refl
theorem sx_cons (hi : ∀ j, i = some j → j ∈ lent) (h : PS X s (tX X.K cls i a dd x lent f)) (hs : PSs X ss (tX X.K cls i a dd x lent g)) : PSs X (s :: ss) (tX X.K cls i a dd x lent fun r => thenS (f r) g) := by
  refine PSs.of (pss_cons h hs) ?_
  rintro D σ H ⟨B, w, ρ, S, P⟩
  refine ⟨B, w, ρ, S, ?_⟩
  have P : PostS X.K noX cls lent σ B H w ((f ρ).bind fun f r => match f with
    | .nx => g r
    | f => .ok f r) D := P
  cases e : f ρ with
  | bad => rw [e] at P; exact P
  | exc c y r => rw [e] at P; exact P
  | ok fl r =>
    rw [e] at P
    cases fl with
    | nx => exact fun σ' B' H' w' st wf en lk tb => ⟨B', w', r, S.stp st ⟨wf, tb, en⟩ fun j hj => lk.2 j (hi j hj), PostS.after (show PostS X.K noX cls lent σ B H w (g r) D from P) st lk⟩
    | brk => exact P
    | cont => exact P
    | ret o => exact P
theorem sx_if {t : Expr} {p q : List Stmt} {fe : Rho → Option Bool} (ht : PT X t (tXT X.K i a dd x fe)) (hp : PSs X p (tX X.K cls i a dd x lent f)) (hq : PSs X q (tX X.K cls i a dd x lent g)) :
    PS X (.If t p q pos) (tX X.K cls i a dd x lent fun r => match fe r with
      | some true => f r
      | some false => g r
      | none => .bad) := by
  refine PS.of (ps_if ht hp hq) ?_
  rintro D σ H ⟨B, w, ρ, S, P⟩
  cases e : fe ρ with
  | none => simp only [e] at P; exact P.elim
  | some b =>
    refine ⟨B, w, ρ, S, b, e, fun H' k => ?_⟩
    obtain ⟨S', st⟩ := S.grow k
    cases b with
    | true => simp only [e] at P; exact ⟨B, w, ρ, S', P.after st LkS.refl⟩
    | false => simp only [e] at P; exact ⟨B, w, ρ, S', P.after st LkS.refl⟩
/-- a slot set to data, in a suite -/
theorem setS_core {B H : Hp} {w : Wn} {σ : L2.St} {ρ : Rho} {j : Nat} {v : V} {y : D} {D : Ends} (S : SuOk X.K i a dd x B H w σ ρ) (hj : j < σ.length) (hv : DR X.K B v y) (P : PostS X.K noX cls lent σ B H w (match setS lent j (.d y) ρ with
      | some r => .ok .nx r
      | none => .bad) D) : D.nx (σ.set j (some v)) H := by
  by_cases hl : j ∈ lent
  · simp only [setS, hl, if_true] at P
    exact P.elim
  · simp only [setS, hl, if_false] at P
    obtain ⟨st2, a2, lk⟩ := store_slot (lent := lent) (o := .d y) S.at'.wf S.at'.env (.d hv) hj hl
    exact post_nx (t := 0) P st2 a2 lk
theorem sx_setb {j : Nat} {n : Str} {pos' : Pos} {fe : Rho → Option Bool} (hN : X.N.Nodup) (hi : X.N[j]? = some n) (hx : Loc X.env.scope n) (hf : X.fn n = true) (he : PE X e (tXE X.K i a dd x fe)) (hs : swapsWith e (some (.Name n pos')) pos.line X.env = pure false) :
    PS X (.Assign [.Name n pos'] e pos) (tX X.K cls i a dd x lent fun r => match fe r with
      | some b => match setS lent j (.d (.bl b)) r with
        | some r => .ok .nx r
        | none => .bad
      | none => .bad) := by
  have base := ps_set (pos := pos) hN hi hx he hs (.inl hf)
  refine ⟨fun pins s σ H D I q => base.run pins s σ H D I ?_⟩
  obtain ⟨B, w, ρ, S, P⟩ := q
  cases e : fe ρ with
  | none => simp only [e] at P; exact P.elim
  | some b =>
    simp only [e] at P
    refine ⟨B, w, ρ, S, b, e, fun H' k => ?_⟩
    obtain ⟨S', st⟩ := S.grow k
    exact setS_core S' (by rw [I.len]; exact (List.getElem?_eq_some_iff.mp hi).1) (.bl b) (P.after st LkS.refl)
theorem sx_setp {j : Nat} {n : Str} {pos' : Pos} (hN : X.N.Nodup) (hi : X.N[j]? = some n) (hx : Loc X.env.scope n) (hf : X.fn n = true) (he : PE X e (fun σ H Q => ∃ B w ρ, SuOk X.K i a dd x B H w σ ρ ∧ ∀ v, DR X.K B v x → Q v H)) (hs : swapsWith e (some (.Name n pos')) pos.line X.env = pure false) :
    PS X (.Assign [.Name n pos'] e pos) (tX X.K cls i a dd x lent fun r => match setS lent j (.d x) r with
      | some r => .ok .nx r
      | none => .bad) := by
  have base := ps_set (pos := pos) hN hi hx he hs (.inl hf)
  refine ⟨fun pins s σ H D I q => base.run pins s σ H D I ?_⟩
  obtain ⟨B, w, ρ, S, P⟩ := q
  exact ⟨B, w, ρ, S, fun v hv => setS_core S (by rw [I.len]; exact (List.getElem?_eq_some_iff.mp hi).1) hv P⟩
end
/-! ### written data -/
mutual
def litB : D → Expr → Bool
  | .non, .Constant .none _ _ => true
  | .int i, .Constant (.int j) _ _ => decide (i = j)
  | .str i, .Constant (.str j) _ _ => decide (i = j)
  | .bl i, .Constant (.bool j) _ _ => decide (i = j)
  | .tup ds, .Tuple es _ _ => litsB ds es && decide (ds.length ≤ 1000)
  | _, _ => false
def litsB : List D → List Expr → Bool
  | [], [] => true
  | d :: ds, e :: es => litB d e && litsB ds es
  | _, _ => false
end
theorem lit_hd {d : D} {py : Expr} (h : litB d py = true) : hdOk py = true := by
  cases d <;> cases py <;> first | rfl | (simp only [litB] at h; exact absurd h (by decide)) | (unfold litB at h; cases h)
mutual
theorem lit_pe {X : Cx} {W : WX} {cls : Nat → Value} : ∀ (d : D) {py : Expr}, litB d py = true → PE X py (tE X.K W cls fun r => .ok (.d d) r) := by
  intro d py h
  match d with
  | .non =>
    cases py <;> first | (simp [litB] at h; done) | skip
    rename_i v kk pos
    cases v <;> first | (simp [litB] at h; done) | skip
    exact PE.of pe_non (tc_ok fun B => .non)
  | .int i =>
    cases py <;> first | (simp [litB] at h; done) | skip
    rename_i v kk pos
    cases v <;> first | (simp [litB] at h; done) | skip
    rename_i j
    have e : i = j := by simpa [litB] using h
    subst e
    exact PE.of pe_int (tc_ok fun B => .int i)
  | .str i =>
    cases py <;> first | (simp [litB] at h; done) | skip
    rename_i v kk pos
    cases v <;> first | (simp [litB] at h; done) | skip
    rename_i j
    have e : i = j := by simpa [litB] using h
    subst e
    exact PE.of pe_str (tc_ok fun B => .str i)
  | .bl i =>
    cases py <;> first | (simp [litB] at h; done) | skip
    rename_i v kk pos
    cases v <;> first | (simp [litB] at h; done) | skip
    rename_i j
    have e : i = j := by simpa [litB] using h
    subst e
    exact PE.of pe_bl (tc_ok fun B => .bl i)
  | .tup ds =>
    cases py <;> first | (simp [litB] at h; done) | skip
    unfold litB at h
    rw [Bool.and_eq_true, decide_eq_true_eq] at h
    exact se_tup (f := fun r => .ok ds r) (n := ds.length) (fun r xs r' e => by cases e; rfl) (Nat.le_trans h.2 (by decide)) (lits_pe ds h.1)
  | .lst _ => cases py <;> (simp [litB] at h)
  | .dct _ _ => cases py <;> (simp [litB] at h)
  | .dtt _ _ => cases py <;> (simp [litB] at h)
  | .ins _ _ => cases py <;> (simp [litB] at h)
theorem lits_pe {X : Cx} {W : WX} {cls : Nat → Value} : ∀ (ds : List D) {es : List Expr}, litsB ds es = true → PA X es (tA X.K W cls fun r => .ok ds r) := by
  intro ds es h
  match ds with
  | [] =>
    cases es with
    | nil => exact sa_nil
    | cons _ _ => simp [litsB] at h
  | d :: ds =>
    cases es with
    | nil => simp [litsB] at h
    | cons e es =>
      unfold litsB at h
      rw [Bool.and_eq_true] at h
      exact sa_cons (f := fun r => .ok (.d d) r) (g := fun r => .ok ds r) (lit_hd h.1) (lit_pe d h.1) (lits_pe ds h.2)
end
/-! ### the try statement -/
theorem OR.monoX {K : PySem.W.Frag} {B H B1 H1 : Hp} {F F' : Addr → Prop} {v : V} {o : O} (h : OR K B H F v o) (e : Ext B B1) (k : ∀ a u, (∀ fs, u ≠ .xd fs) → F a → H a = some u → F' a ∧ H1 a = some u) : OR K B1 H1 F' v o := by
  cases h with
  | d h => exact .d (h.ext e)
  | lst f ha hs => have z := k _ _ (fun _ z => by cases z) f ha; exact .lst z.1 z.2 (hs.ext e)
  | dct f ha hl hs => have z := k _ _ (fun _ z => by cases z) f ha; exact .dct z.1 z.2 hl (hs.ext e)
  | dtt f ha hl hs => have z := k _ _ (fun _ z => by cases z) f ha; exact .dtt z.1 z.2 hl (hs.ext e)
  | ins f g ha hd hl hp hn =>
    have z := k _ _ (fun _ z => by cases z) f ha
    have z2 := k _ _ (fun _ z => by cases z) g hd
    refine .ins z.1 z2.1 z.2 z2.2 hl (frs_monoA e hp fun b u hb hF hu => k b u (fun fs z => ?_) hF hu) hn
    subst z
    obtain ⟨_, ⟨_, q⟩ | ⟨_, q⟩ | ⟨_, q⟩⟩ := owns_kind hp hb <;> rw [hu] at q <;> cases q
open Classical in
/-- an address that is nobody's from here on -/
noncomputable def offA (d : Addr) (w : Wn) : Wn := fun a => if a = d then none else w a
theorem offA_some {d a : Addr} {w : Wn} {q : Own} (h : offA d w a = some q) : w a = some q := by
  unfold offA at h
  split at h
  · cases h
  · exact h
theorem offA_none {d a : Addr} {w : Wn} (h : w a = none) : offA d w a = none := by
  unfold offA
  split
  · rfl
  · exact h
end Ev
end

section
set_option Elab.async false
set_option linter.all false
set_option maxRecDepth 100000
set_option maxHeartbeats 4000000
/-! Ev, part S: try with clauses of both sorts, and else. -/
namespace Ev
open PySem PySem.Spec PyProof.Rows L2
variable [Γ : Clz]
/-- a clause: its class, its name's slot, its suite; none: clauses that nothing comes to -/
abbrev ClG := Option (Value × Option Nat × (Addr → Value → Option Addr → TS))
/-- what the clauses wish of an exception of the body, one after the other -/
def wG (K : PySem.W.Frag) (Wout : WX) (D : Ends) : List ClG → WX
  | [] => Wout
  | none :: _ => fun _ _ _ _ => False
  | some (c, none, ts) :: r => fun cls d σ H => ∃ b, PySem.W.exmOne K cls c = some b ∧ (b = true → ∀ a, H a = none → ts a cls d D σ H) ∧ (b = false → wG K Wout D r cls d σ H)
  | some (c, some i, ts) :: r => fun cls d σ H => ∃ b, PySem.W.exmOne K cls c = some b ∧
      (b = true → ∀ a, H a = none → ts a cls d { nx := fun σ' H' => D.nx (σ'.set i none) H', rt := D.rt, bk := fun σ' H' => D.bk (σ'.set i none) H', ct := fun σ' H' => D.ct (σ'.set i none) H' } (σ.set i (some (.ref a))) H) ∧ (b = false → wG K Wout D r cls d σ H)
inductive HdG (X : Cx) : List ExceptHandler → List ClG → Prop
  | nil : HdG X [] []
  | dead {hds : List ExceptHandler} : HdG X hds [none]
  | only {x : Str} {c : Value} {ts : Addr → Value → Option Addr → TS} {b₀ : Stmt} {suite : List Stmt} {np pos' : Pos} {hds : List ExceptHandler} {l : List ClG} (hc : Names X x c)
      (hsu : ∀ (a : Addr) (oe : Obj) (cls : Value) (d : Option Addr) (pn : List (Addr × Obj)), Zc cls d oe → (∃ vs, oe.data = .fields vs) → PSs (X.suite a ((a, oe) :: pn)) (b₀ :: suite) (ts a cls d)) (r : HdG X hds l) :
      HdG X (.ExceptHandler (some (.Name x np)) none (b₀ :: suite) pos' :: hds) (some (c, none, ts) :: l)
  | named {x n : Str} {i : Nat} {c : Value} {ts : Addr → Value → Option Addr → TS} {b₀ : Stmt} {suite : List Stmt} {np pos' : Pos} {hds : List ExceptHandler} {l : List ClG} (hc : Names X x c) (hi : X.N[i]? = some n) (hln : X.env.kindOf n = some .local)
      (hsu : ∀ (a : Addr) (oe : Obj) (cls : Value) (d : Option Addr) (pn : List (Addr × Obj)), Zc cls d oe → (∃ vs, oe.data = .fields vs) → PSs (X.suite a ((a, oe) :: pn)) (b₀ :: suite) (ts a cls d)) (r : HdG X hds l) :
      HdG X (.ExceptHandler (some (.Name x np)) (some n) (b₀ :: suite) pos' :: hds) (some (c, some i, ts) :: l)
section
variable {X : Cx} {body : List Stmt} {h₀ : ExceptHandler} {hds : List ExceptHandler} {l : List ClG} {pos : Pos} {tb : WX → TS} {Wout : WX}
theorem ps_try_g {orelse : List Stmt} {u : TS} (ho : PSs X orelse u) (hs : X.stack = X.env :: X.outer) (hf : X.env.frame = some X.env.locals) (hN : X.N.Nodup) (tk : Takes X Wout)
    (hb : ∀ (W : WX) (pn : List (Addr × Obj)) (xe : Value → Shared → Prop), Takes (X.tr pn xe) W → PassesOwn (model X.prog X.w) X.A X.env xe → PSs (X.tr pn xe) body (tb W))
    (hh : HdG X (h₀ :: hds) l) : PS X (.Try body (h₀ :: hds) orelse [] pos) (fun D σ H => tb (wG X.K Wout D l) { D with nx := u D } σ H) := by
  refine ⟨fun pins s σ H D I h => ?_⟩
  have ok := I.ok
  have hfr : X.A.frames = some (X.env :: X.outer) := by rw [ok.frames, hs]
  refine wpAny_Try_except ?_
  refine wpAny_mono ((hb (wG X.K Wout D l) (X.pn ++ pins) (fun e s₁ => wpAny (model X.prog X.w) X.A (noteFrame e X.env) (fun _ s₂ => wpAny (model X.prog X.w) X.A (setFlight e none) (fun _ s₃ =>
    wpAny (model X.prog X.w) X.A (handleBy e X.env (h₀ :: hds)) (SP X pins D) X.xe s₃) X.xe s₂) X.xe s₁) (fun u s' xx => ?_) PassesOwn.looking).run [] s σ H { D with nx := u D } (I.toTry _) h) (fun f s1 hsp => ?_) (fun e s1 he => he)
  · obtain ⟨a, B, sI, pins', σ', H', cls, d, rfl, J', nb, up, sky, na, os, ag, w⟩ := xx
    have J : Inv X pins σ' H' sI := J'.ofTry ok
    have sky' : Sky B (X.env :: X.outer) a (Zc cls d) X.env.locals s'.heap := by rw [← hs]; exact sky
    show wpAny (model X.prog X.w) X.A (noteFrame (.ref a) X.env) _ _ _
    refine Sky.land Zc.steady hfr hf sky' fun h3 fl3 up3 => ?_
    have J3 : Inv X pins σ' H' { s' with heap := h3 } := J.landed nb fl3.1 (up.trans up3) os ag
    obtain ⟨oe3, vs3, he3, hz3, hd3⟩ := fl3.there
    have notFr : ∀ {h : Heap} {o : Obj} {vs : Array Value}, h.FunFrames B (X.env :: X.outer) → h.get? a = some o → o.data = .fields vs → a ∉ frs (X.env :: X.outer) := fun {h o vs} ff e dd hm => by
      obtain ⟨_, o', e', hnf⟩ := ff.mem hm
      rw [e] at e'; cases e'
      exact hnf _ dd
    have nfr := notFr fl3.2.2.1 he3 hd3
    have nL : a ≠ X.env.locals := fun z => nfr (List.mem_filterMap.mpr ⟨X.env, List.mem_cons_self, by rw [hf, z]⟩)
    have nF : a ∉ X.fs := fun hm => by
      obtain ⟨e, he, q⟩ := List.mem_filterMap.mp hm
      exact nfr (List.mem_filterMap.mpr ⟨e, List.mem_cons_of_mem _ he, q⟩)
    have S3 := J3.suite he3 hd3 na nL nF
    have LT : PySem.W.Looks (model X.prog X.w) h3 (typeOf (.ref a)) cls := fun A Q E s k q => wpAny_typeOf_ref (k _ _ he3) (by rw [hz3.1]; exact q)
    have test : ∀ {x : Str} {c : Value} {np : Pos}, Names X x c → ∀ {Q : Value → Shared → Prop} {E : Value → Shared → Prop}, Q c { s' with heap := h3 } → wpAny (model X.prog X.w) (X.A.mark (some (.ref a))) (eval (.Name x np) X.env) Q E { s' with heap := h3 } := fun {x c np} hc {Q E} q => by
      obtain ⟨hg, hdbg, hm | ⟨hm, hv, hnn⟩⟩ := hc
      · exact ld_glob (X := X.suite a ((a, oe3) :: (X.pn ++ pins))) S3 hg hm q hdbg
      · exact ld_blt (X := X.suite a ((a, oe3) :: (X.pn ++ pins))) S3 hg hm hv q hnn hdbg
    have go : ∀ {hds' : List ExceptHandler} {l' : List ClG}, HdG X hds' l' → wG X.K Wout D l' cls d σ' H' →
        wpAny (model X.prog X.w) X.A (handleBy (.ref a) X.env hds') (SP X pins D) X.xe { s' with heap := h3 } := by
      intro hds' l' hk
      induction hk with
      | nil =>
        intro w
        refine wpAny_handleBy_nil ?_
        obtain ⟨k1, k2, k3, oe, vs, T, oT, ts', he, hz, hd, h1, hr⟩ := id fl3
        unfold PySem.passOn
        refine wpAny_bind (wpAny_field he hd h1 ?_)
        rw [if_neg (show ¬ ((Value.ref T == Value.none) = true) from by simp)]
        have fin : wpAny (model X.prog X.w) X.A (setFlight (.ref a) X.env.frame) (fun _ s4 => wpAny (model X.prog X.w) X.A (throw (.ref a) : Sem Flow) (SP X pins D) X.xe s4) X.xe { s' with heap := h3 } := by
          rw [hf]
          refine HandSPX.setFlight_upZ fl3 fun h4 hh4 up4 => wpAny_throw (tk _ _ ?_)
          exact ⟨a, B, sI, pins, σ', H', cls, d, rfl, J, nb, (up.trans up3).trans up4, .inr (.inr (by rw [hs]; exact hh4)), na, os, ag, w⟩
        first
          | exact wpAny_bind (wpAny_pure (wpAny_bind fin))
          | exact wpAny_bind fin
      | dead => intro w; exact w.elim
      | @only x c ts b₀ suite np pos' hds2 l2 hc hsu r ih =>
        intro w
        obtain ⟨b, hb1, hyes, hno⟩ := w
        refine wpAny_handleBy_cons (codeAny_handlers_test ?_) (by intro q; cases q)
        have LM := PySem.W.exm_one (M := model X.prog X.w) (J3.kIn) LT hb1
        refine test hc (LM.here ?_)
        cases b with
        | true =>
          refine codeAny_handlers_suite ?_
          refine HandSPX.lands_againZ fl3 fun h4 fl4 up4 => ?_
          have J4 : Inv X pins σ' H' { s' with heap := h4 } := J.landed nb fl4.1 ((up.trans up3).trans up4) os ag
          obtain ⟨oe4, vs4, he4, hz4, hd4⟩ := fl4.there
          have S4 := J4.suite he4 hd4 na nL nF
          refine wpAny_mono ((hsu a oe4 cls d (X.pn ++ pins) hz4 ⟨_, hd4⟩).run [] _ _ H' _ S4 (hyes rfl a na)) (fun f s6 hsp => ?_) (fun _ _ z => False.elim z)
          cases f with
          | next =>
            obtain ⟨σ6, H6, S6, q6⟩ := hsp
            exact ⟨_, _, S6.unsuite ok, q6⟩
          | brk =>
            obtain ⟨σ6, H6, S6, q6⟩ := hsp
            exact ⟨_, _, S6.unsuite ok, q6⟩
          | cont =>
            obtain ⟨σ6, H6, S6, q6⟩ := hsp
            exact ⟨_, _, S6.unsuite ok, q6⟩
          | ret u =>
            obtain ⟨v6, σ6, H6, S6, r6, q6⟩ := hsp
            exact ⟨_, _, _, S6.unsuite ok, r6, q6⟩
        | false =>
          show wpAny _ X.A (handleBy (.ref a) X.env hds2) _ _ _
          exact ih (hno rfl)
      | @named x n i c ts b₀ suite np pos' hds2 l2 hc hi hln hsu r ih =>
        intro w
        obtain ⟨b, hb1, hyes, hno⟩ := w
        have hloc : Loc X.env.scope n := .inl hln
        refine wpAny_handleBy_cons (codeAny_handlers_test ?_) (by intro q; cases q)
        have LM := PySem.W.exm_one (M := model X.prog X.w) (J3.kIn) LT hb1
        refine test hc (LM.here ?_)
        cases b with
        | true =>
          refine codeAny_handlers_suite_as ?_
          refine HandSPX.lands_againZ fl3 fun h4 fl4 up4 => ?_
          have J4 : Inv X pins σ' H' { s' with heap := h4 } := J.landed nb fl4.1 ((up.trans up3).trans up4) os ag
          obtain ⟨oe4, vs4, he4, hz4, hd4⟩ := fl4.there
          have S4 := J4.suite he4 hd4 na nL nF
          refine store_ok (X := X.suite a ((a, oe4) :: (X.pn ++ pins))) (v := .ref a) S4 hN hi hloc rfl (fun s5 S5 => ?_) (.inr hln)
          refine wpAny_mono ((hsu a oe4 cls d (X.pn ++ pins) hz4 ⟨_, hd4⟩).run [] s5 _ H' _ S5 (hyes rfl a na)) (fun f s6 hsp => ?_) (fun _ _ z => False.elim z)
          have end_ : ∀ {σ6 : L2.St} {H6 : Hp} {Q : Shared → Prop}, Inv (X.suite a ((a, oe4) :: (X.pn ++ pins))) [] σ6 H6 s6 → (∀ s7, Inv X pins (σ6.set i none) H6 s7 → Q s7) →
              wpAny (model X.prog X.w) X.A (do bindName X.env n .none; unbindBehindTheSuite X.env n pos') (fun _ s7 => Q s7) X.xe s6 := fun {σ6 H6 Q} S6 hq => gone_ok (S6.unsuite ok) hN hi hln hq
          cases f with
          | next =>
            obtain ⟨σ6, H6, S6, q6⟩ := hsp
            exact end_ S6 fun s7 J7 => ⟨_, _, J7, q6⟩
          | brk =>
            obtain ⟨σ6, H6, S6, q6⟩ := hsp
            exact end_ S6 fun s7 J7 => ⟨_, _, J7, q6⟩
          | cont =>
            obtain ⟨σ6, H6, S6, q6⟩ := hsp
            exact end_ S6 fun s7 J7 => ⟨_, _, J7, q6⟩
          | ret u =>
            obtain ⟨v6, σ6, H6, S6, r6, q6⟩ := hsp
            exact end_ S6 fun s7 J7 => ⟨_, _, _, J7, r6, q6⟩
        | false =>
          show wpAny _ X.A (handleBy (.ref a) X.env hds2) _ _ _
          exact ih (hno rfl)
    exact go hh w
  · cases f with
    | next =>
      obtain ⟨σ', H', J', q⟩ := hsp
      exact ho.run pins s1 σ' H' D (J'.ofTry ok) q
    | brk =>
      obtain ⟨σ', H', J', q⟩ := hsp
      exact ⟨σ', H', J'.ofTry ok, q⟩
    | cont =>
      obtain ⟨σ', H', J', q⟩ := hsp
      exact ⟨σ', H', J'.ofTry ok, q⟩
    | ret u =>
      obtain ⟨v, σ', H', J', r, q⟩ := hsp
      exact ⟨v, σ', H', J'.ofTry ok, r, q⟩
end
/-! ### for the evaluator -/
/-- a clause's suite is sound -/
def SuiteOk (X : Cx) (cls : Nat → Value) (i : Option Nat) (lent : List Nat) (f : Nat → D → Rho → Out Fl) (suite : List Stmt) : Prop :=
  ∀ (a dd C : Addr) (oe : Obj) (c : Nat) (x : D) (pn : List (Addr × Obj)), cls c = .ref C → ExcC X.K C → PySem.W.findIn X.K (.ref C) "place" = some none → Zc (.ref C) (some dd) oe → (∃ vs, oe.data = .fields vs) →
    PSs (X.suite a ((a, oe) :: pn)) suite (tX X.K cls i a dd x lent (f c x))
inductive HdsX (X : Cx) (cls : Nat → Value) (G : Gs) (lent : List Nat) : Xh → List ExceptHandler → Prop
  | nil : HdsX X cls G lent .nil []
  | dead {hds : List ExceptHandler} : HdsX X cls G lent .dead hds
  | only {k : Nat} {xn : Str} {np pos' : Pos} {b₀ : Stmt} {suite : List Stmt} {ss : Xss} {hs : Xh} {hds : List ExceptHandler} (hc : Names X xn (cls k)) (hsu : SuiteOk X cls none lent (fun c x => xSs G lent c x ss) (b₀ :: suite)) (r : HdsX X cls G lent hs hds) :
      HdsX X cls G lent (.cons [k] none ss hs) (.ExceptHandler (some (.Name xn np)) none (b₀ :: suite) pos' :: hds)
  | named {k i : Nat} {xn n : Str} {np pos' : Pos} {b₀ : Stmt} {suite : List Stmt} {ss : Xss} {hs : Xh} {hds : List ExceptHandler} (hc : Names X xn (cls k)) (hi : X.N[i]? = some n) (hln : X.env.kindOf n = some .local)
      (hsu : SuiteOk X cls (some i) (i :: lent) (fun c x => xSs G (i :: lent) c x ss) (b₀ :: suite)) (r : HdsX X cls G lent hs hds) :
      HdsX X cls G lent (.cons [k] (some i) ss hs) (.ExceptHandler (some (.Name xn np)) (some n) (b₀ :: suite) pos' :: hds)
section
variable {X : Cx} {cls : Nat → Value} {G : Gs} {lent : List Nat} {Wout : WX}
/-- nobody's: the dict of what was caught -/
theorem caught_at {K : PySem.W.Frag} {B H : Hp} {w : Wn} {σ : L2.St} {ρ : Rho} {d : Addr} {x : D} (wf : Wf B H w) (en : EnvR K B H w σ ρ) (hx : XR K B H d x) :
    Stp 0 B H w B H (offA d (dropT 0 w)) ∧ At K 0 B H (offA d (dropT 0 w)) σ ρ ∧ offA d (dropT 0 w) d = none := by
  obtain ⟨pv, hd1, hd2⟩ := hx
  refine ⟨(stp_drop 0 B H w).trans ⟨Ext.refl B, fun b o h1 h2 => ⟨h1, offA_none h2⟩, fun b o k h1 h2 hk => absurd hk (Nat.not_lt_zero k), fun _ _ h => .inl h⟩, ⟨⟨wf.sub, fun b q h => wf.off b q (dropT_some (offA_some h)), fun b q h => wf.live b q (dropT_some (offA_some h))⟩, fun b k h => TB.drop 0 w b k (offA_some h), ⟨en.len, fun j o h => ?_⟩⟩, if_pos rfl⟩
  obtain ⟨v, hv, ho⟩ := en.at' j o h
  refine ⟨v, hv, ho.monoX (Ext.refl B) fun b u hu f hb => ⟨?_, hb⟩⟩
  have hbd : b ≠ d := fun z => by subst z; rw [hd1] at hb; cases hb; exact hu _ rfl
  unfold offA
  rw [if_neg hbd]
  exact dropT_slot.mpr f
theorem At.none {K : PySem.W.Frag} {t : Nat} {B H : Hp} {w : Wn} {σ : L2.St} {ρ : Rho} (a : At K t B H w σ ρ) (i : Nat) (v : Option V) : At K t B H w (σ.set i v) (ρ.set i Option.none) := by
  refine ⟨a.wf, a.tb, ⟨by rw [List.length_set, List.length_set]; exact a.env.len, fun j o h => ?_⟩⟩
  rw [getS_set] at h
  by_cases hj : j = i
  · subst hj; rw [if_pos rfl] at h; split at h <;> cases h
  · rw [if_neg hj] at h
    obtain ⟨v, hv, ho⟩ := a.env.at' j o h
    exact ⟨v, by rw [List.getElem?_set_ne (Ne.symm hj)]; exact hv, ho⟩
theorem clauses_ok (T : XtOk X.K cls G) {hs : Xh} {hds : List ExceptHandler} (h : HdsX X cls G lent hs hds) : ∃ l, HdG X hds l ∧
    ∀ {De : Ends} {σ0 : L2.St} {B H : Hp} {w : Wn} {c : Nat} {x : D} {r : Rho}, σ0.length = X.N.length → PostS X.K Wout cls lent σ0 B H w (xH G lent hs c x r) De → ∀ {σ' : L2.St} {d : Addr} {B' H' : Hp} {w' : Wn}, Stp 0 B H w B' H' w' → Wf B' H' w' → EnvR X.K B' H' w' σ' r → LkS lent σ0 σ' → XR X.K B' H' d x →
      wG X.K Wout De l (cls c) (some d) σ' H' := by
  induction h with
  | nil => exact ⟨[], .nil, fun {De σ0 B H w c x r} hl P {σ' d B' H' w'} st wf en lk hx => P σ' d B' H' w' st wf en lk hx⟩
  | dead => exact ⟨[none], .dead, fun {De σ0 B H w c x r} hl P {σ' d B' H' w'} st wf en lk hx => P.elim⟩
  | @only k xn np pos' b₀ suite ss hs hds hc hsu r ih =>
    obtain ⟨l, hl1, ih⟩ := ih
    refine ⟨some (cls k, none, fun a cl d => fun D σ H => ∃ c x dd C, cl = cls c ∧ d = some dd ∧ cls c = .ref C ∧ ExcC X.K C ∧ PySem.W.findIn X.K (.ref C) "place" = some none ∧ tX X.K cls none a dd x lent (xSs G lent c x ss) D σ H) :: l,
      .only hc (fun a oe cl d pn hz hfl => ⟨fun pins s σ H D I q => by
        obtain ⟨c, x, dd, C, e1, e2, e3, e4, e5, q⟩ := q
        subst e1 e2
        rw [e3] at hz
        exact (hsu a dd C oe c x pn e3 e4 e5 hz hfl).run pins s σ H D I q⟩) hl1, fun {De σ0 B H w c x r} hl P {σ' d B' H' w'} st wf en lk hx => ?_⟩
    simp only [xH] at P
    cases ea : anyK G c [k] with
    | none => rw [ea] at P; exact P.elim
    | some b =>
      rw [ea] at P
      obtain ⟨C, e1, e2, e3, e4, e5⟩ := T.at' c k b (any_one ea)
      refine ⟨b, e2, fun hbt a na => ?_, fun hbf => ?_⟩
      · subst hbt
        dsimp only at P
        refine ⟨c, x, d, C, rfl, rfl, e1, e4, e5, ?_⟩
        obtain ⟨st1, a1, wd⟩ := caught_at wf en hx
        refine ⟨B', _, r, ⟨a1, wd, hx, fun j hj => by cases hj⟩, ?_⟩
        cases ex : xSs G lent c x ss r with
        | bad => rw [ex] at P; exact P
        | exc _ _ _ => rw [ex] at P; exact P.elim
        | ok fl r2 =>
          rw [ex] at P
          dsimp only at P
          intro σ2 B2 H2 w2 st2 wf2 en2 lk3
          exact P σ2 B2 H2 w2 ((st.trans st1).trans st2) wf2 en2 (lk.trans lk3)
      · subst hbf
        exact ih hl P st wf en lk hx
  | @named k i xn n np pos' b₀ suite ss hs hds hc hi hln hsu r ih =>
    obtain ⟨l, hl1, ih⟩ := ih
    refine ⟨some (cls k, some i, fun a cl d => fun D σ H => ∃ c x dd C, cl = cls c ∧ d = some dd ∧ cls c = .ref C ∧ ExcC X.K C ∧ PySem.W.findIn X.K (.ref C) "place" = some none ∧ tX X.K cls (some i) a dd x (i :: lent) (xSs G (i :: lent) c x ss) D σ H) :: l,
      .named hc hi hln (fun a oe cl d pn hz hfl => ⟨fun pins s σ H D I q => by
        obtain ⟨c, x, dd, C, e1, e2, e3, e4, e5, q⟩ := q
        subst e1 e2
        rw [e3] at hz
        exact (hsu a dd C oe c x pn e3 e4 e5 hz hfl).run pins s σ H D I q⟩) hl1, fun {De σ0 B H w c x r} hl P {σ' d B' H' w'} st wf en lk hx => ?_⟩
    simp only [xH] at P
    cases ea : anyK G c [k] with
    | none => rw [ea] at P; exact P.elim
    | some b =>
      rw [ea] at P
      obtain ⟨C, e1, e2, e3, e4, e5⟩ := T.at' c k b (any_one ea)
      refine ⟨b, e2, fun hbt a na => ?_, fun hbf => ?_⟩
      · subst hbt
        dsimp only at P
        by_cases hln2 : i ∈ lent
        · rw [if_pos hln2] at P; exact P.elim
        · rw [if_neg hln2] at P
          refine ⟨c, x, d, C, rfl, rfl, e1, e4, e5, ?_⟩
          have il : i < σ'.length := by rw [lk.1, hl]; exact (List.getElem?_eq_some_iff.mp hi).1
          obtain ⟨st1, a1, wd⟩ := caught_at wf en hx
          refine ⟨B', _, r.set i none, ⟨a1.none i (some (.ref a)), wd, hx, fun j hj => by cases hj; exact List.getElem?_set_self il⟩, ?_⟩
          have lk2 : LkS lent σ0 (σ'.set i (some (.ref a))) := lk.trans ⟨List.length_set .., fun j hj => List.getElem?_set_ne (fun z => hln2 (by rw [z]; exact hj))⟩
          cases ex : xSs G (i :: lent) c x ss (r.set i none) with
          | bad => rw [ex] at P; exact P
          | exc _ _ _ => rw [ex] at P; exact P.elim
          | ok fl r2 =>
            rw [ex] at P
            dsimp only at P
            intro σ2 B2 H2 w2 st2 wf2 en2 lk3
            have g1 := (st.trans st1).trans st2
            have g2 : EnvR X.K B2 H2 w2 (σ2.set i none) (r2.set i none) := by
              refine ⟨by rw [List.length_set, List.length_set]; exact en2.len, fun j o h => ?_⟩
              rw [getS_set] at h
              by_cases hj : j = i
              · subst hj; rw [if_pos rfl] at h; split at h <;> cases h
              · rw [if_neg hj] at h
                obtain ⟨v, hv, ho⟩ := en2.at' j o h
                exact ⟨v, by rw [List.getElem?_set_ne (Ne.symm hj)]; exact hv, ho⟩
            have g3 : LkS lent σ0 (σ2.set i none) := by
              have l1 : LkS lent (σ'.set i (some (.ref a))) σ2 := ⟨lk3.1, fun j hj => lk3.2 j (List.mem_cons_of_mem _ hj)⟩
              exact (lk2.trans l1).trans ⟨List.length_set .., fun j hj => List.getElem?_set_ne (fun z => hln2 (by rw [z]; exact hj))⟩
            cases fl with
            | nx => exact fun tb => P (σ2.set i none) B2 H2 w2 g1 wf2 g2 g3 tb
            | brk => exact fun tb => P (σ2.set i none) B2 H2 w2 g1 wf2 g2 g3 tb
            | cont => exact fun tb => P (σ2.set i none) B2 H2 w2 g1 wf2 g2 g3 tb
            | ret o => exact fun v tb ho => P (σ2.set i none) B2 H2 w2 g1 wf2 g2 g3 v tb ho
      · subst hbf
        exact ih hl P st wf en lk hx
variable {body orelse : List Stmt} {fb fo : Rho → Out Fl} {pos : Pos} {h₀ : ExceptHandler} {hds : List ExceptHandler} {hs : Xh}
theorem ss_try (ho : PSs X orelse (tS X.K Wout cls lent fo)) (hst : X.stack = X.env :: X.outer) (hf : X.env.frame = some X.env.locals) (hN : X.N.Nodup) (T : XtOk X.K cls G) (tk : Takes X Wout)
    (hb : ∀ (W : WX) (pn : List (Addr × Obj)) (xe : Value → Shared → Prop), Takes (X.tr pn xe) W → PassesOwn (model X.prog X.w) X.A X.env xe → PSs (X.tr pn xe) body (tS X.K W cls lent fb))
    (hh : HdsX X cls G lent hs (h₀ :: hds)) :
    PS X (.Try body (h₀ :: hds) orelse [] pos) (tS X.K Wout cls lent fun r => match fb r with
      | .exc c x r => xH G lent hs c x r
      | .ok .nx r => fo r
      | o => o) := by
  obtain ⟨l, hl, go⟩ := clauses_ok (Wout := Wout) T hh
  have base := ps_try_g (pos := pos) ho hst hf hN tk hb hl
  refine ⟨fun pins s σ H D I q => base.run pins s σ H D I ?_⟩
  obtain ⟨B, w, ρ, at0, P⟩ := q
  refine ⟨B, w, ρ, at0, ?_⟩
  dsimp only at P
  cases e : fb ρ with
  | bad => rw [e] at P; exact P
  | ok fl r =>
    rw [e] at P
    cases fl with
    | nx =>
      intro σ' B' H' w' st wf en lk tb
      exact ⟨B', w', r, ⟨wf, tb, en⟩, P.after st lk⟩
    | brk => exact P
    | cont => exact P
    | ret o => exact P
  | exc c x r =>
    rw [e] at P
    intro σ' d B' H' w' st wf en lk hx
    exact go I.len P st wf en lk hx
end
end Ev
end

section
set_option Elab.async false
set_option linter.all false
set_option maxRecDepth 100000
set_option maxHeartbeats 4000000
/-! Ev, part K: the check that ties the small syntax to the text; what follows from it. -/
namespace Ev
open PySem PySem.Spec PyProof.Rows L2
variable [Γ : Clz]

inductive Gk where
  | fn (f : Nat) | con (j : Nat) | bt | xc (k : Nat) | xr (k : Nat) | xb (k : Nat) | kc (c f : Nat)
/-- the text's classes: methods (class, name) to defs; fields of a class -/
structure Ct where
  ms : List ((Nat × Str) × Nat)
  cs : List (Nat × List Str)
structure Cf where
  N : List Str
  sc : Scope
  gl : List (Str × Gk)
  ct : Ct
def nmB (x : Str) : Bool := !(x == ("__debug__" : Str)) && !(x == ("__classdict__" : Str)) && !(x == ("__name__" : Str))
def visB (sc : Scope) (x : Str) : Bool := match sc.names.lookup x with
  | some .local => true
  | some .cell => true
  | some .free => true
  | _ => false
def locB (sc : Scope) (x : Str) : Bool := match sc.names.lookup x with
  | some .local => true
  | some .cell => true
  | _ => false
def lclB (sc : Scope) (x : Str) : Bool := match sc.names.lookup x with
  | some .local => true
  | _ => false
def glB (sc : Scope) (x : Str) : Bool := match sc.names.lookup x with
  | some .globalImplicit => true
  | _ => false
def fnB (c : Cf) (x : Str) (f : Nat) : Bool := glB c.sc x && nmB x && match c.gl.lookup x with
  | some (.fn g) => decide (g = f)
  | _ => false
def conB (c : Cf) (x : Str) (j : Nat) : Bool := glB c.sc x && nmB x && match c.gl.lookup x with
  | some (.con i) => decide (i = j)
  | _ => false
def btB (c : Cf) (x y : Str) : Bool := decide (x = y) && glB c.sc x && match c.gl.lookup x with
  | some .bt => true
  | _ => false
/-- a name that stands for an exception's class -/
def xnB (c : Cf) (x : Str) (k : Nat) : Bool := glB c.sc x && nmB x && match c.gl.lookup x with
  | some (.xc j) => decide (j = k)
  | some (.xr j) => decide (j = k)
  | some (.xb j) => decide (j = k) && decide (x = "ValueError")
  | _ => false
def xrB (c : Cf) (x : Str) (k : Nat) : Bool := glB c.sc x && nmB x && match c.gl.lookup x with
  | some (.xr j) => decide (j = k)
  | _ => false
def kcB (c : Cf) (x : Str) (cc f : Nat) : Bool := glB c.sc x && nmB x && match c.gl.lookup x with
  | some (.kc d g) => decide (d = cc) && decide (g = f)
  | _ => false
def fldB (c : Cf) (cc j : Nat) (n : Str) : Bool := match c.ct.cs.lookup cc with
  | some ns => decide (ns[j]? = some n)
  | none => false
def mtB (c : Cf) (cc : Nat) (m : Str) (f : Nat) : Bool := (c.ct.cs.lookup cc).isSome && decide (c.ct.ms.lookup (cc, m) = some f)
def attrB : Expr → Bool
  | .Name _ _ => true
  | .Constant _ _ _ => true
  | _ => false
def keyB : Ky → Option Expr → Bool
  | .inr i, some (.Constant (.str j) _ _) => decide (i = j)
  | .inl i, some (.Constant (.int j) _ _) => decide (i = j)
  | _, _ => false
def keysB : List Ky → List (Option Expr) → Bool
  | [], [] => true
  | k :: ks, e :: es => keyB k e && keysB ks es
  | _, _ => false
def varB (c : Cf) (i : Nat) : Expr → Bool
  | .Name x _ => decide (c.N[i]? = some x) && visB c.sc x && nmB x
  | _ => false
def ownOf : Tg → Expr → List (Str × Nat)
  | .one i, .Name x _ => [(x, i)]
  | .many is, .Tuple es _ _ => (es.zip is).filterMap fun p => match p.1 with
    | .Name x _ => some (x, p.2)
    | _ => none
  | _, _ => []
/-- a name stored: at its slot; strict: a local one -/
def stB (c : Cf) (strict : Bool) (i : Nat) : Expr → Bool
  | .Name x _ => decide (c.N[i]? = some x) && (if strict = true then lclB c.sc x else locB c.sc x)
  | _ => false
def stsB (c : Cf) (strict : Bool) : List Nat → List Expr → Bool
  | [], [] => true
  | i :: is, e :: es => stB c strict i e && stsB c strict is es
  | _, _ => false
def tgB (c : Cf) (strict : Bool) : Tg → Expr → Bool
  | .one i, e => stB c strict i e
  | .many is, .Tuple es _ _ => stsB c strict is es
  | _, _ => false
def inner (c : Cf) (scope : Scope) : Cf := { c with sc := relS scope c.sc }
def noComp : Expr → Bool
  | .ListComp _ _ _ _ => false
  | .SetComp _ _ _ _ => false
  | .DictComp _ _ _ _ _ => false
  | _ => true
def Es.len : Es → Nat
  | .nil => 0
  | .cons _ es => es.len + 1

mutual
def chkE (c : Cf) : E → Expr → Bool
  | .v i, py => varB c i py
  | .int i, .Constant (.int j) _ _ => decide (i = j)
  | .str i, .Constant (.str j) _ _ => decide (i = j)
  | .bl i, .Constant (.bool j) _ _ => decide (i = j)
  | .non, .Constant .none _ _ => true
  | .g j, .Name x _ => conB c x j
  | .tup es, .Tuple ps _ _ => chkEs c es ps && decide (es.len ≤ 1000)
  | .lst es, .List ps _ => chkEs c es ps && decide (es.len ≤ 1000)
  | .bin o a b, .BinOp p op q _ => decide (op = opB o) && chkE c a p && chkE c b q
  | .neg a, .UnaryOp .USub p _ => chkE c a p
  | .not a, .UnaryOp .Not p _ => chkE c a p
  | .and a b, .BoolOp .And (p :: q :: []) _ => chkE c a p && chkE c b q
  | .and a b, .BoolOp .And (p :: q :: q2 :: r) pos => chkE c a p && chkE c b (.BoolOp .And (q :: q2 :: r) pos)
  | .or a b, .BoolOp .Or (p :: q :: []) _ => chkE c a p && chkE c b q
  | .or a b, .BoolOp .Or (p :: q :: q2 :: r) pos => chkE c a p && chkE c b (.BoolOp .Or (q :: q2 :: r) pos)
  | .cmp o a b, .Compare p [op] [q] _ => decide (op = opC o) && chkE c a p && chkE c b q
  | .chn o o' a b d, .Compare p [op, op'] [q, r] _ => decide (op = opC o) && decide (op' = opC o') && chkE c a p && chkE c b q && chkE c d r
  | .ite d a b, .IfExp t p q _ => chkE c d t && chkE c a p && chkE c b q
  | .snap a, py => chkE c a py
  | .call f .nil, .Call (.Name x _) [] [] _ => fnB c x f
  | .call f as, .Call (.Name x _) (p :: ps) [] _ => fnB c x f && chkAs c as (p :: ps)
  | .isi a t, .Call (.Name x _) [p, .Name y _] [] _ => btB c x "isinstance" && btB c y (tyStr t) && chkE c a p
  | .bi b a, .Call (.Name x _) [p] [] _ => btB c x (biName b) && chkE c a p
  | .bi2 b a a', .Call (.Name x _) [p, q] [] _ => btB c x (bi2Name b) && chkE c a p && chkE c a' q
  | .lrev a, .Call (.Name x _) [.Call (.Name y _) [p] [] _] [] _ => btB c x "list" && btB c y "reversed" && chkE c a p
  | .callT f e as, .Call (.Name x _) (p :: ps) [] _ => fnB c x f && chkE c e p && chkAs c as ps
  | .lset a, .Call (.Name x _) [.Call (.Name y _) [p] [] _] [] _ => btB c x "len" && btB c y "set" && chkE c a p
  | .ix a b, .Subscript p q _ => chkE c a p && chkE c b q
  | .ixp i b, .Subscript p q _ => varB c i p && chkE c b q
  | .sl a lo hi, .Subscript p (.Slice l h none _) _ => chkE c a p && chkO c lo l && chkO c hi h
  | .slp i lo hi, .Subscript p (.Slice l h none _) _ => varB c i p && chkO c lo l && chkO c hi h
  | .pop i, .Call (.Attribute p m apos) [] [] pos => varB c i p && decide (m = "pop") && decide (apos.endLine = pos.line)
  | .lc elt tg it cond, .ListComp pe [⟨pt, pi, ifs, asy⟩] scope _ =>
    decide (asy = 0) && chkI c it pi && blkC c.N c.sc scope (ownOf tg pt) && decide ((ownOf tg pt).map (·.2) = tg.slots) && tgB (inner c scope) true tg pt && chkE (inner c scope) elt pe &&
      (match cond, ifs with
        | .none, [] => true
        | .some d, [q] => chkE (inner c scope) d q
        | _, _ => false)
  | .dnew, .Dict [] [] _ => true
  | .rev0 a, .Subscript p (.Slice none (some (.Constant (.int i) _ _)) (some (.UnaryOp .USub (.Constant (.int j) _ _) _)) _) _ => decide (i = 0) && decide (j = 1) && chkE c a p
  | .getp i k f, .Call (.Attribute p m apos) [q, r] [] pos => varB c i p && decide (m = "get") && decide (apos.endLine = pos.line) && chkE c k q && chkE c f r
  | .fld cc p j, .Attribute a n _ => varB c p a && fldB c cc j n
  | .meth cc f p .nil, .Call (.Attribute a m apos) [] [] pos => varB c p a && mtB c cc m f && decide (apos.endLine = pos.line)
  | .meth cc f p as, .Call (.Attribute a m apos) (q :: qs) [] pos => varB c p a && mtB c cc m f && decide (apos.endLine = pos.line) && decide ((q :: qs).length < 30) && chkAs c as (q :: qs)
  | .new cc f .nil, .Call (.Name x _) [] [] _ => kcB c x cc f
  | .new cc f as, .Call (.Name x _) (q :: qs) [] _ => kcB c x cc f && chkAs c as (q :: qs)
  | .join a b, .Call (.Attribute p m apos) [q] [] pos => attrB p && decide (m = "join") && decide (apos.endLine = pos.line) && chkE c a p && chkE c b q
  | .dd ks es, .Dict keys values _ => keysB ks keys && decide (ks.length = esLen es) && decide (ks.length ≤ 15) && decide (1 ≤ ks.length) && chkEs c es values
  | _, _ => false
def chkEs (c : Cf) : Es → List Expr → Bool
  | .nil, [] => true
  | .cons e es, p :: ps => chkE c e p && chkEs c es ps
  | _, _ => false
def chkO (c : Cf) : Oe → Option Expr → Bool
  | .none, none => true
  | .some e, some p => chkE c e p
  | _, _ => false
def chkAs (c : Cf) : As → List Expr → Bool
  | .nil, [] => true
  | .val e as, p :: ps => chkE c e p && chkAs c as ps
  | .lend i as, p :: ps => varB c i p && chkAs c as ps
  | _, _ => false
def chkI (c : Cf) : It → Expr → Bool
  | .rng e, .Call (.Name x _) [p] [] _ => btB c x "range" && chkE c e p
  | .rng2 a b, .Call (.Name x _) [p, q] [] _ => btB c x "range" && chkE c a p && chkE c b q
  | .rng3 a b k, .Call (.Name x _) [p, q, .Constant (.int j) _ _] [] _ => btB c x "range" && decide (k = j) && chkE c a p && chkE c b q
  | .rev e, .Call (.Name x _) [p] [] _ => btB c x "reversed" && chkE c e p
  | .val e, py => chkE c e py
  | _, _ => false
end
/-- whether the assignment of this value to this name is the odd one -/
def swB (e : Expr) (t : Str) (tpos : Pos) (sc : Scope) : Bool := match e with
  | .ListComp _ _ s pos => (sc.names.lookup t == some .local) && tpos.line == pos.line && !(s.names.any fun (n, k) => n == t && (k == .local || k == .cell))
  | _ => false
def noSet : Expr → Bool
  | .SetComp _ _ _ _ => false
  | .DictComp _ _ _ _ _ => false
  | _ => true
def noTup : Expr → Bool
  | .Tuple _ _ _ => false
  | .List _ _ => false
  | _ => true
/-- a call with arguments -/
def callB : Expr → Bool
  | .Call (.Name _ _) (_ :: _) [] _ => true
  | _ => false
def clsB (c : Cf) : List Nat → List Expr → Bool
  | [], [] => true
  | k :: ks, .Name x _ :: es => xnB c x k && clsB c ks es
  | _, _ => false
/-- the name of what was caught -/
def xvB (c : Cf) (n : Option Nat) (py : Expr) : Bool := match n with
  | some i => varB c i py
  | none => false
def chkX (c : Cf) (n : Option Nat) : Xe → Expr → Bool
  | .isx ks, .Call (.Name f _) [q, .Name y _] [] _ => btB c f "isinstance" && xvB c n q && (match ks with
    | [k] => xnB c y k
    | _ => false)
  | .isx ks, .Call (.Name f _) [q, .Tuple es _ _] [] _ => btB c f "isinstance" && xvB c n q && clsB c ks es && decide (ks.length ≤ 100)
  | .pln, .Compare (.Attribute q a _) [.Is] [.Constant .none _ _] _ => xvB c n q && decide (a = "place")
  | .v i, py => varB c i py
  | .not a, .UnaryOp .Not p _ => chkX c n a p
  | .and a b, .BoolOp .And (p :: q :: []) _ => chkX c n a p && chkX c n b q
  | .and a b, .BoolOp .And (p :: q :: q2 :: r) pos => chkX c n a p && chkX c n b (.BoolOp .And (q :: q2 :: r) pos)
  | .or a b, .BoolOp .Or (p :: q :: []) _ => chkX c n a p && chkX c n b q
  | .or a b, .BoolOp .Or (p :: q :: q2 :: r) pos => chkX c n a p && chkX c n b (.BoolOp .Or (q :: q2 :: r) pos)
  | _, _ => false
mutual
def chkXs (c : Cf) (n : Option Nat) : Xs → Stmt → Bool
  | .setb i e, .Assign [.Name x tp] p _ => stB c false i (.Name x tp) && chkX c n e p && noComp p
  | .setp i, .Assign [.Name x tp] (.Attribute q a _) _ => stB c false i (.Name x tp) && xvB c n q && decide (a = "place")
  | .setd i d, .Assign [.Name x tp] p _ => stB c false i (.Name x tp) && litB d p && noComp p
  | .ifs e a b, .If t p q _ => chkX c n e t && chkXss c n a p && chkXss c n b q
  | .ret d, .Return (some p) _ => litB d p
  | _, _ => false
def chkXss (c : Cf) (n : Option Nat) : Xss → List Stmt → Bool
  | .nil, [] => true
  | .cons s ss, p :: ps => chkXs c n s p && chkXss c n ss ps
  | _, _ => false
end
/-- one clause -/
def chkH (c : Cf) (ks : List Nat) (n : Option Nat) (ss : Xss) (h : ExceptHandler) : Bool := match ks, n, h with
  | [k], none, .ExceptHandler (some (.Name x _)) none (b :: su) _ => xnB c x k && chkXss c none ss (b :: su)
  | [k], some i, .ExceptHandler (some (.Name x _)) (some n) (b :: su) _ => xnB c x k && decide (c.N[i]? = some n) && lclB c.sc n && chkXss c (some i) ss (b :: su)
  | _, _, _ => false
def chkXh (c : Cf) : Xh → List ExceptHandler → Bool
  | .nil, [] => true
  | .dead, _ => true
  | .cons ks n ss hs, h :: hds => chkH c ks n ss h && chkXh c hs hds
  | _, _ => false
mutual
def chkS (c : Cf) : S → Stmt → Bool
  | .set i e, .Assign [.Name x tp] p _ => stB c false i (.Name x tp) && chkE c e p && noSet p && (!(swB p x tp c.sc) || (match e with
    | .lc _ _ _ _ => lclB c.sc x
    | _ => false))
  | .unp is e, .Assign [.Tuple es k tp] p _ => tgB c false (.many is) (.Tuple es k tp) && chkE c e p && noComp p && noTup p
  | .seti i ix e, .Assign [.Subscript p q _] r _ => varB c i p && chkE c ix q && chkE c e r && noComp r
  | .aug i o e, .AugAssign (.Name x tp) op p _ => stB c false i (.Name x tp) && decide (opA o = some op) && chkE c e p
  | .ifs d a b, .If t p q _ => chkE c d t && chkSs c a p && chkSs c b q
  | .whl d b, .While t p [] _ => chkE c d t && chkSs c b p
  | .for_ tg it b, .For pt pi p [] _ => tgB c false tg pt && chkI c it pi && chkSs c b p
  | .ret e, .Return (some p) _ => chkE c e p
  | .retN, .Return none _ => true
  | .retv i, .Return (some p) _ => varB c i p
  | .ex e, .Expr p _ => chkE c e p && noComp p
  | .apx a e, .Expr (.Call (.Attribute p m apos) [q] [] cpos) _ => callB p && decide (m = "append") && decide (apos.endLine = cpos.line) && chkE c a p && chkE c e q
  | .app i e, .Expr (.Call (.Attribute p m apos) [q] [] cpos) _ => varB c i p && decide (m = "append") && decide (apos.endLine = cpos.line) && chkE c e q
  | .ext i e, .Expr (.Call (.Attribute p m apos) [q] [] cpos) _ => varB c i p && decide (m = "extend") && decide (apos.endLine = cpos.line) && chkE c e q
  | .clr i, .Expr (.Call (.Attribute p m apos) [] [] cpos) _ => varB c i p && decide (m = "clear") && decide (apos.endLine = cpos.line)
  | .cont, .Continue _ => true
  | .brk, .Break _ => true
  | .pass, .Pass _ => true
  | .setf cc p j e, .Assign [.Attribute a n _] q _ => varB c p a && fldB c cc j n && chkE c e q && noComp q
  | .augf cc p j o e, .AugAssign (.Attribute a n _) op q _ => varB c p a && fldB c cc j n && decide (opA o = some op) && chkE c e q
  | .raise k e, .Raise (some (.Call (.Name x _) [q] [] _)) none _ => xrB c x k && chkE c e q
  | .try_ b hs el, .Try body (h :: hds) orelse [] _ => chkSs c b body && chkXh c hs (h :: hds) && chkSs c el orelse
  | _, _ => false
def chkSs (c : Cf) : Ss → List Stmt → Bool
  | .nil, [] => true
  | .cons s ss, p :: ps => chkS c s p && chkSs c ss ps
  | _, _ => false
end

/-! ### what the checks say -/
section
variable {cf : CallF} {G : Gs} {cls : Nat → Value} {k : Nat} {c : Cf} {X : Cx} {W : WX}
def GkOk (cf : CallF) (G : Gs) (cls : Nat → Value) (k : Nat) (X : Cx) (x : Str) : Gk → Prop
  | .fn f => FnAt X cls k cf x f
  | .con j => ∃ d u v, G.con[j]? = some d ∧ X.mg x = some u ∧ RelV v u ∧ ∀ B, DR X.K B v d
  | .bt => X.mg x = none
  | .xc i => ∃ C, cls i = .ref C ∧ X.mg x = some (.ref C)
  | .xr i => XcAt X cls k x i
  | .xb i => cls i = .type "ValueError" ∧ X.mg x = none
  | .kc c f => MkAt X cls k cf x c f
structure CtxOk (cf : CallF) (G : Gs) (cls : Nat → Value) (k : Nat) (c : Cf) (X : Cx) (W : WX) : Prop where
  N : X.N = c.N
  nd : X.N.Nodup
  sc : X.env.scope = c.sc
  kd : X.env.scope.kind = .function
  calm : X.calm = true
  tk : Takes X W
  room : Room k X.A
  gl : ∀ x g, c.gl.lookup x = some g → GkOk cf G cls k X x g
  room1 : Room (k + 1) X.A
  ms : ∀ cc m f, c.ct.ms.lookup (cc, m) = some f → MtAt X cls k cf cc m f
  cs : ∀ cc ns, c.ct.cs.lookup cc = some ns → Clz.fn cc = ns ∧ InsOk X.K cc
  xt : XtOk X.K cls G
theorem nm_of {x : Str} (h : nmB x = true) : (x == ("__debug__" : Str)) = false ∧ (x == ("__classdict__" : Str)) = false := by
  unfold nmB at h
  simp only [Bool.and_eq_true, Bool.not_eq_true'] at h
  exact ⟨h.1.1, h.1.2⟩
theorem vis_of {sc : Scope} {x : Str} (h : visB sc x = true) : Vis sc x := by
  unfold visB at h
  split at h <;> first | (rename_i e; exact .inl e) | (rename_i e; exact .inr (.inl e)) | (rename_i e; exact .inr (.inr e)) | cases h
theorem loc_of {sc : Scope} {x : Str} (h : locB sc x = true) : Loc sc x := by
  unfold locB at h
  split at h <;> first | (rename_i e; exact .inl e) | (rename_i e; exact .inr e) | cases h
theorem lcl_of {sc : Scope} {x : Str} (h : lclB sc x = true) : sc.names.lookup x = some .local := by
  unfold lclB at h
  split at h
  · assumption
  · cases h
theorem gl_of (C : CtxOk cf G cls k c X W) {x : Str} (h : glB c.sc x = true) : Gl X x := by
  unfold glB at h
  split at h
  · rename_i e
    show X.env.scope.names.lookup x = _
    rw [C.sc]; exact e
  · cases h
theorem var_ok (C : CtxOk cf G cls k c X W) {i : Nat} {py : Expr} (h : varB c i py = true) : PE X py (tVar i) ∧ hdOk py = true ∧ (∃ x pos, py = .Name x pos) := by
  unfold varB at h
  split at h
  · simp only [Bool.and_eq_true, decide_eq_true_eq] at h
    obtain ⟨h3, h4⟩ := nm_of h.2
    exact ⟨pe_var (by rw [C.N]; exact h.1.1) (by rw [C.sc]; exact vis_of h.1.2) h3 h4, rfl, _, _, rfl⟩
  · cases h
theorem fn_ok (C : CtxOk cf G cls k c X W) {x : Str} {f : Nat} (h : fnB c x f = true) : Gl X x ∧ (x == ("__debug__" : Str)) = false ∧ FnAt X cls k cf x f := by
  unfold fnB at h
  simp only [Bool.and_eq_true] at h
  refine ⟨gl_of C h.1.1, (nm_of h.1.2).1, ?_⟩
  have h2 := h.2
  split at h2
  · rename_i g e
    have := C.gl x _ e
    rw [of_decide_eq_true h2] at this
    exact this
  · cases h2
theorem con_ok (C : CtxOk cf G cls k c X W) {x : Str} {j : Nat} {pos : Pos} (h : conB c x j = true) : PE X (.Name x pos) (tE X.K W cls (fun r => Out.of ((G.con[j]?).map O.d) r)) := by
  unfold conB at h
  simp only [Bool.and_eq_true] at h
  have h2 := h.2
  split at h2
  · rename_i g e
    obtain ⟨d, u, v, e1, e2, e3, e4⟩ := C.gl x _ e
    rw [of_decide_eq_true h2] at e1
    refine PE.of (pe_glob (gl_of C h.1.1) e2 e3 (nm_of h.1.2).1) fun σ H Q q => ?_
    rw [e1] at q
    exact tc_ok e4 σ H Q q
  · cases h2
theorem fld_ok (C : CtxOk cf G cls k c X W) {cc j : Nat} {n : Str} (h : fldB c cc j n = true) : InsOk X.K cc ∧ (Clz.fn cc)[j]? = some n := by
  unfold fldB at h
  split at h
  · rename_i ns e
    obtain ⟨h1, h2⟩ := C.cs cc ns e
    exact ⟨h2, by rw [h1]; exact of_decide_eq_true h⟩
  · cases h
theorem mt_ok (C : CtxOk cf G cls k c X W) {cc f : Nat} {m : Str} (h : mtB c cc m f = true) : InsOk X.K cc ∧ MtAt X cls k cf cc m f := by
  unfold mtB at h
  have h := Bool.and_eq_true_iff.mp h
  obtain ⟨ns, e⟩ := Option.isSome_iff_exists.mp h.1
  exact ⟨(C.cs cc ns e).2, C.ms cc m f (of_decide_eq_true h.2)⟩
theorem kc_ok (C : CtxOk cf G cls k c X W) {x : Str} {cc f : Nat} (h : kcB c x cc f = true) : Gl X x ∧ (x == ("__debug__" : Str)) = false ∧ MkAt X cls k cf x cc f := by
  unfold kcB at h
  simp only [Bool.and_eq_true] at h
  refine ⟨gl_of C h.1.1, (nm_of h.1.2).1, ?_⟩
  have h2 := h.2
  split at h2
  · rename_i d g e
    have h2 := Bool.and_eq_true_iff.mp h2
    have := C.gl x _ e
    rw [of_decide_eq_true h2.1, of_decide_eq_true h2.2] at this
    exact this
  · cases h2
theorem xr_ok (C : CtxOk cf G cls k c X W) {x : Str} {i : Nat} (h : xrB c x i = true) : Gl X x ∧ (x == ("__debug__" : Str)) = false ∧ XcAt X cls k x i := by
  unfold xrB at h
  simp only [Bool.and_eq_true] at h
  refine ⟨gl_of C h.1.1, (nm_of h.1.2).1, ?_⟩
  have h2 := h.2
  split at h2
  · rename_i j e
    have := C.gl x _ e
    rw [of_decide_eq_true h2] at this
    exact this
  · cases h2
theorem attr_any {py : Expr} {m : Str} {env : Env} (h : attrB py = true) : attributeBase py m env (eval py env) = eval py env := by
  unfold attrB at h
  split at h <;> first | rfl | cases h
theorem keys_len : ∀ {ks : List Ky} {es : List (Option Expr)}, keysB ks es = true → es.length = ks.length ∧ es.all (·.isSome) = true
  | [], [], _ => ⟨rfl, rfl⟩
  | k :: ks, e :: es, h => by
    simp only [keysB, Bool.and_eq_true] at h
    obtain ⟨h1, h2⟩ := keys_len h.2
    refine ⟨by rw [List.length_cons, List.length_cons, h1], ?_⟩
    rw [List.all_cons, h2, Bool.and_true]
    have := h.1
    unfold keyB at this
    split at this <;> first | rfl | cases this
  | [], _ :: _, h => by cases h
  | _ :: _, [], h => by cases h
theorem key_ok {kk : Ky} {e : Option Expr} (h : keyB kk e = true) : ∃ q, e = some q ∧ PE X q (tC (kV kk)) := by
  unfold keyB at h
  split at h
  · have e := of_decide_eq_true h
    subst e
    exact ⟨_, rfl, pe_str⟩
  · have e := of_decide_eq_true h
    subst e
    exact ⟨_, rfl, pe_int⟩
  · cases h
theorem meth_ev {x m : Str} {p apos pos : Pos} {es : List Expr} {env : Env} (hd : es.all hdOk = true) (hn : es.length < 30) (hl : apos.endLine = pos.line) : ∃ pl, eval (.Call (.Attribute (.Name x p) m apos) es [] pos) env = (do
      let ov ← eval (.Name x p) env
      standAt apos.atName
      let (f, first) ← holding [ov] (getMethod ov m pl)
      callWith pos f first (backTo pos (starEach es env)) (backToKw pos (keywordEach [] env))) := by
  have hf : methodCallForm (es.length + ([] : List Keyword).length) (backTo pos (starEach es env)) (backToKw pos (keywordEach [] env)) = true := few_ok (cpos := pos) (env := env) hd hn
  have hl' : (apos.endLine == pos.line) = true := by rw [hl]; exact beq_self_eq_true _
  refine ⟨(do return (← importBound (.Name x p) env).getD true), ?_⟩
  show (do
    let ov ← eval (.Name x p) env
    standAt apos.atName
    methodCall (.Name x p) m apos pos env ov (es.length + ([] : List Keyword).length) (backTo pos (starEach es env)) (backToKw pos (keywordEach [] env))) = _
  unfold methodCall calleeOf methodCallPos
  simp only [hf, hl', if_true, Bool.not_true, Bool.false_or]
  rfl
theorem bt_ok (C : CtxOk cf G cls k c X W) {x y : Str} (h : btB c x y = true) : x = y ∧ Gl X x ∧ X.mg x = none := by
  unfold btB at h
  simp only [Bool.and_eq_true, decide_eq_true_eq] at h
  refine ⟨h.1.1, gl_of C h.1.2, ?_⟩
  have h2 := h.2
  split at h2
  · rename_i e
    exact C.gl x _ e
  · cases h2
theorem st_ok (hN : X.N = c.N) (hsc : X.env.scope = c.sc) {strict : Bool} (hf : strict = false → ∀ x, X.fn x = true) {i : Nat} {e : Expr} (h : stB c strict i e = true) : NameAt X i e := by
  unfold stB at h
  split at h
  · simp only [Bool.and_eq_true, decide_eq_true_eq] at h
    refine ⟨_, _, rfl, by rw [hN]; exact h.1, ?_⟩
    cases strict with
    | true =>
      have h2 := lcl_of h.2
      rw [← hsc] at h2
      exact ⟨.inl h2, .inr h2⟩
    | false =>
      have h2 := loc_of h.2
      rw [← hsc] at h2
      exact ⟨h2, .inl (hf rfl _)⟩
  · cases h
theorem sts_ok (hN : X.N = c.N) (hsc : X.env.scope = c.sc) {strict : Bool} (hf : strict = false → ∀ x, X.fn x = true) : ∀ {is : List Nat} {es : List Expr}, stsB c strict is es = true → NamesAt X is es
  | [], [], _ => trivial
  | i :: is, e :: es, h => by
    simp only [stsB, Bool.and_eq_true] at h
    exact ⟨st_ok hN hsc hf h.1, sts_ok hN hsc hf h.2⟩
  | [], _ :: _, h => by cases h
  | _ :: _, [], h => by cases h
theorem tg_ok (hN : X.N = c.N) (hsc : X.env.scope = c.sc) {strict : Bool} (hf : strict = false → ∀ x, X.fn x = true) {tg : Tg} {e : Expr} (h : tgB c strict tg e = true) : TgAt X tg e := by
  cases tg with
  | one i => exact st_ok hN hsc hf h
  | many is =>
    simp only [tgB] at h
    split at h
    · cases ‹Tg.many is = Tg.one _›
    · rename_i e1; cases e1; exact ⟨_, _, _, rfl, sts_ok hN hsc hf h⟩
    · cases h
theorem stsB_lt {strict : Bool} : ∀ {is : List Nat} {es : List Expr}, stsB c strict is es = true → ∀ i ∈ is, i < c.N.length
  | [], _, _, i, hi => by simp at hi
  | j :: is, e :: es, h, i, hi => by
    simp only [stsB, Bool.and_eq_true] at h
    rcases List.mem_cons.mp hi with z | z
    · subst z
      have h1 := h.1
      unfold stB at h1
      split at h1
      · simp only [Bool.and_eq_true, decide_eq_true_eq] at h1
        exact (List.getElem?_eq_some_iff.mp h1.1).1
      · cases h1
    · exact stsB_lt h.2 i z
  | _ :: _, [], h, _, _ => by cases h
theorem tgB_lt {strict : Bool} {tg : Tg} {e : Expr} (h : tgB c strict tg e = true) : ∀ i ∈ tg.slots, i < c.N.length := by
  cases tg with
  | one i =>
    have h : stsB c strict [i] [e] = true := by
      have h : stB c strict i e = true := h
      simp [stsB, h]
    exact stsB_lt h
  | many is =>
    simp only [tgB] at h
    split at h
    · cases ‹Tg.many is = Tg.one _›
    · rename_i e1; cases e1; exact stsB_lt h
    · cases h
/-- within a comprehension's block -/
theorem CtxOk.blk (C : CtxOk cf G cls k c X W) {scope : Scope} (hk : scope.kind = .function) (s : Shared) (H : Hp) (Cc : Addr) (cl : List (Str × Addr)) (fp : List Addr) : CtxOk cf G cls k (inner c scope) (X.blk s H scope (compEnvC scope cl Cc X.env) fp) noX where
  N := C.N
  nd := C.nd
  sc := by
    show relS scope X.env.scope = relS scope c.sc
    rw [C.sc]
  kd := hk
  calm := C.calm
  tk := takes0
  room := C.room
  gl := fun x g e => by
    have h := C.gl x g e
    cases g with
    | fn f => exact ⟨h.ex⟩
    | con j => exact h
    | bt => exact h
    | xc i => exact h
    | xr i => exact ⟨h.ex⟩
    | xb i => exact h
    | kc _ _ => exact ⟨h.ex⟩
  room1 := C.room1
  ms := fun cc m f e => ⟨(C.ms cc m f e).ex⟩
  cs := C.cs
  xt := C.xt
theorem chk_odd : ∀ (e : E) (py : Expr), hdOk py = false → chkE c e py = false := by
  intro e py h
  match e with
  | .snap a => exact chk_odd a py h
  | .v i => cases py <;> first | (cases h; done) | rfl
  | .int _ | .str _ | .bl _ | .non | .g _ | .tup _ | .lst _ | .bin _ _ _ | .neg _ | .not _ | .and _ _ | .or _ _ | .cmp _ _ _ | .chn _ _ _ _ _ | .ite _ _ _ | .call _ _ | .isi _ _ | .bi _ _ | .bi2 _ _ _ | .lrev _ | .lset _ | .callT _ _ _ | .ix _ _ | .ixp _ _ | .sl _ _ _ | .slp _ _ _ | .pop _ | .lc _ _ _ _ | .dnew | .rev0 _ | .getd _ _ _ | .getp _ _ _ | .fld _ _ _ | .meth _ _ _ _ | .new _ _ _ | .join _ _ | .dd _ _ =>
    cases py <;> first | (cases h; done) | rfl | (simp only [chkE]; done)
theorem hd_of {e : E} {py : Expr} (h : chkE c e py = true) : hdOk py = true := by
  cases e2 : hdOk py with
  | true => rfl
  | false => rw [chk_odd e py e2] at h; cases h
theorem evEs_len : ∀ (es : Es) (r : Rho) (xs : List D) (r' : Rho), evEs cf G es r = .ok xs r' → xs.length = es.len
  | .nil, r, xs, r', h => by cases h; rfl
  | .cons e es, r, xs, r', h => by
    simp only [evEs] at h
    cases h1 : evE cf G e r with
    | ok x r1 =>
      rw [h1] at h
      simp only [Out.bind_ok] at h
      cases h2 : evEs cf G es r1 with
      | ok ys r2 =>
        rw [h2] at h
        cases h
        have := evEs_len es r1 ys _ h2
        simp only [List.length_cons, this, Es.len]
      | exc _ _ _ => rw [h2] at h; cases h
      | bad => rw [h2] at h; cases h
    | exc _ _ _ => rw [h1] at h; cases h
    | bad => rw [h1] at h; cases h
theorem units_of (C : CtxOk cf G cls k c X W) : X.A.units + 66 < cLine := by have := C.room.un; omega
theorem attr_plain {py : Expr} {m : Str} {env : Env} (h : ∃ x pos, py = .Name x pos) : attributeBase py m env (eval py env) = eval py env := by
  obtain ⟨x, pos, rfl⟩ := h; rfl
theorem call_plain {py : Expr} {m : Str} {env : Env} (h : callB py = true) : attributeBase py m env (eval py env) = eval py env := by
  unfold callB at h
  split at h
  · rfl
  · cases h
theorem pw_of_pt {op : BoolOp} {vs : List Expr} {pos : Pos} {t : TT} (h : PT X (.BoolOp op vs pos) t) : PW X (.BoolOp op vs pos) t := ⟨fun wh pins s σ H Q I q => h.run pins s σ H Q I q⟩
theorem st_ite {a b d : Expr} {pos : Pos} {f g : Rho → Out O} {fb : Rho → Out Bool} (hc : PT X d (tT X.K W cls fb)) (ha : PT X a (tT X.K W cls fun r => tst (f r))) (hb : PT X b (tT X.K W cls fun r => tst (g r))) :
    PT X (.IfExp d a b pos) (tT X.K W cls (fun r => tst ((fb r).bind fun k r => if k = true then f r else g r))) := by
  refine ⟨fun pins s σ H Q I q => ?_⟩
  obtain ⟨t, B, w, ρ, at0, P⟩ := q
  have P' : PostG X.K W cls σ t (t + 0) B H w (fun _ _ _ (b : Bool) (o : Bool) => b = o) ((fb ρ).bind fun k r => if k = true then tst (f r) else tst (g r)) Q := by
    have e2 : tst ((fb ρ).bind fun k r => if k = true then f r else g r) = (fb ρ).bind fun k r => if k = true then tst (f r) else tst (g r) := by
      cases fb ρ with
      | ok k r => cases k <;> rfl
      | _ => rfl
    dsimp only at P
    rw [e2] at P; exact P
  have q2 : tT X.K W cls fb σ H fun k H1 => if k = true then tT X.K W cls (fun r => tst (f r)) σ H1 Q else tT X.K W cls (fun r => tst (g r)) σ H1 Q :=
    truthT at0 P' fun k H1 B1 w1 ρ1 st a1 P1 => by
      cases k with
      | true => exact ⟨t, B1, w1, ρ1, a1, P1⟩
      | false => exact ⟨t, B1, w1, ρ1, a1, P1⟩
  show wpAny _ X.A (do if ← isTrue d X.env (eval d X.env) then isTrue a X.env (eval a X.env) else isTrue b X.env (eval b X.env)) _ _ s
  refine wpAny_bind (thn (hc.run pins s σ H _ I q2) fun k s1 ⟨H1, I1, q1⟩ => ?_)
  cases k with
  | true => exact ha.run pins s1 σ H1 Q I1 q1
  | false => exact hb.run pins s1 σ H1 Q I1 q1
theorem st_snap {py : Expr} {f : Rho → Out O} (h : PT X py (tT X.K W cls fun r => tst (f r))) : PT X py (tT X.K W cls (fun r => tst (snapO r (f (frzR r))))) := by
  refine PT.of h ?_
  rintro σ H Q ⟨t, B, w, ρ, a, P⟩
  refine ⟨0, H, fun _ => none, frzR ρ, at_snap a, ?_⟩
  dsimp only at P
  cases e : f (frzR ρ) with
  | ok o r =>
    simp only [e, snapO] at P
    show PostG _ _ _ _ _ _ _ _ _ _ (tst (f (frzR ρ))) _
    rw [e]
    unfold tst
    simp only [Out.bind_ok]
    cases e2 : asB o with
    | none =>
      split at P
      · have : asB (.d (frz o)) = none := by
          cases o with
          | lst _ => rfl
          | dct _ _ => rfl
          | dtt _ _ => rfl
          | ins _ _ => rfl
          | d x => exact e2
        simp only [tst, Out.bind_ok, this] at P
        exact P.elim
      · exact P.elim
    | some kk =>
      have eo := asB_of e2
      subst eo
      intro v B' H' w' st wf tb en hv
      obtain ⟨st2, a2⟩ := back_snap a st wf
      have hv : v = kk := hv
      subst hv
      exact P v B H' w st2 a2.wf a2.tb a2.env rfl
  | exc c x r =>
    simp only [e, snapO] at P
    show PostG _ _ _ _ _ _ _ _ _ _ (tst (f (frzR ρ))) _
    rw [e]
    intro d B' H' w' st wf en hxr
    obtain ⟨st2, a2⟩ := back_snap a st wf
    obtain ⟨v, h1, h2⟩ := hxr
    split at P
    · rename_i hs
      exact P d B H' w st2 a2.wf a2.env ⟨v, h1, h2.scalar hs B⟩
    · exact P.elim
  | bad => simp only [e, snapO] at P; exact P.elim

/-! ### what checks is sound -/
abbrev SndE (cf : CallF) (G : Gs) (cls : Nat → Value) (X : Cx) (W : WX) (e : E) (py : Expr) : Prop := PE X py (tE X.K W cls (evE cf G e)) ∧ PT X py (tT X.K W cls fun r => tst (evE cf G e r))
theorem snd_of {e : E} {py : Expr} (h : PE X py (tE X.K W cls (evE cf G e))) (hd : hdT py = true) : SndE cf G cls X W e py := ⟨h, st_val hd h⟩
mutual
theorem sndE : ∀ (e : E) {c : Cf} {X : Cx} {W : WX} {py : Expr}, CtxOk cf G cls k c X W → chkE c e py = true → SndE cf G cls X W e py := by
  intro e c X W py C h
  match e with
  | .v i =>
    obtain ⟨h1, h2, x, pos, rfl⟩ := var_ok C (show varB c i py = true from h)
    exact snd_of (se_v h1) rfl
  | .int i =>
    cases py <;> first | exact (Bool.false_ne_true h).elim | skip
    rename_i v kk pos
    cases v <;> first | exact (Bool.false_ne_true h).elim | skip
    rename_i j
    have h : decide (i = j) = true := h
    have e := of_decide_eq_true h
    subst e
    exact snd_of (PE.of pe_int (tc_ok fun B => .int i)) rfl
  | .str i =>
    cases py <;> first | exact (Bool.false_ne_true h).elim | skip
    rename_i v kk pos
    cases v <;> first | exact (Bool.false_ne_true h).elim | skip
    rename_i j
    have h : decide (i = j) = true := h
    have e := of_decide_eq_true h
    subst e
    exact snd_of (PE.of pe_str (tc_ok fun B => .str i)) rfl
  | .bl i =>
    cases py <;> first | exact (Bool.false_ne_true h).elim | skip
    rename_i v kk pos
    cases v <;> first | exact (Bool.false_ne_true h).elim | skip
    rename_i j
    have h : decide (i = j) = true := h
    have e := of_decide_eq_true h
    subst e
    exact snd_of (PE.of pe_bl (tc_ok fun B => .bl i)) rfl
  | .non =>
    cases py <;> first | exact (Bool.false_ne_true h).elim | skip
    rename_i v kk pos
    cases v <;> first | exact (Bool.false_ne_true h).elim | skip
    exact snd_of (PE.of pe_non (tc_ok fun B => .non)) rfl
  | .g j =>
    cases py <;> first | exact (Bool.false_ne_true h).elim | skip
    exact snd_of (con_ok C h) rfl
  | .tup es =>
    cases py <;> first | exact (Bool.false_ne_true h).elim | skip
    have h := (Bool.and_eq_true_iff.mp h)
    exact snd_of (se_tup (evEs_len es) (Nat.le_trans (of_decide_eq_true h.2) (by decide)) (sndEs es C h.1)) rfl
  | .lst es =>
    cases py <;> first | exact (Bool.false_ne_true h).elim | skip
    have h := (Bool.and_eq_true_iff.mp h)
    exact snd_of (se_lst (evEs_len es) (Nat.le_trans (of_decide_eq_true h.2) (by decide)) (sndEs es C h.1)) rfl
  | .bin o a b =>
    cases py <;> first | exact (Bool.false_ne_true h).elim | skip
    have h := Bool.and_eq_true_iff.mp h
    have h1 := Bool.and_eq_true_iff.mp h.1
    have e := of_decide_eq_true h1.1
    subst e
    exact snd_of (se_bin o (sndE a C h1.2).1 (sndE b C h.2).1) rfl
  | .neg a =>
    cases py <;> first | exact (Bool.false_ne_true h).elim | skip
    rename_i op p pos
    cases op <;> first | exact (Bool.false_ne_true h).elim | skip
    exact snd_of (se_neg (sndE a C h).1) rfl
  | .not a =>
    cases py <;> first | exact (Bool.false_ne_true h).elim | skip
    rename_i op p pos
    cases op <;> first | exact (Bool.false_ne_true h).elim | skip
    have r := sndE a C h
    exact ⟨se_not r.1, st_not r.2 fun _ => rfl⟩
  | .and a b =>
    cases py <;> first | exact (Bool.false_ne_true h).elim | skip
    rename_i op vs pos
    cases op <;> first | exact (Bool.false_ne_true h).elim | skip
    match vs, h with
    | [p, q], h =>
      have h := Bool.and_eq_true_iff.mp h
      have r1 := sndE a C h.1
      have r2 := sndE b C h.2
      exact ⟨se_and r1.1 (pe_one r2.1), PW.pt (sw_and r1.2 (pw_and1 r2.2))⟩
    | p :: q :: q2 :: r, h =>
      have h := Bool.and_eq_true_iff.mp h
      have r1 := sndE a C h.1
      have r2 := sndE b C h.2
      exact ⟨se_and r1.1 r2.1, PW.pt (sw_and r1.2 (pw_of_pt r2.2))⟩
    | [], h => exact (Bool.false_ne_true h).elim
    | [p], h => exact (Bool.false_ne_true h).elim
  | .or a b =>
    cases py <;> first | exact (Bool.false_ne_true h).elim | skip
    rename_i op vs pos
    cases op <;> first | exact (Bool.false_ne_true h).elim | skip
    match vs, h with
    | [p, q], h =>
      have h := Bool.and_eq_true_iff.mp h
      have r1 := sndE a C h.1
      have r2 := sndE b C h.2
      exact ⟨se_or r1.1 (pe_one r2.1), PW.pt (sw_or r1.2 (pw_or1 r2.2))⟩
    | p :: q :: q2 :: r, h =>
      have h := Bool.and_eq_true_iff.mp h
      have r1 := sndE a C h.1
      have r2 := sndE b C h.2
      exact ⟨se_or r1.1 r2.1, PW.pt (sw_or r1.2 (pw_of_pt r2.2))⟩
    | [], h => exact (Bool.false_ne_true h).elim
    | [p], h => exact (Bool.false_ne_true h).elim
  | .cmp o a b =>
    cases py <;> first | exact (Bool.false_ne_true h).elim | skip
    rename_i p ops qs pos
    match ops, qs, h with
    | [op], [q], h =>
      have h := Bool.and_eq_true_iff.mp h
      have h1 := Bool.and_eq_true_iff.mp h.1
      have e := of_decide_eq_true h1.1
      subst e
      exact ⟨se_cmp o (units_of C) (hd_of h.2) (sndE a C h1.2).1 (sndE b C h.2).1, st_cmp o (units_of C) (hd_of h.2) (sndE a C h1.2).1 (sndE b C h.2).1⟩
    | [], _, h => exact (Bool.false_ne_true h).elim
    | _ :: _ :: _, _, h => exact (Bool.false_ne_true h).elim
    | [_], [], h => exact (Bool.false_ne_true h).elim
    | [_], _ :: _ :: _, h => exact (Bool.false_ne_true h).elim
  | .chn o o' a b d =>
    cases py <;> first | exact (Bool.false_ne_true h).elim | skip
    rename_i p ops qs pos
    match ops, qs, h with
    | [op, op'], [q, r], h =>
      have h := Bool.and_eq_true_iff.mp h
      have h1 := Bool.and_eq_true_iff.mp h.1
      have h2 := Bool.and_eq_true_iff.mp h1.1
      have h3 := Bool.and_eq_true_iff.mp h2.1
      have e := of_decide_eq_true h3.1
      have e' := of_decide_eq_true h3.2
      subst e e'
      exact ⟨se_chn o o' (units_of C) (hd_of h.2) (sndE a C h2.2).1 (sndE b C h1.2).1 (sndE d C h.2).1, st_chn o o' (units_of C) (hd_of h.2) (sndE a C h2.2).1 (sndE b C h1.2).1 (sndE d C h.2).1⟩
    | [], _, h => exact (Bool.false_ne_true h).elim
    | [_], _, h => exact (Bool.false_ne_true h).elim
    | _ :: _ :: _ :: _, _, h => exact (Bool.false_ne_true h).elim
    | [_, _], [], h => exact (Bool.false_ne_true h).elim
    | [_, _], [_], h => exact (Bool.false_ne_true h).elim
    | [_, _], _ :: _ :: _ :: _, h => exact (Bool.false_ne_true h).elim
  | .ite d a b =>
    cases py <;> first | exact (Bool.false_ne_true h).elim | skip
    have h := Bool.and_eq_true_iff.mp h
    have h1 := Bool.and_eq_true_iff.mp h.1
    have r0 := sndE d C h1.1
    have r1 := sndE a C h1.2
    have r2 := sndE b C h.2
    exact ⟨se_ite (fb := fun _ => .bad) r0.2 r1.1 r2.1, st_ite r0.2 r1.2 r2.2⟩
  | .snap a =>
    have r := sndE a C (show chkE c a py = true from h)
    exact ⟨se_snap r.1, st_snap r.2⟩
  | .call f as =>
    cases py <;> first | exact (Bool.false_ne_true h).elim | (cases as <;> exact (Bool.false_ne_true h).elim) | skip
    rename_i fu args kws pos
    cases fu <;> first | exact (Bool.false_ne_true h).elim | (cases as <;> exact (Bool.false_ne_true h).elim) | skip
    rename_i x p
    match as, args, kws, h with
    | .nil, [], [], h =>
      obtain ⟨h1, h2, h3⟩ := fn_ok C h
      exact snd_of (se_call0 C.room h1 h3 C.tk h2) rfl
    | .val e as, p :: ps, [], h =>
      have h := Bool.and_eq_true_iff.mp h
      obtain ⟨h1, h2, h3⟩ := fn_ok C h.1
      have r := sndAs (.val e as) C h.2
      exact snd_of (se_call C.room h1 h3 C.tk h2 r.2 r.1) rfl
    | .lend i as, p :: ps, [], h =>
      have h := Bool.and_eq_true_iff.mp h
      obtain ⟨h1, h2, h3⟩ := fn_ok C h.1
      have r := sndAs (.lend i as) C h.2
      exact snd_of (se_call C.room h1 h3 C.tk h2 r.2 r.1) rfl
    | .nil, _ :: _, [], h =>
      have h := Bool.and_eq_true_iff.mp h
      exact (Bool.false_ne_true h.2).elim
    | .val _ _, [], [], h => exact (Bool.false_ne_true h).elim
    | .val _ _, [], _ :: _, h => exact (Bool.false_ne_true h).elim
    | .lend _ _, [], [], h => exact (Bool.false_ne_true h).elim
    | .lend _ _, [], _ :: _, h => exact (Bool.false_ne_true h).elim
    | .nil, [], _ :: _, h => exact (Bool.false_ne_true h).elim
    | .nil, _ :: _, _ :: _, h => exact (Bool.false_ne_true h).elim
    | .val _ _, _ :: _, _ :: _, h => exact (Bool.false_ne_true h).elim
    | .lend _ _, _ :: _, _ :: _, h => exact (Bool.false_ne_true h).elim
  | .isi a t =>
    cases py <;> first | exact (Bool.false_ne_true h).elim | skip
    rename_i fu args kws pos
    cases fu <;> first | exact (Bool.false_ne_true h).elim | skip
    rename_i x p
    match args, kws, h with
    | [q, .Name y p2], [], h =>
      have h := Bool.and_eq_true_iff.mp h
      have h1 := Bool.and_eq_true_iff.mp h.1
      obtain ⟨rfl, g1, m1⟩ := bt_ok C h1.1
      obtain ⟨rfl, g2, m2⟩ := bt_ok C h1.2
      exact snd_of (se_isi t g1 m1 g2 m2 (hd_of h.2) (sndE a C h.2).1) rfl
  | .bi b a =>
    cases py <;> first | exact (Bool.false_ne_true h).elim | skip
    rename_i fu args kws pos
    cases fu <;> first | exact (Bool.false_ne_true h).elim | skip
    rename_i x p
    match args, kws, h with
    | [q], [], h =>
      have h := Bool.and_eq_true_iff.mp h
      obtain ⟨rfl, g1, m1⟩ := bt_ok C h.1
      exact snd_of (se_bi b C.calm g1 m1 (hd_of h.2) (sndE a C h.2).1) rfl
  | .bi2 b a a' =>
    cases py <;> first | exact (Bool.false_ne_true h).elim | skip
    rename_i fu args kws pos
    cases fu <;> first | exact (Bool.false_ne_true h).elim | skip
    rename_i x p
    match args, kws, h with
    | [q, r], [], h =>
      have h := Bool.and_eq_true_iff.mp h
      have h1 := Bool.and_eq_true_iff.mp h.1
      obtain ⟨rfl, g1, m1⟩ := bt_ok C h1.1
      exact snd_of (se_bi2 b C.calm g1 m1 (hd_of h1.2) (hd_of h.2) (sndE a C h1.2).1 (sndE a' C h.2).1) rfl
  | .lrev a =>
    cases py <;> first | exact (Bool.false_ne_true h).elim | skip
    rename_i fu args kws pos
    cases fu <;> first | exact (Bool.false_ne_true h).elim | skip
    rename_i x p
    match args, kws, h with
    | [.Call (.Name y p2) [q] [] p3], [], h =>
      have h := Bool.and_eq_true_iff.mp h
      have h1 := Bool.and_eq_true_iff.mp h.1
      obtain ⟨rfl, g1, m1⟩ := bt_ok C h1.1
      obtain ⟨rfl, g2, m2⟩ := bt_ok C h1.2
      exact snd_of (se_lrev C.calm g1 m1 g2 m2 (hd_of h.2) (sndE a C h.2).1) rfl
  | .callT f e as =>
    cases py <;> first | exact (Bool.false_ne_true h).elim | skip
    rename_i fu args kws pos
    cases fu <;> first | exact (Bool.false_ne_true h).elim | skip
    rename_i x p
    match args, kws, h with
    | p :: ps, [], h =>
      have h := Bool.and_eq_true_iff.mp h
      have h0 := Bool.and_eq_true_iff.mp h.1
      obtain ⟨h1, h2, h3⟩ := fn_ok C h0.1
      have r := sndAs as C h.2
      exact snd_of (se_callT C.room h1 h3 C.tk h2 (hd_of h0.2) r.2 (sndE e C h0.2).1 r.1) rfl
  | .lset a =>
    cases py <;> first | exact (Bool.false_ne_true h).elim | skip
    rename_i fu args kws pos
    cases fu <;> first | exact (Bool.false_ne_true h).elim | skip
    rename_i x p
    match args, kws, h with
    | [.Call (.Name y p2) [q] [] p3], [], h =>
      have h := Bool.and_eq_true_iff.mp h
      have h1 := Bool.and_eq_true_iff.mp h.1
      obtain ⟨rfl, g1, m1⟩ := bt_ok C h1.1
      obtain ⟨rfl, g2, m2⟩ := bt_ok C h1.2
      exact snd_of (se_lset C.calm g1 m1 g2 m2 (hd_of h.2) (sndE a C h.2).1) rfl
  | .ix a b =>
    cases py <;> first | exact (Bool.false_ne_true h).elim | skip
    have h := Bool.and_eq_true_iff.mp h
    exact snd_of (se_ix (by have := units_of C; omega) (hd_of h.2) (sndE a C h.1).1 (sndE b C h.2).1) rfl
  | .ixp i b =>
    cases py <;> first | exact (Bool.false_ne_true h).elim | skip
    have h := Bool.and_eq_true_iff.mp h
    exact snd_of (se_ixp (by have := units_of C; omega) (hd_of h.2) (var_ok C h.1).1 (sndE b C h.2).1) rfl
  | .sl a lo hi =>
    cases py <;> first | exact (Bool.false_ne_true h).elim | skip
    rename_i p sl pos
    cases sl <;> first | exact (Bool.false_ne_true h).elim | skip
    rename_i l hh st p2
    cases st <;> first | exact (Bool.false_ne_true h).elim | skip
    have h := Bool.and_eq_true_iff.mp h
    have h1 := Bool.and_eq_true_iff.mp h.1
    exact snd_of (se_sl (sndE a C h1.1).1 (sndO lo C h1.2) (sndO hi C h.2)) rfl
  | .slp i lo hi =>
    cases py <;> first | exact (Bool.false_ne_true h).elim | skip
    rename_i p sl pos
    cases sl <;> first | exact (Bool.false_ne_true h).elim | skip
    rename_i l hh st p2
    cases st <;> first | exact (Bool.false_ne_true h).elim | skip
    have h := Bool.and_eq_true_iff.mp h
    have h1 := Bool.and_eq_true_iff.mp h.1
    exact snd_of (se_slp (var_ok C h1.1).1 (sndO lo C h1.2) (sndO hi C h.2)) rfl
  | .pop i =>
    cases py <;> first | exact (Bool.false_ne_true h).elim | skip
    rename_i fu args kws pos
    cases fu <;> first | exact (Bool.false_ne_true h).elim | skip
    rename_i p m apos
    match args, kws, h with
    | [], [], h =>
      have h := Bool.and_eq_true_iff.mp h
      have h1 := Bool.and_eq_true_iff.mp h.1
      obtain ⟨g1, g2, g3⟩ := var_ok C h1.1
      have e := of_decide_eq_true h1.2
      subst e
      have e2 : apos.endLine = pos.line := of_decide_eq_true h.2
      exact snd_of (se_pop g1 (attr_plain g3) (by rw [e2]; exact beq_self_eq_true _)) rfl
  | .dnew =>
    cases py <;> first | exact (Bool.false_ne_true h).elim | skip
    rename_i ks vs pos
    match ks, vs, h with
    | [], [], _ => exact snd_of se_dnew rfl
  | .rev0 a =>
    cases py <;> first | exact (Bool.false_ne_true h).elim | skip
    rename_i p sl pos
    match sl, h with
    | .Slice none (some (.Constant (.int i) k0 p0)) (some (.UnaryOp .USub (.Constant (.int j) k1 p1) p2)) p3, h =>
      unfold chkE at h
      have h := Bool.and_eq_true_iff.mp h
      have h1 := Bool.and_eq_true_iff.mp h.1
      have e0 := of_decide_eq_true h1.1
      have e1 := of_decide_eq_true h1.2
      subst e0 e1
      exact snd_of (se_rev0 (sndE a C h.2).1) rfl
  | .getd _ _ _ => cases py <;> exact (Bool.false_ne_true h).elim
  | .getp i kk f =>
    cases py <;> first | exact (Bool.false_ne_true h).elim | skip
    rename_i fu args kws pos
    cases fu <;> first | exact (Bool.false_ne_true h).elim | skip
    rename_i p m apos
    match args, kws, h with
    | [q, r], [], h =>
      have h := Bool.and_eq_true_iff.mp h
      have h1 := Bool.and_eq_true_iff.mp h.1
      have h2 := Bool.and_eq_true_iff.mp h1.1
      have h3 := Bool.and_eq_true_iff.mp h2.1
      obtain ⟨g1, g2, g3⟩ := var_ok C h3.1
      have e := of_decide_eq_true h3.2
      subst e
      have e2 : apos.endLine = pos.line := of_decide_eq_true h2.2
      exact snd_of (se_getp (by have := units_of C; omega) g1 (m2_ok (attr_plain g3) (hd_of h1.2) (hd_of h.2) (by rw [e2]; exact beq_self_eq_true _) (few2_ok (hd_of h1.2) (hd_of h.2))) (sndE kk C h1.2).1 (sndE f C h.2).1) rfl
  | .fld cc p j =>
    cases py <;> first | exact (Bool.false_ne_true h).elim | skip
    rename_i a n apos
    have h := Bool.and_eq_true_iff.mp h
    obtain ⟨g1, g2, g3⟩ := var_ok C h.1
    obtain ⟨I, hn⟩ := fld_ok C h.2
    exact snd_of (se_fld I hn g1 (attr_plain g3)) rfl
  | .meth cc f p as =>
    cases py <;> first | exact (Bool.false_ne_true h).elim | (cases as <;> exact (Bool.false_ne_true h).elim) | skip
    rename_i fu args kws pos
    cases fu <;> first | exact (Bool.false_ne_true h).elim | (cases as <;> exact (Bool.false_ne_true h).elim) | skip
    rename_i a m apos
    match as, args, kws, h with
    | .nil, [], [], h =>
      have h := Bool.and_eq_true_iff.mp h
      have h1 := Bool.and_eq_true_iff.mp h.1
      obtain ⟨g1, g2, x, xp, rfl⟩ := var_ok C h1.1
      obtain ⟨I, M⟩ := mt_ok C h1.2
      obtain ⟨pl, e⟩ := meth_ev (x := x) (m := m) (p := xp) (apos := apos) (pos := pos) (es := []) (env := X.env) rfl (by decide) (of_decide_eq_true h.2)
      exact snd_of (se_meth0 I C.room M C.tk g1 e) rfl
    | .val e0 as, q :: qs, [], h =>
      have h := Bool.and_eq_true_iff.mp h
      have h1 := Bool.and_eq_true_iff.mp h.1
      have h2 := Bool.and_eq_true_iff.mp h1.1
      have h3 := Bool.and_eq_true_iff.mp h2.1
      obtain ⟨g1, g2, x, xp, rfl⟩ := var_ok C h3.1
      obtain ⟨I, M⟩ := mt_ok C h3.2
      have r := sndAs (.val e0 as) C h.2
      obtain ⟨pl, e⟩ := meth_ev (x := x) (m := m) (p := xp) (apos := apos) (pos := pos) (es := q :: qs) (env := X.env) r.2 (of_decide_eq_true h1.2) (of_decide_eq_true h2.2)
      exact snd_of (se_meth I C.room M C.tk g1 r.2 r.1 e) rfl
    | .lend i as, q :: qs, [], h =>
      have h := Bool.and_eq_true_iff.mp h
      have h1 := Bool.and_eq_true_iff.mp h.1
      have h2 := Bool.and_eq_true_iff.mp h1.1
      have h3 := Bool.and_eq_true_iff.mp h2.1
      obtain ⟨g1, g2, x, xp, rfl⟩ := var_ok C h3.1
      obtain ⟨I, M⟩ := mt_ok C h3.2
      have r := sndAs (.lend i as) C h.2
      obtain ⟨pl, e⟩ := meth_ev (x := x) (m := m) (p := xp) (apos := apos) (pos := pos) (es := q :: qs) (env := X.env) r.2 (of_decide_eq_true h1.2) (of_decide_eq_true h2.2)
      exact snd_of (se_meth I C.room M C.tk g1 r.2 r.1 e) rfl
    | .nil, _ :: _, [], h =>
      have h := Bool.and_eq_true_iff.mp h
      exact (Bool.false_ne_true h.2).elim
    | .val _ _, [], [], h => exact (Bool.false_ne_true h).elim
    | .val _ _, [], _ :: _, h => exact (Bool.false_ne_true h).elim
    | .lend _ _, [], [], h => exact (Bool.false_ne_true h).elim
    | .lend _ _, [], _ :: _, h => exact (Bool.false_ne_true h).elim
    | .nil, [], _ :: _, h => exact (Bool.false_ne_true h).elim
    | .nil, _ :: _, _ :: _, h => exact (Bool.false_ne_true h).elim
    | .val _ _, _ :: _, _ :: _, h => exact (Bool.false_ne_true h).elim
    | .lend _ _, _ :: _, _ :: _, h => exact (Bool.false_ne_true h).elim
  | .new cc f as =>
    cases py <;> first | exact (Bool.false_ne_true h).elim | (cases as <;> exact (Bool.false_ne_true h).elim) | skip
    rename_i fu args kws pos
    cases fu <;> first | exact (Bool.false_ne_true h).elim | (cases as <;> exact (Bool.false_ne_true h).elim) | skip
    rename_i x p
    match as, args, kws, h with
    | .nil, [], [], h =>
      obtain ⟨h1, h2, h3⟩ := kc_ok C h
      exact snd_of (se_new0 C.room1 h1 h3 C.tk h2) rfl
    | .val e as, p :: ps, [], h =>
      have h := Bool.and_eq_true_iff.mp h
      obtain ⟨h1, h2, h3⟩ := kc_ok C h.1
      have r := sndAs (.val e as) C h.2
      exact snd_of (se_new C.room1 h1 h3 C.tk h2 r.2 r.1) rfl
    | .lend i as, p :: ps, [], h =>
      have h := Bool.and_eq_true_iff.mp h
      obtain ⟨h1, h2, h3⟩ := kc_ok C h.1
      have r := sndAs (.lend i as) C h.2
      exact snd_of (se_new C.room1 h1 h3 C.tk h2 r.2 r.1) rfl
    | .nil, _ :: _, [], h =>
      have h := Bool.and_eq_true_iff.mp h
      exact (Bool.false_ne_true h.2).elim
    | .val _ _, [], [], h => exact (Bool.false_ne_true h).elim
    | .val _ _, [], _ :: _, h => exact (Bool.false_ne_true h).elim
    | .lend _ _, [], [], h => exact (Bool.false_ne_true h).elim
    | .lend _ _, [], _ :: _, h => exact (Bool.false_ne_true h).elim
    | .nil, [], _ :: _, h => exact (Bool.false_ne_true h).elim
    | .nil, _ :: _, _ :: _, h => exact (Bool.false_ne_true h).elim
    | .val _ _, _ :: _, _ :: _, h => exact (Bool.false_ne_true h).elim
    | .lend _ _, _ :: _, _ :: _, h => exact (Bool.false_ne_true h).elim
  | .join a b =>
    cases py <;> first | exact (Bool.false_ne_true h).elim | skip
    rename_i fu args kws pos
    cases fu <;> first | exact (Bool.false_ne_true h).elim | skip
    rename_i p m apos
    match args, kws, h with
    | [q], [], h =>
      have h := Bool.and_eq_true_iff.mp h
      have h1 := Bool.and_eq_true_iff.mp h.1
      have h2 := Bool.and_eq_true_iff.mp h1.1
      have h3 := Bool.and_eq_true_iff.mp h2.1
      have e := of_decide_eq_true h3.2
      subst e
      have e2 : apos.endLine = pos.line := of_decide_eq_true h2.2
      exact snd_of (se_join (hd_of h.2) (sndE a C h1.2).1 (sndE b C h.2).1 (attr_any h3.1) (by rw [e2]; exact beq_self_eq_true _)) rfl
  | .dd ks es =>
    cases py <;> first | exact (Bool.false_ne_true h).elim | skip
    rename_i keys values pos
    have h := Bool.and_eq_true_iff.mp h
    have h1 := Bool.and_eq_true_iff.mp h.1
    have h2 := Bool.and_eq_true_iff.mp h1.1
    have h3 := Bool.and_eq_true_iff.mp h2.1
    obtain ⟨k1, k2⟩ := keys_len h3.1
    have hl : ks.length = esLen es := of_decide_eq_true h3.2
    have h15 : ks.length ≤ 15 := of_decide_eq_true h2.2
    have h0 : 1 ≤ ks.length := of_decide_eq_true h1.2
    obtain ⟨r1, r2⟩ := sndDs (pos := pos) es C hl h3.1 h.2
    exact snd_of (se_dd r1 hl k2 (by rw [k1, r2, hl]) (fun z => by rw [z] at k1; simp at k1; omega) (by rw [k1]; exact h15) h15) rfl
  | .lc elt tg it cond =>
    cases py <;> first | exact (Bool.false_ne_true h).elim | skip
    rename_i pe gens scope pos
    match gens, h with
    | [⟨pt, pi, ifs, asy⟩], h =>
      unfold chkE at h
      have h := Bool.and_eq_true_iff.mp h
      have h1 := Bool.and_eq_true_iff.mp h.1
      have h2 := Bool.and_eq_true_iff.mp h1.1
      have h3 := Bool.and_eq_true_iff.mp h2.1
      have h4 := Bool.and_eq_true_iff.mp h3.1
      have h5 := Bool.and_eq_true_iff.mp h4.1
      have e0 := of_decide_eq_true h5.1
      subst e0
      refine snd_of ?_ rfl
      obtain ⟨i1, i2⟩ := sndI it (tg := pt) C h5.2
      have bok : BlkOk X.N X.env.scope scope (ownOf tg pt) := by rw [C.N, C.sc]; exact blkOk_by h4.2
      refine se_lc (fc := evC cf G cond) (fe := evE cf G elt) C.calm C.nd i1 bok (of_decide_eq_true h3.2) (by rw [C.N]; exact tgB_lt (c := inner c scope) h2.2) (fun s H Cc cl fp => ?_) (fun s H Cc cl fp => ?_) (fun s H Cc cl fp => (sndE elt (C.blk bok.kind s H Cc cl fp) h1.2).1) i2
      · have C' := C.blk bok.kind s H Cc cl fp
        exact pg_of C'.nd C'.calm (tg_ok (strict := true) C'.N C'.sc (fun z => nomatch z) h2.2)
      · have C' := C.blk bok.kind s H Cc cl fp
        match cond, ifs, h.2 with
        | .none, [], _ =>
          refine ⟨fun pins s σ H Q I q => pts_nil.run pins s σ H Q I ?_⟩
          obtain ⟨t, B, w, ρ, a, P⟩ := q
          exact P true B H w (Stp.refl t B H w) a.wf a.tb a.env rfl
        | .some d, [q], h5 => exact pts_one (sndE d C' h5).2
        | .none, _ :: _, h5 => exact (Bool.false_ne_true h5).elim
        | .some _, [], h5 => exact (Bool.false_ne_true h5).elim
        | .some _, _ :: _ :: _, h5 => exact (Bool.false_ne_true h5).elim
theorem sndEs : ∀ (es : Es) {c : Cf} {X : Cx} {W : WX} {ps : List Expr}, CtxOk cf G cls k c X W → chkEs c es ps = true → PA X ps (tA X.K W cls (evEs cf G es)) := by
  intro es c X W ps C h
  match es, ps, h with
  | .nil, [], h => exact sa_nil
  | .cons e es, p :: ps, h =>
    have h := Bool.and_eq_true_iff.mp h
    exact sa_cons (hd_of h.1) (sndE e C h.1).1 (sndEs es C h.2)
  | .nil, _ :: _, h => exact (Bool.false_ne_true h).elim
  | .cons _ _, [], h => exact (Bool.false_ne_true h).elim
theorem sndDs : ∀ (es : Es) {c : Cf} {X : Cx} {W : WX} {ks : List Ky} {keys : List (Option Expr)} {values : List Expr} {pos : Pos}, CtxOk cf G cls k c X W → ks.length = esLen es → keysB ks keys = true → chkEs c es values = true →
    PPs X pos keys values (trsOf X.K W cls cf G ks es) ∧ values.length = esLen es := by
  intro es c X W ks keys values pos C hl hk h
  match es, ks, keys, values, hl, hk, h with
  | .nil, [], [], [], _, _, _ => exact ⟨pps_nil, rfl⟩
  | .cons e es, kk :: ks, q :: keys, p :: ps, hl, hk, h =>
    have h := Bool.and_eq_true_iff.mp h
    have hk := Bool.and_eq_true_iff.mp hk
    obtain ⟨q', rfl, hq⟩ := key_ok (X := X) hk.1
    obtain ⟨r1, r2⟩ := sndDs (pos := pos) es C (by simpa [esLen] using hl) hk.2 h.2
    exact ⟨pps_cons hq (sndE e C h.1).1 r1, by rw [List.length_cons, r2]; rfl⟩
  | .nil, [], _ :: _, _, _, hk, _ => exact (Bool.false_ne_true hk).elim
  | .nil, [], [], _ :: _, _, _, h => exact (Bool.false_ne_true h).elim
  | .nil, _ :: _, _, _, hl, _, _ => simp [esLen] at hl
  | .cons _ _, [], _, _, hl, _, _ => simp [esLen] at hl
  | .cons _ _, _ :: _, [], _, _, hk, _ => exact (Bool.false_ne_true hk).elim
  | .cons _ _, _ :: _, _ :: _, [], _, _, h => exact (Bool.false_ne_true h).elim
theorem sndO : ∀ (o : Oe) {c : Cf} {X : Cx} {W : WX} {p : Option Expr}, CtxOk cf G cls k c X W → chkO c o p = true → PO X p (tO X.K W cls (evO cf G o)) := by
  intro o c X W p C h
  match o, p, h with
  | .none, none, h => exact so_none
  | .some e, some p, h => exact so_some (sndE e C h).1
  | .none, some _, h => exact (Bool.false_ne_true h).elim
  | .some _, none, h => exact (Bool.false_ne_true h).elim
theorem sndAs : ∀ (as : As) {c : Cf} {X : Cx} {W : WX} {ps : List Expr}, CtxOk cf G cls k c X W → chkAs c as ps = true → PA X ps (tAs X.K W cls (evAs cf G as)) ∧ ps.all hdOk = true := by
  intro as c X W ps C h
  match as, ps, h with
  | .nil, [], h => exact ⟨sas_nil, rfl⟩
  | .val e as, p :: ps, h =>
    have h := Bool.and_eq_true_iff.mp h
    obtain ⟨r1, r2⟩ := sndAs as C h.2
    exact ⟨sas_val (hd_of h.1) (sndE e C h.1).1 r1, by rw [List.all_cons, hd_of h.1, r2]; rfl⟩
  | .lend i as, p :: ps, h =>
    have h := Bool.and_eq_true_iff.mp h
    obtain ⟨r1, r2⟩ := sndAs as C h.2
    obtain ⟨g1, g2, _⟩ := var_ok C h.1
    exact ⟨sas_lend g2 g1 r1, by rw [List.all_cons, g2, r2]; rfl⟩
  | .nil, _ :: _, h => exact (Bool.false_ne_true h).elim
  | .val _ _, [], h => exact (Bool.false_ne_true h).elim
  | .lend _ _, [], h => exact (Bool.false_ne_true h).elim
theorem sndI : ∀ (it : It) {c : Cf} {X : Cx} {W : WX} {py tg : Expr}, CtxOk cf G cls k c X W → chkI c it py = true → PI X tg py (tI X.K W cls (evI cf G it)) ∧ hdOk py = true := by
  intro it c X W py tg C h
  match it with
  | .val e => exact ⟨si_val (sndE e C (show chkE c e py = true from h)).1, hd_of (show chkE c e py = true from h)⟩
  | .rng e =>
    cases py <;> first | exact (Bool.false_ne_true h).elim | skip
    rename_i fu args kws pos
    cases fu <;> first | exact (Bool.false_ne_true h).elim | skip
    rename_i x p
    match args, kws, h with
    | [q], [], h =>
      have h := Bool.and_eq_true_iff.mp h
      obtain ⟨rfl, g1, m1⟩ := bt_ok C h.1
      exact ⟨si_rng g1 m1 (hd_of h.2) (sndE e C h.2).1, rfl⟩
  | .rng2 a b =>
    cases py <;> first | exact (Bool.false_ne_true h).elim | skip
    rename_i fu args kws pos
    cases fu <;> first | exact (Bool.false_ne_true h).elim | skip
    rename_i x p
    match args, kws, h with
    | [q, r], [], h =>
      have h := Bool.and_eq_true_iff.mp h
      have h1 := Bool.and_eq_true_iff.mp h.1
      obtain ⟨rfl, g1, m1⟩ := bt_ok C h1.1
      exact ⟨si_rng2 g1 m1 (hd_of h1.2) (hd_of h.2) (sndE a C h1.2).1 (sndE b C h.2).1, rfl⟩
  | .rng3 a b k =>
    cases py <;> first | exact (Bool.false_ne_true h).elim | skip
    rename_i fu args kws pos
    cases fu <;> first | exact (Bool.false_ne_true h).elim | skip
    rename_i x p
    match args, kws, h with
    | [q, r, .Constant (.int j) _ _], [], h =>
      have h := Bool.and_eq_true_iff.mp h
      have h1 := Bool.and_eq_true_iff.mp h.1
      have h2 := Bool.and_eq_true_iff.mp h1.1
      obtain ⟨rfl, g1, m1⟩ := bt_ok C h2.1
      have e := of_decide_eq_true h2.2
      subst e
      exact ⟨si_rng3 g1 m1 (hd_of h1.2) (hd_of h.2) (sndE a C h1.2).1 (sndE b C h.2).1, rfl⟩
  | .rev e =>
    cases py <;> first | exact (Bool.false_ne_true h).elim | skip
    rename_i fu args kws pos
    cases fu <;> first | exact (Bool.false_ne_true h).elim | skip
    rename_i x p
    match args, kws, h with
    | [q], [], h =>
      have h := Bool.and_eq_true_iff.mp h
      obtain ⟨rfl, g1, m1⟩ := bt_ok C h.1
      exact ⟨si_rev g1 m1 (hd_of h.2) (sndE e C h.2).1, rfl⟩
end
end
end Ev
end

section
set_option Elab.async false
set_option linter.all false
set_option maxRecDepth 100000
set_option maxHeartbeats 4000000
/-! Ev, part L: statements and defs by the check. -/
namespace Ev
open PySem PySem.Spec PyProof.Rows L2
variable [Γ : Clz]
section
variable {cf : CallF} {G : Gs} {cls : Nat → Value} {k : Nat} {c : Cf} {X : Cx} {W : WX} {lent : List Nat} {n : Nat}
structure StOk (cf : CallF) (G : Gs) (cls : Nat → Value) (k : Nat) (c : Cf) (X : Cx) (W : WX) : Prop where
  C : CtxOk cf G cls k c X W
  fn : ∀ x, X.fn x = true
  hp : PassesOwn (model X.prog X.w) X.A X.env X.xe
  hs : X.stack = X.env :: X.outer
  hf : X.env.frame = some X.env.locals
/-- within a try statement's body -/
theorem StOk.tr (T : StOk cf G cls k c X W) {W' : WX} {pn : List (Addr × Obj)} {xe : Value → Shared → Prop} (tk : Takes (X.tr pn xe) W') (hp : PassesOwn (model X.prog X.w) X.A X.env xe) : StOk cf G cls k c (X.tr pn xe) W' where
  C := {
    N := T.C.N
    nd := T.C.nd
    sc := T.C.sc
    kd := T.C.kd
    calm := T.C.calm
    tk := tk
    room := T.C.room
    gl := fun x g e => by
      have h := T.C.gl x g e
      cases g with
      | fn f => exact ⟨h.ex⟩
      | con j => exact h
      | bt => exact h
      | xc i => exact h
      | xr i => exact ⟨h.ex⟩
      | xb i => exact h
      | kc _ _ => exact ⟨h.ex⟩
    room1 := T.C.room1
    ms := fun cc m f e => ⟨(T.C.ms cc m f e).ex⟩
    cs := T.C.cs
    xt := T.C.xt }
  fn := T.fn
  hp := hp
  hs := T.hs
  hf := T.hf
/-! ### suites -/
section
variable {a dd C : Addr} {x : D} {kc : Nat} {oe : Obj} {pn : List (Addr × Obj)} {i : Option Nat}
theorem xn_pe (O : CtxOk cf G cls k c X W) {y : Str} {j : Nat} {pos : Pos} (h : xnB c y j = true) : ClPE (X.suite a ((a, oe) :: pn)) cls j (.Name y pos) := by
  unfold xnB at h
  simp only [Bool.and_eq_true] at h
  have hg : Gl (X.suite a ((a, oe) :: pn)) y := gl_of O h.1.1
  have hn := (nm_of h.1.2).1
  have h2 := h.2
  split at h2
  · rename_i g e
    obtain ⟨C, e1, e2⟩ := O.gl y _ e
    rw [of_decide_eq_true h2] at e1
    exact ⟨rfl, .ref C, by rw [e1]; exact .own C, pe_glob hg e2 rfl hn⟩
  · rename_i g e
    obtain ⟨C, fI, fd, ps, e1, e2, _⟩ := (O.gl y _ e).ex
    rw [of_decide_eq_true h2] at e1
    exact ⟨rfl, .ref C, by rw [e1]; exact .own C, pe_glob hg e2 rfl hn⟩
  · rename_i g e
    rw [Bool.and_eq_true, decide_eq_true_eq, decide_eq_true_eq] at h2
    obtain ⟨e1, e2⟩ := O.gl y _ e
    obtain ⟨h2, h3⟩ := h2
    subst h2 h3
    exact ⟨rfl, .ty "ValueError", by rw [e1]; exact .ty _, pe_bltn hg e2 (show bootBuiltins "ValueError" = some (.type "ValueError") by decide +kernel) rfl (by decide +kernel) (by decide +kernel)⟩
  · cases h2
theorem xn_names (O : CtxOk cf G cls k c X W) {y : Str} {j : Nat} (h : xnB c y j = true) : Names X y (cls j) := by
  unfold xnB at h
  simp only [Bool.and_eq_true] at h
  have hg : Gl X y := gl_of O h.1.1
  have hn := (nm_of h.1.2).1
  have h2 := h.2
  split at h2
  · rename_i g e
    obtain ⟨C, e1, e2⟩ := O.gl y _ e
    rw [of_decide_eq_true h2] at e1
    exact ⟨hg, hn, .inl (by rw [e1]; exact e2)⟩
  · rename_i g e
    obtain ⟨C, fI, fd, ps, e1, e2, _⟩ := (O.gl y _ e).ex
    rw [of_decide_eq_true h2] at e1
    exact ⟨hg, hn, .inl (by rw [e1]; exact e2)⟩
  · rename_i g e
    rw [Bool.and_eq_true, decide_eq_true_eq, decide_eq_true_eq] at h2
    obtain ⟨e1, e2⟩ := O.gl y _ e
    obtain ⟨h2, h3⟩ := h2
    subst h2 h3
    exact ⟨hg, hn, .inr ⟨e2, by rw [e1]; decide +kernel, by decide +kernel⟩⟩
  · cases h2
theorem cls_pe (O : CtxOk cf G cls k c X W) : ∀ {ks : List Nat} {es : List Expr}, clsB c ks es = true → ClsPE (X.suite a ((a, oe) :: pn)) cls ks es
  | [], [], _ => .nil
  | j :: ks, e :: es, h => by
    cases e <;> first | exact (Bool.false_ne_true h).elim | skip
    have h := Bool.and_eq_true_iff.mp h
    exact .cons (xn_pe O h.1) (cls_pe O h.2)
  | [], _ :: _, h => (Bool.false_ne_true h).elim
  | _ :: _, [], h => (Bool.false_ne_true h).elim
/-- a slot's name, in a suite -/
theorem varX (O : CtxOk cf G cls k c X W) {j : Nat} {py : Expr} (h : varB c j py = true) : PE (X.suite a ((a, oe) :: pn)) py (tVar j) ∧ hdOk py = true ∧ ∃ x pos, py = .Name x pos := by
  unfold varB at h
  split at h
  · simp only [Bool.and_eq_true, decide_eq_true_eq] at h
    obtain ⟨h3, h4⟩ := nm_of h.2
    exact ⟨pe_var (X := X.suite a ((a, oe) :: pn)) (by show X.N[j]? = _; rw [O.N]; exact h.1.1) (by show Vis X.env.scope _; rw [O.sc]; exact vis_of h.1.2) h3 h4, rfl, _, _, rfl⟩
  · cases h
/-- what is asked in a suite is sound -/
abbrev SndX (G : Gs) (X : Cx) (K : PySem.W.Frag) (i : Option Nat) (a dd : Addr) (kc : Nat) (x : D) (e : Xe) (py : Expr) : Prop :=
  PE X py (tXE K i a dd x (xE G kc x e)) ∧ PT X py (tXT K i a dd x (xE G kc x e))
theorem sndX (O : CtxOk cf G cls k c X W) (ec : cls kc = .ref C) (hX : ExcC X.K C) (hno : PySem.W.findIn X.K (.ref C) "place" = some none) (hz : Zc (.ref C) (some dd) oe) (hf : ∃ vs, oe.data = .fields vs) :
    ∀ (e : Xe) {py : Expr}, chkX c i e py = true → SndX G (X.suite a ((a, oe) :: pn)) X.K i a dd kc x e py := by
  intro e py h
  match e with
  | .isx ks =>
    cases py <;> first | exact (Bool.false_ne_true h).elim | skip
    rename_i fu args kws pos
    cases fu <;> first | exact (Bool.false_ne_true h).elim | skip
    rename_i f p1
    match args, kws, h with
    | [q, .Name y p2], [], h =>
      have h := Bool.and_eq_true_iff.mp h
      have h1 := Bool.and_eq_true_iff.mp h.1
      obtain ⟨rfl, g1, m1⟩ := bt_ok O h1.1
      cases i with
      | none => exact (Bool.false_ne_true h1.2).elim
      | some i =>
        obtain ⟨v1, v2, _⟩ := varX (a := a) (oe := oe) (pn := pn) O (show varB c i q = true from h1.2)
        match ks, h.2 with
        | [j], h3 =>
          have r := sx_is (f := ("" : Str)) (x := x) (pos := pos) (p1 := p1) O.xt ec hX hz hf g1 m1 v2 v1 (xn_pe (a := a) (oe := oe) (pn := pn) (pos := p2) O h3)
          exact ⟨r, sxt_val rfl r⟩
        | [], h3 => exact (Bool.false_ne_true h3).elim
        | _ :: _ :: _, h3 => exact (Bool.false_ne_true h3).elim
    | [q, .Tuple es kk p2], [], h =>
      have h := Bool.and_eq_true_iff.mp h
      have h0 := Bool.and_eq_true_iff.mp h.1
      have h1 := Bool.and_eq_true_iff.mp h0.1
      obtain ⟨rfl, g1, m1⟩ := bt_ok O h1.1
      cases i with
      | none => exact (Bool.false_ne_true h1.2).elim
      | some i =>
        obtain ⟨v1, v2, _⟩ := varX (a := a) (oe := oe) (pn := pn) O (show varB c i q = true from h1.2)
        have r := sx_isT (x := x) (pos := pos) (p1 := p1) (tpos := p2) (kk := kk) O.xt ec hX hz hf g1 m1 v2 v1 (cls_pe (a := a) (oe := oe) (pn := pn) O h0.2) (of_decide_eq_true h.2)
        exact ⟨r, sxt_val rfl r⟩
  | .pln =>
    cases py <;> first | exact (Bool.false_ne_true h).elim | skip
    rename_i l ops rs pos
    match l, ops, rs, h with
    | .Attribute q at' apos, [.Is], [.Constant .none k2 p2], h =>
      have h := Bool.and_eq_true_iff.mp h
      have e := of_decide_eq_true h.2
      subst e
      cases i with
      | none => exact (Bool.false_ne_true h.1).elim
      | some i =>
        obtain ⟨v1, v2, v3⟩ := varX (a := a) (oe := oe) (pn := pn) O (show varB c i q = true from h.1)
        obtain ⟨n', p', rfl⟩ := v3
        exact sx_pln (x := x) hX hno hz hf v1 rfl
  | .v j =>
    obtain ⟨v1, v2, nm, pp, rfl⟩ := varX (a := a) (oe := oe) (pn := pn) O (show varB c j py = true from h)
    have r : PE (X.suite a ((a, oe) :: pn)) (.Name nm pp) (tXE X.K i a dd x (xE G kc x (.v j))) := by
      refine PE.of v1 ?_
      rintro σ H Q ⟨B, w, ρ, S, b, hb, kq⟩
      unfold xE at hb
      split at hb
      · rename_i b' e
        cases hb
        obtain ⟨v, hv, ho⟩ := S.at'.env.at' j _ e
        cases ho with | d hd =>
        cases hd
        exact ⟨_, hv, kq H fun _ _ h => h⟩
      · cases hb
    exact ⟨r, sxt_val rfl r⟩
  | .not e =>
    have ih := fun {py : Expr} => sndX O ec hX hno hz hf e (py := py)
    cases py <;> first | exact (Bool.false_ne_true h).elim | skip
    rename_i op p pos
    cases op <;> first | exact (Bool.false_ne_true h).elim | skip
    obtain ⟨r1, r2⟩ := ih (show chkX c i e p = true from h)
    exact ⟨sx_not r1, sxt_not r2⟩
  | .and e e' =>
    have ih := fun {py : Expr} => sndX O ec hX hno hz hf e (py := py)
    have ih' := fun {py : Expr} => sndX O ec hX hno hz hf e' (py := py)
    cases py <;> first | exact (Bool.false_ne_true h).elim | skip
    rename_i op vs pos
    cases op <;> first | exact (Bool.false_ne_true h).elim | skip
    match vs, h with
    | [p, q], h =>
      have h := Bool.and_eq_true_iff.mp h
      have r1 := ih h.1
      have r2 := ih' h.2
      exact ⟨sx_and r1.1 (pe_one r2.1), PW.pt (sxt_and r1.2 (pw_and1 r2.2))⟩
    | p :: q :: q2 :: r, h =>
      have h := Bool.and_eq_true_iff.mp h
      have r1 := ih h.1
      have r2 := ih' h.2
      exact ⟨sx_and r1.1 r2.1, PW.pt (sxt_and r1.2 ⟨fun wh pins s σ H Q I q => r2.2.run pins s σ H Q I q⟩)⟩
    | [], h => exact (Bool.false_ne_true h).elim
    | [p], h => exact (Bool.false_ne_true h).elim
  | .or e e' =>
    have ih := fun {py : Expr} => sndX O ec hX hno hz hf e (py := py)
    have ih' := fun {py : Expr} => sndX O ec hX hno hz hf e' (py := py)
    cases py <;> first | exact (Bool.false_ne_true h).elim | skip
    rename_i op vs pos
    cases op <;> first | exact (Bool.false_ne_true h).elim | skip
    match vs, h with
    | [p, q], h =>
      have h := Bool.and_eq_true_iff.mp h
      have r1 := ih h.1
      have r2 := ih' h.2
      exact ⟨sx_or r1.1 (pe_one r2.1), PW.pt (sxt_or r1.2 (pw_or1 r2.2))⟩
    | p :: q :: q2 :: r, h =>
      have h := Bool.and_eq_true_iff.mp h
      have r1 := ih h.1
      have r2 := ih' h.2
      exact ⟨sx_or r1.1 r2.1, PW.pt (sxt_or r1.2 ⟨fun wh pins s σ H Q I q => r2.2.run pins s σ H Q I q⟩)⟩
    | [], h => exact (Bool.false_ne_true h).elim
    | [p], h => exact (Bool.false_ne_true h).elim
theorem sole_no {env : Env} {p : Expr} {t : Option Expr} {l : Nat} (hn : noComp p = true) : swapsWith p t l env = pure false := by
  cases p <;> first
    | exact (Bool.false_ne_true hn).elim
    | rfl
mutual
theorem sndXs (T : StOk cf G cls k c X W) (ec : cls kc = .ref C) (hX : ExcC X.K C) (hno : PySem.W.findIn X.K (.ref C) "place" = some none) (hz : Zc (.ref C) (some dd) oe) (hf : ∃ vs, oe.data = .fields vs) (hi : ∀ j, i = some j → j ∈ lent) :
    ∀ (s : Xs) {py : Stmt}, chkXs c i s py = true → PS (X.suite a ((a, oe) :: pn)) py (tX X.K cls i a dd x lent (xS G lent kc x s)) := by
  intro s py h
  have O := T.C
  match s with
  | .setb j e =>
    cases py <;> first | exact (Bool.false_ne_true h).elim | skip
    rename_i tgs p pos
    match tgs, h with
    | [.Name y tp], h =>
      have h := Bool.and_eq_true_iff.mp h
      have h1 := Bool.and_eq_true_iff.mp h.1
      obtain ⟨x', pos', e1, n1, n2, n3⟩ := st_ok (strict := false) O.N O.sc (fun _ => T.fn) h1.1
      cases e1
      exact sx_setb (X := X.suite a ((a, oe) :: pn)) O.nd n1 n2 (T.fn _) (sndX (i := i) O ec hX hno hz hf e h1.2).1 (sole_no h.2)
  | .setp j =>
    cases py <;> first | exact (Bool.false_ne_true h).elim | skip
    rename_i tgs p pos
    match tgs, p, h with
    | [.Name y tp], .Attribute q at' apos, h =>
      have h := Bool.and_eq_true_iff.mp h
      have h1 := Bool.and_eq_true_iff.mp h.1
      have e := of_decide_eq_true h.2
      subst e
      obtain ⟨x', pos', e1, n1, n2, n3⟩ := st_ok (strict := false) O.N O.sc (fun _ => T.fn) h1.1
      cases e1
      cases i with
      | none => exact (Bool.false_ne_true h1.2).elim
      | some i =>
        obtain ⟨v1, v2, v3⟩ := varX (a := a) (oe := oe) (pn := pn) O (show varB c i q = true from h1.2)
        obtain ⟨n', p', rfl⟩ := v3
        exact sx_setp (X := X.suite a ((a, oe) :: pn)) O.nd n1 n2 (T.fn _) (sx_place (K' := X.K) hX hno hz hf v1 rfl) rfl
  | .setd j d =>
    cases py <;> first | exact (Bool.false_ne_true h).elim | skip
    rename_i tgs p pos
    match tgs, h with
    | [.Name y tp], h =>
      have h := Bool.and_eq_true_iff.mp h
      have h1 := Bool.and_eq_true_iff.mp h.1
      obtain ⟨x', pos', e1, n1, n2, n3⟩ := st_ok (strict := false) O.N O.sc (fun _ => T.fn) h1.1
      cases e1
      have r := sx_lift (i := i) (a := a) (dd := dd) (x := x) (ss_set (X := X.suite a ((a, oe) :: pn)) (W := noX) (cls := cls) (lent := lent) (pos := pos) (pos' := tp) O.nd n1 n2 (T.fn _) (lit_pe (W := noX) (cls := cls) d h1.2) (sole_no h.2))
      exact r
  | .ifs e p q =>
    cases py <;> first | exact (Bool.false_ne_true h).elim | skip
    rename_i pos0
    have h := Bool.and_eq_true_iff.mp h
    have h1 := Bool.and_eq_true_iff.mp h.1
    have r := sx_if (X := X.suite a ((a, oe) :: pn)) (pos := pos0) (sndX (i := i) (a := a) (oe := oe) (pn := pn) (dd := dd) (x := x) O ec hX hno hz hf e h1.1).2 (sndXss T ec hX hno hz hf hi p h1.2) (sndXss T ec hX hno hz hf hi q h.2)
    exact r
  | .ret d =>
    cases py <;> first | exact (Bool.false_ne_true h).elim | skip
    rename_i v pos
    cases v <;> first | exact (Bool.false_ne_true h).elim | skip
    exact sx_lift (ss_ret (X := X.suite a ((a, oe) :: pn)) (W := noX) (lit_pe (W := noX) (cls := cls) d h))
theorem sndXss (T : StOk cf G cls k c X W) (ec : cls kc = .ref C) (hX : ExcC X.K C) (hno : PySem.W.findIn X.K (.ref C) "place" = some none) (hz : Zc (.ref C) (some dd) oe) (hf : ∃ vs, oe.data = .fields vs) (hi : ∀ j, i = some j → j ∈ lent) :
    ∀ (ss : Xss) {ps : List Stmt}, chkXss c i ss ps = true → PSs (X.suite a ((a, oe) :: pn)) ps (tX X.K cls i a dd x lent (xSs G lent kc x ss)) := by
  intro ss ps h
  match ss, ps, h with
  | .nil, [], h => exact sx_nil
  | .cons s ss, p :: ps, h =>
    have h := Bool.and_eq_true_iff.mp h
    exact sx_cons hi (sndXs T ec hX hno hz hf hi s h.1) (sndXss T ec hX hno hz hf hi ss h.2)
  | .nil, _ :: _, h => exact (Bool.false_ne_true h).elim
  | .cons _ _, [], h => exact (Bool.false_ne_true h).elim
end
end
theorem sndXh (T : StOk cf G cls k c X W) : ∀ (hs : Xh) {hds : List ExceptHandler}, chkXh c hs hds = true → HdsX X cls G lent hs hds := by
  intro hs hds h
  have O := T.C
  match hs with
  | .nil =>
    cases hds with
    | nil => exact .nil
    | cons _ _ => exact (Bool.false_ne_true h).elim
  | .dead => exact .dead
  | .cons ks n ss hs =>
    have ih := fun {hds : List ExceptHandler} => sndXh T hs (hds := hds)
    match hds, h with
    | [], h => exact (Bool.false_ne_true h).elim
    | hd :: hds, h =>
      have h := Bool.and_eq_true_iff.mp h
      obtain ⟨h, hr⟩ := h
      have rest := ih hr
      unfold chkH at h
      split at h
      · have h1 := Bool.and_eq_true_iff.mp h
        exact .only (xn_names O h1.1) (fun a dd C oe kc x pn ec hX hno hz hf => sndXss T ec hX hno hz hf (fun j z => by cases z) ss h1.2) rest
      · have h1 := Bool.and_eq_true_iff.mp h
        have h2 := Bool.and_eq_true_iff.mp h1.1
        have h3 := Bool.and_eq_true_iff.mp h2.1
        refine .named (xn_names O h3.1) (by rw [O.N]; exact of_decide_eq_true h3.2) ?_ (fun a dd C oe kc x pn ec hX hno hz hf => sndXss T ec hX hno hz hf (fun j z => by cases z; exact List.mem_cons_self) ss h1.2) rest
        show (X.env.kindOf _) = some .local
        unfold Env.kindOf
        rw [O.sc]
        exact lcl_of h2.2
      · cases h
theorem swap_eq {env : Env} {p : Expr} {x : Str} {tp : Pos} {l : Nat} {sc : Scope} (hs : env.scope = sc) (hk : env.scope.kind = .function) (hn : noSet p = true) : swapsWith p (some (.Name x tp)) l env = pure (swB p x tp sc) := by
  cases p with
  | ListComp elt gens s pos =>
    have hb : env.blockKind = .function := by unfold Env.blockKind; rw [hk]; rfl
    unfold swapsWith swB
    simp only [hb, Env.kindOf, hs, Expr.pos]
    rfl
  | _ => first
    | rfl
    | exact (Bool.false_ne_true hn).elim
theorem sole_ok {env : Env} {p tg : Expr} {l : Nat} (hn : noComp p = true) : swapsWithSole [tg] p l env = pure false := by
  cases p <;> first
    | exact (Bool.false_ne_true hn).elim
    | rfl
theorem drop_ok {env : Env} {p : Expr} {l : Nat} (hn : noComp p = true) : swapsWith p none l env = pure false := by
  cases p <;> first
    | exact (Bool.false_ne_true hn).elim
    | rfl
theorem sw_tup {env : Env} {p : Expr} {es : List Expr} {kk : Nat} {tp : Pos} (hn : noTup p = true) : swappedStores [.Tuple es kk tp] p env = pure none := by
  cases p <;> first
    | exact (Bool.false_ne_true hn).elim
    | rfl
theorem sw_attr {env : Env} {p a : Expr} {n : Str} {tp : Pos} : swappedStores [.Attribute a n tp] p env = pure none := by
  cases p <;> rfl
theorem sw_sub {env : Env} {p a b : Expr} {tp : Pos} : swappedStores [.Subscript a b tp] p env = pure none := by
  cases p <;> rfl
mutual
theorem sndS : ∀ (s : S) {X : Cx} {W : WX} {py : Stmt}, StOk cf G cls k c X W → chkS c s py = true → PS X py (tS X.K W cls lent (evS cf G n lent s)) := by
  intro s X W py T h
  have C := T.C
  match s with
  | .set i e =>
    cases py <;> first | exact (Bool.false_ne_true h).elim | skip
    rename_i tgs p pos
    match tgs, h with
    | [.Name x tp], h =>
      have h := Bool.and_eq_true_iff.mp h
      have h1 := Bool.and_eq_true_iff.mp h.1
      have h2 := Bool.and_eq_true_iff.mp h1.1
      obtain ⟨x', pos', e1, n1, n2, n3⟩ := st_ok (strict := false) C.N C.sc (fun _ => T.fn) h2.1
      cases e1
      have sw := swap_eq (l := pos.line) (x := x) (tp := tp) C.sc C.kd h1.2
      cases hb : swB p x tp c.sc with
      | false =>
        rw [hb] at sw
        exact ss_set C.nd n1 n2 (T.fn x) (sndE e C h2.2).1 sw
      | true =>
        rw [hb] at sw
        have h3 := h.2
        rw [hb] at h3
        match e, h3, h2.2 with
        | .lc elt tg it cond, h3, h4 =>
          have h3 : lclB c.sc x = true := h3
          cases p with
          | ListComp pe gens scope pos2 =>
           match gens, h4, sw with
           | [⟨pt, pi, ifs, asy⟩], h4, sw =>
            unfold chkE at h4
            have h := Bool.and_eq_true_iff.mp h4
            have h1 := Bool.and_eq_true_iff.mp h.1
            have h2 := Bool.and_eq_true_iff.mp h1.1
            have h3' := Bool.and_eq_true_iff.mp h2.1
            have h4 := Bool.and_eq_true_iff.mp h3'.1
            have h5 := Bool.and_eq_true_iff.mp h4.1
            have e0 := of_decide_eq_true h5.1
            subst e0
            obtain ⟨i1, i2⟩ := sndI it (tg := pt) C h5.2
            have bok : BlkOk X.N X.env.scope scope (ownOf tg pt) := by rw [C.N, C.sc]; exact blkOk_by h4.2
            refine ss_setLc (fc := evC cf G cond) (fe := evE cf G elt) C.calm C.nd n1 (by rw [C.sc]; exact lcl_of h3) sw i1 bok (of_decide_eq_true h3'.2) (by rw [C.N]; exact tgB_lt (c := inner c scope) h2.2) (fun s H Cc cl fp => ?_) (fun s H Cc cl fp => ?_) (fun s H Cc cl fp => (sndE elt (C.blk bok.kind s H Cc cl fp) h1.2).1) i2
            · have C' := C.blk bok.kind s H Cc cl fp
              exact pg_of C'.nd C'.calm (tg_ok (strict := true) C'.N C'.sc (fun z => nomatch z) h2.2)
            · have C' := C.blk bok.kind s H Cc cl fp
              match cond, ifs, h.2 with
              | .none, [], _ =>
                refine ⟨fun pins s σ H Q I q => pts_nil.run pins s σ H Q I ?_⟩
                obtain ⟨t, B, w, ρ, a, P⟩ := q
                exact P true B H w (Stp.refl t B H w) a.wf a.tb a.env rfl
              | .some d, [q], h5 => exact pts_one (sndE d C' h5).2
              | .none, _ :: _, h5 => exact (Bool.false_ne_true h5).elim
              | .some _, [], h5 => exact (Bool.false_ne_true h5).elim
              | .some _, _ :: _ :: _, h5 => exact (Bool.false_ne_true h5).elim
          | _ => exact (Bool.false_ne_true h4).elim
  | .unp is e =>
    cases py <;> first | exact (Bool.false_ne_true h).elim | skip
    rename_i tgs p pos
    match tgs, h with
    | [.Tuple es kk tp], h =>
      have h := Bool.and_eq_true_iff.mp h
      have h1 := Bool.and_eq_true_iff.mp h.1
      have h2 := Bool.and_eq_true_iff.mp h1.1
      exact ss_unp C.nd C.calm (tg_ok (strict := false) C.N C.sc (fun _ => T.fn) h2.1) (sndE e C h2.2).1 (sole_ok h1.2) (sw_tup h.2) rfl
  | .seti i ix e =>
    cases py <;> first | exact (Bool.false_ne_true h).elim | skip
    rename_i tgs p pos
    match tgs, h with
    | [.Subscript a b tp], h =>
      have h := Bool.and_eq_true_iff.mp h
      have h1 := Bool.and_eq_true_iff.mp h.1
      have h2 := Bool.and_eq_true_iff.mp h1.1
      exact ss_seti (by have := units_of C; omega) (var_ok C h2.1).1 (hd_of h2.2) (sndE ix C h2.2).1 (sndE e C h1.2).1 (sole_ok h.2) sw_sub rfl
  | .aug i o e =>
    cases py <;> first | exact (Bool.false_ne_true h).elim | skip
    rename_i tg op p pos
    cases tg <;> first | exact (Bool.false_ne_true h).elim | skip
    have h := Bool.and_eq_true_iff.mp h
    have h1 := Bool.and_eq_true_iff.mp h.1
    obtain ⟨x', pos', e1, n1, n2, n3⟩ := st_ok (strict := false) C.N C.sc (fun _ => T.fn) h1.1
    cases e1
    exact ss_aug (of_decide_eq_true h1.2) C.nd n1 n2 (T.fn _) (sndE e C h.2).1
  | .ifs d a b =>
    cases py <;> first | exact (Bool.false_ne_true h).elim | skip
    have h := Bool.and_eq_true_iff.mp h
    have h1 := Bool.and_eq_true_iff.mp h.1
    exact ss_if (sndE d C h1.1).2 (sndSs a T h1.2) (sndSs b T h.2)
  | .whl d b =>
    cases py <;> first | exact (Bool.false_ne_true h).elim | skip
    rename_i t p el pos
    cases el <;> first | exact (Bool.false_ne_true h).elim | skip
    have h := Bool.and_eq_true_iff.mp h
    exact ss_whl T.hp (sndE d C h.1).2 (sndSs b T h.2)
  | .for_ tg it b =>
    cases py <;> first | exact (Bool.false_ne_true h).elim | skip
    rename_i pt pi p el pos
    cases el <;> first | exact (Bool.false_ne_true h).elim | skip
    have h := Bool.and_eq_true_iff.mp h
    have h1 := Bool.and_eq_true_iff.mp h.1
    obtain ⟨i1, i2⟩ := sndI it (tg := pt) C h1.2
    exact ss_for C.nd T.hp C.calm i1 (tg_ok (strict := false) C.N C.sc (fun _ => T.fn) h1.1) (sndSs b T h.2) i2
  | .ret e =>
    cases py <;> first | exact (Bool.false_ne_true h).elim | skip
    rename_i v pos
    cases v <;> first | exact (Bool.false_ne_true h).elim | skip
    exact ss_ret (sndE e C h).1
  | .retN =>
    cases py <;> first | exact (Bool.false_ne_true h).elim | skip
    rename_i v pos
    cases v <;> first | exact (Bool.false_ne_true h).elim | skip
    exact ss_retN
  | .retv i =>
    cases py <;> first | exact (Bool.false_ne_true h).elim | skip
    rename_i v pos
    cases v <;> first | exact (Bool.false_ne_true h).elim | skip
    exact ss_retv (var_ok C h).1
  | .ex e =>
    cases py <;> first | exact (Bool.false_ne_true h).elim | skip
    have h := Bool.and_eq_true_iff.mp h
    exact ss_ex (sndE e C h.1).1 (drop_ok h.2)
  | .apx a e =>
    cases py <;> first | exact (Bool.false_ne_true h).elim | skip
    rename_i v pos
    match v, h with
    | .Call (.Attribute p m apos) [q] [] cpos, h =>
      have h := Bool.and_eq_true_iff.mp h
      have h1 := Bool.and_eq_true_iff.mp h.1
      have h2 := Bool.and_eq_true_iff.mp h1.1
      have h3 := Bool.and_eq_true_iff.mp h2.1
      have e := of_decide_eq_true h3.2
      subst e
      have e2 : apos.endLine = cpos.line := of_decide_eq_true h2.2
      exact ss_apx (sndE a C h1.2).1 (call_plain h3.1) (by rw [e2]; exact beq_self_eq_true _) (hd_of h.2) (sndE _ C h.2).1
  | .app i e =>
    cases py <;> first | exact (Bool.false_ne_true h).elim | skip
    rename_i v pos
    match v, h with
    | .Call (.Attribute p m apos) [q] [] cpos, h =>
      have h := Bool.and_eq_true_iff.mp h
      have h1 := Bool.and_eq_true_iff.mp h.1
      have h2 := Bool.and_eq_true_iff.mp h1.1
      obtain ⟨g1, g2, g3⟩ := var_ok C h2.1
      have e := of_decide_eq_true h2.2
      subst e
      have e2 : apos.endLine = cpos.line := of_decide_eq_true h1.2
      exact ss_app g1 (attr_plain g3) (by rw [e2]; exact beq_self_eq_true _) (hd_of h.2) (sndE _ C h.2).1
  | .ext i e =>
    cases py <;> first | exact (Bool.false_ne_true h).elim | skip
    rename_i v pos
    match v, h with
    | .Call (.Attribute p m apos) [q] [] cpos, h =>
      have h := Bool.and_eq_true_iff.mp h
      have h1 := Bool.and_eq_true_iff.mp h.1
      have h2 := Bool.and_eq_true_iff.mp h1.1
      obtain ⟨g1, g2, g3⟩ := var_ok C h2.1
      have e := of_decide_eq_true h2.2
      subst e
      have e2 : apos.endLine = cpos.line := of_decide_eq_true h1.2
      exact ss_ext g1 (attr_plain g3) (by rw [e2]; exact beq_self_eq_true _) (hd_of h.2) (sndE _ C h.2).1
  | .clr i =>
    cases py <;> first | exact (Bool.false_ne_true h).elim | skip
    rename_i v pos
    match v, h with
    | .Call (.Attribute p m apos) [] [] cpos, h =>
      have h := Bool.and_eq_true_iff.mp h
      have h1 := Bool.and_eq_true_iff.mp h.1
      obtain ⟨g1, g2, g3⟩ := var_ok C h1.1
      have e := of_decide_eq_true h1.2
      subst e
      have e2 : apos.endLine = cpos.line := of_decide_eq_true h.2
      exact ss_clr g1 (attr_plain g3) (by rw [e2]; exact beq_self_eq_true _)
  | .cont =>
    cases py <;> first | exact (Bool.false_ne_true h).elim | skip
    exact ss_cont
  | .brk =>
    cases py <;> first | exact (Bool.false_ne_true h).elim | skip
    exact ss_brk
  | .pass =>
    cases py <;> first | exact (Bool.false_ne_true h).elim | skip
    exact ss_pass
  | .setf cc p j e =>
    cases py <;> first | exact (Bool.false_ne_true h).elim | skip
    rename_i tgs q pos
    match tgs, h with
    | [.Attribute a nm ap], h =>
      have h := Bool.and_eq_true_iff.mp h
      have h1 := Bool.and_eq_true_iff.mp h.1
      have h2 := Bool.and_eq_true_iff.mp h1.1
      obtain ⟨I, hn⟩ := fld_ok C h2.2
      exact ss_setf I hn (var_ok C h2.1).1 (sndE e C h1.2).1 (sole_no h.2)
  | .augf cc p j o e =>
    cases py <;> first | exact (Bool.false_ne_true h).elim | skip
    rename_i tg op q pos
    cases tg <;> first | exact (Bool.false_ne_true h).elim | skip
    have h := Bool.and_eq_true_iff.mp h
    have h1 := Bool.and_eq_true_iff.mp h.1
    have h2 := Bool.and_eq_true_iff.mp h1.1
    obtain ⟨I, hn⟩ := fld_ok C h2.2
    exact ss_augf (of_decide_eq_true h1.2) I hn (var_ok C h2.1).1 (sndE e C h.2).1
  | .raise kk e =>
    cases py <;> first | exact (Bool.false_ne_true h).elim | skip
    rename_i v cz pos
    match v, cz, h with
    | some (.Call (.Name y p1) [q] [] cpos), none, h =>
      have h := Bool.and_eq_true_iff.mp h
      obtain ⟨g1, g2, M⟩ := xr_ok C h.1
      exact ss_raise C.calm C.tk C.room1 M g1 g2 (hd_of h.2) (sndE e C h.2).1
  | .try_ b hs el =>
    cases py <;> first | exact (Bool.false_ne_true h).elim | skip
    rename_i body hds orelse fin pos
    match hds, fin, h with
    | h0 :: hds, [], h =>
      have h := Bool.and_eq_true_iff.mp h
      have h1 := Bool.and_eq_true_iff.mp h.1
      exact ss_try (sndSs el T h.2) T.hs T.hf C.nd C.xt C.tk (fun W' pn xe tk hp => sndSs (X := X.tr pn xe) b (StOk.tr (W' := W') (pn := pn) (xe := xe) T tk hp) h1.1) (sndXh T hs h1.2)
theorem sndSs : ∀ (ss : Ss) {X : Cx} {W : WX} {ps : List Stmt}, StOk cf G cls k c X W → chkSs c ss ps = true → PSs X ps (tS X.K W cls lent (evSs cf G n lent ss)) := by
  intro ss X W ps T h
  match ss, ps, h with
  | .nil, [], h => exact ss_nil
  | .cons s ss, p :: ps, h =>
    have h := Bool.and_eq_true_iff.mp h
    exact ss_cons (sndS s T h.1) (sndSs ss T h.2)
  | .nil, _ :: _, h => exact (Bool.false_ne_true h).elim
  | .cons _ _, [], h => exact (Bool.false_ne_true h).elim
end
end
/-! ### defs -/
theorem lent_in : ∀ {os : List O} {k0 k : Nat} {o : O}, os[k]? = some o → isD o = false → k0 + k ∈ lentOf k0 os := by
  intro os
  induction os with
  | nil => intro k0 k o h; simp at h
  | cons x os ih =>
    intro k0 k o h hd
    cases k with
    | zero =>
      simp at h
      subst h
      simp [lentOf, hd]
    | succ k =>
      have := ih (k0 := k0 + 1) (k := k) (by simpa using h) hd
      unfold lentOf
      have e : k0 + (k + 1) = k0 + 1 + k := by omega
      rw [e]
      split
      · exact this
      · exact List.mem_cons_of_mem _ this
theorem outs_spec : ∀ {os os' : List O} {k0 : Nat} {ρ : Rho}, outsOf k0 os ρ = some os' → os'.length = os.length ∧ ∀ (k : Nat) o', os'[k]? = some o' → ∃ o, os[k]? = some o ∧ ((isD o = true ∧ o' = o) ∨ (isD o = false ∧ getS (k0 + k) ρ = some o')) := by
  intro os
  induction os with
  | nil => intro os' k0 ρ h; cases h; exact ⟨rfl, fun k o' h => by simp at h⟩
  | cons x os ih =>
    intro os' k0 ρ h
    simp only [outsOf] at h
    split at h
    · cases h
    · rename_i os1 e1
      obtain ⟨l1, s1⟩ := ih e1
      have tail : ∀ (k : Nat) o', os1[k]? = some o' → ∃ o, (x :: os)[k + 1]? = some o ∧ ((isD o = true ∧ o' = o) ∨ (isD o = false ∧ getS (k0 + (k + 1)) ρ = some o')) := fun k o' h => by
        obtain ⟨o, h1, h2⟩ := s1 k o' h
        refine ⟨o, by simpa using h1, ?_⟩
        have e : k0 + (k + 1) = k0 + 1 + k := by omega
        rw [e]; exact h2
      split at h
      · rename_i hd
        cases h
        refine ⟨by rw [List.length_cons, List.length_cons, l1], fun k o' h => ?_⟩
        cases k with
        | zero => simp at h; subst h; exact ⟨_, rfl, .inl ⟨hd, rfl⟩⟩
        | succ k => exact tail k o' (by simpa using h)
      · rename_i hd
        split at h
        · rename_i o2 e2
          cases h
          refine ⟨by rw [List.length_cons, List.length_cons, l1], fun k o' h => ?_⟩
          cases k with
          | zero => simp at h; subst h; exact ⟨_, rfl, .inr ⟨by simpa using hd, e2⟩⟩
          | succ k => exact tail k o' (by simpa using h)
        · cases h
theorem run_np {cf : CallF} {P : Pg} {fd : FD} {os : List O} (h : runF cf P fd os ≠ .bad) : os.length = fd.np := by
  unfold runF at h
  by_cases e : os.length = fd.np
  · exact e
  · rw [if_pos e] at h; exact absurd rfl h
theorem start_at {N : List Str} {vs : List V} {i : Nat} {v : V} (h : vs[i]? = some v) : (L2.start N vs)[i]? = some (some v) := by
  unfold L2.start
  have hi : i < vs.length := (List.getElem?_eq_some_iff.mp h).1
  rw [List.getElem?_append_left (by simpa using hi), List.getElem?_map, h]; rfl
theorem rho_at {os : List O} {m i : Nat} {o : O} (h : getS i (os.map some ++ List.replicate m none) = some o) : os[i]? = some o := by
  unfold getS at h
  by_cases hi : i < os.length
  · rw [List.getElem?_append_left (by simpa using hi), List.getElem?_map, List.getElem?_eq_getElem hi] at h
    rw [List.getElem?_eq_getElem hi]
    simpa using h
  · rw [List.getElem?_append_right (by simpa using hi), List.getElem?_replicate] at h
    by_cases hm : i - (os.map some).length < m
    · rw [if_pos hm] at h; cases h
    · rw [if_neg hm] at h; cases h
section
variable {P : Program} {w : World} {K : PySem.W.Frag} {mg : Str → Option Value} {base : Heap} {cls : Nat → Value}
/-- a def of the text keeps the promise of its own run -/
theorem def_ok {x qual : Str} {st : Stmt} {f : Addr} {fda : FuncData} {N ps : List Str} {k m : Nat} {gl : List (Str × Gk)} {ct : Ct} {fd : FD} {Q : Pg} {cf : CallF} (hkm : k + 1 ≤ m) (F : Fun K x qual st f fda) (S : FnScope N ps (defScope st)) (hc : chkSs ⟨N, defScope st, gl, ct⟩ fd.body (defBody st) = true)
    (hnp : ps.length = fd.np) (hns : N.length = fd.ns) (hg : ∀ (X : Cx), X.prog = P → X.w = w → X.K = K → X.mg = mg → X.base = base → ∀ x g, gl.lookup x = some g → GkOk cf Q.G cls k X x g)
    (hms : ∀ (X : Cx), X.prog = P → X.w = w → X.K = K → X.mg = mg → X.base = base → ∀ cc m f, ct.ms.lookup (cc, m) = some f → MtAt X cls k cf cc m f)
    (hcs : ∀ cc ns, ct.cs.lookup cc = some ns → Clz.fn cc = ns ∧ InsOk K cc) (hxt : XtOk K cls Q.G) :
    FnOk P w K mg base (L2.CX P w) (m + 1) f fda ps (spF K cls fd.np (runF cf Q fd)) := by
  refine F.okX S (fun vs H Q E h => ?_) (fun cdv A outer s H vs Qv E hr h => ?_)
  · obtain ⟨_, _, _, _, _, _, e, _⟩ := h
    rw [e, hnp]
  · obtain ⟨B, wn, os, wf, tb, ar, hl, post⟩ := h
    have hol : os.length = fd.np := by rw [← ar.1]; exact hl
    have W : Takes (cxOf (L2.CX P w) P w K mg base N qual (defScope st) f cdv A outer s H E) (fun c d _ H => E c d H) := takes_of rfl rfl rfl rfl
    have T : StOk cf Q.G cls k ⟨N, defScope st, gl, ct⟩ (cxOf (L2.CX P w) P w K mg base N qual (defScope st) f cdv A outer s H E) (fun c d _ H => E c d H) :=
      ⟨⟨rfl, S.nd, rfl, S.kind, rfl, W, hr.mono (by omega), fun x g e => hg _ rfl rfl rfl rfl rfl x g e, hr.mono (by omega), hms _ rfl rfl rfl rfl rfl, hcs, hxt⟩, fun _ => rfl, passes_of rfl, rfl, rfl⟩
    refine ⟨_, sndSs (lent := lentOf 0 os) (n := Q.W) fd.body T hc, B, wn, os.map some ++ List.replicate (fd.ns - os.length) none, ⟨wf, tb, ⟨?_, fun i o h => ?_⟩⟩, ?_⟩
    · unfold L2.start
      rw [List.length_append, List.length_append, List.length_map, List.length_map, List.length_replicate, List.length_replicate, ar.1, hns]
    · obtain ⟨v, hv, ho⟩ := ar.2 i o (rho_at h)
      exact ⟨v, start_at hv, ho⟩
    · unfold runF at post
      rw [if_neg (fun z => z hol)] at post
      have args : ∀ {os' : List O} {σ' : L2.St} {B' H' : Hp} {w' : Wn} {ρ' : Rho}, outsOf 0 os ρ' = some os' → Stp 0 B H wn B' H' w' → EnvR K B' H' w' σ' ρ' → LkS (lentOf 0 os) (L2.start N vs) σ' → ArgsAt K B' H' w' vs os' := fun {os' σ' B' H' w' ρ'} ho st en lk => by
        obtain ⟨l1, s1⟩ := outs_spec ho
        refine ⟨by rw [l1]; exact ar.1, fun j o' h => ?_⟩
        obtain ⟨o, e1, e2⟩ := s1 j o' h
        obtain ⟨v, hv, hov⟩ := ar.2 j o e1
        refine ⟨v, hv, ?_⟩
        rcases e2 with ⟨e2, rfl⟩ | ⟨e2, e3⟩
        · cases hov with
          | d hd => exact .d (hd.ext st.ext)
          | lst _ _ _ => cases e2
          | dct _ _ _ _ => cases e2
          | dtt _ _ _ _ => cases e2
          | ins _ _ _ _ _ _ _ => cases e2
        · have hm := lent_in (k0 := 0) e1 e2
          rw [Nat.zero_add] at e3 hm
          obtain ⟨v', hv', ho'⟩ := en.at' j o' e3
          rw [lk.2 j hm, start_at hv] at hv'
          cases hv'
          exact ho'
      generalize evSs cf Q.G Q.W (lentOf 0 os) fd.body (os.map some ++ List.replicate (fd.ns - os.length) none) = r at post
      cases r with
      | bad => exact post
      | exc c y ρ' =>
        intro σ' d B' H' w' st wf' en lk hx
        simp only at post
        cases e : outsOf 0 os ρ' with
        | none => rw [e] at post; exact post.elim
        | some os' => rw [e] at post; exact post d B' H' w' st wf' (args e st en lk) hx
      | ok fl ρ' =>
        intro σ' B' H' w' st wf' en lk
        cases fl with
        | nx =>
          intro tb'
          simp only at post
          cases e : outsOf 0 os ρ' with
          | none => rw [e] at post; exact post.elim
          | some os' => rw [e] at post; exact post .non B' H' w' st wf' (tb'.mono (Nat.zero_le 1)) (.d .non) (args e st en lk)
        | ret o =>
          intro v tb' ho
          simp only at post
          cases e : outsOf 0 os ρ' with
          | none => rw [e] at post; exact post.elim
          | some os' => rw [e] at post; exact post v B' H' w' st wf' tb' ho (args e st en lk)
        | brk => exact post.elim
        | cont => exact post.elim
end
end Ev
end

section
set_option Elab.async false
set_option linter.all false
set_option maxRecDepth 100000
set_option maxHeartbeats 4000000
/-! Ev, part M: all defs of a text at once, the law's walk. -/
namespace Ev
open PySem L2
/-- a def: its name, its qualified name, the class it stands in -/
structure Dfn where
  x : Str
  q : Str
  own : Option Str
  st : Stmt
  N : List Str
  ps : List Str
  fd : FD
def Dfn.at_ (d : Dfn) : Str × Option Str := match d.own with
  | none => (d.x, none)
  | some c => (c, some d.x)
/-- a text: its defs, its names, its exceptions, its classes with their fields, its methods -/
structure Tab where
  dl : List Dfn
  gl : List (Str × Gk)
  xn : List Str
  cn : List (Str × List Str)
  ms : List ((Nat × Str) × Nat)
  xi : Option Dfn
def csL : Nat → List (Str × List Str) → List (Nat × List Str)
  | _, [] => []
  | k, p :: r => (k, p.2) :: csL (k + 1) r
theorem csL_at : ∀ {l : List (Str × List Str)} {k cc : Nat} {ns : List Str}, (csL k l).lookup cc = some ns → ∃ j p, cc = k + j ∧ l[j]? = some p ∧ p.2 = ns
  | [], _, _, _, h => by cases h
  | p :: l, k, cc, ns, h => by
    unfold csL at h
    rw [List.lookup_cons] at h
    split at h
    · rename_i e
      cases h
      exact ⟨0, p, (eq_of_beq e).trans (Nat.add_zero k).symm, rfl, rfl⟩
    · obtain ⟨j, p', e1, e2, e3⟩ := csL_at h
      exact ⟨j + 1, p', by omega, e2, e3⟩
def Tab.ct (t : Tab) : Ct := ⟨t.ms, csL 0 t.cn⟩
/-- the classes of exceptions, the classes -/
def clsOf (K : PySem.W.Frag) (t : Tab) (k : Nat) : Value := match t.xn[k]? with
  | some x => if x = "ValueError" then .type "ValueError" else .ref (He.ga K x)
  | none => .none
abbrev gam (K : PySem.W.Frag) (t : Tab) : Clz := ⟨fun c => match t.cn[c]? with | some p => He.ga K p.1 | none => 0, fun c => match t.cn[c]? with | some p => p.2 | none => []⟩
def scopeB (N P : List Str) (sc : Scope) : Bool := decide (sc.kind = .function) && !sc.isCoroutine && !sc.isGenerator && decide N.Nodup && decide (N.take P.length = P) &&
  P.all (fun x => match sc.names.lookup x with | some .local => true | some .cell => true | _ => false) && sc.names.all (fun y => match y.2 with | .free => false | _ => true)
theorem scope_of {N P : List Str} {sc : Scope} (h : scopeB N P sc = true) : FnScope N P sc := by
  unfold scopeB at h
  simp only [Bool.and_eq_true, decide_eq_true_eq, Bool.not_eq_true', List.all_eq_true] at h
  obtain ⟨⟨⟨⟨⟨⟨h1, h2⟩, h3⟩, h4⟩, h5⟩, h6⟩, h7⟩ := h
  refine ⟨h1, h2, h3, h4, h5, fun x hx => ?_, fun y hy e => ?_⟩
  · have := h6 x hx
    split at this
    · rename_i e; exact .inl e
    · rename_i e; exact .inr e
    · cases this
  · have := h7 y hy
    rw [e] at this
    cases this
def ckD (t : Tab) (d : Dfn) : Bool := scopeB d.N d.ps (defScope d.st) && chkSs ⟨d.N, defScope d.st, t.gl, t.ct⟩ d.fd.body (defBody d.st) && d.ps.length == d.fd.np && d.N.length == d.fd.ns
/-! ### an exception's __init__ -/
def initB (st : Stmt) : Bool := scopeB [("self" : Str), ("place" : Str)] [("self" : Str), ("place" : Str)] (defScope st) && decide ((defScope st).names.lookup ("self" : Str) = some NameKind.local) && decide ((defScope st).names.lookup ("place" : Str) = some NameKind.local) && decide ((defScope st).names.lookup ("ValueError" : Str) = some NameKind.globalImplicit) &&
  match defBody st with
  | [.Expr (.Call (.Attribute (.Name a p1) m p2) [.Name b p3, .Constant (.str s) k4 p4] [] pos) p5, .Assign [.Attribute (.Name c q1) f q2] (.Name d q3) q4] =>
    decide (a = "ValueError") && decide (m = "__init__") && decide (b = "self") && decide (c = "self") && decide (f = "place") && decide (d = "place") && decide (p2.endLine = pos.line)
  | _ => false
section
variable {P : Program} {w : World} {K : PySem.W.Frag} {mg : Str → Option Value} {base : Heap}
theorem xinit_ok {st : Stmt} {q : Str} {f : Addr} {fda : FuncData} {k : Nat} (F : Fun K "__init__" q st f fda) (h : initB st = true) (hm : mg "ValueError" = none) (vV : PySem.W.findCls K (.type "ValueError") (.type "type") "__init__" = some (.val (.builtin "ValueError.__init__"))) :
    FnOk P w K mg base (L2.CX P w) (k + 1) f fda [("self" : Str), ("place" : Str)] (spXI K) := by
  letI : Clz := ⟨fun _ => 0, fun _ => []⟩
  unfold initB at h
  simp only [Bool.and_eq_true, decide_eq_true_eq] at h
  obtain ⟨⟨⟨⟨h1, h2⟩, h3⟩, h4⟩, h5⟩ := h
  have S := scope_of h1
  split at h5
  · rename_i a p1 m p2 b p3 z k4 p4 pos p5 c q1 ff q2 d q3 q4 eb
    simp only [Bool.and_eq_true, decide_eq_true_eq] at h5
    obtain ⟨⟨⟨⟨⟨⟨rfl, rfl⟩, rfl⟩, rfl⟩, rfl⟩, rfl⟩, hl⟩ := h5
    refine F.okX S (fun vs H Q E h => ?_) (fun cdv A outer s H vs Q E hr h => ?_)
    · obtain ⟨a, C, y, rfl, _⟩ := h; rfl
    · generalize hX : cxOf (L2.CX P w) P w K mg base [("self" : Str), ("place" : Str)] q (defScope st) f cdv A outer s H E = X
      have eN : X.N = [("self" : Str), ("place" : Str)] := by subst hX; rfl
      have eS : X.env.scope = defScope st := by subst hX; rfl
      have eM : X.mg = mg := by subst hX; rfl
      have eK : X.K = K := by subst hX; rfl
      have vs1 : PE X (.Name "self" p3) (tVar 0) := pe_var (i := 0) (by rw [eN] <;> rfl) (.inl (by rw [eS]; exact h2)) (by decide +kernel) (by decide +kernel)
      have vs2 : PE X (.Name "self" q1) (tVar 0) := pe_var (i := 0) (by rw [eN] <;> rfl) (.inl (by rw [eS]; exact h2)) (by decide +kernel) (by decide +kernel)
      have vp : PE X (.Name "place" q3) (tVar 1) := pe_var (i := 1) (by rw [eN] <;> rfl) (.inl (by rw [eS]; exact h3)) (by decide +kernel) (by decide +kernel)
      have hg : Gl X "ValueError" := by
        show X.env.scope.names.lookup _ = _
        rw [eS]; exact h4
      obtain ⟨pl, ev⟩ := meth_ev (x := "ValueError") (m := "__init__") (p := p1) (apos := p2) (pos := pos) (es := [.Name "self" p3, .Constant (.str z) k4 p4]) (env := X.env) rfl (by simp) hl
      rw [eb]
      refine ⟨_, pss_cons (ps_expr (pe_veinit hg (by rw [eM]; exact hm) (by rw [eK]; exact vV) (pa_cons vs1 (pa_cons pe_str pa_nil (star_ok rfl)) (star_ok rfl)) ev (star_ok rfl) (by rw [star_ok rfl] <;> rfl)) rfl) (pss_one (ps_ost vs2 vp rfl)), ?_⟩
      rw [eK]
      obtain ⟨a, C, y, rfl, T, hno, ha, hQ⟩ := h
      exact ⟨.ref a, rfl, a, C, [.str z], rfl, by simp, T, ha, y, rfl, .ref a, rfl, a, C, rfl, T, hno, .inl ⟨ha, fun d nd ne => hQ d nd ne⟩⟩
  · cases h5
end
/-! ### what is asked of the text, by names -/
def Dfn.val (d : Dfn) : He.FnV := some (d.x, d.q, defArgs d.st, .stmts (defBody d.st), defScope d.st, mainGlobals, [], .none, builtinsNs)
def Tab.all (t : Tab) : List Dfn := t.dl ++ t.xi.toList
def Dfn.bnd (d : Dfn) : Prop := ∀ (kV doc pm : Value) (an : Option Addr) (cdv ct : Value) (us : List Value), us.length = d.ps.length → bindArgs (PySem.W.fnOf d.x d.q (defArgs d.st) (defBody d.st) (defScope d.st) .none kV doc pm an cdv ct) ⟨us, []⟩ = pure (d.ps.zip us)
abbrev excN : List Value := [.type "ValueError", .type "Exception", .type "BaseException", .type "object"]
/-- an exception that may be raised -/
def oexB (K : PySem.W.Frag) (C : Addr) : Bool := (match K.lookup C with
    | some ⟨.type "type", _, .cls cd, sl⟩ => (match cd.mro, sl.toList with
      | .ref C' :: bm, [_, _, _, _, some (.builtin n), _] => C' == C && n == "ValueError.__new__" && !cd.hasDel && cd.hasDict && PySem.HandSPX.refsVE bm
      | _, _ => false)
    | _ => false) && decide (PySem.W.findIn K (.ref C) "__setattr__" = some (some (.builtin "object.__setattr__"))) && decide (PySem.W.subIn K (.ref C) (.type "BaseException") = some true) && decide (PySem.W.typeIn K (.ref C) = some (.type "type")) && PySem.W.keepIn K (.ref C)
/-- an exception that may be caught and looked at -/
def excB (K : PySem.W.Frag) (C : Addr) : Bool := decide (PySem.W.findIn K (.ref C) "__getattribute__" = some (some (.builtin "BaseException.__getattribute__"))) && decide (PySem.W.findIn K (.ref C) "__getattr__" = some none) && decide (PySem.W.subIn K (.ref C) (.type "BaseException") = some true) &&
  PySem.W.hasDictIn K C && decide (PySem.W.findIn K (.ref C) "__class__" = some (some (.builtin "object.__class__"))) && decide (PySem.W.specialIn K (.builtin "object.__class__") "__get__" = some (some (.builtin "getset_descriptor.__get__"))) && decide (PySem.W.takesIn K (.builtin "object.__class__") = some true) &&
  decide (PySem.W.mroIn K C (.type "object") = some true) && decide (PySem.W.findIn K (.ref C) "place" = some none)
def gkB (K : PySem.W.Frag) (t : Tab) (G : Gs) (p : Str × Gk) : Bool := match p.2 with
  | .fn f => (match t.dl[f]? with
    | some d => decide (d.x = p.1) && d.own.isNone
    | none => false) && (He.Fa.glo p.1).ok K
  | .con j => (match G.con[j]? with
    | some (.int i) => (He.Fa.int p.1 i).ok K
    | some (.str i) => (He.Fa.str p.1 i).ok K
    | _ => false)
  | .bt => (He.Fa.free p.1).ok K
  | .xc k => decide (t.xn[k]? = some p.1) && decide (p.1 ≠ "ValueError") && (He.Fa.glo p.1).ok K
  | .xr k => decide (t.xn[k]? = some p.1) && decide (p.1 ≠ "ValueError") && (He.Fa.glo p.1).ok K && oexB K (He.ga K p.1) && (match t.xi with
    | some d => decide (PySem.W.findIn K (.ref (He.ga K p.1)) "__init__" = some (some (.ref (He.fAd K d.at_)))) && decide (PySem.W.typeIn K (.ref (He.fAd K d.at_)) = some (.type "function")) && decide (d.x = "__init__") && decide (d.ps = [("self" : Str), ("place" : Str)]) && initB d.st
    | none => false) && decide (PySem.W.findIn K (.ref (He.ga K p.1)) "place" = some none) && (He.Fa.free "ValueError").ok K && (match PySem.W.findCls K (.type "ValueError") (.type "type") "__init__" with
    | some (.val (.builtin n)) => n == "ValueError.__init__"
    | _ => false)
  | .xb k => decide (t.xn[k]? = some p.1) && decide (p.1 = "ValueError") && (He.Fa.free p.1).ok K
  | .kc c f => (match t.cn[c]?, t.dl[f]? with
    | some q, some d => decide (q.1 = p.1) && decide (d.own = some p.1) && decide (d.x = "__init__")
    | _, _ => false) && (He.Fa.mkr p.1).ok K && (He.Fa.glo p.1).ok K
def msB (K : PySem.W.Frag) (t : Tab) (p : (Nat × Str) × Nat) : Bool := match t.cn[p.1.1]?, t.dl[p.2]? with
  | some q, some d => decide (d.own = some q.1) && decide (d.x = p.1.2) && (He.Fa.meth q.1 p.1.2).ok K && decide (p.1.2 ∉ q.2)
  | _, _ => false
def cnB (K : PySem.W.Frag) (p : Str × List Str) : Bool := (He.Fa.cls p.1).ok K && p.2.all (fun n => (He.Fa.noat p.1 n).ok K) && decide p.2.Nodup && decide (p.2.length ≤ 900)
def dfB (K : PySem.W.Frag) (d : Dfn) : Bool := (He.Fa.code d.at_ d.q).ok K && PySem.W.keepIn K (.ref (He.fAd K d.at_))
def rowB (K : PySem.W.Frag) (t : Tab) (c : Nat) : Nat → List Bool → Bool
  | _, [] => true
  | k, b :: r => decide (PySem.W.exmOne K (clsOf K t c) (clsOf K t k) = some b) && decide (PySem.W.kitOne K (clsOf K t c) (clsOf K t k) = some b) && rowB K t c (k + 1) r
def rowsB (K : PySem.W.Frag) (t : Tab) : Nat → List (List Bool) → Bool
  | _, [] => true
  | c, r :: rs => rowB K t c 0 r && (match t.xn[c]? with
    | some x => decide (x ≠ "ValueError") && excB K (He.ga K x)
    | none => false) && rowsB K t (c + 1) rs
def tabB (K : PySem.W.Frag) (t : Tab) (G : Gs) : Bool := t.gl.all (gkB K t G) && t.ms.all (msB K t) && t.cn.all (cnB K) && t.all.all (dfB K) && rowsB K t 0 G.xt
section
variable {K : PySem.W.Frag}
theorem rowB_at {t : Tab} {c : Nat} : ∀ {r : List Bool} {k j : Nat} {b : Bool}, rowB K t c k r = true → r[j]? = some b → PySem.W.exmOne K (clsOf K t c) (clsOf K t (k + j)) = some b ∧ PySem.W.kitOne K (clsOf K t c) (clsOf K t (k + j)) = some b
  | [], _, _, _, _, h => by simp at h
  | x :: r, k, j, b, h, e => by
    simp only [rowB, Bool.and_eq_true, decide_eq_true_eq] at h
    cases j with
    | zero => simp at e; subst e; exact h.1
    | succ j =>
      have := rowB_at (j := j) h.2 (by simpa using e)
      rwa [show k + (j + 1) = k + 1 + j by omega]
theorem rowsB_at {t : Tab} : ∀ {rs : List (List Bool)} {c j : Nat} {r : List Bool}, rowsB K t c rs = true → rs[j]? = some r → rowB K t (c + j) 0 r = true ∧ ∃ x, t.xn[c + j]? = some x ∧ x ≠ "ValueError" ∧ excB K (He.ga K x) = true
  | [], _, _, _, _, h => by simp at h
  | x :: r, c, j, b, h, e => by
    simp only [rowsB, Bool.and_eq_true] at h
    cases j with
    | zero =>
      simp at e; subst e
      refine ⟨h.1.1, ?_⟩
      have h2 := h.1.2
      split at h2
      · rename_i x e
        rw [Bool.and_eq_true, decide_eq_true_eq] at h2
        exact ⟨x, e, h2.1, h2.2⟩
      · cases h2
    | succ j =>
      have := rowsB_at (j := j) h.2 (by simpa using e)
      rwa [show c + (j + 1) = c + 1 + j by omega]
theorem excB_ok {C : Addr} (h : excB K C = true) : ExcC K C ∧ PySem.W.findIn K (.ref C) "place" = some none := by
  unfold excB at h
  simp only [Bool.and_eq_true, decide_eq_true_eq] at h
  obtain ⟨⟨⟨⟨⟨⟨⟨⟨h1, h2⟩, h3⟩, h4⟩, h5⟩, h6⟩, h7⟩, h8⟩, h9⟩ := h
  exact ⟨⟨h1, h2, h3, h4, h5, h6, h7, h8⟩, h9⟩
theorem oexB_ok {C : Addr} (h : oexB K C = true) : OexC K C := by
  unfold oexB at h
  simp only [Bool.and_eq_true, decide_eq_true_eq] at h
  obtain ⟨⟨⟨⟨h1, h2⟩, h3⟩, h4⟩, h5⟩ := h
  refine ⟨?_, h2, h3, h4, h5⟩
  split at h1
  · rename_i dd cd sl ho
    split at h1
    · rename_i C' bm k0 k1 k2 k3 n k5 hm hs
      simp only [Bool.and_eq_true, beq_iff_eq, Bool.not_eq_true'] at h1
      obtain ⟨⟨⟨⟨rfl, rfl⟩, hdel⟩, hd⟩, hr⟩ := h1
      obtain ⟨nm, bs, mro, ns, qn, hdd, sn, sub, ab, col, del⟩ := cd
      dsimp only at hm hdel hd
      subst hm hdel hd
      have hsl : sl = #[k0, k1, k2, k3, some (.builtin "ValueError.__new__"), k5] := by
        obtain ⟨l⟩ := sl
        simp only at hs
        rw [hs]
      subst hsl
      exact ⟨_, _, _, _, _, _, _, _, _, _, _, _, _, _, _, ho, hr⟩
    · cases h1
  · cases h1
end
/-- what the written part says of a def -/
structure DefAt (K : PySem.W.Frag) (d : Dfn) (fda : FuncData) : Prop where
  F : Fun K d.x d.q d.st (He.fAd K d.at_) fda
  b : ∀ us : List Value, us.length = d.ps.length → bindArgs fda ⟨us, []⟩ = pure (d.ps.zip us)
section
variable [Γ : Clz]
def GlOk (cls : Nat → Value) (K : PySem.W.Frag) (mg : Str → Option Value) (t : Tab) (G : Gs) : Gk → Str → Prop
  | .fn f, x => ∃ d, t.dl[f]? = some d ∧ mg x = some (.ref (He.fAd K d.at_))
  | .con j, x => ∃ d u v, G.con[j]? = some d ∧ mg x = some u ∧ RelV v u ∧ ∀ B, DR K B v d
  | .bt, x => mg x = none
  | .xc k, x => ∃ C, cls k = .ref C ∧ mg x = some (.ref C)
  | .xr k, x => ∃ (C fI : Addr) (fda : FuncData), cls k = .ref C ∧ mg x = some (.ref C) ∧ OexC K C ∧ PySem.W.findIn K (.ref C) "__init__" = some (some (.ref fI)) ∧ PySem.W.typeIn K (.ref fI) = some (.type "function") ∧ PySem.W.findIn K (.ref C) "place" = some none ∧
      Binds K fda [("self" : Str), ("place" : Str)] [] ∧ ∀ (P : Program) (w : World) (base : Heap) (k : Nat), FnOk P w K mg base (L2.CX P w) (k + 1) fI fda [("self" : Str), ("place" : Str)] (spXI K)
  | .xb k, x => cls k = .type "ValueError" ∧ mg x = none
  | .kc c f, x => ∃ d, t.dl[f]? = some d ∧ mg x = some (.ref (Clz.ca c)) ∧ Mk K (Clz.ca c) (He.fAd K d.at_)
structure TabOk (cls : Nat → Value) (K : PySem.W.Frag) (mg : Str → Option Value) (t : Tab) (G : Gs) : Prop where
  df : ∀ d ∈ t.dl, ∃ fda, DefAt K d fda
  gl : ∀ x g, t.gl.lookup x = some g → GlOk cls K mg t G g x
  ms : ∀ cc m f, t.ms.lookup (cc, m) = some f → ∃ d, t.dl[f]? = some d ∧ Meth K (Clz.ca cc) m (He.fAd K d.at_) ∧ m ∉ Clz.fn cc
  cs : ∀ cc ns, t.ct.cs.lookup cc = some ns → Clz.fn cc = ns ∧ InsOk K cc
  xt : XtOk K cls G
end
theorem lookup_mem {α β : Type} [BEq α] [LawfulBEq α] {x : α} {g : β} : ∀ {l : List (α × β)}, l.lookup x = some g → (x, g) ∈ l
  | (y, h) :: l, e => by
    rw [List.lookup_cons] at e
    split at e
    · rename_i q
      cases e
      rw [eq_of_beq q]; exact .head _
    · exact .tail _ (lookup_mem e)
theorem map_at {α β : Type} {f g : α → β} : ∀ {l : List α}, l.map f = l.map g → ∀ a ∈ l, f a = g a
  | a :: l, h, b, hb => by
    rw [List.map_cons, List.map_cons] at h
    injection h with h1 h2
    rcases List.mem_cons.mp hb with rfl | hb
    · exact h1
    · exact map_at h2 b hb
theorem tab_ok {K : PySem.W.Frag} {h : Heap} {mg : Str → Option Value} {t : Tab} {G : Gs} (X : K.In h) (N : h.Ns mainGlobals mg) (hB : tabB K t G = true) (hv : t.all.map (fun d => He.fnObs K d.at_) = t.all.map Dfn.val) (hb : ∀ d ∈ t.all, d.bnd) :
    @TabOk (gam K t) (clsOf K t) K mg t G := by
  letI : Clz := gam K t
  unfold tabB at hB
  simp only [Bool.and_eq_true, List.all_eq_true] at hB
  obtain ⟨⟨⟨⟨b1, b2⟩, b3⟩, b4⟩, b5⟩ := hB
  have def_ : ∀ d ∈ t.all, ∃ fda, DefAt K d fda := fun d hd => by
    have e := map_at hv d hd
    have c := b4 d hd
    unfold dfB at c
    rw [Bool.and_eq_true] at c
    obtain ⟨oc, od, osl, kV, doc, pm, an, cdv, ct, l, cc⟩ := He.fn_ok (d := ⟨d.at_, d.x, d.q, defArgs d.st, defBody d.st, defScope d.st⟩) e c.1
    exact ⟨_, fun_mk l cc c.2, hb d hd kV doc pm an cdv ct⟩
  refine ⟨fun d hd => def_ d (List.mem_append_left _ hd), fun x g hx => ?_, fun cc m f hx => ?_, fun cc ns hx => ?_, ⟨fun c k b e => ?_⟩⟩
  · have c := b1 _ (lookup_mem hx)
    unfold gkB at c
    cases g with
    | fn f =>
      simp only [Bool.and_eq_true] at c
      obtain ⟨c1, c2⟩ := c
      split at c1
      · rename_i d e
        simp only [Bool.and_eq_true, decide_eq_true_eq] at c1
        refine ⟨d, e, ?_⟩
        have ea : He.fAd K d.at_ = He.ga K x := by
          have h2 := c1.2
          unfold Dfn.at_
          cases eo : d.own with
          | none => rw [c1.1]; rfl
          | some c => rw [eo] at h2; cases h2
        rw [ea]
        exact He.glo_ok X N c2
      · cases c1
    | con j =>
      dsimp only at c
      split at c
      · rename_i i e
        obtain ⟨tk, e2⟩ := He.int_ok X N c
        exact ⟨_, _, .int i, e, e2, ⟨_, rfl⟩, fun _ => .int i⟩
      · rename_i i e
        obtain ⟨tk, e2⟩ := He.str_ok X N c
        exact ⟨_, _, .str i, e, e2, ⟨_, rfl⟩, fun _ => .str i⟩
      · cases c
    | bt => exact He.free_ok X N c
    | xc k =>
      simp only [Bool.and_eq_true, decide_eq_true_eq] at c
      exact ⟨He.ga K x, by unfold clsOf; rw [c.1.1]; exact if_neg c.1.2, He.glo_ok X N c.2⟩
    | xr k =>
      simp only [Bool.and_eq_true, decide_eq_true_eq] at c
      obtain ⟨⟨⟨⟨⟨⟨⟨c1, c2⟩, c3⟩, c4⟩, c5⟩, c6⟩, c7⟩, c8⟩ := c
      have c8 : PySem.W.findCls K (.type "ValueError") (.type "type") "__init__" = some (.val (.builtin "ValueError.__init__")) := by
        split at c8
        · rename_i n e; rw [e, eq_of_beq c8]
        · cases c8
      split at c5
      · rename_i d ed
        simp only [Bool.and_eq_true, decide_eq_true_eq] at c5
        obtain ⟨⟨⟨⟨d1, d2⟩, d3⟩, d4⟩, d5⟩ := c5
        have hd : d ∈ t.all := List.mem_append_right _ (by rw [ed]; exact List.mem_singleton.mpr rfl)
        obtain ⟨fda, A⟩ := def_ d hd
        have hF := A.F
        have hbd := A.b
        rw [d3] at hF
        rw [d4] at hbd
        exact ⟨He.ga K x, _, fda, by unfold clsOf; rw [c1]; exact if_neg c2, He.glo_ok X N c3, oexB_ok c4, d1, d2, c6, .all hbd, fun P w base k => xinit_ok hF d5 (He.free_ok X N c7) c8⟩
      · cases c5
    | xb k =>
      simp only [Bool.and_eq_true, decide_eq_true_eq] at c
      exact ⟨by unfold clsOf; rw [c.1.1]; exact if_pos c.1.2, He.free_ok X N c.2⟩
    | kc cc f =>
      simp only [Bool.and_eq_true] at c
      obtain ⟨⟨c1, c2⟩, c3⟩ := c
      split at c1
      · rename_i q d eq ed
        simp only [Bool.and_eq_true, decide_eq_true_eq] at c1
        obtain ⟨⟨e1, e2⟩, e3⟩ := c1
        have ca : Clz.ca cc = He.ga K x := by
          show (match t.cn[cc]? with | some p => He.ga K p.1 | none => 0) = _
          rw [eq, ← e1]
        have fa : He.fAd K d.at_ = He.ma K (He.ga K x) "__init__" := by
          unfold Dfn.at_
          rw [e2, e3]; rfl
        exact ⟨d, ed, by rw [ca]; exact He.glo_ok X N c3, by rw [ca, fa]; exact He.mkr_ok c2⟩
      · cases c1
  · have c := b2 _ (lookup_mem hx)
    unfold msB at c
    split at c
    · rename_i q d eq ed
      simp only [Bool.and_eq_true, decide_eq_true_eq] at c
      obtain ⟨⟨⟨e1, e2⟩, e3⟩, e4⟩ := c
      have ca : Clz.ca cc = He.ga K q.1 := by
        show (match t.cn[cc]? with | some p => He.ga K p.1 | none => 0) = _
        rw [show t.cn[cc]? = some q from eq]
      have cf : Clz.fn cc = q.2 := by
        show (match t.cn[cc]? with | some p => p.2 | none => []) = _
        rw [show t.cn[cc]? = some q from eq]
      have fa : He.fAd K d.at_ = He.ma K (He.ga K q.1) m := by
        unfold Dfn.at_
        rw [e1, e2]; rfl
      exact ⟨d, ed, by rw [ca, fa]; exact He.meth_ok e3, by rw [cf]; exact e4⟩
    · cases c
  · obtain ⟨j, p, e1, e2, e3⟩ := csL_at hx
    have e1 : cc = j := by omega
    subst e1
    have c := b3 _ (List.mem_of_getElem? e2)
    unfold cnB at c
    simp only [Bool.and_eq_true, decide_eq_true_eq, List.all_eq_true] at c
    obtain ⟨⟨⟨c1, c2⟩, c3⟩, c4⟩ := c
    have ca : Clz.ca cc = He.ga K p.1 := by
      show (match t.cn[cc]? with | some p => He.ga K p.1 | none => 0) = _
      rw [e2]
    have cf : Clz.fn cc = p.2 := by
      show (match t.cn[cc]? with | some p => p.2 | none => []) = _
      rw [e2]
    refine ⟨by rw [cf]; exact e3, ⟨by rw [ca]; exact He.cls_ok c1, fun f hf => ?_, by rw [cf]; exact c3, by rw [cf]; exact c4⟩⟩
    rw [ca]
    rw [cf] at hf
    exact He.noat_ok (c2 f hf)
  · unfold isSub at e
    split at e
    · rename_i r er
      obtain ⟨r1, x, r2, r3, r4⟩ := rowsB_at (j := c) b5 er
      rw [Nat.zero_add] at r1 r2
      obtain ⟨h1, h2⟩ := rowB_at (j := k) r1 e
      rw [Nat.zero_add] at h1 h2
      obtain ⟨h3, h4⟩ := excB_ok r4
      exact ⟨He.ga K x, by unfold clsOf; rw [r2]; exact if_neg r3, h1, h2, h3, h4⟩
    · cases e
section
variable [Γ : Clz]
variable {P : Program} {w : World} {K : PySem.W.Frag} {mg : Str → Option Value} {base : Heap} {cls : Nat → Value} {t : Tab} {Q : Pg}
theorem callN_len {n f : Nat} {d : Dfn} (hQ : Q.fns = t.dl.map (·.fd)) (hf : t.dl[f]? = some d) : ∀ os, callN Q n f os ≠ .bad → os.length = d.fd.np := fun os h => by
  cases n with
  | zero => exact absurd rfl h
  | succ n =>
    unfold callN at h
    rw [hQ, List.getElem?_map, hf] at h
    exact run_np h
theorem all_ok (hQ : Q.fns = t.dl.map (·.fd)) (hc : t.dl.all (ckD t) = true) (T : TabOk cls K mg t Q.G) :
    ∀ (n i : Nat) (d : Dfn), t.dl[i]? = some d → ∀ fda, DefAt K d fda → FnOk P w K mg base (L2.CX P w) (2 * n + 1) (He.fAd K d.at_) fda d.ps (spF K cls d.fd.np (callN Q n i)) := by
  have ck : ∀ d ∈ t.dl, FnScope d.N d.ps (defScope d.st) ∧ chkSs ⟨d.N, defScope d.st, t.gl, t.ct⟩ d.fd.body (defBody d.st) = true ∧ d.ps.length = d.fd.np ∧ d.N.length = d.fd.ns := fun d hm => by
    have := List.all_eq_true.mp hc d hm
    unfold ckD at this
    simp only [Bool.and_eq_true, beq_iff_eq] at this
    exact ⟨scope_of this.1.1.1, this.1.1.2, this.1.2, this.2⟩
  intro n
  induction n with
  | zero =>
    intro i d hi fda A
    refine ⟨fun vs H Q' E h => ?_, fun _ _ _ _ _ _ _ _ _ _ _ _ _ h => ?_⟩
    · obtain ⟨_, _, _, _, _, _, _, z⟩ := h; exact z.elim
    · obtain ⟨_, _, _, _, _, _, _, z⟩ := h; exact z.elim
  | succ n ih =>
    intro i d hi fda A
    obtain ⟨h1, h2, h3, h4⟩ := ck d (List.mem_of_getElem? hi)
    have e : callN Q (n + 1) i = runF (callN Q n) Q d.fd := by
      funext os
      show (match Q.fns[i]? with | some fd => runF (callN Q n) Q fd os | none => .bad) = _
      rw [hQ, List.getElem?_map, hi]
      rfl
    rw [e]
    have fn_ : ∀ (X : Cx), X.prog = P → X.w = w → X.K = K → X.mg = mg → X.base = base → ∀ (j : Nat) (d' : Dfn), t.dl[j]? = some d' → ∃ fda', Binds X.K fda' d'.ps [] ∧ FnOk X.prog X.w X.K X.mg X.base (L2.CX X.prog X.w) (2 * n + 1) (He.fAd K d'.at_) fda' d'.ps (spF X.K cls d'.fd.np (callN Q n j)) ∧ PySem.W.keepIn X.K (.ref (He.fAd K d'.at_)) = true := by
      intro X eP ew eK em eb j d' hj
      obtain ⟨fda', A'⟩ := T.df d' (List.mem_of_getElem? hj)
      have q := ih j d' hj fda' A'
      subst eP; subst ew; subst eK; subst em; subst eb
      exact ⟨fda', .all A'.b, q, A'.F.kp⟩
    refine def_ok (k := 2 * n + 1) (m := 2 * n + 2) (gl := t.gl) (ct := t.ct) (Nat.le_refl _) A.F h1 h2 h3 h4 ?_ ?_ T.cs T.xt
    · intro X eP ew eK em eb x g hx
      have := T.gl x g hx
      cases g with
      | bt => show X.mg x = none; rw [em]; exact this
      | con j =>
        obtain ⟨d', u, v, a1, a2, a3, a4⟩ := this
        exact ⟨d', u, v, a1, by rw [em]; exact a2, a3, by rw [eK]; exact a4⟩
      | fn j =>
        obtain ⟨d', a1, a2⟩ := this
        obtain ⟨fda', q1, q2, q3⟩ := fn_ X eP ew eK em eb j d' a1
        exact ⟨_, fda', d'.ps, d'.fd.np, by rw [em]; exact a2, q3, q1, q2, callN_len hQ a1⟩
      | xc k =>
        obtain ⟨C, a1, a2⟩ := this
        exact ⟨C, a1, by rw [em]; exact a2⟩
      | xb k => exact ⟨this.1, by rw [em]; exact this.2⟩
      | xr k =>
        obtain ⟨C, fI, fda', a1, a2, a3, a4, a5, a6, a7, a8⟩ := this
        have a9 := a8 P w base (2 * n)
        subst eP; subst ew; subst eK; subst em; subst eb
        exact ⟨C, fI, fda', _, a1, a2, a3, a4, a5, a6, a7, a9⟩
      | kc c f =>
        obtain ⟨d', a1, a2, a3⟩ := this
        obtain ⟨fda', q1, q2, q3⟩ := fn_ X eP ew eK em eb f d' a1
        exact ⟨_, fda', d'.ps, d'.fd.np, by rw [em]; exact a2, by rw [eK]; exact a3, q1, q2, callN_len hQ a1⟩
    · intro X eP ew eK em eb cc m f hx
      obtain ⟨d', a1, a2, a3⟩ := T.ms cc m f hx
      obtain ⟨fda', q1, q2, q3⟩ := fn_ X eP ew eK em eb f d' a1
      exact ⟨_, fda', d'.ps, d'.fd.np, by rw [eK]; exact a2, a3, q1, q2, callN_len hQ a1⟩
theorem ints_dr {B : Hp} : ∀ {ns : List Int}, DRs K B (ns.map V.int) (ns.map D.int)
  | [] => .nil
  | _ :: _ => .cons (.int _) ints_dr
/-- the law's promise -/
theorem law_sp {H : Hp} {a : Addr} {ns : List Int} {g : List O → COut} {os' : List O} (hS : SqL K H a (ns.map V.int)) (h : g [.d (.lst (ns.map .int))] = .ok (.d (.bl true)) os') :
    spF K cls 1 g [.ref a] H (fun v _ => v = .bl true) fun _ _ _ => False := by
  refine ⟨H, fun _ => none, [.d (.lst (ns.map .int))], ⟨Sub.refl H, fun _ _ e => (by cases e), fun _ _ e => (by cases e)⟩, fun _ _ e => (by cases e), ⟨rfl, fun k o e => ?_⟩, rfl, ?_⟩
  · cases k with
    | zero => cases e; exact ⟨_, rfl, .d (.lst hS ints_dr)⟩
    | succ k => cases e
  · rw [h]
    intro v B' H' w' _ _ _ ho _
    cases ho with
    | d q => cases q; rfl
end
/-! ### the head: what is asked of the text, looked at once -/
abbrev AlV : Type := Bool × List He.FnV
def obsK (t : Tab) (G : Gs) (K : PySem.W.Frag) : AlV := (tabB K t G, t.all.map fun d => He.fnObs K d.at_)
def valV (t : Tab) : AlV := (true, t.all.map Dfn.val)
def obsV (n : Nat) (t : Tab) (G : Gs) (g : Addr → Option Obj) : AlV := obsK t G (He.frG g (He.asG g n))
def hookV (n : Nat) (t : Tab) (G : Gs) : PySem.W.Hook where
  α := AlV
  obs := fun s => obsV n t G s.heap.get?
  val := fun _ => valV t
  says := fun _ h => ∃ K : PySem.W.Frag, K.In h ∧ obsK t G K = valV t
  of := fun _ _ e => ⟨_, He.frG_in, e⟩
  keeps := fun _ _ _ ⟨K, hK, c⟩ k => ⟨K, PySem.W.Frag.In.keeps hK k, c⟩
theorem obsV_eq {n : Nat} {t : Tab} {G : Gs} {g : Addr → Option Obj} {s : Shared} (h : ∀ a, g a = s.heap.get? a) : obsV n t G g = (hookV n t G).obs s := by
  have e : g = s.heap.get? := funext h
  rw [e] <;> rfl
/-- the walk of a law whose text is in the small syntax -/
theorem walk {l : PySem.W.OpenLaw} {q : Program} {loose : List Str} {XP : (Str → Option Value) → Heap → Prop} {d : DefRec} {t : Tab} {Q : Pg} {n m i : Nat} {x : Str} (k : Nat) (dm : Dfn)
    (hn : l.most = some n) (hn2 : n ≤ sizeLine) (hdf : d.params.defaults = []) (hr : Room (2 * k + 1) callerA)
    (hQ : Q.fns = t.dl.map (·.fd)) (hc : t.dl.all (ckD t) = true) (hi : t.dl[i]? = some dm) (hx : dm.x = d.name) (ho : dm.own = none) (hgl : t.gl.lookup dm.x = some (.fn i)) (hps : dm.ps = [x]) (hnp : dm.fd.np = 1)
    (hbd : ∀ d ∈ t.all, d.bnd)
    (plain : ∀ ns : List Int, ns.length ≤ n → (∀ z ∈ ns, Builtin.Int.intBits z ≤ 1048576) → ∃ os, callN Q k i [.d (.lst (ns.map .int))] = .ok (.d (.bl true)) os) :
    PySem.W.WalkO q loose XP (hookV m t Q.G).says l.row.toRowW d [] (fun f vs => PySem.call f vs) := by
  refine Att.attach_callB hn hdf fun w s₀ s₁ mg mb fa o pm cd doc a vs ns G Y ho' hd hcd hmg hobj hints hlen hbits hg => ?_
  obtain ⟨K, KX, c⟩ := Y
  letI : Clz := gam K t
  have T : TabOk (clsOf K t) K mg t Q.G := tab_ok KX G.T.g (congrArg (fun z : AlV => z.1) c) (congrArg (fun z : AlV => z.2) c) hbd
  obtain ⟨fda, A⟩ := T.df dm (List.mem_of_getElem? hi)
  obtain ⟨d', e1, e2⟩ := T.gl _ _ hgl
  rw [hi] at e1; cases e1
  have e : He.fAd K dm.at_ = fa := by
    have := e2.symm.trans ((congrArg mg hx).trans hmg)
    simpa using this
  refine law_call (fd := fda) (x := x) (K := K) (CX := L2.CX l.prog w) (sp := spF K (clsOf K t) 1 (callN Q k i)) KX G.T.g G.T.b G.T.builtins G.T.nolimit hg hobj hints (Nat.le_trans hlen hn2) hr ?_ (fun s u => ?_) (fun H hO hS => ?_) fun H e s' => ?_
  · intro base _ _
    have := all_ok (P := l.prog) (w := w) (base := base) hQ hc T k i dm hi fda A
    rw [hps, hnp, e] at this
    exact this
  · have := A.b [u] (by rw [hps]; rfl)
    rw [hps] at this
    exact .of_eq this
  · obtain ⟨os, e⟩ := plain ns hlen hbits
    exact law_sp hS e
  · rintro ⟨_, _, _, _, _, _, _, _, _, _, _, _, z⟩
    exact z
end Ev
end

section
set_option Elab.async false
set_option linter.all false
set_option maxRecDepth 100000
set_option maxHeartbeats 4000000
/-! Ev: rules for reckoning with the evaluator. -/
open PySem
namespace Ev

section
variable {cf : CallF} {G : Gs} {W : Nat} {lent : List Nat}
/-! ### the evaluator, rule by rule -/
@[simp] theorem evE_v : evE cf G (.v i) r = readS i r := by simp only [evE] <;> rfl
@[simp] theorem evE_int : evE cf G (.int i) r = .ok (.d (.int i)) r := by simp only [evE] <;> rfl
@[simp] theorem evE_str : evE cf G (.str s) r = .ok (.d (.str s)) r := by simp only [evE] <;> rfl
@[simp] theorem evE_bl : evE cf G (.bl b) r = .ok (.d (.bl b)) r := by simp only [evE] <;> rfl
@[simp] theorem evE_non : evE cf G .non r = .ok (.d .non) r := by simp only [evE] <;> rfl
@[simp] theorem evE_g : evE cf G (.g j) r = Out.of ((G.con[j]?).map .d) r := by simp only [evE] <;> rfl
@[simp] theorem evE_tup : evE cf G (.tup es) r = (evEs cf G es r).bind fun xs r => .ok (.d (.tup xs)) r := by simp only [evE] <;> rfl
@[simp] theorem evE_lst : evE cf G (.lst es) r = (evEs cf G es r).bind fun xs r => .ok (.lst xs) r := by simp only [evE] <;> rfl
@[simp] theorem evE_bin : evE cf G (.bin o a b) r = (evE cf G a r).bind fun x r => (evE cf G b r).bind fun y r => Out.of (binO o x y) r := by simp only [evE] <;> rfl
@[simp] theorem evE_neg : evE cf G (.neg a) r = (evE cf G a r).bind fun x r => Out.of ((asI x).map fun i => .d (.int (-i))) r := by simp only [evE] <;> rfl
@[simp] theorem evE_not : evE cf G (.not a) r = (tst (evE cf G a r)).bind fun k r => .ok (.d (.bl (!k))) r := by simp only [evE] <;> rfl
@[simp] theorem evE_and : evE cf G (.and a b) r = (tst (evE cf G a r)).bind fun k r => if k = true then evE cf G b r else .ok (.d (.bl false)) r := by simp only [evE] <;> rfl
@[simp] theorem evE_or : evE cf G (.or a b) r = (tst (evE cf G a r)).bind fun k r => if k = true then .ok (.d (.bl true)) r else evE cf G b r := by simp only [evE] <;> rfl
@[simp] theorem evE_cmp : evE cf G (.cmp o a b) r = (evE cf G a r).bind fun x r => (evE cf G b r).bind fun y r => Out.of ((cmpO o x y).map fun k => .d (.bl k)) r := by simp only [evE] <;> rfl
@[simp] theorem evE_ite : evE cf G (.ite c a b) r = (tst (evE cf G c r)).bind fun k r => if k = true then evE cf G a r else evE cf G b r := by simp only [evE] <;> rfl
@[simp] theorem evE_snap : evE cf G (.snap a) r = snapO r (evE cf G a (frzR r)) := by simp only [evE] <;> rfl
@[simp] theorem evE_call : evE cf G (.call f as) r = (evAs cf G as r).bind fun as r => callO cf f as r := by simp only [evE] <;> rfl
@[simp] theorem evE_isi : evE cf G (.isi a t) r = (evE cf G a r).bind fun x r => if isIns (frz x) = true then .bad else .ok (.d (.bl (isTy (frz x) t))) r := by simp only [evE] <;> rfl
@[simp] theorem evE_bi : evE cf G (.bi b a) r = (evE cf G a r).bind fun x r => Out.of (biO b x) r := by simp only [evE] <;> rfl
@[simp] theorem evE_bi2 : evE cf G (.bi2 b a a') r = (evE cf G a r).bind fun x r => (evE cf G a' r).bind fun y r => Out.of (bi2O b x y) r := by simp only [evE] <;> rfl
@[simp] theorem evE_lrev : evE cf G (.lrev a) r = (evE cf G a r).bind fun x r => Out.of ((asL x).map fun xs => .lst xs.reverse) r := by simp only [evE] <;> rfl
@[simp] theorem evE_callT : evE cf G (.callT f e as) r = (evE cf G e r).bind fun x r => (evAs cf G as r).bind fun ys r => tmpO cf f x ys r := by simp only [evE] <;> rfl
@[simp] theorem evE_lset : evE cf G (.lset a) r = (evE cf G a r).bind fun x r => Out.of (lsetO x) r := by simp only [evE] <;> rfl
@[simp] theorem evE_ix : evE cf G (.ix a b) r = (evE cf G a r).bind fun x r => (evE cf G b r).bind fun y r => Out.of ((ixO x y).map .d) r := by simp only [evE] <;> rfl
@[simp] theorem evE_ixp : evE cf G (.ixp p b) r = match getS p r with
    | none => .bad
    | some _ => (evE cf G b r).bind fun y r => match getS p r with
      | some x => Out.of ((ixO x y).map .d) r
      | none => .bad := by simp only [evE] <;> rfl
@[simp] theorem evE_sl : evE cf G (.sl a lo hi) r = (evE cf G a r).bind fun x r => (evO cf G lo r).bind fun i r => (evO cf G hi r).bind fun j r => Out.of (slO x i j) r := by simp only [evE] <;> rfl
@[simp] theorem evE_slp : evE cf G (.slp p lo hi) r = match getS p r with
    | none => .bad
    | some _ => (evO cf G lo r).bind fun i r => (evO cf G hi r).bind fun j r => match getS p r with
      | some x => Out.of (slO x i j) r
      | none => .bad := by simp only [evE] <;> rfl
@[simp] theorem evE_pop : evE cf G (.pop p) r = match getS p r with
    | some (.lst xs) => match xs.getLast? with
      | some x => .ok (.d x) (r.set p (some (.lst xs.dropLast)))
      | none => .bad
    | _ => .bad := by simp only [evE] <;> rfl
@[simp] theorem evE_dnew : evE cf G .dnew r = .ok (.dct [] []) r := by simp only [evE] <;> rfl
@[simp] theorem evE_rev0 : evE cf G (.rev0 a) r = (evE cf G a r).bind fun x r => Out.of ((asT x).map fun xs => .d (.tup (xs.drop 1).reverse)) r := by simp only [evE] <;> rfl
@[simp] theorem evE_getd : evE cf G (.getd a k f) r = (evE cf G a r).bind fun x r => match asM x with
    | none => .bad
    | some _ => (evE cf G k r).bind fun y r => (evE cf G f r).bind fun z r => Out.of ((getO x y z).map .d) r := by simp only [evE] <;> rfl
@[simp] theorem evE_getp : evE cf G (.getp p k f) r = match getS p r with
    | none => .bad
    | some x0 => match asM x0 with
      | none => .bad
      | some _ => (evE cf G k r).bind fun y r => (evE cf G f r).bind fun z r => match getS p r with
        | some x => Out.of ((getO x y z).map .d) r
        | none => .bad := by simp only [evE] <;> rfl
@[simp] theorem evE_fld : evE cf G (.fld c p j) r = match getS p r with
    | none => .bad
    | some o => match fldO c j o with
      | some (x, o') => .ok (.d x) (r.set p (some o'))
      | none => .bad := by simp only [evE] <;> rfl
@[simp] theorem evE_meth : evE cf G (.meth c f p as) r = match getS p r with
    | none => .bad
    | some o => match insO o with
      | some (c', _) => if c' = c then (evAs cf G as r).bind fun as r => callO cf f (.inr p :: as) r else .bad
      | none => .bad := by simp only [evE] <;> rfl
@[simp] theorem evE_new : evE cf G (.new c f as) r = (evAs cf G as r).bind fun as r => newO cf c f as r := by simp only [evE] <;> rfl
@[simp] theorem evE_join : evE cf G (.join a b) r = (evE cf G a r).bind fun x r => match x with
    | .d (.str s) => (evE cf G b r).bind fun y r => Out.of (joinO s y) r
    | _ => .bad := by simp only [evE] <;> rfl
@[simp] theorem evE_dd : evE cf G (.dd ks es) r = (evEs cf G es r).bind fun xs r => Out.of (ddO ks xs) r := by simp only [evE] <;> rfl
@[simp] theorem evE_chn : evE cf G (.chn o o' a b c) r = (evE cf G a r).bind fun x r => (evE cf G b r).bind fun y r => (Out.of (cmpO o x y) r).bind fun k r => if k = true then (evE cf G c r).bind fun z r => Out.of ((cmpO o' y z).map fun k => .d (.bl k)) r else .ok (.d (.bl false)) r := by
  simp only [evE]
  congr 1; funext x r; congr 1; funext y r
  cases cmpO o x y with
  | none => rfl
  | some k => cases k <;> rfl
@[simp] theorem evEs_nil : evEs cf G .nil r = .ok [] r := by simp only [evEs] <;> rfl
@[simp] theorem evEs_cons : evEs cf G (.cons e es) r = (evE cf G e r).bind fun x r => (evEs cf G es r).bind fun xs r => .ok (frz x :: xs) r := by simp only [evEs] <;> rfl
@[simp] theorem evO_none : evO cf G .none r = .ok none r := by simp only [evO] <;> rfl
@[simp] theorem evO_some : evO cf G (.some e) r = (evE cf G e r).bind fun x r => match asI x with
    | some i => .ok (some i) r
    | none => .bad := by simp only [evO] <;> rfl
@[simp] theorem evC_none : evC cf G .none r = .ok true r := by simp only [evC] <;> rfl
@[simp] theorem evC_some : evC cf G (.some e) r = tst (evE cf G e r) := by simp only [evC] <;> rfl
@[simp] theorem evAs_nil : evAs cf G .nil r = .ok [] r := by simp only [evAs] <;> rfl
@[simp] theorem evAs_val : evAs cf G (.val e as) r = (evE cf G e r).bind fun x r => (evAs cf G as r).bind fun xs r => .ok (.inl (frz x) :: xs) r := by simp only [evAs] <;> rfl
@[simp] theorem evAs_lend : evAs cf G (.lend i as) r = match getS i r with
    | none => .bad
    | some _ => (evAs cf G as r).bind fun xs r => .ok (.inr i :: xs) r := by simp only [evAs] <;> rfl
@[simp] theorem evI_val : evI cf G (.val e) r = (evE cf G e r).bind fun x r => Out.of (iterO x) r := by simp only [evI] <;> rfl
@[simp] theorem evI_rev : evI cf G (.rev e) r = (evE cf G e r).bind fun x r => match frz x with
    | .lst xs => .ok xs.reverse r
    | .tup xs => .ok xs.reverse r
    | _ => .bad := by simp only [evI] <;> rfl
@[simp] theorem evS_set : evS cf G W lent (.set i e) r = (evE cf G e r).bind fun o r => match setS lent i o r with
    | some r => .ok .nx r
    | none => .bad := by simp only [evS] <;> rfl
@[simp] theorem evS_unp : evS cf G W lent (.unp is e) r = (evE cf G e r).bind fun o r => match asgT lent (.many is) (frz o) r with
    | some r => .ok .nx r
    | none => .bad := by simp only [evS] <;> rfl
@[simp] theorem evS_seti : evS cf G W lent (.seti p ix e) r = (evE cf G e r).bind fun o r => match getS p r with
    | none => .bad
    | some _ => (evE cf G ix r).bind fun y r => match getS p r, asI y with
      | some (.lst xs), some i => if 0 ≤ i ∧ i < xs.length then .ok .nx (r.set p (some (.lst (xs.set i.toNat (frz o))))) else .bad
      | some (.dct ks vs), _ => match asK y with
        | some k => if ks.length < line then .ok .nx (r.set p (some (.dct (putKs ks k) (putVs ks vs k (frz o))))) else .bad
        | none => .bad
      | _, _ => .bad := by simp only [evS] <;> rfl
@[simp] theorem evS_aug : evS cf G W lent (.aug i o e) r = match getS i r with
    | some (.d x) => (evE cf G e r).bind fun y r => match augO o x y with
      | some z => match setS lent i (.d z) r with
        | some r => .ok .nx r
        | none => .bad
      | none => .bad
    | _ => .bad := by simp only [evS] <;> rfl
@[simp] theorem evS_ifs : evS cf G W lent (.ifs c a b) r = (tst (evE cf G c r)).bind fun k r => if k = true then evSs cf G W lent a r else evSs cf G W lent b r := by simp only [evS] <;> rfl
@[simp] theorem evS_ret : evS cf G W lent (.ret e) r = (evE cf G e r).bind fun o r => .ok (.ret o) r := by simp only [evS] <;> rfl
@[simp] theorem evS_retN : evS cf G W lent .retN r = .ok (.ret (.d .non)) r := by simp only [evS] <;> rfl
@[simp] theorem evS_retv : evS cf G W lent (.retv i) r = match getS i r with
    | some (.d x) => .ok (.ret (.d x)) r
    | some o => if i ∈ lent then .bad else .ok (.ret o) (r.set i none)
    | none => .bad := by simp only [evS] <;> rfl
@[simp] theorem evS_ex : evS cf G W lent (.ex e) r = (evE cf G e r).bind fun _ r => .ok .nx r := by simp only [evS] <;> rfl
@[simp] theorem evS_apx : evS cf G W lent (.apx a e) r = (evE cf G a r).bind fun x r => match x with
    | .lst xs => (evE cf G e r).bind fun _ r => if xs.length < line then .ok .nx r else .bad
    | _ => .bad := by simp only [evS] <;> rfl
@[simp] theorem evS_app : evS cf G W lent (.app p e) r = match getS p r with
    | some (.lst _) => (evE cf G e r).bind fun o r => match getS p r with
      | some (.lst xs) => if xs.length < line then .ok .nx (r.set p (some (.lst (xs ++ [frz o])))) else .bad
      | _ => .bad
    | _ => .bad := by simp only [evS] <;> rfl
@[simp] theorem evS_ext : evS cf G W lent (.ext p e) r = match getS p r with
    | some (.lst _) => (evE cf G e r).bind fun o r => match getS p r, frz o with
      | some (.lst xs), .lst ys => if xs.length + ys.length ≤ line then .ok .nx (r.set p (some (.lst (xs ++ ys)))) else .bad
      | some (.lst xs), .tup ys => if xs.length + ys.length ≤ line then .ok .nx (r.set p (some (.lst (xs ++ ys)))) else .bad
      | _, _ => .bad
    | _ => .bad := by simp only [evS] <;> rfl
@[simp] theorem evS_clr : evS cf G W lent (.clr p) r = match getS p r with
    | some (.lst _) => .ok .nx (r.set p (some (.lst [])))
    | some (.dct _ _) => .ok .nx (r.set p (some (.dct [] [])))
    | _ => .bad := by simp only [evS] <;> rfl
@[simp] theorem evS_cont : evS cf G W lent .cont r = .ok .cont r := by simp only [evS] <;> rfl
@[simp] theorem evS_brk : evS cf G W lent .brk r = .ok .brk r := by simp only [evS] <;> rfl
@[simp] theorem evS_pass : evS cf G W lent .pass r = .ok .nx r := by simp only [evS] <;> rfl
@[simp] theorem evS_setf : evS cf G W lent (.setf c p j e) r = (evE cf G e r).bind fun o r => match getS p r with
    | none => .bad
    | some q => match setFld c j q o with
      | some q => .ok .nx (r.set p (some q))
      | none => .bad := by simp only [evS] <;> rfl
@[simp] theorem evS_augf : evS cf G W lent (.augf c p j o e) r = match getS p r with
    | none => .bad
    | some q => match fldO c j q with
      | none => .bad
      | some (x, _) => (evE cf G e r).bind fun y r => match augO o x y, getS p r with
        | some z, some q => match setFld c j q (.d z) with
          | some q => .ok .nx (r.set p (some q))
          | none => .bad
        | _, _ => .bad := by simp only [evS] <;> rfl
@[simp] theorem evS_raise : evS cf G W lent (.raise k e) r = (evE cf G e r).bind fun o r => .exc k (frz o) r := by simp only [evS] <;> rfl
@[simp] theorem evSs_nil : evSs cf G W lent .nil r = .ok .nx r := by simp only [evSs] <;> rfl
@[simp] theorem evSs_cons : evSs cf G W lent (.cons s ss) r = (evS cf G W lent s r).bind fun f r => match f with
    | .nx => evSs cf G W lent ss r
    | f => .ok f r := by simp only [evSs] <;> rfl

/-- a range, kept shut -/
def rngO (x : O) (r : Rho) : Out (List D) := match asI x with
    | some i => if smallI i then .ok (rngD 0 i) r else .bad
    | none => .bad
@[simp] theorem evI_rng : evI cf G (.rng e) r = (evE cf G e r).bind rngO := by simp only [evI] <;> rfl
theorem rngO_nat {i : Int} {m : Nat} {r : Rho} (h : i = (m : Int)) (hm : m < 2 ^ 60) : rngO (.d (.int i)) r = .ok ((List.range m).map fun k => .int (k : Nat)) r := by
  subst h
  unfold rngO
  have h1 : smallI (m : Int) = true := by
    unfold smallI
    rw [decide_eq_true_eq]
    omega
  show (if smallI (m : Int) = true then _ else _) = _
  rw [if_pos h1]
  simp [rngD]
def rng2O (x y : O) (r : Rho) : Out (List D) := match asI x, asI y with
    | some i, some j => if smallI i && smallI j then .ok (rngD i j) r else .bad
    | _, _ => .bad
@[simp] theorem evI_rng2 : evI cf G (.rng2 a b) r = (evE cf G a r).bind fun x r => (evE cf G b r).bind fun y r => rng2O x y r := by simp only [evI] <;> rfl
theorem rng2O_nat {i j : Int} {a b : Nat} {r : Rho} (h : i = (a : Int)) (h2 : j = (b : Int)) (hm : a < 2 ^ 60) (hm2 : b < 2 ^ 60) : rng2O (.d (.int i)) (.d (.int j)) r = .ok ((List.range' a (b - a)).map fun k => .int (k : Nat)) r := by
  subst h; subst h2
  unfold rng2O
  have h1 : ∀ m : Nat, m < 2 ^ 60 → smallI (m : Int) = true := fun m h => by
    unfold smallI
    rw [decide_eq_true_eq]
    omega
  show (if (smallI (a : Int) && smallI (b : Int)) = true then _ else _) = _
  rw [if_pos (by rw [h1 a hm, h1 b hm2]; rfl)]
  congr 1
  rw [List.range'_eq_map_range, rngD, show ((b : Int) - (a : Int)).toNat = b - a by omega, List.map_map]
  apply List.map_congr_left
  intro k _
  simp
def rng3O (k : Int) (x y : O) (r : Rho) : Out (List D) := match asI x, asI y with
    | some i, some j => if smallI i && (smallI j && (Builtin.Range.small i j k && decide (0 < k) && decide (k ≤ 1000))) then .ok (rng3D i j k) r else .bad
    | _, _ => .bad
@[simp] theorem evI_rng3 : evI cf G (.rng3 a b k) r = (evE cf G a r).bind fun x r => (evE cf G b r).bind fun y r => rng3O k x y r := by simp only [evI] <;> rfl
theorem rng3O_nat {i j : Int} {n k : Nat} {r : Rho} (hi : i = 0) (hj : j = (n : Int)) (hn : n < 2 ^ 60) (hs : Builtin.Range.small 0 (n : Int) (k : Int) = true) (h0 : 0 < k) (h1 : k ≤ 1000) : rng3O (k : Int) (.d (.int i)) (.d (.int j)) r = .ok ((List.range (Builtin.Range.rangeSize 0 (n : Int) (k : Int)).toNat).map fun t => .int ((t * k : Nat) : Int)) r := by
  subst hi; subst hj
  unfold rng3O
  have s1 : smallI 0 = true := by decide
  have s2 : smallI (n : Int) = true := by
    unfold smallI
    rw [decide_eq_true_eq]
    omega
  show (if (smallI 0 && (smallI (n : Int) && (Builtin.Range.small 0 (n : Int) (k : Int) && decide (0 < (k : Int)) && decide ((k : Int) ≤ 1000)))) = true then _ else _) = _
  rw [if_pos (by rw [s1, s2, hs, decide_eq_true (show 0 < (k : Int) by omega), decide_eq_true (show (k : Int) ≤ 1000 by omega)]; rfl)]
  simp [rng3D]
theorem rng3O_at {i j : Int} {a n k : Nat} {r : Rho} (hi : i = (a : Int)) (hj : j = (n : Int)) (ha : a < 2 ^ 60) (hn : n < 2 ^ 60) (hs : Builtin.Range.small (a : Int) (n : Int) (k : Int) = true) (h0 : 0 < k) (h1 : k ≤ 1000) : rng3O (k : Int) (.d (.int i)) (.d (.int j)) r = .ok ((List.range (Builtin.Range.rangeSize (a : Int) (n : Int) (k : Int)).toNat).map fun t => .int ((a + t * k : Nat) : Int)) r := by
  subst hi; subst hj
  unfold rng3O
  have s1 : smallI (a : Int) = true := by
    unfold smallI
    rw [decide_eq_true_eq]
    omega
  have s2 : smallI (n : Int) = true := by
    unfold smallI
    rw [decide_eq_true_eq]
    omega
  show (if (smallI (a : Int) && (smallI (n : Int) && (Builtin.Range.small (a : Int) (n : Int) (k : Int) && decide (0 < (k : Int)) && decide ((k : Int) ≤ 1000)))) = true then _ else _) = _
  rw [if_pos (by rw [s1, s2, hs, decide_eq_true (show 0 < (k : Int) by omega), decide_eq_true (show (k : Int) ≤ 1000 by omega)]; rfl)]
  simp [rng3D]
/-! ### slots -/
@[simp] theorem setS_eq {i : Nat} {o : O} {r : Rho} : setS lent i o r = if i ∈ lent then none else some (r.set i (some o)) := rfl
@[simp] theorem asgT_eq {tg : Tg} {x : D} {r : Rho} : asgT lent tg x r = if tg.slots.all (fun i => decide (i ∉ lent)) = true then bindT tg x r else none := rfl
@[simp] theorem bindT_one {i : Nat} {x : D} {r : Rho} : bindT (.one i) x r = some (r.set i (some (.d x))) := rfl
@[simp] theorem bindT_many {is : List Nat} {xs : List D} {r : Rho} : bindT (.many is) (.tup xs) r = setDs is xs r := rfl
@[simp] theorem setDs_nil {r : Rho} : setDs [] [] r = some r := rfl
@[simp] theorem setDs_c {i : Nat} {is : List Nat} {x : D} {xs : List D} {r : Rho} : setDs (i :: is) (x :: xs) r = setDs is xs (r.set i (some (.d x))) := rfl
@[simp] theorem slots_one {i : Nat} : (Tg.one i).slots = [i] := rfl
@[simp] theorem slots_many {is : List Nat} : (Tg.many is).slots = is := rfl
@[simp] theorem getS_nil {i : Nat} : getS i [] = none := by simp [getS]
@[simp] theorem getS_z {o : O} {r : Rho} : getS 0 (some o :: r) = some o := rfl
@[simp] theorem getS_z0 {r : Rho} : getS 0 (none :: r) = none := rfl
@[simp] theorem getS_s {i : Nat} {x : Option O} {r : Rho} : getS (i + 1) (x :: r) = getS i r := by simp [getS]
@[simp] theorem readS_eq {i : Nat} {r : Rho} : readS i r = match getS i r with
    | some (.d x) => .ok (.d x) r
    | some o => .ok (.d (frz o)) (r.set i (some (.d (frz o))))
    | none => .bad := rfl
@[simp] theorem frzR_nil : frzR [] = [] := rfl
@[simp] theorem frzR_s {o : O} {r : Rho} : frzR (some o :: r) = some (.d (frz o)) :: frzR r := rfl
@[simp] theorem frzR_n {r : Rho} : frzR (none :: r) = none :: frzR r := rfl
/-! ### ways -/
@[simp] theorem bind_ite {α β : Type} {p : Prop} [Decidable p] {a b : Out α} {f : α → Rho → Out β} : (if p then a else b).bind f = if p then a.bind f else b.bind f := by split <;> rfl
@[simp] theorem tst_ite {p : Prop} [Decidable p] {a b : Out O} : tst (if p then a else b) = if p then tst a else tst b := by split <;> rfl
@[simp] theorem tst_k {o : O} {r : Rho} : tst (.ok o r) = Out.of (asB o) r := rfl
@[simp] theorem tst_exc {c : Nat} {x : D} {r : Rho} : tst (.exc c x r) = .exc c x r := rfl
@[simp] theorem tst_bad : tst .bad = .bad := rfl
@[simp] theorem of_ite {α : Type} {p : Prop} [Decidable p] {a b : Option α} {r : Rho} : Out.of (if p then a else b) r = if p then Out.of a r else Out.of b r := by split <;> rfl
@[simp] theorem snapO_ite {p : Prop} [Decidable p] {a b : Out O} {r : Rho} : snapO r (if p then a else b) = if p then snapO r a else snapO r b := by split <;> rfl
@[simp] theorem snapO_ok {a : O} {r r' : Rho} : snapO r (.ok a r') = if (frz a).scalar then .ok (.d (frz a)) r else .bad := rfl
@[simp] theorem snapO_exc {c : Nat} {x : D} {r r' : Rho} : snapO r (.exc c x r') = if x.scalar then .exc c x r else .bad := rfl
@[simp] theorem snapO_bad {r : Rho} : snapO r .bad = .bad := rfl
@[simp] theorem asB_bl {b : Bool} : asB (.d (.bl b)) = some b := rfl
@[simp] theorem asI_int {b : Int} : asI (.d (.int b)) = some b := rfl
@[simp] theorem scalar_bl {b : Bool} : (D.bl b).scalar = true := rfl
@[simp] theorem scalar_int {b : Int} : (D.int b).scalar = true := rfl
@[simp] theorem scalar_str {b : Str} : (D.str b).scalar = true := rfl
@[simp] theorem scalar_non : D.non.scalar = true := rfl
/-! ### calls -/
@[simp] theorem lendAll_nil {r : Rho} : lendAll [] r = some [] := rfl
@[simp] theorem lendAll_l {x : D} {as : List (Sum D Nat)} {r : Rho} : lendAll (.inl x :: as) r = match lendAll as r with
    | some os => some (.d x :: os)
    | none => none := rfl
@[simp] theorem lendAll_r {i : Nat} {as : List (Sum D Nat)} {r : Rho} : lendAll (.inr i :: as) r = match getS i r with
    | none => none
    | some o => match lendAll as (r.set i none) with
      | some os => some (o :: os)
      | none => none := rfl
@[simp] theorem backAll_nil {os : List O} {r : Rho} : backAll [] os r = r := rfl
@[simp] theorem backAll_l {x : D} {as : List (Sum D Nat)} {o : O} {os : List O} {r : Rho} : backAll (.inl x :: as) (o :: os) r = backAll as os r := rfl
@[simp] theorem backAll_r {i : Nat} {as : List (Sum D Nat)} {o : O} {os : List O} {r : Rho} : backAll (.inr i :: as) (o :: os) r = (backAll as os r).set i (some o) := rfl
def outC (as : List (Sum D Nat)) (r : Rho) : COut → Out O
  | .ok o os' => .ok o (backAll as os' r)
  | .exc c x os' => .exc c x (backAll as os' r)
  | .bad => .bad
@[simp] theorem outC_ok {as : List (Sum D Nat)} {r : Rho} {o : O} {os : List O} : outC as r (.ok o os) = .ok o (backAll as os r) := rfl
@[simp] theorem outC_exc {as : List (Sum D Nat)} {r : Rho} {c : Nat} {x : D} {os : List O} : outC as r (.exc c x os) = .exc c x (backAll as os r) := rfl
@[simp] theorem outC_bad {as : List (Sum D Nat)} {r : Rho} : outC as r .bad = .bad := rfl
@[simp] theorem outC_ite {as : List (Sum D Nat)} {r : Rho} {p : Prop} [Decidable p] {a b : COut} : outC as r (if p then a else b) = if p then outC as r a else outC as r b := by split <;> rfl
def outN (as : List (Sum D Nat)) (r : Rho) : COut → Out O
  | .ok (.d .non) (o :: os') => .ok o (backAll as os' r)
  | .ok _ _ => .bad
  | .exc k x (_ :: os') => .exc k x (backAll as os' r)
  | .exc _ _ [] => .bad
  | .bad => .bad
@[simp] theorem outN_ok {as : List (Sum D Nat)} {r : Rho} {o : O} {os : List O} : outN as r (.ok (.d .non) (o :: os)) = .ok o (backAll as os r) := rfl
@[simp] theorem outN_exc {as : List (Sum D Nat)} {r : Rho} {c : Nat} {x : D} {o : O} {os : List O} : outN as r (.exc c x (o :: os)) = .exc c x (backAll as os r) := rfl
def outT (as : List (Sum D Nat)) (r : Rho) : COut → Out O
  | .ok o (_ :: os') => .ok o (backAll as os' r)
  | .ok _ [] => .bad
  | .exc k x (_ :: os') => .exc k x (backAll as os' r)
  | .exc _ _ [] => .bad
  | .bad => .bad
@[simp] theorem outT_ok {as : List (Sum D Nat)} {r : Rho} {o o0 : O} {os : List O} : outT as r (.ok o (o0 :: os)) = .ok o (backAll as os r) := rfl
@[simp] theorem outT_exc {as : List (Sum D Nat)} {r : Rho} {c : Nat} {x : D} {o : O} {os : List O} : outT as r (.exc c x (o :: os)) = .exc c x (backAll as os r) := rfl
/-- a body's end -/
def fin (os : List O) : Out Fl → COut
  | .ok (.ret o) r => match outsOf 0 os r with
    | some os' => .ok o os'
    | none => .bad
  | .ok .nx r => match outsOf 0 os r with
    | some os' => .ok (.d .non) os'
    | none => .bad
  | .ok _ _ => .bad
  | .exc c x r => match outsOf 0 os r with
    | some os' => .exc c x os'
    | none => .bad
  | .bad => .bad
@[simp] theorem fin_ret {os : List O} {o : O} {r : Rho} : fin os (.ok (.ret o) r) = match outsOf 0 os r with
    | some os' => .ok o os'
    | none => .bad := rfl
@[simp] theorem fin_nx {os : List O} {r : Rho} : fin os (.ok .nx r) = match outsOf 0 os r with
    | some os' => .ok (.d .non) os'
    | none => .bad := rfl
@[simp] theorem fin_exc {os : List O} {c : Nat} {x : D} {r : Rho} : fin os (.exc c x r) = match outsOf 0 os r with
    | some os' => .exc c x os'
    | none => .bad := rfl
@[simp] theorem fin_bad {os : List O} : fin os .bad = .bad := rfl
@[simp] theorem fin_ite {os : List O} {p : Prop} [Decidable p] {a b : Out Fl} : fin os (if p then a else b) = if p then fin os a else fin os b := by split <;> rfl
theorem runF_eq {P : Pg} {fd : FD} {os : List O} (h : os.length = fd.np) : runF cf P fd os = fin os (evSs cf P.G P.W (lentOf 0 os) fd.body (os.map some ++ List.replicate (fd.ns - os.length) none)) := by
  unfold runF
  rw [if_neg (fun z => z h)]
  generalize evSs cf P.G P.W (lentOf 0 os) fd.body (os.map some ++ List.replicate (fd.ns - os.length) none) = x
  cases x with
  | ok f r => cases f <;> rfl
  | exc c x r => rfl
  | bad => rfl
@[simp] theorem isD_d {x : D} : isD (.d x) = true := rfl
@[simp] theorem isD_lst {x : List D} : isD (.lst x) = false := rfl
@[simp] theorem isD_dct {x : List Ky} {y : List D} : isD (.dct x y) = false := rfl
@[simp] theorem isD_dtt {x : List (List Ky)} {y : List D} : isD (.dtt x y) = false := rfl
@[simp] theorem isD_ins {x : Nat} {y : List Fo} : isD (.ins x y) = false := rfl
@[simp] theorem lentOf_nil {k : Nat} : lentOf k [] = [] := rfl
@[simp] theorem lentOf_c {k : Nat} {o : O} {os : List O} : lentOf k (o :: os) = if isD o then lentOf (k + 1) os else k :: lentOf (k + 1) os := rfl
@[simp] theorem outsOf_nil {k : Nat} {r : Rho} : outsOf k [] r = some [] := rfl
@[simp] theorem outsOf_c {k : Nat} {o : O} {os : List O} {r : Rho} : outsOf k (o :: os) r = match outsOf (k + 1) os r with
    | none => none
    | some os' => if isD o then some (o :: os') else match getS k r with
      | some o' => some (o' :: os')
      | none => none := rfl
@[simp] theorem callO_eq {f : Nat} {as : List (Sum D Nat)} {r : Rho} : callO cf f as r = match lendAll as r with
    | none => .bad
    | some os => outC as r (cf f os) := by
  unfold callO
  cases lendAll as r with
  | none => rfl
  | some os => show (match cf f os with | .ok o os' => _ | .exc c x os' => _ | .bad => _) = outC as r (cf f os)
               cases cf f os <;> rfl
@[simp] theorem tmpO_eq {f : Nat} {x : O} {as : List (Sum D Nat)} {r : Rho} : tmpO cf f x as r = match lendAll as r with
    | none => .bad
    | some os => outT as r (cf f (x :: os)) := by
  unfold tmpO
  cases lendAll as r with
  | none => rfl
  | some os =>
    show (match cf f (x :: os) with | .ok o (_ :: os') => _ | .ok _ [] => _ | .exc k y (_ :: os') => _ | .exc _ _ [] => _ | .bad => _) = outT as r (cf f (x :: os))
    generalize cf f (x :: os) = z
    unfold outT
    split <;> rfl
@[simp] theorem newO_eq {c f : Nat} {as : List (Sum D Nat)} {r : Rho} : newO cf c f as r = match lendAll as r with
    | none => .bad
    | some os => outN as r (cf f (.ins c [] :: os)) := by
  unfold newO
  cases lendAll as r with
  | none => rfl
  | some os =>
    show (match cf f (.ins c [] :: os) with | .ok (.d .non) (o :: os') => _ | .ok _ _ => _ | .exc k x (_ :: os') => _ | .exc _ _ [] => _ | .bad => _) = outN as r (cf f (.ins c [] :: os))
    generalize cf f (.ins c [] :: os) = x
    unfold outN
    split <;> rfl
end

/-! ### loops -/
section
variable {cf : CallF} {G : Gs} {W : Nat} {lent : List Nat}
/-- a while, so many rounds at most -/
def whl (cf : CallF) (G : Gs) (W : Nat) (lent : List Nat) (c : E) (b : Ss) (n : Nat) (r : Rho) : Out Fl := whileN (fun r => tst (evE cf G c r)) (evSs cf G W lent b) n r
theorem evS_whl {c : E} {b : Ss} {r : Rho} : evS cf G W lent (.whl c b) r = whl cf G W lent c b W r := by simp only [evS]; rfl
/-- what a round's end leads to -/
def aftF (next : Rho → Out Fl) : Fl → Rho → Out Fl
  | .nx, r => next r
  | .cont, r => next r
  | .brk, r => .ok .nx r
  | .ret o, r => .ok (.ret o) r
@[simp] theorem aftF_nx {next : Rho → Out Fl} {r : Rho} : aftF next .nx r = next r := rfl
@[simp] theorem aftF_cont {next : Rho → Out Fl} {r : Rho} : aftF next .cont r = next r := rfl
@[simp] theorem aftF_brk {next : Rho → Out Fl} {r : Rho} : aftF next .brk r = .ok .nx r := rfl
@[simp] theorem aftF_ret {next : Rho → Out Fl} {o : O} {r : Rho} : aftF next (.ret o) r = .ok (.ret o) r := rfl
theorem whl_s {c : E} {b : Ss} {n : Nat} {r : Rho} : whl cf G W lent c b (n + 1) r = (tst (evE cf G c r)).bind fun k r => if k = true then (evSs cf G W lent b r).bind (aftF (whl cf G W lent c b n)) else .ok .nx r := by
  unfold whl
  rw [whileN]
  congr 1
  funext k r
  split
  · congr 1
    funext f r
    cases f <;> rfl
  · rfl
def fr (cf : CallF) (G : Gs) (W : Nat) (lent : List Nat) (tg : Tg) (b : Ss) (xs : List D) (r : Rho) : Out Fl := forN (asgT lent tg) (evSs cf G W lent b) xs r
theorem evS_for {tg : Tg} {it : It} {b : Ss} {r : Rho} : evS cf G W lent (.for_ tg it b) r = (evI cf G it r).bind fun xs r => fr cf G W lent tg b xs r := by simp only [evS]; rfl
theorem fr_nil {tg : Tg} {b : Ss} {r : Rho} : fr cf G W lent tg b [] r = .ok .nx r := rfl
theorem fr_c {tg : Tg} {b : Ss} {x : D} {xs : List D} {r : Rho} : fr cf G W lent tg b (x :: xs) r = match asgT lent tg x r with
    | none => .bad
    | some r => (evSs cf G W lent b r).bind (aftF (fr cf G W lent tg b xs)) := by
  unfold fr
  rw [forN]
  cases asgT lent tg x r with
  | none => rfl
  | some r =>
    show Out.bind _ _ = Out.bind _ _
    congr 1
    funext f r
    cases f <;> rfl
/-- a while by its name, so many rounds at most -/
def wlp (cf : CallF) (G : Gs) (W : Nat) (lent : List Nat) (s : S) (n : Nat) (r : Rho) : Out Fl := match s with
  | .whl c b => whl cf G W lent c b n r
  | _ => .bad
theorem evS_wlp {s : S} {c : E} {b : Ss} {r : Rho} (h : s = .whl c b) : evS cf G W lent s r = wlp cf G W lent s W r := by subst h; exact evS_whl
theorem wlp_s {s : S} {c : E} {b : Ss} {n : Nat} {r : Rho} (h : s = .whl c b) : wlp cf G W lent s (n + 1) r = (tst (evE cf G c r)).bind fun k r => if k = true then (evSs cf G W lent b r).bind (aftF (wlp cf G W lent s n)) else .ok .nx r := by subst h; exact whl_s
theorem wlp_1 {s : S} {c : E} {b : Ss} {m n : Nat} {r : Rho} (h : s = .whl c b) (hm : m = n + 1) : wlp cf G W lent s m r = (tst (evE cf G c r)).bind fun k r => if k = true then (evSs cf G W lent b r).bind (aftF (wlp cf G W lent s n)) else .ok .nx r := by subst hm; exact wlp_s h
/-- a for by its name, over these -/
def frp (cf : CallF) (G : Gs) (W : Nat) (lent : List Nat) (s : S) (xs : List D) (r : Rho) : Out Fl := match s with
  | .for_ tg _ b => fr cf G W lent tg b xs r
  | _ => .bad
theorem evS_frp {s : S} {tg : Tg} {it : It} {b : Ss} {r : Rho} (h : s = .for_ tg it b) : evS cf G W lent s r = (evI cf G it r).bind fun xs r => frp cf G W lent s xs r := by subst h; exact evS_for
theorem frp_nil {s : S} {tg : Tg} {it : It} {b : Ss} {r : Rho} (h : s = .for_ tg it b) : frp cf G W lent s [] r = .ok .nx r := by subst h; rfl
theorem frp_c {s : S} {tg : Tg} {it : It} {b : Ss} {x : D} {xs : List D} {r : Rho} (h : s = .for_ tg it b) : frp cf G W lent s (x :: xs) r = match asgT lent tg x r with
    | none => .bad
    | some r => (evSs cf G W lent b r).bind (aftF (frp cf G W lent s xs)) := by subst h; exact fr_c
def tryO (G : Gs) (lent : List Nat) (hs : Xh) (el : Rho → Out Fl) (o : Out Fl) : Out Fl := match o with
  | .exc c x r => xH G lent hs c x r
  | .ok .nx r => el r
  | o => o
@[simp] theorem tryO_exc {hs : Xh} {el : Rho → Out Fl} {c : Nat} {x : D} {r : Rho} : tryO G lent hs el (.exc c x r) = xH G lent hs c x r := rfl
@[simp] theorem tryO_nx {hs : Xh} {el : Rho → Out Fl} {r : Rho} : tryO G lent hs el (.ok .nx r) = el r := rfl
@[simp] theorem tryO_ret {hs : Xh} {el : Rho → Out Fl} {o : O} {r : Rho} : tryO G lent hs el (.ok (.ret o) r) = .ok (.ret o) r := rfl
@[simp] theorem tryO_ite {hs : Xh} {el : Rho → Out Fl} {p : Prop} [Decidable p] {a b : Out Fl} : tryO G lent hs el (if p then a else b) = if p then tryO G lent hs el a else tryO G lent hs el b := by split <;> rfl
theorem evS_try {s : S} {b : Ss} {hs : Xh} {el : Ss} {r : Rho} (h : s = .try_ b hs el) : evS cf G W lent s r = tryO G lent hs (evSs cf G W lent el) (evSs cf G W lent b r) := by
  subst h
  simp only [evS]
  cases evSs cf G W lent b r with
  | ok f r => cases f <;> rfl
  | exc c x r => rfl
  | bad => rfl
/-- a comprehension's one value -/
def lcS (cf : CallF) (G : Gs) (elt : E) (cond : Oe) (r : Rho) : Out (Option D) := (evC cf G cond r).bind fun k r => if k = true then (evE cf G elt r).bind fun o r => .ok (some (frz o)) r else .ok none r
theorem evE_lc {elt : E} {tg : Tg} {it : It} {cond : Oe} {r : Rho} : evE cf G (.lc elt tg it cond) r = (evI cf G it r).bind fun xs r => if line < xs.length then .bad else
    ((compN (lcS cf G elt cond) tg xs r).calm).bind fun ys r1 => .ok (.lst ys) (restore tg.slots r r1) := by simp only [evE]; rfl
end
/-! ### operations, rule by rule -/
/-- the text of these code points -/
abbrev St (l : List Nat) : Str := ⟨l.toArray⟩
section
variable {i j : Int} {x y : Str} {a b : List Nat} {xs ys : List D} {u v : D} {ks : List Ky} {vs : List D} {n : Nat}
variable {ls : List (List Nat)}
theorem St_app : (St a) ++ (St b) = St (a ++ b) := SX.S_cat a b
@[simp] theorem St_len : (St a).length = a.length := SX.S_len a
theorem St_inj : St a = St b ↔ a = b := ⟨fun h => SX.S_inj h, fun h => by rw [h]⟩
@[simp] theorem add_ii : binO .add (.d (.int i)) (.d (.int j)) = some (.d (.int (i + j))) := rfl
@[simp] theorem sub_ii : binO .sub (.d (.int i)) (.d (.int j)) = some (.d (.int (i - j))) := rfl
@[simp] theorem mul_ii : binO .mul (.d (.int i)) (.d (.int j)) = if lowW i && lowW j then some (.d (.int (i * j))) else none := rfl
@[simp] theorem fdiv_ii : binO .fdiv (.d (.int i)) (.d (.int j)) = if decide (0 < j) && lowW j then some (.d (.int (i / j))) else none := rfl
@[simp] theorem mod_ii : binO .mod (.d (.int i)) (.d (.int j)) = if 0 < j then some (.d (.int (i % j))) else none := rfl
@[simp] theorem shr_ii : binO .shr (.d (.int i)) (.d (.int j)) = if 0 ≤ j then some (.d (.int (i / 2 ^ j.toNat))) else none := rfl
@[simp] theorem band_ii : binO .band (.d (.int i)) (.d (.int j)) = some (.d (.int (Builtin.bitAnd i j))) := rfl
@[simp] theorem pow_ii : binO .pow (.d (.int i)) (.d (.int j)) = if 0 ≤ j ∧ j ≤ 1000000 ∧ i.natAbs < 2 ^ 64 then some (.d (.int (i ^ j.toNat))) else none := rfl
@[simp] theorem add_ss : binO .add (.d (.str (St a))) (.d (.str (St b))) = if a.length + b.length ≤ line then some (.d (.str (St (a ++ b)))) else none := by
  show (if (St a).length + (St b).length ≤ line then some (O.d (.str (St a ++ St b))) else none) = _
  rw [St_len, St_len, St_app]
@[simp] theorem add_tt : binO .add (.d (.tup xs)) (.d (.tup ys)) = if xs.length + ys.length ≤ line then some (.d (.tup (xs ++ ys))) else none := rfl
@[simp] theorem add_ll : binO .add (.lst xs) (.lst ys) = if xs.length + ys.length ≤ line then some (.lst (xs ++ ys)) else none := rfl
@[simp] theorem add_dl : binO .add (.d (.lst xs)) (.lst ys) = if xs.length + ys.length ≤ line then some (.lst (xs ++ ys)) else none := rfl
@[simp] theorem add_ld : binO .add (.lst xs) (.d (.lst ys)) = if xs.length + ys.length ≤ line then some (.lst (xs ++ ys)) else none := rfl
@[simp] theorem add_dd : binO .add (.d (.lst xs)) (.d (.lst ys)) = if xs.length + ys.length ≤ line then some (.lst (xs ++ ys)) else none := rfl
@[simp] theorem aug_ii : augO .add (.int i) (.d (.int j)) = some (.int (i + j)) := rfl
@[simp] theorem aug_sub : augO .sub (.int i) (.d (.int j)) = some (.int (i - j)) := rfl
@[simp] theorem aug_ss : augO .add (.str (St a)) (.d (.str (St b))) = if a.length + b.length ≤ line then some (.str (St (a ++ b))) else none := by
  show (if (St a).length + (St b).length ≤ line then some (D.str (St a ++ St b)) else none) = _
  rw [St_len, St_len, St_app]
@[simp] theorem cmp_eq {o p : O} : cmpO .eq o p = eqD (frz o) (frz p) := rfl
@[simp] theorem cmp_ne {o p : O} : cmpO .ne o p = (eqD (frz o) (frz p)).map (!·) := rfl
@[simp] theorem cmp_lt : cmpO .lt (.d (.int i)) (.d (.int j)) = some (decide (i < j)) := rfl
@[simp] theorem cmp_le : cmpO .le (.d (.int i)) (.d (.int j)) = some (decide (i ≤ j)) := rfl
@[simp] theorem cmp_gt : cmpO .gt (.d (.int i)) (.d (.int j)) = some (decide (j < i)) := rfl
@[simp] theorem cmp_ge : cmpO .ge (.d (.int i)) (.d (.int j)) = some (decide (j ≤ i)) := rfl
@[simp] theorem cmp_is {o p : O} : cmpO .is o p = match frz p with
    | .non => some (match frz o with | .non => true | _ => false)
    | .bl k => match frz o with
      | .bl j => some (decide (j = k))
      | _ => none
    | _ => none := rfl
@[simp] theorem cmp_isnot {o p : O} : cmpO .isnot o p = match frz p with
    | .non => some (match frz o with | .non => false | _ => true)
    | .bl k => match frz o with
      | .bl j => some (!decide (j = k))
      | _ => none
    | _ => none := rfl
@[simp] theorem cmp_in {o p : O} : cmpO .isin o p = match frz p with
    | .lst xs => inF (frz o) xs
    | .tup xs => inF (frz o) xs
    | .dct ks vs => match asK o with
      | some k => some (getK ks vs k).isSome
      | none => none
    | .str s => match frz o with
      | .str c => if c.length = 1 then some (decide (c.cps.getD 0 0 ∈ s.cps.toList)) else none
      | _ => none
    | _ => none := rfl
@[simp] theorem cmp_notin {o p : O} : cmpO .notin o p = match frz p with
    | .lst xs => (inF (frz o) xs).map (!·)
    | .tup xs => (inF (frz o) xs).map (!·)
    | .dct ks vs => match asK o with
      | some k => some (!(getK ks vs k).isSome)
      | none => none
    | _ => none := rfl
@[simp] theorem eqD_ii : eqD (.int i) (.int j) = some (decide (i = j)) := rfl
@[simp] theorem eqD_ss : eqD (.str (St a)) (.str (St b)) = some (decide (a = b)) := by
  show some (decide (St a = St b)) = _
  simp only [St_inj]
@[simp] theorem eqD_bb {p q : Bool} : eqD (.bl p) (.bl q) = some (decide (p = q)) := rfl
@[simp] theorem eqD_nn : eqD .non .non = some true := rfl
@[simp] theorem eqD_ni : eqD .non (.int i) = some false := rfl
@[simp] theorem eqD_in : eqD (.int i) .non = some false := rfl
@[simp] theorem eqD_ns : eqD .non (.str x) = some false := rfl
@[simp] theorem eqD_sn : eqD (.str x) .non = some false := rfl
@[simp] theorem eqD_is : eqD (.int i) (.str x) = some false := rfl
@[simp] theorem eqD_si : eqD (.str x) (.int i) = some false := rfl
@[simp] theorem len_s : biO .len (.d (.str (St a))) = if a.length ≤ line then some (.d (.int a.length)) else none := by
  show (if (St a).length ≤ line then some (O.d (.int (St a).length)) else none) = _
  rw [St_len]
@[simp] theorem len_t : biO .len (.d (.tup xs)) = some (.d (.int xs.length)) := rfl
@[simp] theorem len_dl : biO .len (.d (.lst xs)) = some (.d (.int xs.length)) := rfl
@[simp] theorem len_l : biO .len (.lst xs) = some (.d (.int xs.length)) := rfl
@[simp] theorem list_t : biO .list (.d (.tup xs)) = some (.lst xs) := rfl
@[simp] theorem list_l : biO .list (.lst xs) = some (.lst xs) := rfl
@[simp] theorem list_dl : biO .list (.d (.lst xs)) = some (.lst xs) := rfl
@[simp] theorem list_dct : biO .list (.dct ks vs) = some (.lst (ks.map keyD)) := rfl
@[simp] theorem list_ddct : biO .list (.d (.dct ks vs)) = some (.lst (ks.map keyD)) := rfl
@[simp] theorem tuple_t : biO .tuple (.d (.tup xs)) = some (.d (.tup xs)) := rfl
@[simp] theorem tuple_l : biO .tuple (.lst xs) = some (.d (.tup xs)) := rfl
@[simp] theorem tuple_dl : biO .tuple (.d (.lst xs)) = some (.d (.tup xs)) := rfl
@[simp] theorem dict_d : biO .dict (.d (.dct ks vs)) = some (.dct ks vs) := rfl
@[simp] theorem dict_o : biO .dict (.dct ks vs) = some (.dct ks vs) := rfl
@[simp] theorem int_i : biO .int (.d (.int i)) = some (.d (.int i)) := rfl
@[simp] theorem int_b {k : Bool} : biO .int (.d (.bl k)) = some (.d (.int (if k then 1 else 0))) := rfl
@[simp] theorem abs_i : biO .abs (.d (.int i)) = some (.d (.int (if i < 0 then -i else i))) := rfl
@[simp] theorem min_ii : bi2O .min (.d (.int i)) (.d (.int j)) = some (.d (.int (if j < i then j else i))) := rfl
@[simp] theorem max_ii : bi2O .max (.d (.int i)) (.d (.int j)) = some (.d (.int (if j > i then j else i))) := rfl
@[simp] theorem isTy_int : isTy u .int = match u with | .int _ => true | .bl _ => true | _ => false := rfl
@[simp] theorem isTy_bool : isTy u .bool = match u with | .bl _ => true | _ => false := rfl
@[simp] theorem isTy_str : isTy u .str = match u with | .str _ => true | _ => false := rfl
@[simp] theorem isTy_list : isTy u .list = match u with | .lst _ => true | _ => false := rfl
@[simp] theorem isTy_tuple : isTy u .tuple = match u with | .tup _ => true | _ => false := rfl
@[simp] theorem isTy_dict : isTy u .dict = match u with | .dct _ _ => true | _ => false := rfl
@[simp] theorem isIns_ins {k : Nat} : isIns (.ins k xs) = true := rfl
@[simp] theorem isIns_int : isIns (.int i) = false := rfl
@[simp] theorem isIns_str : isIns (.str x) = false := rfl
@[simp] theorem isIns_bl {k : Bool} : isIns (.bl k) = false := rfl
@[simp] theorem isIns_non : isIns .non = false := rfl
@[simp] theorem isIns_tup : isIns (.tup xs) = false := rfl
@[simp] theorem isIns_lst : isIns (.lst xs) = false := rfl
@[simp] theorem isIns_dct : isIns (.dct ks vs) = false := rfl
@[simp] theorem ix_t : ixO (.d (.tup xs)) (.d (.int i)) = atD xs i := rfl
@[simp] theorem ix_dl : ixO (.d (.lst xs)) (.d (.int i)) = atD xs i := rfl
@[simp] theorem ix_l : ixO (.lst xs) (.d (.int i)) = atD xs i := rfl
@[simp] theorem ix_s : ixO (.d (.str x)) (.d (.int i)) = seqIx (.d (.str x)) i := rfl
@[simp] theorem at_z : atD (u :: xs) 0 = some u := rfl
@[simp] theorem at_nat {m : Nat} : atD xs (m : Int) = xs[m]? := by unfold atD; rw [if_pos (by omega)]; simp
@[simp] theorem at_lit {m : Nat} : atD xs (OfNat.ofNat (m + 1)) = xs[m + 1]? := by
  show atD xs ((m + 1 : Nat) : Int) = _
  exact at_nat
@[simp] theorem at_1 : atD xs 1 = xs[1]? := at_nat (m := 1)
@[simp] theorem at_2 : atD xs 2 = xs[2]? := at_nat (m := 2)
@[simp] theorem at_3 : atD xs 3 = xs[3]? := at_nat (m := 3)
@[simp] theorem at_4 : atD xs 4 = xs[4]? := at_nat (m := 4)
@[simp] theorem at_5 : atD xs 5 = xs[5]? := at_nat (m := 5)
@[simp] theorem sl_t {lo hi : Option Int} : slO (.d (.tup xs)) lo hi = some (.d (.tup (cutD xs lo hi))) := rfl
@[simp] theorem sl_dl {lo hi : Option Int} : slO (.d (.lst xs)) lo hi = some (.lst (cutD xs lo hi)) := rfl
@[simp] theorem sl_l {lo hi : Option Int} : slO (.lst xs) lo hi = some (.lst (cutD xs lo hi)) := rfl
@[simp] theorem sl_s {lo hi : Option Int} : slO (.d (.str (St a))) lo hi = if a.length ≤ line then some (.d (.str (St (cutD a lo hi)))) else none := by
  show (if (St a).length ≤ line then _ else _) = _
  rw [St_len]
@[simp] theorem cut_1 {α : Type} {z : α} {zs : List α} : cutD (z :: zs) (some 1) none = zs := by
  show ((z :: zs).drop (min (1 : Int).toNat (zs.length + 1))).take ((zs.length + 1) - min (1 : Int).toNat (zs.length + 1)) = zs
  have : min (1 : Int).toNat (zs.length + 1) = 1 := by simp
  rw [this]; simp
theorem cut_mid {α : Type} {p s : List α} {n : Nat} : cutD (p ++ s) (some (p.length : Int)) (some ((p.length : Int) + (n : Int))) = s.take n := by
  have h1 : sIx (p ++ s).length 0 (some (p.length : Int)) = p.length := by
    simp only [sIx]
    rw [if_neg (by omega)]; simp
  have h2 : sIx (p ++ s).length (p ++ s).length (some ((p.length : Int) + (n : Int))) = min (p.length + n) (p ++ s).length := by
    simp only [sIx]
    rw [if_neg (by omega), show ((p.length : Int) + (n : Int)).toNat = p.length + n by omega]
  unfold cutD
  rw [h1, h2, List.drop_left, List.length_append]
  rw [show min (p.length + n) (p.length + s.length) - p.length = min n s.length by omega]
  rw [List.take_eq_take_iff]; omega
theorem cut_to {α : Type} {l : List α} {n : Nat} : cutD l none (some (n : Int)) = l.take n := by
  show (l.drop 0).take (sIx l.length l.length (some (n : Int)) - 0) = _
  have h2 : sIx l.length l.length (some (n : Int)) = min n l.length := by
    simp only [sIx]
    rw [if_neg (by omega)]; simp
  rw [h2, List.drop_zero, Nat.sub_zero, List.take_eq_take_iff]; omega
theorem cut_from {α : Type} {l : List α} {n : Nat} : cutD l (some (n : Int)) none = l.drop n := by
  show (l.drop (sIx l.length 0 (some (n : Int)))).take (l.length - sIx l.length 0 (some (n : Int))) = _
  have h2 : sIx l.length 0 (some (n : Int)) = min n l.length := by
    simp only [sIx]
    rw [if_neg (by omega)]; simp
  rw [h2, List.take_of_length_le (by simp)]
  by_cases h : n ≤ l.length
  · rw [Nat.min_eq_left h]
  · rw [Nat.min_eq_right (by omega), List.drop_eq_nil_of_le (by omega), List.drop_eq_nil_of_le (by omega)]
theorem cut_part {α : Type} {l m : List α} {n k : Nat} (h : n ≤ k) : cutD l (some (n : Int)) (some (k : Int)) = (l.drop n).take (k - n) := by
  have h1 : sIx l.length 0 (some (n : Int)) = min n l.length := by
    simp only [sIx]
    rw [if_neg (by omega)]; simp
  have h2 : sIx l.length l.length (some (k : Int)) = min k l.length := by
    simp only [sIx]
    rw [if_neg (by omega)]; simp
  unfold cutD
  rw [h1, h2]
  by_cases hn : n ≤ l.length
  · rw [Nat.min_eq_left hn, List.take_eq_take_iff, List.length_drop]; omega
  · rw [List.drop_eq_nil_of_le (by omega), List.drop_eq_nil_of_le (by omega)]
    simp
theorem six_mid {p s : List Nat} {c : Nat} (h : (p ++ c :: s).length ≤ line) : seqIx (.d (.str (St (p ++ c :: s)))) (p.length : Int) = some (.str (St [c])) := by
  show (if (St (p ++ c :: s)).length ≤ line then (if 0 ≤ (p.length : Int) then (St (p ++ c :: s)).cps.toList[(p.length : Int).toNat]? else _).map _ else none) = _
  rw [if_pos (by rw [St_len]; exact h), if_pos (by omega)]
  simp
theorem six_at {l : List Nat} {n : Nat} (h : l.length ≤ line) : seqIx (.d (.str (St l))) (n : Int) = (l[n]?).map fun c => .str (St [c]) := by
  show (if (St l).length ≤ line then (if 0 ≤ (n : Int) then (St l).cps.toList[(n : Int).toNat]? else _).map _ else none) = _
  rw [if_pos (by rw [St_len]; exact h), if_pos (by omega)]
  simp
@[simp] theorem allO_l : biO .all (.lst xs) = match allB xs with
    | some bs => some (.d (.bl (bs.all id)))
    | none => none := rfl
@[simp] theorem anyO_l : biO .any (.lst xs) = match allB xs with
    | some bs => some (.d (.bl (bs.any id)))
    | none => none := rfl
theorem allS_map (ls : List (List Nat)) : allS (ls.map fun l => D.str (St l)) = some (ls.map St) := by
  induction ls with
  | nil => rfl
  | cons l ls ih => simp [allS, ih]
theorem join_c {s : Str} {ls : List (List Nat)} {c : List Nat} (hs : s = St c) (h : (ls.map fun l => l.length).sum + ls.length * c.length ≤ line) : joinO s (.lst (ls.map fun l => .str (St l))) = some (.d (.str (St (TL.joinL c ls)))) := by
  subst hs
  show (match allS (ls.map fun l => D.str (St l)) with | some ys => _ | none => none) = _
  rw [allS_map]
  show (if ((ls.map St).map (·.length)).sum + (ls.map St).length * (St c).length ≤ line then some (O.d (.str (Txt.join (St c) (ls.map St)))) else none) = _
  rw [SX.lens, List.length_map, St_len, if_pos h, SX.join_S]
theorem join_o {s : Str} {c : List Nat} {q : O} (hs : s = St c) (hq : seqO q = some (ls.map fun l => .str (St l))) (h : (ls.map fun l => l.length).sum + ls.length * c.length ≤ line) : joinO s q = some (.d (.str (St (TL.joinL c ls)))) := by
  subst hs
  unfold joinO
  rw [hq]
  show (match allS (ls.map fun l => D.str (St l)) with | some ys => _ | none => none) = _
  rw [allS_map]
  show (if ((ls.map St).map (·.length)).sum + (ls.map St).length * (St c).length ≤ line then some (O.d (.str (Txt.join (St c) (ls.map St)))) else none) = _
  rw [SX.lens, List.length_map, St_len, if_pos h, SX.join_S]
@[simp] theorem lset_l : lsetO (.d (.lst (ls.map fun l => .str (St l)))) = if ls.length ≤ 1000 then some (.d (.int (ddup (ls.map St)).length)) else none := by
  show (match allS (ls.map fun l => D.str (St l)) with | some ys => if ys.length ≤ 1000 then some (O.d (.int (ddup ys).length)) else none | none => none) = _
  rw [allS_map]
  show (if (ls.map St).length ≤ 1000 then _ else _) = _
  rw [List.length_map]
@[simp] theorem lset_t : lsetO (.d (.tup (ls.map fun l => .str (St l)))) = if ls.length ≤ 1000 then some (.d (.int (ddup (ls.map St)).length)) else none := by
  show (match allS (ls.map fun l => D.str (St l)) with | some ys => if ys.length ≤ 1000 then some (O.d (.int (ddup ys).length)) else none | none => none) = _
  rw [allS_map]
  show (if (ls.map St).length ≤ 1000 then _ else _) = _
  rw [List.length_map]
theorem dd_iff : ∀ (xs acc : List Str), (xs.foldl ddStep acc).length ≤ acc.length + xs.length ∧ ((xs.foldl ddStep acc).length = acc.length + xs.length ↔ (∀ x ∈ xs, x ∉ acc) ∧ xs.Nodup)
  | [], acc => by simp
  | x :: xs, acc => by
    rw [List.foldl_cons, List.length_cons]
    by_cases h : acc.any (· == x) = true
    · have hx : x ∈ acc := by
        obtain ⟨y, hy, e⟩ := List.any_eq_true.mp h
        rw [eq_of_beq e] at hy
        exact hy
      have e : ddStep acc x = acc := by unfold ddStep; rw [if_pos h]
      rw [e]
      have := (dd_iff xs acc).1
      refine ⟨by omega, ⟨fun z => by omega, fun z => absurd hx (z.1 x (.head _))⟩⟩
    · have hx : x ∉ acc := fun z => h (List.any_eq_true.mpr ⟨x, z, beq_self_eq_true x⟩)
      have e : ddStep acc x = acc ++ [x] := by unfold ddStep; rw [if_neg h]
      rw [e]
      obtain ⟨h1, h2⟩ := dd_iff xs (acc ++ [x])
      simp only [List.length_append, List.length_cons, List.length_nil] at h1 h2
      refine ⟨by omega, ?_⟩
      rw [show acc.length + (xs.length + 1) = acc.length + (0 + 1) + xs.length by omega, h2, List.nodup_cons]
      constructor
      · rintro ⟨a, b⟩
        refine ⟨fun y hy => ?_, fun z => ?_, b⟩
        · rcases List.mem_cons.mp hy with rfl | hy
          · exact hx
          · exact fun z => a y hy (List.mem_append_left _ z)
        · exact a x z (by simp)
      · rintro ⟨a, b, c⟩
        refine ⟨fun y hy z => ?_, c⟩
        rcases List.mem_append.mp z with z | z
        · exact a y (.tail _ hy) z
        · rw [List.mem_singleton] at z
          subst z
          exact b hy
theorem ddup_iff : (ddup (ls.map St)).length = ls.length ↔ ls.Nodup := by
  have := (dd_iff (ls.map St) []).2
  simp only [List.length_map, List.length_nil, Nat.zero_add] at this
  unfold ddup
  rw [this]
  constructor
  · rintro ⟨_, b⟩
    rw [List.nodup_iff_pairwise_ne, List.pairwise_map] at b
    rw [List.nodup_iff_pairwise_ne]
    exact b.imp fun h z => h (by rw [z])
  · intro b
    refine ⟨fun _ _ => List.not_mem_nil, ?_⟩
    rw [List.nodup_iff_pairwise_ne] at b ⊢
    exact List.Pairwise.map _ (fun x y hxy z => hxy (St_inj.mp z)) b
theorem str_nat {n : Nat} (h : n < 2 ^ 1900) : biO .str (.d (.int (n : Int))) = some (.d (.str (St (TL.numL n)))) := by
  show (if (n : Int).natAbs.log2 < 1920 then some (O.d (.str (Str.ofString (toString (n : Int))))) else none) = _
  have h1 : (n : Int).natAbs.log2 < 1920 := by
    rw [Int.natAbs_natCast]
    by_cases h0 : n = 0
    · subst h0; decide
    · exact (Nat.log2_lt h0).mpr (Nat.lt_of_lt_of_le h (Nat.pow_le_pow_right (by decide) (by decide)))
  rw [if_pos h1]
  congr 3
  exact TL.ext_tl (TL.tl_num n)
@[simp] theorem iter_l : iterO (.lst xs) = some xs := rfl
@[simp] theorem iter_dl : iterO (.d (.lst xs)) = some xs := rfl
@[simp] theorem iter_t : iterO (.d (.tup xs)) = some xs := rfl
@[simp] theorem iter_s : iterO (.d (.str (St a))) = if a.length ≤ line then some (a.map fun c => .str (St [c])) else none := by
  show (if (St a).length ≤ line then some ((St a).cps.toList.map fun c => D.str ⟨#[c]⟩) else none) = _
  rw [St_len]
@[simp] theorem asL_l : asL (.lst xs) = some xs := rfl
@[simp] theorem asL_dl : asL (.d (.lst xs)) = some xs := rfl
@[simp] theorem asL_t : asL (.d (.tup xs)) = none := rfl
@[simp] theorem asT_t : asT (.d (.tup xs)) = some xs := rfl
@[simp] theorem asK_i : asK (.d (.int i)) = some (.inl i) := rfl
@[simp] theorem asK_s : asK (.d (.str x)) = some (.inr x) := rfl
@[simp] theorem asM_o : asM (.dct ks vs) = some (ks, vs) := rfl
@[simp] theorem asM_d : asM (.d (.dct ks vs)) = some (ks, vs) := rfl
@[simp] theorem insO_o {c : Nat} {fs : List Fo} : insO (.ins c fs) = some (c, fs.map frzF) := rfl
@[simp] theorem insO_d {c : Nat} {fs : List D} : insO (.d (.ins c fs)) = some (c, fs) := rfl
@[simp] theorem fldO_o {c c' : Nat} {k : Nat} {fs : List Fo} : fldO c k (.ins c' fs) = if c' = c then (match fs[k]? with
    | some f => some (frzF f, .ins c (fs.set k (.d (frzF f))))
    | none => none) else none := rfl
@[simp] theorem fldO_d {c c' : Nat} {k : Nat} {fs : List D} : fldO c k (.d (.ins c' fs)) = if c' = c then (fs[k]?).map fun x => (x, .d (.ins c' fs)) else none := rfl
@[simp] theorem setFld_o {c c' : Nat} {k : Nat} {fs : List Fo} {o : O} : setFld c k (.ins c' fs) o = match toF o with
    | some f => if c' = c then (if k < fs.length then some (.ins c (fs.set k f)) else if k = fs.length then some (.ins c (fs ++ [f])) else none) else none
    | none => none := by
  unfold setFld
  cases toF o <;> rfl
@[simp] theorem toF_d : toF (.d u) = some (.d u) := rfl
@[simp] theorem toF_l : toF (.lst xs) = some (.lst xs) := rfl
@[simp] theorem toF_c : toF (.dct ks vs) = some (.dct ks vs) := rfl
@[simp] theorem getO_eq {o p q : O} : getO o p q = match asM o, asK p with
    | some (ks, vs), some k => some ((getK ks vs k).getD (frz q))
    | _, _ => none := rfl
theorem low64 {i : Int} (h : i.natAbs < 2 ^ 64) : lowW i = true := decide_eq_true (Nat.lt_of_lt_of_le h (Nat.pow_le_pow_right (by decide) (by decide)))
end

section
variable {cf : CallF} {G : Gs} {W : Nat} {lent : List Nat}
theorem ss_go {s : S} {ss : Ss} {r r' : Rho} (h : evS cf G W lent s r = .ok .nx r') : evSs cf G W lent (.cons s ss) r = evSs cf G W lent ss r' := by
  simp only [evSs, h, Out.bind_ok]
theorem ss_end {s : S} {ss : Ss} {r r' : Rho} {o : O} (h : evS cf G W lent s r = .ok (.ret o) r') : evSs cf G W lent (.cons s ss) r = .ok (.ret o) r' := by
  simp only [evSs, h, Out.bind_ok]
theorem run_ret {P : Pg} {fd : FD} {os os' : List O} {o : O} {r : Rho} (hl : os.length = fd.np) (h : evSs cf P.G P.W (lentOf 0 os) fd.body (os.map some ++ List.replicate (fd.ns - os.length) none) = .ok (.ret o) r) (ho : outsOf 0 os r = some os') :
    runF cf P fd os = .ok o os' := by
  unfold runF
  rw [if_neg (fun z => z hl), h]
  simp only [ho]
theorem for_inv {g : D → Rho → Option Rho} {b : Rho → Out Fl} : ∀ {xs : List D} (I : Nat → Rho → Prop) {r : Rho}, I 0 r → (∀ k x r, xs[k]? = some x → I k r → ∃ r1 r2, g x r = some r1 ∧ b r1 = .ok .nx r2 ∧ I (k + 1) r2) → ∃ r', forN g b xs r = .ok .nx r' ∧ I xs.length r'
  | [], I, r, h0, _ => ⟨r, rfl, h0⟩
  | x :: xs, I, r, h0, hs => by
    obtain ⟨r1, r2, e1, e2, h1⟩ := hs 0 x r rfl h0
    obtain ⟨r', e, h⟩ := for_inv (xs := xs) (fun k => I (k + 1)) h1 fun k y r hy => hs (k + 1) y r hy
    exact ⟨r', by simp only [forN, e1, e2, Out.bind_ok]; exact e, h⟩
theorem while_inv {c : Rho → Out Bool} {b : Rho → Out Fl} (I : Nat → Rho → Prop) (Post : Rho → Prop) (hs : ∀ k r, I k r → (∃ r1, c r = .ok false r1 ∧ Post r1) ∨ ∃ r1 r2 j, c r = .ok true r1 ∧ b r1 = .ok .nx r2 ∧ j < k ∧ I j r2) :
    ∀ {W n : Nat} {r : Rho}, I n r → n < W → ∃ r', whileN c b W r = .ok .nx r' ∧ Post r'
  | 0, n, r, _, h => by omega
  | W + 1, n, r, hI, h => by
    rcases hs n r hI with ⟨r1, e, p⟩ | ⟨r1, r2, j, e1, e2, hj, hI2⟩
    · exact ⟨r1, by simp [whileN, e], p⟩
    · obtain ⟨r', e, p⟩ := while_inv I Post hs (W := W) hI2 (by omega)
      exact ⟨r', by simp only [whileN, e1, e2, Out.bind_ok, if_true]; exact e, p⟩
theorem s_whl {c : E} {b : Ss} {r r' : Rho} (h : whileN (fun r => tst (evE cf G c r)) (evSs cf G W lent b) W r = .ok .nx r') : evS cf G W lent (.whl c b) r = .ok .nx r' := by
  simp only [evS, h]
theorem s_for {tg : Tg} {it : It} {b : Ss} {r r1 r' : Rho} {xs : List D} (h : evI cf G it r = .ok xs r1) (h2 : forN (asgT lent tg) (evSs cf G W lent b) xs r1 = .ok .nx r') : evS cf G W lent (.for_ tg it b) r = .ok .nx r' := by
  simp only [evS, h, h2, Out.bind_ok]
theorem set_set_none {r r1 : Rho} {i : Nat} {x : Option O} : (r.set i x).set i none = r.set i none := by simp
theorem comp_map {elt : E} {i : Nat} {it : It} {r r0 : Rho} {xs : List D} {y0 : Option O} (f : D → D) (hi : evI cf G it r = .ok xs r0) (hl : xs.length ≤ line) (hn : r0[i]? = some y0) (h : ∀ (k : Nat) x, xs[k]? = some x → ∃ o, evE cf G elt (r0.set i (some (.d x))) = .ok o (r0.set i (some (.d x))) ∧ frz o = f x) :
    evE cf G (.lc elt (.one i) it .none) r = .ok (.lst (xs.map f)) r0 := by
  have key : ∀ (st : Rho → Out (Option D)) (ys : List D), (∀ x ∈ ys, st (r0.set i (some (.d x))) = .ok (some (f x)) (r0.set i (some (.d x)))) → ∀ r1 : Rho, r1.set i none = r0.set i none → ∃ r2, compN st (.one i) ys r1 = .ok (ys.map f) r2 ∧ r2.set i none = r0.set i none := by
    intro st ys
    induction ys with
    | nil => intro _ r1 e; exact ⟨r1, rfl, e⟩
    | cons y ys ih =>
      intro hy r1 e
      have e1 := hy y (.head _)
      have ec : bindT (.one i) y (clr (Tg.one i).slots r1) = some (r0.set i (some (.d y))) := by
        have : (r1.set i none).set i (some (O.d y)) = (r0.set i none).set i (some (O.d y)) := by rw [e]
        simpa [bindT, clr, Tg.slots] using this
      obtain ⟨r2, e3, e4⟩ := ih (fun x h => hy x (.tail _ h)) (r0.set i (some (.d y))) (by simp)
      refine ⟨r2, ?_, e4⟩
      simp only [compN, ec, Out.bind_ok, e1, e3]
      simp
  simp only [evE, hi, Out.bind_ok]
  rw [if_neg (by omega)]
  obtain ⟨r2, e1, e2⟩ := key (fun r => (evC cf G .none r).bind fun k r => if k = true then (evE cf G elt r).bind fun o r => .ok (some (frz o)) r else .ok none r) xs (fun x hx => by
    obtain ⟨k, hk⟩ := List.getElem?_of_mem hx
    obtain ⟨o, a1, a2⟩ := h k x hk
    simp only [evC, Out.bind_ok, if_true, a1, a2]) r0 rfl
  rw [e1]
  simp only [Out.calm, Out.bind_ok, restore, Tg.slots, List.foldl_cons, List.foldl_nil, hn, Option.getD_some]
  have e3 : r2.set i y0 = r0.set i y0 := by
    have : (r2.set i none).set i y0 = (r0.set i none).set i y0 := by rw [e2]
    simpa using this
  have : r0.set i y0 = r0 := by
    apply List.ext_getElem?
    intro j
    rw [List.getElem?_set]
    split
    · rename_i ej; subst ej
      split
      · exact hn.symm
      · rename_i hlt
        rw [List.getElem?_eq_none (by omega)] at hn
        cases hn
    · rfl
  rw [e3, this]
end
theorem comp_ex {cf : CallF} {G : Gs} {elt : E} {i : Nat} {it : It} {r r0 : Rho} {xs : List D} {y0 : Option O} (Pr : D → Prop) (hi : evI cf G it r = .ok xs r0) (hl : xs.length ≤ line) (hn : r0[i]? = some y0) (h : ∀ (k : Nat) x, xs[k]? = some x → ∃ o, evE cf G elt (r0.set i (some (.d x))) = .ok o (r0.set i (some (.d x))) ∧ Pr (frz o)) :
    ∃ ys, evE cf G (.lc elt (.one i) it .none) r = .ok (.lst ys) r0 ∧ ys.length = xs.length ∧ ∀ y ∈ ys, Pr y := by
  classical
  let f : D → D := fun x => if h : ∃ o, evE cf G elt (r0.set i (some (.d x))) = .ok o (r0.set i (some (.d x))) ∧ Pr (frz o) then frz h.choose else x
  refine ⟨xs.map f, comp_map f hi hl hn fun k x hx => ?_, by simp, fun y hy => ?_⟩
  · have e := h k x hx
    refine ⟨e.choose, e.choose_spec.1, ?_⟩
    show _ = if h : _ then _ else _
    rw [dif_pos e]
  · obtain ⟨x, hx, rfl⟩ := List.mem_map.mp hy
    obtain ⟨k, hk⟩ := List.getElem?_of_mem hx
    have e := h k x hk
    show Pr (if h : _ then _ else _)
    rw [dif_pos e]
    exact e.choose_spec.2
theorem lc_map {cf : CallF} {G : Gs} {lp elt : E} {i : Nat} {it : It} {r r0 : Rho} {xs : List D} {y0 : Option O} (f : D → D) (e : lp = .lc elt (.one i) it .none) (hi : evI cf G it r = .ok xs r0) (hl : xs.length ≤ line) (hn : r0[i]? = some y0) (h : ∀ x ∈ xs, ∃ o, evE cf G elt (r0.set i (some (.d x))) = .ok o (r0.set i (some (.d x))) ∧ frz o = f x) :
    evE cf G lp r = .ok (.lst (xs.map f)) r0 := by
  subst e
  exact comp_map f hi hl hn fun k x hx => h x (List.mem_of_getElem? hx)
theorem lc_ex {cf : CallF} {G : Gs} {lp elt : E} {i : Nat} {it : It} {r r0 : Rho} {xs : List D} {y0 : Option O} (Pr : D → Prop) (e : lp = .lc elt (.one i) it .none) (hi : evI cf G it r = .ok xs r0) (hl : xs.length ≤ line) (hn : r0[i]? = some y0) (h : ∀ x ∈ xs, ∃ o, evE cf G elt (r0.set i (some (.d x))) = .ok o (r0.set i (some (.d x))) ∧ Pr (frz o)) :
    ∃ ys, evE cf G lp r = .ok (.lst ys) r0 ∧ ys.length = xs.length ∧ ∀ y ∈ ys, Pr y := by
  subst e
  exact comp_ex Pr hi hl hn fun k x hx => h x (List.mem_of_getElem? hx)
/-- over things told by a map -/
theorem lc_map2 {cf : CallF} {G : Gs} {lp elt : E} {i : Nat} {it : It} {r r0 : Rho} {α : Type} {as : List α} (g : α → D) (f : α → D) {y0 : Option O} (e : lp = .lc elt (.one i) it .none) (hi : evI cf G it r = .ok (as.map g) r0) (hl : as.length ≤ line) (hn : r0[i]? = some y0) (h : ∀ a ∈ as, ∃ o, evE cf G elt (r0.set i (some (.d (g a)))) = .ok o (r0.set i (some (.d (g a)))) ∧ frz o = f a) :
    evE cf G lp r = .ok (.lst (as.map f)) r0 := by
  subst e
  have key : ∀ (st : Rho → Out (Option D)) (ys : List α), (∀ x ∈ ys, st (r0.set i (some (.d (g x)))) = .ok (some (f x)) (r0.set i (some (.d (g x))))) → ∀ r1 : Rho, r1.set i none = r0.set i none → ∃ r2, compN st (.one i) (ys.map g) r1 = .ok (ys.map f) r2 ∧ r2.set i none = r0.set i none := by
    intro st ys
    induction ys with
    | nil => intro _ r1 e; exact ⟨r1, rfl, e⟩
    | cons y ys ih =>
      intro hy r1 e
      have e1 := hy y (.head _)
      have ec : bindT (.one i) (g y) (clr (Tg.one i).slots r1) = some (r0.set i (some (.d (g y)))) := by
        have : (r1.set i none).set i (some (O.d (g y))) = (r0.set i none).set i (some (O.d (g y))) := by rw [e]
        simpa [bindT, clr, Tg.slots] using this
      obtain ⟨r2, e3, e4⟩ := ih (fun x h => hy x (.tail _ h)) (r0.set i (some (.d (g y)))) (by simp)
      refine ⟨r2, ?_, e4⟩
      simp only [List.map_cons, compN, ec, Out.bind_ok, e1, e3]
  obtain ⟨r2, e1, e2⟩ := key (lcS cf G elt .none) as (fun x hx => by
    obtain ⟨o, a1, a2⟩ := h x hx
    simp only [lcS, evC, Out.bind_ok, if_true, a1, a2]) r0 rfl
  rw [evE_lc, hi, Out.bind_ok, if_neg (by simp; omega), e1]
  simp only [Out.calm, Out.bind_ok, restore, Tg.slots, List.foldl_cons, List.foldl_nil, hn, Option.getD_some]
  have e3 : r2.set i y0 = r0.set i y0 := by
    have : (r2.set i none).set i y0 = (r0.set i none).set i y0 := by rw [e2]
    simpa using this
  have : r0.set i y0 = r0 := by
    apply List.ext_getElem?
    intro j
    rw [List.getElem?_set]
    split
    · rename_i ej; subst ej
      split
      · exact hn.symm
      · rename_i hlt
        rw [List.getElem?_eq_none (by omega)] at hn
        cases hn
    · rfl
  rw [e3, this]
theorem lc_m {cf : CallF} {G : Gs} {lp elt : E} {i : Nat} {it : It} {r : Rho} {α : Type} {as : List α} (g : α → D) (f : α → D) {y0 : Option O} (e : lp = .lc elt (.one i) it .none) (hi : evI cf G it r = .ok (as.map g) r) (hl : as.length ≤ line) (hn : r[i]? = some y0) (h : ∀ a ∈ as, ∃ o, evE cf G elt (r.set i (some (.d (g a)))) = .ok o (r.set i (some (.d (g a)))) ∧ frz o = f a) :
    evE cf G lp r = .ok (.lst (as.map f)) r := lc_map2 g f e hi hl hn h
/-- a comprehension whose parts change the state -/
theorem lc_inv {cf : CallF} {G : Gs} {lp elt : E} {i : Nat} {it : It} {r r0 : Rho} {xs : List D} {y0 : Option O} (I : Nat → Rho → List D → Prop) (e : lp = .lc elt (.one i) it .none) (hi : evI cf G it r = .ok xs r0) (hl : xs.length ≤ line) (hn : r0[i]? = some y0)
    (h0 : I 0 r0 []) (h : ∀ k x s ys, xs[k]? = some x → I k s ys → ∃ o s1, evE cf G elt (s.set i (some (.d x))) = .ok o s1 ∧ I (k + 1) (s1.set i y0) (ys ++ [frz o])) :
    ∃ r' ys, evE cf G lp r = .ok (.lst ys) r' ∧ I xs.length r' ys := by
  subst e
  have key : ∀ (zs : List D) (k : Nat) (s : Rho) (ys : List D), (∀ j z, zs[j]? = some z → xs[k + j]? = some z) → I k (s.set i y0) ys → ∃ s' ws, compN (lcS cf G elt .none) (.one i) zs s = .ok ws s' ∧ I (k + zs.length) (s'.set i y0) (ys ++ ws) := by
    intro zs
    induction zs with
    | nil => intro k s ys _ hI; exact ⟨s, [], rfl, by simpa using hI⟩
    | cons z zs ih =>
      intro k s ys hz hI
      obtain ⟨o, s1, e1, hI1⟩ := h k z (s.set i y0) ys (hz 0 z rfl) hI
      have ec : bindT (.one i) z (clr (Tg.one i).slots s) = some ((s.set i y0).set i (some (.d z))) := by
        simp [bindT, clr, Tg.slots]
      obtain ⟨s', ws, e2, hI2⟩ := ih (k + 1) s1 (ys ++ [frz o]) (fun j w hw => by
        have := hz (j + 1) w hw
        rwa [show k + 1 + j = k + (j + 1) by omega]) hI1
      refine ⟨s', frz o :: ws, ?_, ?_⟩
      · simp only [compN, ec, lcS, evC, Out.bind_ok, if_true, e1, e2]
      · rw [List.length_cons, show k + (zs.length + 1) = k + 1 + zs.length by omega]
        simpa using hI2
  have hs : r0.set i y0 = r0 := by
    apply List.ext_getElem?
    intro j
    rw [List.getElem?_set]
    split
    · rename_i ej; subst ej
      split
      · exact hn.symm
      · rename_i hlt
        rw [List.getElem?_eq_none (by omega)] at hn
        cases hn
    · rfl
  obtain ⟨s', ws, e1, hI⟩ := key xs 0 r0 [] (fun j z hz => by simpa using hz) (by rw [hs]; exact h0)
  refine ⟨s'.set i y0, ws, ?_, by simpa using hI⟩
  rw [evE_lc, hi, Out.bind_ok, if_neg (by omega), e1]
  simp only [Out.calm, Out.bind_ok, restore, Tg.slots, List.foldl_cons, List.foldl_nil, hn, Option.getD_some]
/-! ### == of data with itself -/
def lay (d : D) : Bool := (toPy d).canLay0
def dep (d : D) : Nat := (toPy d).depth
def lays : List D → Bool
  | [] => true
  | x :: xs => lay x && lays xs
def deps : List D → Nat
  | [] => 0
  | x :: xs => max (dep x) (deps xs)
theorem lays_eq : ∀ xs, PyData.canLayAll0 (toPys xs) = lays xs
  | [] => by simp [toPys, PyData.canLayAll0, lays]
  | x :: xs => by simp only [toPys, PyData.canLayAll0, lays, lays_eq xs, lay]
theorem deps_eq : ∀ xs, PyData.depthAll (toPys xs) = deps xs
  | [] => by simp [toPys, PyData.depthAll, deps]
  | x :: xs => by simp only [toPys, PyData.depthAll, deps, deps_eq xs, dep]
theorem lay_tup (xs : List D) : lay (.tup xs) = lays xs := by unfold lay; rw [toPy, PyData.canLay0, lays_eq]
theorem lay_lst (xs : List D) : lay (.lst xs) = lays xs := by unfold lay; rw [toPy, PyData.canLay0, lays_eq]
theorem lay_int (i : Int) : lay (.int i) = true := by unfold lay; rw [toPy, PyData.canLay0]
theorem lay_bl (i : Bool) : lay (.bl i) = true := by unfold lay; rw [toPy, PyData.canLay0]
theorem lay_non : lay .non = true := by unfold lay; rw [toPy, PyData.canLay0]
theorem lay_str (s : Str) : lay (.str s) = PyData.strOk s := by unfold lay; rw [toPy, PyData.canLay0]
theorem dep_tup (xs : List D) : dep (.tup xs) = deps xs + 1 := by unfold dep; rw [toPy, PyData.depth, deps_eq]
theorem dep_lst (xs : List D) : dep (.lst xs) = deps xs + 1 := by unfold dep; rw [toPy, PyData.depth, deps_eq]
theorem dep_int (i : Int) : dep (.int i) = 0 := by unfold dep; rw [toPy, PyData.depth]
theorem dep_bl (i : Bool) : dep (.bl i) = 0 := by unfold dep; rw [toPy, PyData.depth]
theorem dep_non : dep .non = 0 := by unfold dep; rw [toPy, PyData.depth]
theorem dep_str (s : Str) : dep (.str s) = 0 := by unfold dep; rw [toPy, PyData.depth]
theorem lays_iff {xs : List D} : lays xs = true ↔ ∀ x ∈ xs, lay x = true := by
  induction xs with
  | nil => simp [lays]
  | cons x xs ih => simp [lays, ih]
theorem deps_le {xs : List D} {n : Nat} : deps xs ≤ n ↔ ∀ x ∈ xs, dep x ≤ n := by
  induction xs with
  | nil => simp [deps]
  | cons x xs ih => simp [deps, ih, Nat.max_le]
/-- laid, and at most n deep -/
def Fit (n : Nat) (d : D) : Prop := lay d = true ∧ dep d ≤ n
theorem Fit.mono {n m : Nat} {d : D} (h : Fit n d) (l : n ≤ m) : Fit m d := ⟨h.1, Nat.le_trans h.2 l⟩
theorem fit_tup {n : Nat} {xs : List D} (h : ∀ x ∈ xs, Fit n x) : Fit (n + 1) (.tup xs) := ⟨by rw [lay_tup, lays_iff]; exact fun x hx => (h x hx).1, by rw [dep_tup]; exact Nat.succ_le_succ (deps_le.mpr fun x hx => (h x hx).2)⟩
theorem fit_lst {n : Nat} {xs : List D} (h : ∀ x ∈ xs, Fit n x) : Fit (n + 1) (.lst xs) := ⟨by rw [lay_lst, lays_iff]; exact fun x hx => (h x hx).1, by rw [dep_lst]; exact Nat.succ_le_succ (deps_le.mpr fun x hx => (h x hx).2)⟩
theorem fit_int {n : Nat} (i : Int) : Fit n (.int i) := ⟨lay_int i, by rw [dep_int]; omega⟩
theorem fit_str {n : Nat} {s : Str} (h : PyData.strOk s = true) : Fit n (.str s) := ⟨by rw [lay_str]; exact h, by rw [dep_str]; omega⟩
theorem Fit.shaped {n : Nat} {d : D} (h : Fit n d) (l : n ≤ 64) : SeqAt.shaped (toPy d) = true := by
  unfold SeqAt.shaped
  rw [Bool.and_eq_true, decide_eq_true_eq]
  exact ⟨h.1, Nat.le_trans h.2 l⟩
theorem eq_lst_self {n : Nat} {xs : List D} (h : ∀ x ∈ xs, Fit n x) (l : n ≤ 63) : eqD (.lst xs) (.lst xs) = some true := by
  have f := fit_lst h
  have s := f.shaped (by omega)
  show (if (SeqAt.shaped (toPy (.lst xs)) && SeqAt.shaped (toPy (.lst xs))) = true then some (PyData.eqv (toPy (.lst xs)) (toPy (.lst xs))) else none) = some true
  rw [s]
  simp only [Bool.and_self, if_true]
  exact congrArg some (PySem.SeqAt.eqv_refl _ f.1)
theorem eq_lst_nil {n : Nat} {xs : List D} (h : ∀ x ∈ xs, Fit n x) (l : n ≤ 63) : eqD (.lst xs) (.lst []) = some xs.isEmpty := by
  have f := fit_lst h
  have s := f.shaped (by omega)
  show (if (SeqAt.shaped (toPy (.lst xs)) && SeqAt.shaped (toPy (.lst []))) = true then some (PyData.eqv (toPy (.lst xs)) (toPy (.lst []))) else none) = some xs.isEmpty
  have s2 : SeqAt.shaped (toPy (.lst [])) = true := (fit_lst (n := 0) (fun x hx => absurd hx List.not_mem_nil)).shaped (by omega)
  rw [s, s2]
  cases xs <;> simp [toPy, toPys, PyData.eqv, PyData.eqvAll]
end Ev
end

section
set_option Elab.async false
set_option linter.all false
set_option maxRecDepth 100000
set_option maxHeartbeats 4000000
/-! Ev: trees of data, by their parts. -/
open PySem
namespace Ev
section
variable {cf : CallF} {G : Gs} {W : Nat} {lent : List Nat}
theorem while_run {c : Rho → Out Bool} {b : Rho → Out Fl} (I : Nat → Rho → Prop) (Post : Fl → Rho → Prop)
    (hs : ∀ k r, I k r → (∃ r1, c r = .ok false r1 ∧ Post .nx r1) ∨ ∃ r1, c r = .ok true r1 ∧ ((∃ o r2, b r1 = .ok (.ret o) r2 ∧ Post (.ret o) r2) ∨ ∃ r2 j, b r1 = .ok .nx r2 ∧ j < k ∧ I j r2)) :
    ∀ {W n : Nat} {r : Rho}, I n r → n < W → ∃ f r', whileN c b W r = .ok f r' ∧ Post f r'
  | 0, n, r, _, h => by omega
  | W + 1, n, r, hI, h => by
    rcases hs n r hI with ⟨r1, e, p⟩ | ⟨r1, e, ⟨o, r2, e2, p⟩ | ⟨r2, j, e2, hj, hI2⟩⟩
    · exact ⟨.nx, r1, by simp [whileN, e], p⟩
    · exact ⟨.ret o, r2, by simp [whileN, e, e2], p⟩
    · obtain ⟨f, r', e3, p⟩ := while_run I Post hs (W := W) hI2 (by omega)
      exact ⟨f, r', by simp only [whileN, e, e2, Out.bind_ok, if_true]; exact e3, p⟩
theorem s_whlF {c : E} {b : Ss} {r r' : Rho} {f : Fl} (h : whileN (fun r => tst (evE cf G c r)) (evSs cf G W lent b) W r = .ok f r') : evS cf G W lent (.whl c b) r = .ok f r' := by
  simp only [evS, h]
end
section
variable (parts : D → List D) (good : D → Prop)
def tnodes : Nat → D → List D
  | 0, _ => []
  | n + 1, d => d :: (parts d).flatMap (tnodes n)
def twf : Nat → D → Prop
  | 0, _ => False
  | n + 1, d => good d ∧ ∀ p ∈ parts d, twf n p
end
section
variable {parts : D → List D} {good : D → Prop}
theorem fl_congr {f g : D → List D} : ∀ {xs : List D}, (∀ x ∈ xs, f x = g x) → xs.flatMap f = xs.flatMap g
  | [], _ => rfl
  | x :: xs, h => by rw [List.flatMap_cons, List.flatMap_cons, h x (.head _), fl_congr fun y hy => h y (.tail _ hy)]
theorem t_up : ∀ {n : Nat} {d : D}, twf parts good n d → twf parts good (n + 1) d ∧ tnodes parts (n + 1) d = tnodes parts n d
  | 0, _, h => h.elim
  | n + 1, d, ⟨h1, h3⟩ => ⟨⟨h1, fun p hp => (t_up (h3 p hp)).1⟩, by
      show d :: (parts d).flatMap (tnodes parts (n + 1)) = d :: (parts d).flatMap (tnodes parts n)
      rw [fl_congr fun p hp => (t_up (h3 p hp)).2]⟩
theorem t_le {n m : Nat} {d : D} (l : n ≤ m) (h : twf parts good n d) : twf parts good m d ∧ tnodes parts m d = tnodes parts n d := by
  obtain ⟨k, rfl⟩ := Nat.exists_eq_add_of_le l
  clear l
  induction k with
  | zero => exact ⟨h, rfl⟩
  | succ k ih => exact ⟨(t_up ih.1).1, (t_up ih.1).2.trans ih.2⟩
theorem t_ne {n : Nat} {d : D} (h : twf parts good n d) : 1 ≤ (tnodes parts n d).length := by
  cases n with
  | zero => exact h.elim
  | succ n => show 1 ≤ (d :: _).length; simp
theorem t_parts {n : Nat} {d : D} (h : twf parts good n d) : good d ∧ (∀ p ∈ parts d, twf parts good n p) ∧ tnodes parts n d = d :: (parts d).flatMap (tnodes parts n) := by
  cases n with
  | zero => exact h.elim
  | succ n =>
    refine ⟨h.1, fun p hp => (t_up (h.2 p hp)).1, ?_⟩
    show d :: (parts d).flatMap (tnodes parts n) = _
    rw [fl_congr fun p hp => (t_up (h.2 p hp)).2]
theorem fl_le {f : D → List D} {xs : List D} {x : D} (h : x ∈ xs) : (f x).length ≤ (xs.flatMap f).length := by
  induction xs with
  | nil => cases h
  | cons y ys ih =>
    rw [List.flatMap_cons, List.length_append]
    cases h with
    | head => omega
    | tail _ h => have := ih h; omega
theorem fl_ge {f : D → List D} : ∀ {xs : List D}, (∀ x ∈ xs, 1 ≤ (f x).length) → xs.length ≤ (xs.flatMap f).length
  | [], _ => Nat.le_refl _
  | x :: xs, h => by
    rw [List.flatMap_cons, List.length_append, List.length_cons]
    have := h x (.head _)
    have := fl_ge fun y hy => h y (.tail _ hy)
    omega
theorem fl_rev {f : D → List D} : ∀ {xs : List D}, (xs.reverse.flatMap f).length = (xs.flatMap f).length
  | [] => rfl
  | x :: xs => by
    rw [List.reverse_cons, List.flatMap_append, List.length_append, fl_rev, List.flatMap_cons, List.flatMap_cons, List.flatMap_nil, List.append_nil, List.length_append]
    omega
theorem fl_app {f : D → List D} {xs ys : List D} : ((xs ++ ys).flatMap f).length = (xs.flatMap f).length + (ys.flatMap f).length := by rw [List.flatMap_append, List.length_append]
theorem t_mem {n : Nat} {d x : D} (h : twf parts good n d) (hx : x ∈ tnodes parts n d) : twf parts good n x := by
  induction n generalizing d x with
  | zero => exact h.elim
  | succ n ih =>
    have hx' : x ∈ d :: (parts d).flatMap (tnodes parts n) := hx
    rw [List.mem_cons] at hx'
    rcases hx' with rfl | hx'
    · exact h
    · obtain ⟨p, hp, hx'⟩ := List.mem_flatMap.mp hx'
      exact (t_up (ih (h.2 p hp) hx')).1
end
/-! ### leaves of ranges -/
theorem rng_len (m : Int) : (rngD 0 m).length = m.toNat := by simp [rngD]
theorem rng_at {m : Int} {k : Nat} {x : D} (h : (rngD 0 m)[k]? = some x) : x = .int k ∧ (k : Int) < m := by
  unfold rngD at h
  rw [List.getElem?_map] at h
  cases e : (List.range (m - 0).toNat)[k]? with
  | none => rw [e] at h; cases h
  | some j =>
    rw [e] at h
    obtain ⟨h1, h2⟩ := List.getElem?_eq_some_iff.mp e
    rw [List.getElem_range] at h2
    rw [List.length_range] at h1
    subst h2
    cases h
    refine ⟨by simp, by omega⟩
theorem cut_mem {α : Type} {l : List α} {lo hi : Option Int} {x : α} (h : x ∈ cutD l lo hi) : x ∈ l := List.mem_of_mem_drop (List.mem_of_mem_take h)
theorem cut_len {α : Type} {l : List α} {lo hi : Option Int} : (cutD l lo hi).length ≤ l.length := by
  unfold cutD; rw [List.length_take, List.length_drop]; omega
/-! ### names -/
def lowC (c : Nat) : Bool := decide (97 ≤ c) && decide (c ≤ 122)
def nameB (s : Str) : Bool := decide (1 ≤ s.length) && decide (s.length ≤ 8) && s.cps.toList.all lowC
theorem le_chr (a b : Nat) : cmpO .le (.d (.str ⟨#[a]⟩)) (.d (.str ⟨#[b]⟩)) = some (decide (a ≤ b)) := by
  show some (!decide ([b] < [a])) = _
  congr 1
  have : ([b] < [a]) ↔ b < a := by
    rw [List.cons_lt_cons_iff]
    constructor
    · rintro (h | ⟨_, h⟩)
      · exact h
      · exact absurd h (List.not_lt_nil _)
    · exact .inl
  by_cases h : a ≤ b
  · rw [decide_eq_true h, decide_eq_false (fun z => by have := this.mp z; omega)]; rfl
  · rw [decide_eq_false h, decide_eq_true (this.mpr (by omega))]; rfl
theorem allB_map {α : Type} (p : α → Bool) : ∀ xs : List α, allB (xs.map fun c => D.bl (p c)) = some (xs.map p)
  | [] => rfl
  | x :: xs => by simp only [List.map_cons, allB, allB_map p xs]
theorem name_ok {s : Str} (h : nameB s = true) : PyData.strOk s = true := by
  unfold nameB at h
  rw [Bool.and_eq_true, List.all_eq_true] at h
  unfold PyData.strOk
  rw [Array.all_eq_true_iff_forall_mem]
  intro c hc
  have := h.2 c (Array.mem_toList_iff.mpr hc)
  unfold lowC at this
  rw [Bool.and_eq_true, decide_eq_true_eq, decide_eq_true_eq] at this
  exact decide_eq_true (by omega)
end Ev
end

section
set_option Elab.async false
set_option linter.all false
set_option maxRecDepth 100000
open PySem
namespace Ev
open L2
def lp_is_name_1 : E := .lc (.chn .le .le (.str "a") (.v 1) (.str "z")) (.one 1) (.val (.v 0)) .none
/-- is_name: thing, letter -/
def fd_is_name : FD := ⟨1, 2, (.cons (.ifs (.or (.not (.isi (.v 0) .str)) (.not (.chn .le .le (.int 1) (.bi .len (.v 0)) (.g 0)))) (.cons (.ret (.bl false)) .nil) .nil) (.cons (.ret (.bi .all lp_is_name_1)) .nil))⟩
def lp_is_form_name_1 : E := .lc (.chn .le .le (.str "a") (.v 1) (.str "z")) (.one 1) (.val (.sl (.v 0) (.some (.int 1)) .none)) .none
/-- is_form_name: thing, letter -/
def fd_is_form_name : FD := ⟨1, 2, (.cons (.ifs (.or (.not (.isi (.v 0) .str)) (.not (.chn .le .le (.int 1) (.bi .len (.v 0)) (.g 0)))) (.cons (.ret (.bl false)) .nil) .nil) (.cons (.ret (.and (.chn .le .le (.str "A") (.ix (.v 0) (.int 0)) (.str "Z")) (.bi .all lp_is_form_name_1))) .nil))⟩
/-- arm_text: arm, form, names, expression -/
def fd_arm_text : FD := ⟨1, 4, (.cons (.unp [1, 2, 3] (.v 0)) (.cons (.ret (.bin .add (.bin .add (.bin .add (.bin .add (.v 1) (.str "(")) (.join (.str ", ") (.v 2))) (.str ") ")) (.call 3 (.val (.v 3) .nil)))) .nil))⟩
def lp_expression_text_1 : E := .lc (.call 3 (.val (.v 4) .nil)) (.one 4) (.val (.ix (.v 0) (.int 2))) .none
def lp_expression_text_2 : E := .lc (.call 2 (.val (.v 3) .nil)) (.one 3) (.val (.ix (.v 0) (.int 2))) .none
/-- expression_text: expression, sort, arms, arm, arg -/
def fd_expression_text : FD := ⟨1, 5, (.cons (.set 1 (.ix (.v 0) (.int 0))) (.cons (.ifs (.cmp .eq (.v 1) (.str "number")) (.cons (.ret (.bi .str (.ix (.v 0) (.int 1)))) .nil) .nil) (.cons (.ifs (.cmp .eq (.v 1) (.str "name")) (.cons (.ret (.ix (.v 0) (.int 1))) .nil) .nil) (.cons (.ifs (.cmp .eq (.v 1) (.str "case")) (.cons (.set 2 (.join (.str "; ") lp_expression_text_2)) (.cons (.ret (.bin .add (.bin .add (.bin .add (.bin .add (.str "[") (.call 3 (.val (.ix (.v 0) (.int 1)) .nil))) (.str ": ")) (.v 2)) (.str "]"))) .nil)) .nil) (.cons (.ret (.bin .add (.bin .add (.bin .add (.ix (.v 0) (.int 1)) (.str "(")) (.join (.str ", ") lp_expression_text_1)) (.str ")"))) .nil)))))⟩
/-- Reader.__init__: self, text -/
def fd_Reader___init__ : FD := ⟨2, 2, (.cons (.setf 0 0 0 (.v 1)) (.cons (.setf 0 0 1 (.int 0)) .nil))⟩
/-- Reader.meets: self, words -/
def fd_Reader_meets : FD := ⟨2, 2, (.cons (.ifs (.cmp .ne (.sl (.fld 0 0 0) (.some (.fld 0 0 1)) (.some (.bin .add (.fld 0 0 1) (.bi .len (.v 1))))) (.v 1)) (.cons (.ret (.bl false)) .nil) .nil) (.cons (.augf 0 0 1 .add (.bi .len (.v 1))) (.cons (.ret (.bl true)) .nil)))⟩
/-- Reader.must: self, words -/
def fd_Reader_must : FD := ⟨2, 2, (.cons (.ifs (.not (.meth 0 5 0 (.val (.v 1) .nil))) (.cons (.raise 4 .non) .nil) .nil) .nil)⟩
def lp_Reader_run_1 : S := .whl (.and (.cmp .lt (.fld 0 0 1) (.bi .len (.fld 0 0 0))) (.cmp .isin (.ix (.fld 0 0 0) (.fld 0 0 1)) (.v 1))) (.cons (.augf 0 0 1 .add (.int 1)) .nil)
/-- Reader.run: self, signs, begin -/
def fd_Reader_run : FD := ⟨2, 3, (.cons (.set 2 (.fld 0 0 1)) (.cons lp_Reader_run_1 (.cons (.ret (.sl (.fld 0 0 0) (.some (.v 2)) (.some (.fld 0 0 1)))) .nil)))⟩
/-- Reader.whole_number: self, sign, figures -/
def fd_Reader_whole_number : FD := ⟨1, 3, (.cons (.set 1 (.int 1)) (.cons (.ifs (.meth 0 5 0 (.val (.str "-") .nil)) (.cons (.set 1 (.neg (.int 1))) .nil) .nil) (.cons (.set 2 (.meth 0 7 0 (.val (.g 1) .nil))) (.cons (.ifs (.not (.chn .le .le (.int 1) (.bi .len (.v 2)) (.g 3))) (.cons (.raise 4 .non) .nil) .nil) (.cons (.ret (.bin .mul (.v 1) (.bi .int (.v 2)))) .nil)))))⟩
/-- Reader.goes_on: self, found -/
def fd_Reader_goes_on : FD := ⟨2, 2, (.cons (.ifs (.and (.snap (.cmp .eq (.v 1) (.lst .nil))) (.not (.meth 0 5 0 (.val (.str ")") .nil)))) (.cons (.ret (.bl true)) .nil) .nil) (.cons (.ifs (.or (.snap (.cmp .eq (.v 1) (.lst .nil))) (.meth 0 5 0 (.val (.str ")") .nil))) (.cons (.ret (.bl false)) .nil) .nil) (.cons (.ex (.meth 0 6 0 (.val (.str ", ") .nil))) (.cons (.ifs (.snap (.cmp .eq (.bi .len (.v 1)) (.g 4))) (.cons (.raise 4 .non) .nil) .nil) (.cons (.ret (.bl true)) .nil)))))⟩
def lp_Reader_given_1 : S := .whl (.meth 0 9 0 (.lend 1 .nil)) (.cons (.app 1 (.meth 0 15 0 .nil)) .nil)
/-- Reader.given: self, found -/
def fd_Reader_given : FD := ⟨1, 2, (.cons (.set 1 (.lst .nil)) (.cons lp_Reader_given_1 (.cons (.retv 1) .nil)))⟩
def lp_Reader_names_1 : S := .whl (.meth 0 9 0 (.lend 1 .nil)) (.cons (.app 1 (.meth 0 12 0 .nil)) .nil)
/-- Reader.names: self, found -/
def fd_Reader_names : FD := ⟨1, 2, (.cons (.set 1 (.lst .nil)) (.cons lp_Reader_names_1 (.cons (.ifs (.snap (.cmp .ne (.lset (.v 1)) (.bi .len (.v 1)))) (.cons (.raise 4 .non) .nil) .nil) (.cons (.retv 1) .nil))))⟩
/-- Reader.name: self, word -/
def fd_Reader_name : FD := ⟨1, 2, (.cons (.set 1 (.meth 0 7 0 (.val (.g 2) .nil))) (.cons (.ifs (.not (.call 0 (.val (.v 1) .nil))) (.cons (.raise 4 .non) .nil) .nil) (.cons (.retv 1) .nil)))⟩
/-- Reader.arm: self, form, names -/
def fd_Reader_arm : FD := ⟨1, 3, (.cons (.set 1 (.meth 0 7 0 (.val (.g 2) .nil))) (.cons (.ifs (.not (.call 1 (.val (.v 1) .nil))) (.cons (.raise 4 .non) .nil) .nil) (.cons (.ex (.meth 0 6 0 (.val (.str "(") .nil))) (.cons (.set 2 (.meth 0 11 0 .nil)) (.cons (.ex (.meth 0 6 0 (.val (.str " ") .nil))) (.cons (.ret (.tup (.cons (.v 1) (.cons (.bi .tuple (.v 2)) (.cons (.meth 0 15 0 .nil) .nil))))) .nil))))))⟩
def lp_Reader_case_1 : S := .whl (.meth 0 5 0 (.val (.str "; ") .nil)) (.cons (.app 2 (.meth 0 13 0 .nil)) .nil)
/-- Reader.case: self, inner, arms -/
def fd_Reader_case : FD := ⟨1, 3, (.cons (.set 1 (.meth 0 15 0 .nil)) (.cons (.ex (.meth 0 6 0 (.val (.str ": ") .nil))) (.cons (.set 2 (.lst (.cons (.meth 0 13 0 .nil) .nil))) (.cons lp_Reader_case_1 (.cons (.ex (.meth 0 6 0 (.val (.str "]") .nil))) (.cons (.ifs (.snap (.cmp .gt (.bi .len (.v 2)) (.g 5))) (.cons (.raise 4 .non) .nil) .nil) (.cons (.ret (.tup (.cons (.str "case") (.cons (.v 1) (.cons (.bi .tuple (.v 2)) .nil))))) .nil)))))))⟩
/-- Reader.expression: self, word, args -/
def fd_Reader_expression : FD := ⟨1, 3, (.cons (.ifs (.and (.cmp .lt (.fld 0 0 1) (.bi .len (.fld 0 0 0))) (.cmp .isin (.ix (.fld 0 0 0) (.fld 0 0 1)) (.str "-0123456789"))) (.cons (.ret (.tup (.cons (.str "number") (.cons (.meth 0 8 0 .nil) .nil)))) .nil) .nil) (.cons (.ifs (.meth 0 5 0 (.val (.str "[") .nil)) (.cons (.ret (.meth 0 14 0 .nil)) .nil) .nil) (.cons (.set 1 (.meth 0 7 0 (.val (.g 2) .nil))) (.cons (.ifs (.meth 0 5 0 (.val (.str "(") .nil)) (.cons (.set 2 (.bi .tuple (.meth 0 10 0 .nil))) (.cons (.ifs (.call 1 (.val (.v 1) .nil)) (.cons (.ret (.tup (.cons (.str "form") (.cons (.v 1) (.cons (.v 2) .nil))))) .nil) .nil) (.cons (.ifs (.call 0 (.val (.v 1) .nil)) (.cons (.ret (.tup (.cons (.str "call") (.cons (.v 1) (.cons (.v 2) .nil))))) .nil) .nil) (.cons (.raise 4 .non) .nil)))) .nil) (.cons (.ifs (.call 0 (.val (.v 1) .nil)) (.cons (.ret (.tup (.cons (.str "name") (.cons (.v 1) .nil)))) .nil) .nil) (.cons (.raise 4 .non) .nil))))))⟩
/-- read_expression: text, reader, expression -/
def fd_read_expression : FD := ⟨1, 3, (.cons (.ifs (.not (.isi (.v 0) .str)) (.cons (.raise 4 .non) .nil) .nil) (.cons (.set 1 (.new 0 4 (.val (.v 0) .nil))) (.cons (.set 2 (.meth 0 15 1 .nil)) (.cons (.ifs (.cmp .ne (.call 3 (.val (.v 2) .nil)) (.v 0)) (.cons (.raise 4 .non) .nil) .nil) (.cons (.retv 2) .nil)))))⟩
/-- _law_cell_at: _law_script, _law_k -/
def fd_law_cell_at : FD := ⟨2, 2, (.cons (.ifs (.cmp .lt (.v 1) (.bi .len (.v 0))) (.cons (.ret (.bin .mod (.ix (.v 0) (.v 1)) (.bin .pow (.int 10) (.int 30)))) .nil) .nil) (.cons (.ret (.int 0)) .nil))⟩
def lp_law_names_1 : E := .lc (.bin .add (.bin .add (.sl (.v 2) .none (.some (.v 4))) (.ix (.v 1) (.bin .mod (.bin .add (.bin .fdiv (.v 0) (.int 512)) (.v 3)) (.int 26)))) (.sl (.v 2) (.some (.v 4)) .none)) (.one 3) (.rng (.int 6)) .none
def lp_law_names_2 : S := .for_ (.one 3) (.rng (.bin .mod (.v 0) (.int 8))) (.cons (.set 2 (.bin .add (.v 2) (.ix (.v 1) (.bin .mod (.bin .fdiv (.v 0) (.bin .add (.int 8) (.bin .mul (.int 3) (.v 3)))) (.int 26))))) .nil)
/-- _law_names: _law_cell, _law_some, _law_stem, _law_k, _law_at -/
def fd_law_names : FD := ⟨1, 5, (.cons (.set 1 (.str "abcdefghijklmnopqrstuvwxyz")) (.cons (.set 2 (.str "")) (.cons lp_law_names_2 (.cons (.set 4 (.bin .mod (.bin .fdiv (.v 0) (.int 64)) (.bin .add (.bi .len (.v 2)) (.int 1)))) (.cons (.ret lp_law_names_1) .nil)))))⟩
def lp_law_forms_1 : E := .lc (.bin .add (.bin .add (.v 6) (.ix (.v 1) (.bin .mod (.bin .add (.bin .fdiv (.v 0) (.int 512)) (.v 4)) (.int 26)))) (.sl (.v 3) (.some (.v 5)) .none)) (.one 4) (.rng (.int 6)) .none
def lp_law_forms_2 : S := .for_ (.one 4) (.rng (.bin .mod (.bin .fdiv (.v 0) (.int 2)) (.int 7))) (.cons (.set 3 (.bin .add (.v 3) (.ix (.v 1) (.bin .mod (.bin .fdiv (.v 0) (.bin .add (.int 14) (.bin .mul (.int 5) (.v 4)))) (.int 26))))) .nil)
def lp_law_forms_3 : E := .lc (.ix (.v 2) (.bin .mod (.bin .add (.bin .fdiv (.v 0) (.int 2)) (.v 4)) (.int 26))) (.one 4) (.rng (.int 6)) .none
/-- _law_forms: _law_cell, _law_some, _law_great, _law_stem, _law_k, _law_at, _law_first -/
def fd_law_forms : FD := ⟨1, 7, (.cons (.set 1 (.str "abcdefghijklmnopqrstuvwxyz")) (.cons (.set 2 (.str "ABCDEFGHIJKLMNOPQRSTUVWXYZ")) (.cons (.ifs (.cmp .eq (.bin .mod (.v 0) (.int 2)) (.int 0)) (.cons (.ret lp_law_forms_3) .nil) .nil) (.cons (.set 3 (.str "")) (.cons lp_law_forms_2 (.cons (.set 5 (.bin .mod (.bin .fdiv (.v 0) (.int 64)) (.bin .add (.bi .len (.v 3)) (.int 1)))) (.cons (.set 6 (.bin .add (.ix (.v 2) (.bin .mod (.bin .fdiv (.v 0) (.int 3)) (.int 26))) (.sl (.v 3) .none (.some (.v 5))))) (.cons (.ret lp_law_forms_1) .nil))))))))⟩
/-- _law_next: _law_cells -/
def fd_law_next : FD := ⟨1, 1, (.cons (.ifs (.snap (.cmp .eq (.v 0) (.lst .nil))) (.cons (.ret (.int 0)) .nil) .nil) (.cons (.ret (.pop 0)) .nil))⟩
/-- _law_number: _law_cell -/
def fd_law_number : FD := ⟨1, 1, (.cons (.ret (.ix (.lst (.cons (.bin .mod (.v 0) (.int 10)) (.cons (.bin .sub (.int 0) (.bin .mod (.v 0) (.bin .pow (.int 10) (.int 60)))) (.cons (.bin .mod (.v 0) (.bin .pow (.int 10) (.int 60))) (.cons (.bin .sub (.bin .sub (.bin .pow (.int 10) (.int 60)) (.int 1)) (.bin .mod (.v 0) (.int 2))) .nil))))) (.bin .mod (.v 0) (.int 4)))) .nil)⟩
def lp_law_any_1 : S := .for_ (.one 8) (.rng (.bin .add (.int 1) (.bin .mod (.bin .fdiv (.v 4) (.int 6)) (.int 4)))) (.cons (.set 11 (.sl (.sl (.v 1) (.some (.bin .mod (.bin .fdiv (.v 4) (.int 24)) (.int 4))) .none) .none (.some (.bin .mod (.bin .add (.bin .fdiv (.v 4) (.int 96)) (.v 8)) (.int 4))))) (.cons (.app 7 (.tup (.cons (.ix (.v 2) (.bin .mod (.bin .add (.bin .fdiv (.v 4) (.int 400)) (.v 8)) (.int 6))) (.cons (.bi .tuple (.v 11)) (.cons (.call 22 (.lend 0 (.val (.v 1) (.val (.v 2) (.val (.bin .sub (.v 3) (.int 1)) .nil))))) .nil))))) .nil))
def lp_law_any_2 : E := .lc (.call 22 (.lend 0 (.val (.v 1) (.val (.v 2) (.val (.bin .sub (.v 3) (.int 1)) .nil))))) (.one 8) (.rng (.v 9)) .none
/-- _law_any: _law_cells, _law_names_here, _law_forms_here, _law_depth, _law_cell, _law_way, _law_inner, _law_arms, _law_k, _law_many, _law_args, _law_some -/
def fd_law_any : FD := ⟨4, 12, (.cons (.set 4 (.call 20 (.lend 0 .nil))) (.cons (.set 5 (.bin .mod (.v 4) (.int 6))) (.cons (.ifs (.or (.cmp .eq (.v 3) (.int 0)) (.cmp .lt (.v 5) (.int 2))) (.cons (.ret (.ix (.lst (.cons (.tup (.cons (.str "number") (.cons (.call 21 (.val (.bin .fdiv (.v 4) (.int 6)) .nil)) .nil))) (.cons (.tup (.cons (.str "name") (.cons (.ix (.v 1) (.bin .mod (.bin .fdiv (.v 4) (.int 6)) (.int 6))) .nil))) .nil))) (.bin .mod (.bin .fdiv (.v 4) (.int 36)) (.int 2)))) .nil) .nil) (.cons (.ifs (.cmp .lt (.v 5) (.int 5)) (.cons (.set 9 (.ix (.lst (.cons (.bin .mod (.bin .fdiv (.v 4) (.int 6)) (.int 4)) (.cons (.int 3) (.cons (.int 1) (.cons (.int 0) .nil))))) (.bin .mod (.bin .fdiv (.v 4) (.int 24)) (.int 4)))) (.cons (.set 10 (.bi .tuple lp_law_any_2)) (.cons (.ifs (.cmp .eq (.bin .mod (.v 5) (.int 2)) (.int 0)) (.cons (.ret (.tup (.cons (.str "form") (.cons (.ix (.v 2) (.bin .mod (.bin .fdiv (.v 4) (.int 100)) (.int 6))) (.cons (.v 10) .nil))))) .nil) .nil) (.cons (.ret (.tup (.cons (.str "call") (.cons (.ix (.v 1) (.bin .mod (.bin .fdiv (.v 4) (.int 100)) (.int 6))) (.cons (.v 10) .nil))))) .nil)))) .nil) (.cons (.set 6 (.call 22 (.lend 0 (.val (.v 1) (.val (.v 2) (.val (.bin .sub (.v 3) (.int 1)) .nil)))))) (.cons (.set 7 (.lst .nil)) (.cons lp_law_any_1 (.cons (.ret (.tup (.cons (.str "case") (.cons (.v 6) (.cons (.bi .tuple (.v 7)) .nil))))) .nil))))))))⟩
def lp_law_same_1 : E := .lc (.call 23 (.val (.ix (.v 0) (.v 2)) (.val (.ix (.v 1) (.v 2)) .nil))) (.one 2) (.rng (.bi .len (.v 1))) .none
/-- _law_same: _law_found, _law_due, _law_k -/
def fd_law_same : FD := ⟨2, 3, (.cons (.ifs (.isi (.v 1) .tuple) (.cons (.ifs (.or (.not (.isi (.v 0) .tuple)) (.cmp .ne (.bi .len (.v 0)) (.bi .len (.v 1)))) (.cons (.ret (.bl false)) .nil) .nil) (.cons (.ret (.bi .all lp_law_same_1)) .nil)) .nil) (.cons (.ifs (.isi (.v 1) .str) (.cons (.ret (.and (.isi (.v 0) .str) (.cmp .eq (.v 0) (.v 1)))) .nil) .nil) (.cons (.ret (.and (.isi (.v 0) .int) (.and (.not (.isi (.v 0) .bool)) (.cmp .eq (.v 0) (.v 1))))) .nil)))⟩
def lp_law_text_1 : S := .for_ (.many [2, 3, 4]) (.val (.ix (.v 0) (.int 2))) (.cons (.app 1 (.bin .add (.bin .add (.bin .add (.bin .add (.v 2) (.str "(")) (.join (.str ", ") (.v 3))) (.str ") ")) (.call 24 (.val (.v 4) .nil)))) .nil)
def lp_law_text_2 : E := .lc (.call 24 (.val (.v 5) .nil)) (.one 5) (.val (.ix (.v 0) (.int 2))) .none
/-- _law_text: _law_one, _law_arms, _law_form, _law_names_here, _law_inner, _law_arg -/
def fd_law_text : FD := ⟨1, 6, (.cons (.ifs (.cmp .eq (.ix (.v 0) (.int 0)) (.str "number")) (.cons (.ret (.bi .str (.ix (.v 0) (.int 1)))) .nil) .nil) (.cons (.ifs (.cmp .eq (.ix (.v 0) (.int 0)) (.str "name")) (.cons (.ret (.ix (.v 0) (.int 1))) .nil) .nil) (.cons (.ifs (.cmp .ne (.ix (.v 0) (.int 0)) (.str "case")) (.cons (.ret (.bin .add (.bin .add (.bin .add (.ix (.v 0) (.int 1)) (.str "(")) (.join (.str ", ") lp_law_text_2)) (.str ")"))) .nil) .nil) (.cons (.set 1 (.lst .nil)) (.cons lp_law_text_1 (.cons (.ret (.bin .add (.bin .add (.bin .add (.bin .add (.str "[") (.call 24 (.val (.ix (.v 0) (.int 1)) .nil))) (.str ": ")) (.join (.str "; ") (.v 1))) (.str "]"))) .nil))))))⟩
/-- _law_spoilt: _law_text_here, _law_cell, _law_signs, _law_at, _law_sign -/
def fd_law_spoilt : FD := ⟨2, 5, (.cons (.set 2 (.str "(), ;:[]-012abzAYZ =\t")) (.cons (.set 3 (.bin .mod (.bin .fdiv (.v 1) (.int 3)) (.bin .add (.bi .len (.v 0)) (.int 1)))) (.cons (.set 4 (.ix (.v 2) (.bin .mod (.bin .fdiv (.v 1) (.int 3000)) (.int 21)))) (.cons (.ifs (.cmp .eq (.bin .mod (.v 1) (.int 3)) (.int 0)) (.cons (.ret (.bin .add (.sl (.v 0) .none (.some (.v 3))) (.sl (.v 0) (.some (.bin .add (.v 3) (.int 1))) .none))) .nil) .nil) (.cons (.ifs (.cmp .eq (.bin .mod (.v 1) (.int 3)) (.int 1)) (.cons (.ret (.bin .add (.bin .add (.sl (.v 0) .none (.some (.v 3))) (.v 4)) (.sl (.v 0) (.some (.v 3)) .none))) .nil) .nil) (.cons (.ret (.bin .add (.bin .add (.sl (.v 0) .none (.some (.v 3))) (.v 4)) (.sl (.v 0) (.some (.bin .add (.v 3) (.int 1))) .none))) .nil))))))⟩
def lp_law_is_name_1 : E := .lc (.chn .le .le (.str "a") (.v 1) (.str "z")) (.one 1) (.val (.v 0)) .none
/-- _law_is_name: _law_word, _law_letter -/
def fd_law_is_name : FD := ⟨1, 2, (.cons (.ifs (.or (.not (.isi (.v 0) .str)) (.not (.chn .le .le (.int 1) (.bi .len (.v 0)) (.int 8)))) (.cons (.ret (.bl false)) .nil) .nil) (.cons (.ret (.bi .all lp_law_is_name_1)) .nil))⟩
/-- _law_is_form: _law_word -/
def fd_law_is_form : FD := ⟨1, 1, (.cons (.ifs (.or (.not (.isi (.v 0) .str)) (.or (.not (.chn .le .le (.int 1) (.bi .len (.v 0)) (.int 8))) (.not (.chn .le .le (.str "A") (.ix (.v 0) (.int 0)) (.str "Z"))))) (.cons (.ret (.bl false)) .nil) .nil) (.cons (.ret (.or (.cmp .eq (.bi .len (.v 0)) (.int 1)) (.call 26 (.val (.sl (.v 0) (.some (.int 1)) .none) .nil)))) .nil))⟩
def lp_law_is_arm_1 : E := .lc (.call 26 (.val (.v 1) .nil)) (.one 1) (.val (.ix (.v 0) (.int 1))) .none
/-- _law_is_arm: _law_arm, _law_name -/
def fd_law_is_arm : FD := ⟨1, 2, (.cons (.ifs (.or (.not (.isi (.v 0) .tuple)) (.or (.cmp .ne (.bi .len (.v 0)) (.int 3)) (.or (.not (.call 27 (.val (.ix (.v 0) (.int 0)) .nil))) (.not (.isi (.ix (.v 0) (.int 1)) .tuple))))) (.cons (.ret (.bl false)) .nil) .nil) (.cons (.ifs (.or (.cmp .gt (.bi .len (.ix (.v 0) (.int 1))) (.int 3)) (.or (.cmp .ne (.lset (.ix (.v 0) (.int 1))) (.bi .len (.ix (.v 0) (.int 1)))) (.not (.bi .all lp_law_is_arm_1)))) (.cons (.ret (.bl false)) .nil) .nil) (.cons (.ret (.call 29 (.val (.ix (.v 0) (.int 2)) .nil))) .nil)))⟩
def lp_law_is_one_1 : E := .lc (.call 29 (.val (.v 2) .nil)) (.one 2) (.val (.ix (.v 0) (.int 2))) .none
def lp_law_is_one_2 : E := .lc (.call 28 (.val (.v 3) .nil)) (.one 3) (.val (.ix (.v 0) (.int 2))) .none
/-- _law_is_one: _law_one, _law_named, _law_arg, _law_arm -/
def fd_law_is_one : FD := ⟨1, 4, (.cons (.ifs (.or (.not (.isi (.v 0) .tuple)) (.or (.not (.chn .le .le (.int 2) (.bi .len (.v 0)) (.int 3))) (.cmp .notin (.ix (.v 0) (.int 0)) (.lst (.cons (.str "number") (.cons (.str "name") (.cons (.str "form") (.cons (.str "call") (.cons (.str "case") .nil))))))))) (.cons (.ret (.bl false)) .nil) .nil) (.cons (.ifs (.cmp .eq (.ix (.v 0) (.int 0)) (.str "number")) (.cons (.ret (.and (.cmp .eq (.bi .len (.v 0)) (.int 2)) (.and (.isi (.ix (.v 0) (.int 1)) .int) (.and (.not (.isi (.ix (.v 0) (.int 1)) .bool)) (.cmp .lt (.bi .abs (.ix (.v 0) (.int 1))) (.bin .pow (.int 10) (.int 60))))))) .nil) .nil) (.cons (.ifs (.cmp .eq (.ix (.v 0) (.int 0)) (.str "name")) (.cons (.ret (.and (.cmp .eq (.bi .len (.v 0)) (.int 2)) (.call 26 (.val (.ix (.v 0) (.int 1)) .nil)))) .nil) .nil) (.cons (.ifs (.or (.cmp .ne (.bi .len (.v 0)) (.int 3)) (.not (.isi (.ix (.v 0) (.int 2)) .tuple))) (.cons (.ret (.bl false)) .nil) .nil) (.cons (.ifs (.cmp .eq (.ix (.v 0) (.int 0)) (.str "case")) (.cons (.ret (.and (.call 29 (.val (.ix (.v 0) (.int 1)) .nil)) (.and (.chn .le .le (.int 1) (.bi .len (.ix (.v 0) (.int 2))) (.int 4)) (.bi .all lp_law_is_one_2)))) .nil) .nil) (.cons (.set 1 (.call 26 (.val (.ix (.v 0) (.int 1)) .nil))) (.cons (.ifs (.cmp .eq (.ix (.v 0) (.int 0)) (.str "form")) (.cons (.set 1 (.call 27 (.val (.ix (.v 0) (.int 1)) .nil))) .nil) .nil) (.cons (.ret (.and (.v 1) (.and (.cmp .le (.bi .len (.ix (.v 0) (.int 2))) (.int 3)) (.bi .all lp_law_is_one_1)))) .nil))))))))⟩
def lp_law_read_1 : S := .try_ (.cons (.set 1 (.call 16 (.val (.v 0) .nil))) .nil) (.cons [0] (some 3) (.cons (.setb 2 (.and (.isx [4]) (.and (.isx [5]) .pln))) (.cons (.setb 2 (.and (.v 2) (.not (.isx [1, 3, 2])))) .nil)) .nil) .nil
/-- _law_read: _law_text_here, _law_found, _law_good, e -/
def fd_law_read : FD := ⟨1, 4, (.cons (.set 1 .non) (.cons (.set 2 (.bl true)) (.cons lp_law_read_1 (.cons (.ret (.tup (.cons (.v 2) (.cons (.v 1) .nil)))) .nil))))⟩
def lp_law_1 : S := .for_ (.one 5) (.val (.bin .add (.v 4) (.lst (.cons .non (.cons (.int 7) (.cons (.tup (.cons (.str "name") (.cons (.str "a") .nil))) (.cons (.lst .nil) (.cons (.lst (.cons (.str "a") .nil)) .nil)))))))) (.cons (.unp [10, 11] (.call 30 (.val (.v 5) .nil))) (.cons (.ifs (.or (.not (.v 10)) (.cmp .isnot (.v 11) .non)) (.cons (.ret (.bl false)) .nil) .nil) .nil))
def lp_law_2 : S := .for_ (.one 8) (.val (.sl (.v 6) .none (.some (.int 3)))) (.cons (.set 9 (.call 25 (.val (.v 5) (.val (.v 8) .nil)))) (.cons (.unp [10, 11] (.call 30 (.val (.v 9) .nil))) (.cons (.ifs (.or (.not (.v 10)) (.and (.cmp .isnot (.v 11) .non) (.or (.not (.call 29 (.val (.v 11) .nil))) (.cmp .ne (.call 24 (.val (.v 11) .nil)) (.v 9))))) (.cons (.ret (.bl false)) .nil) .nil) .nil)))
def lp_law_3 : E := .lc (.call 17 (.val (.v 0) (.val (.bin .add (.v 3) (.v 12)) .nil))) (.one 12) (.rng (.int 10)) .none
def lp_law_4 : S := .for_ (.one 3) (.rng3 (.int 2) (.bin .add (.int 3) (.bi2 .min (.bi .len (.v 0)) (.int 30))) 10) (.cons (.set 6 lp_law_3) (.cons (.set 7 (.callT 22 (.sl (.v 6) (.some (.int 3)) .none) (.val (.v 1) (.val (.v 2) (.val (.int 3) .nil))))) (.cons (.set 5 (.call 24 (.val (.v 7) .nil))) (.cons lp_law_2 (.cons (.ifs (.not (.call 23 (.val (.call 16 (.val (.v 5) .nil)) (.val (.v 7) .nil)))) (.cons (.ret (.bl false)) .nil) .nil) .nil)))))
/-- law: _law_script, _law_names_here, _law_forms_here, _law_at, _law_odd, _law_text_here, _law_cells, _law_one, _law_cell, _law_bad, _law_good, _law_told, _law_k -/
def fd_law : FD := ⟨1, 13, (.cons (.set 1 (.call 18 (.val (.call 17 (.val (.v 0) (.val (.int 0) .nil))) .nil))) (.cons (.set 2 (.call 19 (.val (.call 17 (.val (.v 0) (.val (.int 1) .nil))) .nil))) (.cons lp_law_4 (.cons (.set 4 (.lst (.cons (.str "") (.cons (.str " ") (.cons (.str "00") (.cons (.str "01") (.cons (.str "-0") (.cons (.str "-") (.cons (.str "--1") (.cons (.bin .mul (.str "1") (.int 61)) (.cons (.str "A") (.cons (.str "a b") (.cons (.str "a(") (.cons (.str "a(b") (.cons (.str "a(b,c)") (.cons (.str "a(b,  c)") (.cons (.str "F(a))") .nil))))))))))))))))) (.cons (.set 4 (.bin .add (.v 4) (.lst (.cons (.str "[a: F() b") (.cons (.str "[a F() b]") (.cons (.str "[a: F b]") (.cons (.str "[a: F(x, x) b]") (.cons (.str "[a: F()b]") (.cons (.str "[a: ]") (.cons (.str "[a: F() b;G() c]") .nil)))))))))) (.cons (.set 4 (.bin .add (.v 4) (.lst (.cons (.str "f(a, b, c, d)") (.cons (.str "F(a, b, c, d)") (.cons (.str "[a: f() b]") (.cons (.str "[a: F(X) b]") .nil))))))) (.cons lp_law_1 (.cons (.ret (.bl true)) .nil))))))))⟩
def pgG : Gs := ⟨[.int 8, .str "0123456789", .str "abcdefghijklmnopqrstuvwxyzABCDEFGHIJKLMNOPQRSTUVWXYZ", .int 60, .int 3, .int 4], [[true, false, false, false, false, true], [true, true, false, false, false, true], [true, false, true, false, false, true], [true, false, false, true, false, true], [true, false, false, false, true, true]]⟩
def pg (W : Nat) : Pg := ⟨[fd_is_name, fd_is_form_name, fd_arm_text, fd_expression_text, fd_Reader___init__, fd_Reader_meets, fd_Reader_must, fd_Reader_run, fd_Reader_whole_number, fd_Reader_goes_on, fd_Reader_given, fd_Reader_names, fd_Reader_name, fd_Reader_arm, fd_Reader_case, fd_Reader_expression, fd_read_expression, fd_law_cell_at, fd_law_names, fd_law_forms, fd_law_next, fd_law_number, fd_law_any, fd_law_same, fd_law_text, fd_law_spoilt, fd_law_is_name, fd_law_is_form, fd_law_is_arm, fd_law_is_one, fd_law_read, fd_law], pgG, W⟩
@[simp] theorem pg_G {W : Nat} : (pg W).G = pgG := rfl
@[simp] theorem pg_W {W : Nat} : (pg W).W = W := rfl
@[simp] theorem pgG_con : pgG.con = [.int 8, .str "0123456789", .str "abcdefghijklmnopqrstuvwxyzABCDEFGHIJKLMNOPQRSTUVWXYZ", .int 60, .int 3, .int 4] := rfl
@[simp] theorem pgG_xt : pgG.xt = [[true, false, false, false, false, true], [true, true, false, false, false, true], [true, false, true, false, false, true], [true, false, false, true, false, true], [true, false, false, false, true, true]] := rfl
theorem cn_is_name {W n : Nat} {os : List O} : callN (pg W) (n + 1) 0 os = runF (callN (pg W) n) (pg W) fd_is_name os := rfl
theorem cn_is_form_name {W n : Nat} {os : List O} : callN (pg W) (n + 1) 1 os = runF (callN (pg W) n) (pg W) fd_is_form_name os := rfl
theorem cn_arm_text {W n : Nat} {os : List O} : callN (pg W) (n + 1) 2 os = runF (callN (pg W) n) (pg W) fd_arm_text os := rfl
theorem cn_expression_text {W n : Nat} {os : List O} : callN (pg W) (n + 1) 3 os = runF (callN (pg W) n) (pg W) fd_expression_text os := rfl
theorem cn_Reader___init__ {W n : Nat} {os : List O} : callN (pg W) (n + 1) 4 os = runF (callN (pg W) n) (pg W) fd_Reader___init__ os := rfl
theorem cn_Reader_meets {W n : Nat} {os : List O} : callN (pg W) (n + 1) 5 os = runF (callN (pg W) n) (pg W) fd_Reader_meets os := rfl
theorem cn_Reader_must {W n : Nat} {os : List O} : callN (pg W) (n + 1) 6 os = runF (callN (pg W) n) (pg W) fd_Reader_must os := rfl
theorem cn_Reader_run {W n : Nat} {os : List O} : callN (pg W) (n + 1) 7 os = runF (callN (pg W) n) (pg W) fd_Reader_run os := rfl
theorem cn_Reader_whole_number {W n : Nat} {os : List O} : callN (pg W) (n + 1) 8 os = runF (callN (pg W) n) (pg W) fd_Reader_whole_number os := rfl
theorem cn_Reader_goes_on {W n : Nat} {os : List O} : callN (pg W) (n + 1) 9 os = runF (callN (pg W) n) (pg W) fd_Reader_goes_on os := rfl
theorem cn_Reader_given {W n : Nat} {os : List O} : callN (pg W) (n + 1) 10 os = runF (callN (pg W) n) (pg W) fd_Reader_given os := rfl
theorem cn_Reader_names {W n : Nat} {os : List O} : callN (pg W) (n + 1) 11 os = runF (callN (pg W) n) (pg W) fd_Reader_names os := rfl
theorem cn_Reader_name {W n : Nat} {os : List O} : callN (pg W) (n + 1) 12 os = runF (callN (pg W) n) (pg W) fd_Reader_name os := rfl
theorem cn_Reader_arm {W n : Nat} {os : List O} : callN (pg W) (n + 1) 13 os = runF (callN (pg W) n) (pg W) fd_Reader_arm os := rfl
theorem cn_Reader_case {W n : Nat} {os : List O} : callN (pg W) (n + 1) 14 os = runF (callN (pg W) n) (pg W) fd_Reader_case os := rfl
theorem cn_Reader_expression {W n : Nat} {os : List O} : callN (pg W) (n + 1) 15 os = runF (callN (pg W) n) (pg W) fd_Reader_expression os := rfl
theorem cn_read_expression {W n : Nat} {os : List O} : callN (pg W) (n + 1) 16 os = runF (callN (pg W) n) (pg W) fd_read_expression os := rfl
theorem cn_law_cell_at {W n : Nat} {os : List O} : callN (pg W) (n + 1) 17 os = runF (callN (pg W) n) (pg W) fd_law_cell_at os := rfl
theorem cn_law_names {W n : Nat} {os : List O} : callN (pg W) (n + 1) 18 os = runF (callN (pg W) n) (pg W) fd_law_names os := rfl
theorem cn_law_forms {W n : Nat} {os : List O} : callN (pg W) (n + 1) 19 os = runF (callN (pg W) n) (pg W) fd_law_forms os := rfl
theorem cn_law_next {W n : Nat} {os : List O} : callN (pg W) (n + 1) 20 os = runF (callN (pg W) n) (pg W) fd_law_next os := rfl
theorem cn_law_number {W n : Nat} {os : List O} : callN (pg W) (n + 1) 21 os = runF (callN (pg W) n) (pg W) fd_law_number os := rfl
theorem cn_law_any {W n : Nat} {os : List O} : callN (pg W) (n + 1) 22 os = runF (callN (pg W) n) (pg W) fd_law_any os := rfl
theorem cn_law_same {W n : Nat} {os : List O} : callN (pg W) (n + 1) 23 os = runF (callN (pg W) n) (pg W) fd_law_same os := rfl
theorem cn_law_text {W n : Nat} {os : List O} : callN (pg W) (n + 1) 24 os = runF (callN (pg W) n) (pg W) fd_law_text os := rfl
theorem cn_law_spoilt {W n : Nat} {os : List O} : callN (pg W) (n + 1) 25 os = runF (callN (pg W) n) (pg W) fd_law_spoilt os := rfl
theorem cn_law_is_name {W n : Nat} {os : List O} : callN (pg W) (n + 1) 26 os = runF (callN (pg W) n) (pg W) fd_law_is_name os := rfl
theorem cn_law_is_form {W n : Nat} {os : List O} : callN (pg W) (n + 1) 27 os = runF (callN (pg W) n) (pg W) fd_law_is_form os := rfl
theorem cn_law_is_arm {W n : Nat} {os : List O} : callN (pg W) (n + 1) 28 os = runF (callN (pg W) n) (pg W) fd_law_is_arm os := rfl
theorem cn_law_is_one {W n : Nat} {os : List O} : callN (pg W) (n + 1) 29 os = runF (callN (pg W) n) (pg W) fd_law_is_one os := rfl
theorem cn_law_read {W n : Nat} {os : List O} : callN (pg W) (n + 1) 30 os = runF (callN (pg W) n) (pg W) fd_law_read os := rfl
theorem cn_law {W n : Nat} {os : List O} : callN (pg W) (n + 1) 31 os = runF (callN (pg W) n) (pg W) fd_law os := rfl
@[simp] theorem lit_0 : Str.ofString "a" = St [97] := by decide +kernel
@[simp] theorem lit_1 : Str.ofString "z" = St [122] := by decide +kernel
@[simp] theorem lit_2 : Str.ofString "A" = St [65] := by decide +kernel
@[simp] theorem lit_3 : Str.ofString "Z" = St [90] := by decide +kernel
@[simp] theorem lit_4 : Str.ofString ") " = St [41, 32] := by decide +kernel
@[simp] theorem lit_5 : Str.ofString "(" = St [40] := by decide +kernel
@[simp] theorem lit_6 : Str.ofString ", " = St [44, 32] := by decide +kernel
@[simp] theorem lit_7 : Str.ofString "number" = St [110, 117, 109, 98, 101, 114] := by decide +kernel
@[simp] theorem lit_8 : Str.ofString "name" = St [110, 97, 109, 101] := by decide +kernel
@[simp] theorem lit_9 : Str.ofString "case" = St [99, 97, 115, 101] := by decide +kernel
@[simp] theorem lit_10 : Str.ofString ")" = St [41] := by decide +kernel
@[simp] theorem lit_11 : Str.ofString "]" = St [93] := by decide +kernel
@[simp] theorem lit_12 : Str.ofString "; " = St [59, 32] := by decide +kernel
@[simp] theorem lit_13 : Str.ofString ": " = St [58, 32] := by decide +kernel
@[simp] theorem lit_14 : Str.ofString "[" = St [91] := by decide +kernel
@[simp] theorem lit_15 : Str.ofString "-" = St [45] := by decide +kernel
@[simp] theorem lit_16 : Str.ofString " " = St [32] := by decide +kernel
@[simp] theorem lit_17 : Str.ofString "-0123456789" = St [45, 48, 49, 50, 51, 52, 53, 54, 55, 56, 57] := by decide +kernel
@[simp] theorem lit_18 : Str.ofString "form" = St [102, 111, 114, 109] := by decide +kernel
@[simp] theorem lit_19 : Str.ofString "call" = St [99, 97, 108, 108] := by decide +kernel
@[simp] theorem lit_20 : Str.ofString "abcdefghijklmnopqrstuvwxyz" = St [97, 98, 99, 100, 101, 102, 103, 104, 105, 106, 107, 108, 109, 110, 111, 112, 113, 114, 115, 116, 117, 118, 119, 120, 121, 122] := by decide +kernel
@[simp] theorem lit_21 : Str.ofString "" = St [] := by decide +kernel
@[simp] theorem lit_22 : Str.ofString "ABCDEFGHIJKLMNOPQRSTUVWXYZ" = St [65, 66, 67, 68, 69, 70, 71, 72, 73, 74, 75, 76, 77, 78, 79, 80, 81, 82, 83, 84, 85, 86, 87, 88, 89, 90] := by decide +kernel
@[simp] theorem lit_23 : Str.ofString "(), ;:[]-012abzAYZ =\t" = St [40, 41, 44, 32, 59, 58, 91, 93, 45, 48, 49, 50, 97, 98, 122, 65, 89, 90, 32, 61, 9] := by decide +kernel
@[simp] theorem lit_24 : Str.ofString "00" = St [48, 48] := by decide +kernel
@[simp] theorem lit_25 : Str.ofString "01" = St [48, 49] := by decide +kernel
@[simp] theorem lit_26 : Str.ofString "-0" = St [45, 48] := by decide +kernel
@[simp] theorem lit_27 : Str.ofString "--1" = St [45, 45, 49] := by decide +kernel
@[simp] theorem lit_28 : Str.ofString "a b" = St [97, 32, 98] := by decide +kernel
@[simp] theorem lit_29 : Str.ofString "a(" = St [97, 40] := by decide +kernel
@[simp] theorem lit_30 : Str.ofString "a(b" = St [97, 40, 98] := by decide +kernel
@[simp] theorem lit_31 : Str.ofString "a(b,c)" = St [97, 40, 98, 44, 99, 41] := by decide +kernel
@[simp] theorem lit_32 : Str.ofString "a(b,  c)" = St [97, 40, 98, 44, 32, 32, 99, 41] := by decide +kernel
@[simp] theorem lit_33 : Str.ofString "F(a))" = St [70, 40, 97, 41, 41] := by decide +kernel
@[simp] theorem lit_34 : Str.ofString "1" = St [49] := by decide +kernel
@[simp] theorem lit_35 : Str.ofString "[a: F() b" = St [91, 97, 58, 32, 70, 40, 41, 32, 98] := by decide +kernel
@[simp] theorem lit_36 : Str.ofString "[a F() b]" = St [91, 97, 32, 70, 40, 41, 32, 98, 93] := by decide +kernel
@[simp] theorem lit_37 : Str.ofString "[a: F b]" = St [91, 97, 58, 32, 70, 32, 98, 93] := by decide +kernel
@[simp] theorem lit_38 : Str.ofString "[a: F(x, x) b]" = St [91, 97, 58, 32, 70, 40, 120, 44, 32, 120, 41, 32, 98, 93] := by decide +kernel
@[simp] theorem lit_39 : Str.ofString "[a: F()b]" = St [91, 97, 58, 32, 70, 40, 41, 98, 93] := by decide +kernel
@[simp] theorem lit_40 : Str.ofString "[a: ]" = St [91, 97, 58, 32, 93] := by decide +kernel
@[simp] theorem lit_41 : Str.ofString "[a: F() b;G() c]" = St [91, 97, 58, 32, 70, 40, 41, 32, 98, 59, 71, 40, 41, 32, 99, 93] := by decide +kernel
@[simp] theorem lit_42 : Str.ofString "f(a, b, c, d)" = St [102, 40, 97, 44, 32, 98, 44, 32, 99, 44, 32, 100, 41] := by decide +kernel
@[simp] theorem lit_43 : Str.ofString "F(a, b, c, d)" = St [70, 40, 97, 44, 32, 98, 44, 32, 99, 44, 32, 100, 41] := by decide +kernel
@[simp] theorem lit_44 : Str.ofString "[a: f() b]" = St [91, 97, 58, 32, 102, 40, 41, 32, 98, 93] := by decide +kernel
@[simp] theorem lit_45 : Str.ofString "[a: F(X) b]" = St [91, 97, 58, 32, 70, 40, 88, 41, 32, 98, 93] := by decide +kernel
@[simp] theorem lit_46 : Str.ofString "0123456789" = St [48, 49, 50, 51, 52, 53, 54, 55, 56, 57] := by decide +kernel
@[simp] theorem lit_47 : Str.ofString "abcdefghijklmnopqrstuvwxyzABCDEFGHIJKLMNOPQRSTUVWXYZ" = St [97, 98, 99, 100, 101, 102, 103, 104, 105, 106, 107, 108, 109, 110, 111, 112, 113, 114, 115, 116, 117, 118, 119, 120, 121, 122, 65, 66, 67, 68, 69, 70, 71, 72, 73, 74, 75, 76, 77, 78, 79, 80, 81, 82, 83, 84, 85, 86, 87, 88, 89, 90] := by decide +kernel
def topS (i : Nat) : Stmt := PySem.Challenge.pw_kinddeeds_k52_expressions_read.main.body.getD i (.Pass ⟨0, 0, 0, 0⟩)
def metS (i j : Nat) : Stmt := match topS i with
  | .ClassDef (body := b) .. => b.getD j (.Pass ⟨0, 0, 0, 0⟩)
  | _ => .Pass ⟨0, 0, 0, 0⟩
def dl : List Dfn := [⟨"is_name", "is_name", none, topS 9, ["thing", "letter"], ["thing"], fd_is_name⟩,
  ⟨"is_form_name", "is_form_name", none, topS 10, ["thing", "letter"], ["thing"], fd_is_form_name⟩,
  ⟨"arm_text", "arm_text", none, topS 17, ["arm", "form", "names", "expression"], ["arm"], fd_arm_text⟩,
  ⟨"expression_text", "expression_text", none, topS 18, ["expression", "sort", "arms", "arm", "arg"], ["expression"], fd_expression_text⟩,
  ⟨"__init__", "Reader.__init__", some "Reader", metS 19 0, ["self", "text"], ["self", "text"], fd_Reader___init__⟩,
  ⟨"meets", "Reader.meets", some "Reader", metS 19 1, ["self", "words"], ["self", "words"], fd_Reader_meets⟩,
  ⟨"must", "Reader.must", some "Reader", metS 19 2, ["self", "words"], ["self", "words"], fd_Reader_must⟩,
  ⟨"run", "Reader.run", some "Reader", metS 19 3, ["self", "signs", "begin"], ["self", "signs"], fd_Reader_run⟩,
  ⟨"whole_number", "Reader.whole_number", some "Reader", metS 19 4, ["self", "sign", "figures"], ["self"], fd_Reader_whole_number⟩,
  ⟨"goes_on", "Reader.goes_on", some "Reader", metS 19 7, ["self", "found"], ["self", "found"], fd_Reader_goes_on⟩,
  ⟨"given", "Reader.given", some "Reader", metS 19 9, ["self", "found"], ["self"], fd_Reader_given⟩,
  ⟨"names", "Reader.names", some "Reader", metS 19 10, ["self", "found"], ["self"], fd_Reader_names⟩,
  ⟨"name", "Reader.name", some "Reader", metS 19 11, ["self", "word"], ["self"], fd_Reader_name⟩,
  ⟨"arm", "Reader.arm", some "Reader", metS 19 13, ["self", "form", "names"], ["self"], fd_Reader_arm⟩,
  ⟨"case", "Reader.case", some "Reader", metS 19 14, ["self", "inner", "arms"], ["self"], fd_Reader_case⟩,
  ⟨"expression", "Reader.expression", some "Reader", metS 19 15, ["self", "word", "args"], ["self"], fd_Reader_expression⟩,
  ⟨"read_expression", "read_expression", none, topS 20, ["text", "reader", "expression"], ["text"], fd_read_expression⟩,
  ⟨"_law_cell_at", "_law_cell_at", none, topS 22, ["_law_script", "_law_k"], ["_law_script", "_law_k"], fd_law_cell_at⟩,
  ⟨"_law_names", "_law_names", none, topS 23, ["_law_cell", "_law_some", "_law_stem", "_law_k", "_law_at"], ["_law_cell"], fd_law_names⟩,
  ⟨"_law_forms", "_law_forms", none, topS 24, ["_law_cell", "_law_some", "_law_great", "_law_stem", "_law_k", "_law_at", "_law_first"], ["_law_cell"], fd_law_forms⟩,
  ⟨"_law_next", "_law_next", none, topS 25, ["_law_cells"], ["_law_cells"], fd_law_next⟩,
  ⟨"_law_number", "_law_number", none, topS 26, ["_law_cell"], ["_law_cell"], fd_law_number⟩,
  ⟨"_law_any", "_law_any", none, topS 27, ["_law_cells", "_law_names_here", "_law_forms_here", "_law_depth", "_law_cell", "_law_way", "_law_inner", "_law_arms", "_law_k", "_law_many", "_law_args", "_law_some"], ["_law_cells", "_law_names_here", "_law_forms_here", "_law_depth"], fd_law_any⟩,
  ⟨"_law_same", "_law_same", none, topS 28, ["_law_found", "_law_due", "_law_k"], ["_law_found", "_law_due"], fd_law_same⟩,
  ⟨"_law_text", "_law_text", none, topS 29, ["_law_one", "_law_arms", "_law_form", "_law_names_here", "_law_inner", "_law_arg"], ["_law_one"], fd_law_text⟩,
  ⟨"_law_spoilt", "_law_spoilt", none, topS 30, ["_law_text_here", "_law_cell", "_law_signs", "_law_at", "_law_sign"], ["_law_text_here", "_law_cell"], fd_law_spoilt⟩,
  ⟨"_law_is_name", "_law_is_name", none, topS 31, ["_law_word", "_law_letter"], ["_law_word"], fd_law_is_name⟩,
  ⟨"_law_is_form", "_law_is_form", none, topS 32, ["_law_word"], ["_law_word"], fd_law_is_form⟩,
  ⟨"_law_is_arm", "_law_is_arm", none, topS 33, ["_law_arm", "_law_name"], ["_law_arm"], fd_law_is_arm⟩,
  ⟨"_law_is_one", "_law_is_one", none, topS 34, ["_law_one", "_law_named", "_law_arg", "_law_arm"], ["_law_one"], fd_law_is_one⟩,
  ⟨"_law_read", "_law_read", none, topS 35, ["_law_text_here", "_law_found", "_law_good", "e"], ["_law_text_here"], fd_law_read⟩,
  ⟨"law", "law", none, topS 36, ["_law_script", "_law_names_here", "_law_forms_here", "_law_at", "_law_odd", "_law_text_here", "_law_cells", "_law_one", "_law_cell", "_law_bad", "_law_good", "_law_told", "_law_k"], ["_law_script"], fd_law⟩]
def gl : List (Str × Gk) := [(("is_name" : Str), Gk.fn 0), (("is_form_name" : Str), Gk.fn 1), (("arm_text" : Str), Gk.fn 2), (("expression_text" : Str), Gk.fn 3), (("read_expression" : Str), Gk.fn 16), (("_law_cell_at" : Str), Gk.fn 17), (("_law_names" : Str), Gk.fn 18), (("_law_forms" : Str), Gk.fn 19), (("_law_next" : Str), Gk.fn 20), (("_law_number" : Str), Gk.fn 21), (("_law_any" : Str), Gk.fn 22), (("_law_same" : Str), Gk.fn 23), (("_law_text" : Str), Gk.fn 24), (("_law_spoilt" : Str), Gk.fn 25), (("_law_is_name" : Str), Gk.fn 26), (("_law_is_form" : Str), Gk.fn 27), (("_law_is_arm" : Str), Gk.fn 28), (("_law_is_one" : Str), Gk.fn 29), (("_law_read" : Str), Gk.fn 30), (("law" : Str), Gk.fn 31), (("MOST_LETTERS" : Str), Gk.con 0), (("FIGURES" : Str), Gk.con 1), (("LETTERS" : Str), Gk.con 2), (("MOST_FIGURES" : Str), Gk.con 3), (("MOST_ARGS" : Str), Gk.con 4), (("MOST_ARMS" : Str), Gk.con 5), (("all" : Str), Gk.bt), (("isinstance" : Str), Gk.bt), (("str" : Str), Gk.bt), (("len" : Str), Gk.bt), (("int" : Str), Gk.bt), (("set" : Str), Gk.bt), (("tuple" : Str), Gk.bt), (("range" : Str), Gk.bt), (("bool" : Str), Gk.bt), (("abs" : Str), Gk.bt), (("min" : Str), Gk.bt), (("Reader" : Str), Gk.kc 0 4), (("DeedsError" : Str), Gk.xr 0), (("NoProgram" : Str), Gk.xr 1), (("Twice" : Str), Gk.xr 2), (("NoSuch" : Str), Gk.xr 3), (("NoWords" : Str), Gk.xr 4), (("ValueError" : Str), Gk.xb 5)]
def xid : Dfn := ⟨"__init__", "DeedsError.__init__", some "DeedsError", metS 2 0, ["self", "place"], ["self", "place"], ⟨2, 2, .nil⟩⟩
def tab : Tab := ⟨dl, gl, ["DeedsError", "NoProgram", "Twice", "NoSuch", "NoWords", "ValueError"], [("Reader", ["text", "at"])], [((0, "meets"), 5), ((0, "must"), 6), ((0, "run"), 7), ((0, "whole_number"), 8), ((0, "goes_on"), 9), ((0, "given"), 10), ((0, "names"), 11), ((0, "name"), 12), ((0, "arm"), 13), ((0, "case"), 14), ((0, "expression"), 15)], some xid⟩
theorem ck : dl.all (ckD tab) = true := by decide +kernel
theorem bnds : ∀ d ∈ tab.all, d.bnd := by
  intro d hd
  have hd : d ∈ [(⟨"is_name", "is_name", none, topS 9, ["thing", "letter"], ["thing"], fd_is_name⟩ : Dfn), (⟨"is_form_name", "is_form_name", none, topS 10, ["thing", "letter"], ["thing"], fd_is_form_name⟩ : Dfn), (⟨"arm_text", "arm_text", none, topS 17, ["arm", "form", "names", "expression"], ["arm"], fd_arm_text⟩ : Dfn), (⟨"expression_text", "expression_text", none, topS 18, ["expression", "sort", "arms", "arm", "arg"], ["expression"], fd_expression_text⟩ : Dfn), (⟨"__init__", "Reader.__init__", some "Reader", metS 19 0, ["self", "text"], ["self", "text"], fd_Reader___init__⟩ : Dfn), (⟨"meets", "Reader.meets", some "Reader", metS 19 1, ["self", "words"], ["self", "words"], fd_Reader_meets⟩ : Dfn), (⟨"must", "Reader.must", some "Reader", metS 19 2, ["self", "words"], ["self", "words"], fd_Reader_must⟩ : Dfn), (⟨"run", "Reader.run", some "Reader", metS 19 3, ["self", "signs", "begin"], ["self", "signs"], fd_Reader_run⟩ : Dfn), (⟨"whole_number", "Reader.whole_number", some "Reader", metS 19 4, ["self", "sign", "figures"], ["self"], fd_Reader_whole_number⟩ : Dfn), (⟨"goes_on", "Reader.goes_on", some "Reader", metS 19 7, ["self", "found"], ["self", "found"], fd_Reader_goes_on⟩ : Dfn), (⟨"given", "Reader.given", some "Reader", metS 19 9, ["self", "found"], ["self"], fd_Reader_given⟩ : Dfn), (⟨"names", "Reader.names", some "Reader", metS 19 10, ["self", "found"], ["self"], fd_Reader_names⟩ : Dfn), (⟨"name", "Reader.name", some "Reader", metS 19 11, ["self", "word"], ["self"], fd_Reader_name⟩ : Dfn), (⟨"arm", "Reader.arm", some "Reader", metS 19 13, ["self", "form", "names"], ["self"], fd_Reader_arm⟩ : Dfn), (⟨"case", "Reader.case", some "Reader", metS 19 14, ["self", "inner", "arms"], ["self"], fd_Reader_case⟩ : Dfn), (⟨"expression", "Reader.expression", some "Reader", metS 19 15, ["self", "word", "args"], ["self"], fd_Reader_expression⟩ : Dfn), (⟨"read_expression", "read_expression", none, topS 20, ["text", "reader", "expression"], ["text"], fd_read_expression⟩ : Dfn), (⟨"_law_cell_at", "_law_cell_at", none, topS 22, ["_law_script", "_law_k"], ["_law_script", "_law_k"], fd_law_cell_at⟩ : Dfn), (⟨"_law_names", "_law_names", none, topS 23, ["_law_cell", "_law_some", "_law_stem", "_law_k", "_law_at"], ["_law_cell"], fd_law_names⟩ : Dfn), (⟨"_law_forms", "_law_forms", none, topS 24, ["_law_cell", "_law_some", "_law_great", "_law_stem", "_law_k", "_law_at", "_law_first"], ["_law_cell"], fd_law_forms⟩ : Dfn), (⟨"_law_next", "_law_next", none, topS 25, ["_law_cells"], ["_law_cells"], fd_law_next⟩ : Dfn), (⟨"_law_number", "_law_number", none, topS 26, ["_law_cell"], ["_law_cell"], fd_law_number⟩ : Dfn), (⟨"_law_any", "_law_any", none, topS 27, ["_law_cells", "_law_names_here", "_law_forms_here", "_law_depth", "_law_cell", "_law_way", "_law_inner", "_law_arms", "_law_k", "_law_many", "_law_args", "_law_some"], ["_law_cells", "_law_names_here", "_law_forms_here", "_law_depth"], fd_law_any⟩ : Dfn), (⟨"_law_same", "_law_same", none, topS 28, ["_law_found", "_law_due", "_law_k"], ["_law_found", "_law_due"], fd_law_same⟩ : Dfn), (⟨"_law_text", "_law_text", none, topS 29, ["_law_one", "_law_arms", "_law_form", "_law_names_here", "_law_inner", "_law_arg"], ["_law_one"], fd_law_text⟩ : Dfn), (⟨"_law_spoilt", "_law_spoilt", none, topS 30, ["_law_text_here", "_law_cell", "_law_signs", "_law_at", "_law_sign"], ["_law_text_here", "_law_cell"], fd_law_spoilt⟩ : Dfn), (⟨"_law_is_name", "_law_is_name", none, topS 31, ["_law_word", "_law_letter"], ["_law_word"], fd_law_is_name⟩ : Dfn), (⟨"_law_is_form", "_law_is_form", none, topS 32, ["_law_word"], ["_law_word"], fd_law_is_form⟩ : Dfn), (⟨"_law_is_arm", "_law_is_arm", none, topS 33, ["_law_arm", "_law_name"], ["_law_arm"], fd_law_is_arm⟩ : Dfn), (⟨"_law_is_one", "_law_is_one", none, topS 34, ["_law_one", "_law_named", "_law_arg", "_law_arm"], ["_law_one"], fd_law_is_one⟩ : Dfn), (⟨"_law_read", "_law_read", none, topS 35, ["_law_text_here", "_law_found", "_law_good", "e"], ["_law_text_here"], fd_law_read⟩ : Dfn), (⟨"law", "law", none, topS 36, ["_law_script", "_law_names_here", "_law_forms_here", "_law_at", "_law_odd", "_law_text_here", "_law_cells", "_law_one", "_law_cell", "_law_bad", "_law_good", "_law_told", "_law_k"], ["_law_script"], fd_law⟩ : Dfn), xid] := hd
  simp only [List.mem_cons, List.not_mem_nil, or_false] at hd
  rcases hd with rfl | rfl | rfl | rfl | rfl | rfl | rfl | rfl | rfl | rfl | rfl | rfl | rfl | rfl | rfl | rfl | rfl | rfl | rfl | rfl | rfl | rfl | rfl | rfl | rfl | rfl | rfl | rfl | rfl | rfl | rfl | rfl | rfl
  · exact fun _ _ _ _ _ _ us hl => match us, hl with | [_], _ => rfl
  · exact fun _ _ _ _ _ _ us hl => match us, hl with | [_], _ => rfl
  · exact fun _ _ _ _ _ _ us hl => match us, hl with | [_], _ => rfl
  · exact fun _ _ _ _ _ _ us hl => match us, hl with | [_], _ => rfl
  · exact fun _ _ _ _ _ _ us hl => match us, hl with | [_, _], _ => rfl
  · exact fun _ _ _ _ _ _ us hl => match us, hl with | [_, _], _ => rfl
  · exact fun _ _ _ _ _ _ us hl => match us, hl with | [_, _], _ => rfl
  · exact fun _ _ _ _ _ _ us hl => match us, hl with | [_, _], _ => rfl
  · exact fun _ _ _ _ _ _ us hl => match us, hl with | [_], _ => rfl
  · exact fun _ _ _ _ _ _ us hl => match us, hl with | [_, _], _ => rfl
  · exact fun _ _ _ _ _ _ us hl => match us, hl with | [_], _ => rfl
  · exact fun _ _ _ _ _ _ us hl => match us, hl with | [_], _ => rfl
  · exact fun _ _ _ _ _ _ us hl => match us, hl with | [_], _ => rfl
  · exact fun _ _ _ _ _ _ us hl => match us, hl with | [_], _ => rfl
  · exact fun _ _ _ _ _ _ us hl => match us, hl with | [_], _ => rfl
  · exact fun _ _ _ _ _ _ us hl => match us, hl with | [_], _ => rfl
  · exact fun _ _ _ _ _ _ us hl => match us, hl with | [_], _ => rfl
  · exact fun _ _ _ _ _ _ us hl => match us, hl with | [_, _], _ => rfl
  · exact fun _ _ _ _ _ _ us hl => match us, hl with | [_], _ => rfl
  · exact fun _ _ _ _ _ _ us hl => match us, hl with | [_], _ => rfl
  · exact fun _ _ _ _ _ _ us hl => match us, hl with | [_], _ => rfl
  · exact fun _ _ _ _ _ _ us hl => match us, hl with | [_], _ => rfl
  · exact fun _ _ _ _ _ _ us hl => match us, hl with | [_, _, _, _], _ => rfl
  · exact fun _ _ _ _ _ _ us hl => match us, hl with | [_, _], _ => rfl
  · exact fun _ _ _ _ _ _ us hl => match us, hl with | [_], _ => rfl
  · exact fun _ _ _ _ _ _ us hl => match us, hl with | [_, _], _ => rfl
  · exact fun _ _ _ _ _ _ us hl => match us, hl with | [_], _ => rfl
  · exact fun _ _ _ _ _ _ us hl => match us, hl with | [_], _ => rfl
  · exact fun _ _ _ _ _ _ us hl => match us, hl with | [_], _ => rfl
  · exact fun _ _ _ _ _ _ us hl => match us, hl with | [_], _ => rfl
  · exact fun _ _ _ _ _ _ us hl => match us, hl with | [_], _ => rfl
  · exact fun _ _ _ _ _ _ us hl => match us, hl with | [_], _ => rfl
  · exact fun _ _ _ _ _ _ us hl => match us, hl with | [_, _], _ => rfl
end Ev
end

section
set_option Elab.async false
set_option linter.all false
set_option maxRecDepth 100000
set_option maxHeartbeats 1000000
/-! kinds: written, read -/
open PySem
namespace Ev
abbrev WW : Nat := 100000
inductive Kd where
  | o (n : Nat)
  | m (s : List Nat) (ps : List Kd)
def nameL (s : List Nat) : Bool := decide (1 ≤ s.length) && decide (s.length ≤ 8) && s.all lowC
mutual
def dK : Kd → D
  | .o n => .int n
  | .m s ps => .tup (.str (St s) :: dKs ps)
def dKs : List Kd → List D
  | [] => []
  | k :: ks => dK k :: dKs ks
end
mutual
def Kd.dep : Kd → Nat
  | .o _ => 0
  | .m _ ps => deps' ps + 1
def deps' : List Kd → Nat
  | [] => 0
  | k :: ks => max k.dep (deps' ks)
end
mutual
def Kd.sz : Kd → Nat
  | .o _ => 1
  | .m _ ps => szs ps + 1
def szs : List Kd → Nat
  | [] => 0
  | k :: ks => k.sz + szs ks
end
mutual
def Kd.ok : Kd → Prop
  | .o n => n < 10 ^ 60
  | .m s ps => nameL s = true ∧ ps.length ≤ 3 ∧ oks ps
def oks : List Kd → Prop
  | [] => True
  | k :: ks => k.ok ∧ oks ks
end
mutual
def txt : Kd → List Nat
  | .o n => TL.numL n
  | .m s ps => if ps.length = 0 then s else s ++ 40 :: (TL.joinL [44, 32] (txts ps) ++ [41])
def txts : List Kd → List (List Nat)
  | [] => []
  | k :: ks => txt k :: txts ks
end
theorem dKs_map : ∀ ks : List Kd, dKs ks = ks.map dK
  | [] => rfl
  | _ :: ks => by rw [dKs, List.map_cons, dKs_map ks]
theorem txts_map : ∀ ks : List Kd, txts ks = ks.map txt
  | [] => rfl
  | _ :: ks => by rw [txts, List.map_cons, txts_map ks]
theorem oks_iff : ∀ {ks : List Kd}, oks ks ↔ ∀ k ∈ ks, k.ok
  | [] => by simp [oks]
  | k :: ks => by simp [oks, oks_iff (ks := ks)]
theorem deps_iff {n : Nat} : ∀ {ks : List Kd}, deps' ks ≤ n ↔ ∀ k ∈ ks, k.dep ≤ n
  | [] => by simp [deps']
  | k :: ks => by simp [deps', deps_iff (ks := ks), Nat.max_le]
theorem szs_app : ∀ (a b : List Kd), szs (a ++ b) = szs a + szs b
  | [], b => by simp [szs]
  | k :: a, b => by simp only [List.cons_append, szs, szs_app a b]; omega
mutual
theorem dep_sz (k : Kd) : k.dep ≤ k.sz := match k with
  | .o _ => by simp [Kd.dep, Kd.sz]
  | .m _ ps => by have := deps_szs ps; simp only [Kd.dep, Kd.sz]; omega
theorem deps_szs (ks : List Kd) : deps' ks ≤ szs ks := match ks with
  | [] => by simp [deps', szs]
  | k :: ks => by have := dep_sz k; have := deps_szs ks; simp only [deps', szs]; omega
end
/-! ### signs -/
def FIG : List Nat := [48, 49, 50, 51, 52, 53, 54, 55, 56, 57]
def LETS : List Nat := [97, 98, 99, 100, 101, 102, 103, 104, 105, 106, 107, 108, 109, 110, 111, 112, 113, 114, 115, 116, 117, 118, 119, 120, 121, 122, 65, 66, 67, 68, 69, 70, 71, 72, 73, 74, 75, 76, 77, 78, 79, 80, 81, 82, 83, 84, 85, 86, 87, 88, 89, 90]
@[simp] theorem fig_fold : [48, 49, 50, 51, 52, 53, 54, 55, 56, 57] = FIG := rfl
@[simp] theorem lets_fold : [97, 98, 99, 100, 101, 102, 103, 104, 105, 106, 107, 108, 109, 110, 111, 112, 113, 114, 115, 116, 117, 118, 119, 120, 121, 122, 65, 66, 67, 68, 69, 70, 71, 72, 73, 74, 75, 76, 77, 78, 79, 80, 81, 82, 83, 84, 85, 86, 87, 88, 89, 90] = LETS := rfl
theorem fig_iff {c : Nat} : c ∈ FIG ↔ 48 ≤ c ∧ c ≤ 57 := by unfold FIG; simp only [List.mem_cons, List.not_mem_nil, or_false]; omega
theorem lets_iff {c : Nat} : c ∈ LETS ↔ (97 ≤ c ∧ c ≤ 122) ∨ (65 ≤ c ∧ c ≤ 90) := by unfold LETS; simp only [List.mem_cons, List.not_mem_nil, or_false]; omega
theorem low_lets {c : Nat} (h : lowC c = true) : c ∈ LETS := by
  unfold lowC at h
  simp only [Bool.and_eq_true, decide_eq_true_eq] at h
  exact lets_iff.mpr (.inl h)
/-- all signs at the head that are some of those -/
def spn (q : List Nat) (s : List Nat) : List Nat := s.takeWhile fun c => decide (c ∈ q)
def aft (q : List Nat) (s : List Nat) : List Nat := s.dropWhile fun c => decide (c ∈ q)
theorem spn_aft (q s : List Nat) : spn q s ++ aft q s = s := List.takeWhile_append_dropWhile
theorem spn_len (q s : List Nat) : (spn q s).length + (aft q s).length = s.length := by rw [← List.length_append, spn_aft]
theorem spn_all {q s : List Nat} {c : Nat} (h : c ∈ spn q s) : c ∈ q := by
  unfold spn at h
  induction s with
  | nil => cases h
  | cons d s ih =>
    rw [List.takeWhile_cons] at h
    split at h
    · rename_i e
      rcases List.mem_cons.mp h with rfl | h
      · exact of_decide_eq_true e
      · exact ih h
    · cases h
/-- nothing of these at the head -/
def halt (q : List Nat) (s : List Nat) : Prop := ∀ c r, s = c :: r → c ∉ q
theorem spn_stop {q w r : List Nat} (hw : ∀ c ∈ w, c ∈ q) (hr : halt q r) : spn q (w ++ r) = w ∧ aft q (w ++ r) = r := by
  unfold spn aft
  induction w with
  | nil =>
    cases r with
    | nil => exact ⟨rfl, rfl⟩
    | cons c r =>
      have := hr c r rfl
      simp [List.takeWhile_cons, List.dropWhile_cons, this]
  | cons d w ih =>
    have hd := hw d (.head _)
    have := ih fun c hc => hw c (.tail _ hc)
    simp [List.takeWhile_cons, List.dropWhile_cons, hd, this]
/-! ### reading -/
def pNum (s : List Nat) : Option (Nat × List Nat) := if 1 ≤ (spn FIG s).length ∧ (spn FIG s).length ≤ 60 then some (NumText.digitsVal (spn FIG s), aft FIG s) else none
section
variable {α : Type} (pk : List Nat → Option (α × List Nat))
/-- what follows the first thing within brackets -/
def pTail : Nat → List Nat → Option (List α × List Nat)
  | m, s => if s.take 1 = [41] then some ([], s.drop 1) else if s.take 2 = [44, 32] then (match m with
    | 0 => none
    | m + 1 => match pk (s.drop 2) with
      | none => none
      | some (k, s') => match pTail m s' with
        | none => none
        | some (ks, s'') => some (k :: ks, s'')) else none
def pMany (s : List Nat) : Option (List α × List Nat) := if s.take 1 = [41] then some ([], s.drop 1) else match pk s with
  | none => none
  | some (k, s') => match pTail pk 2 s' with
    | none => none
    | some (ks, s'') => some (k :: ks, s'')
end
def isFig : List Nat → Bool
  | c :: _ => decide (c ∈ FIG)
  | [] => false
def pKind : Nat → List Nat → Option (Kd × List Nat)
  | 0, _ => none
  | n + 1, s => if isFig s = true then (match pNum s with
      | none => none
      | some (i, s') => some (.o i, s'))
    else if nameL (spn LETS s) = true then (if (aft LETS s).take 1 = [40] then (match pMany (pKind n) ((aft LETS s).drop 1) with
        | none => none
        | some (ks, s') => some (.m (spn LETS s) ks, s'))
      else some (.m (spn LETS s) [], aft LETS s))
    else none
/-- a whole number, perhaps with a sign -/
def pInt (s : List Nat) : Option (Int × List Nat) := if s.take 1 = [45] then (match pNum (s.drop 1) with
    | none => none
    | some (i, s') => some (-(i : Int), s')) else match pNum s with
    | none => none
    | some (i, s') => some ((i : Int), s')
/-- how many brackets are opened -/
def opn (s : List Nat) : Nat := s.countP (· == 40)
theorem opn_app (a b : List Nat) : opn (a ++ b) = opn a + opn b := by simp [opn]
/-- what digits are worth -/
theorem val_lt {ds : List Nat} (h : ∀ c ∈ ds, c ≤ 57) : NumText.digitsVal ds < 10 ^ ds.length := by
  have key : ∀ (l : List Nat) (a : Nat), (∀ c ∈ l, c ≤ 57) → l.foldl (fun acc c => acc * 10 + (c - 48)) a < (a + 1) * 10 ^ l.length := by
    intro l
    induction l with
    | nil => intro a _; simp
    | cons c l ih =>
      intro a hl
      have h1 := ih (a * 10 + (c - 48)) fun d hd => hl d (.tail _ hd)
      have h2 := hl c (.head _)
      rw [List.foldl_cons]
      refine Nat.lt_of_lt_of_le h1 ?_
      rw [List.length_cons, Nat.pow_succ, Nat.mul_comm (10 ^ l.length) 10, ← Nat.mul_assoc]
      exact Nat.mul_le_mul_right _ (by omega)
  have := key ds 0 h
  simpa [NumText.digitsVal] using this
theorem pNum_ok {s s' : List Nat} {n : Nat} (h : pNum s = some (n, s')) : s = spn FIG s ++ s' ∧ n < 10 ^ 60 ∧ (TL.numL n).length ≤ (spn FIG s).length := by
  unfold pNum at h
  split at h
  · rename_i q
    cases h
    have hv := val_lt (ds := spn FIG s) fun c hc => (fig_iff.mp (spn_all hc)).2
    refine ⟨(spn_aft _ _).symm, ?_, ?_⟩
    · exact Nat.lt_of_lt_of_le hv (Nat.pow_le_pow_right (by decide) q.2)
    · exact TL.numL_len (by omega) hv
  · cases h
theorem pNum_num {n : Nat} {r : List Nat} (h : n < 10 ^ 60) (hr : halt FIG r) : pNum (TL.numL n ++ r) = some (n, r) := by
  have hd : ∀ c ∈ TL.numL n, c ∈ FIG := fun c hc => fig_iff.mpr (TL.numL_digits n c hc)
  obtain ⟨e1, e2⟩ := spn_stop hd hr
  unfold pNum
  rw [e1, e2, TL.numL_val, if_pos ⟨List.length_pos_iff.mpr (TL.numL_ne n), TL.numL_len (by decide) h⟩]
section
variable {α : Type} {pk : List Nat → Option (α × List Nat)} {Q : α → Prop} {len : α → Nat} {t : α → List Nat}
theorem pTail_spec (hk : ∀ s k s', pk s = some (k, s') → ∃ w, s = w ++ s' ∧ Q k ∧ len k ≤ w.length) : ∀ {m : Nat} {s : List Nat} {ks : List α} {s' : List Nat}, pTail pk m s = some (ks, s') →
    ∃ w, s = w ++ s' ∧ ks.length ≤ m ∧ (∀ k ∈ ks, Q k) ∧ (ks.map fun k => len k + 2).sum + 1 ≤ w.length
  | m, s, ks, s', h => by
    unfold pTail at h
    split at h
    · rename_i e
      cases h
      exact ⟨[41], by rw [← e, List.take_append_drop], by simp, by simp, by simp⟩
    · split at h
      · rename_i e
        cases m with
        | zero => cases h
        | succ m =>
          dsimp only at h
          split at h
          · cases h
          · rename_i k s1 e1
            split at h
            · cases h
            · rename_i ks s2 e2
              cases h
              obtain ⟨w1, a1, a2, a3⟩ := hk _ _ _ e1
              obtain ⟨w2, b1, b2, b3, b4⟩ := pTail_spec hk e2
              refine ⟨44 :: 32 :: (w1 ++ w2), ?_, by simp; omega, ?_, by simp; omega⟩
              · rw [← List.take_append_drop 2 s, e, a1, b1]; simp
              · intro x hx
                rcases List.mem_cons.mp hx with rfl | hx
                · exact a2
                · exact b3 x hx
      · cases h
theorem pMany_spec (hk : ∀ s k s', pk s = some (k, s') → ∃ w, s = w ++ s' ∧ Q k ∧ len k ≤ w.length) {s : List Nat} {ks : List α} {s' : List Nat} (h : pMany pk s = some (ks, s')) :
    ∃ w, s = w ++ s' ∧ ks.length ≤ 3 ∧ (∀ k ∈ ks, Q k) ∧ (ks.map fun k => len k + 2).sum ≤ w.length + 1 := by
  unfold pMany at h
  split at h
  · rename_i e
    cases h
    exact ⟨[41], by rw [← e, List.take_append_drop], by simp, by simp, by simp⟩
  · split at h
    · cases h
    · rename_i k s1 e1
      split at h
      · cases h
      · rename_i ks s2 e2
        cases h
        obtain ⟨w1, a1, a2, a3⟩ := hk _ _ _ e1
        obtain ⟨w2, b1, b2, b3, b4⟩ := pTail_spec hk e2
        refine ⟨w1 ++ w2, by rw [a1, b1]; simp, by simp; omega, ?_, by simp; omega⟩
        intro x hx
        rcases List.mem_cons.mp hx with rfl | hx
        · exact a2
        · exact b3 x hx
/-- things told behind the first -/
def tailL (t : α → List Nat) (ks : List α) : List Nat := ks.flatMap fun k => 44 :: 32 :: t k
theorem joinL_tail (k : α) : ∀ ks : List α, TL.joinL [44, 32] ((k :: ks).map t) = t k ++ tailL t ks
  | [] => by simp [TL.joinL, tailL]
  | l :: ks => by
    show t k ++ ([44, 32] ++ TL.joinL [44, 32] ((l :: ks).map t)) = _
    rw [joinL_tail l ks]
    simp [tailL]
theorem joinL_len : ∀ (ls : List (List Nat)), (TL.joinL [44, 32] ls).length ≤ (ls.map fun l => l.length + 2).sum
  | [] => by simp [TL.joinL]
  | [l] => by simp [TL.joinL]
  | l :: m :: ls => by
    have := joinL_len (m :: ls)
    simp only [TL.joinL, List.length_append, List.map_cons, List.sum_cons, List.length_cons, List.length_nil] at *
    omega
theorem joinL_len2 : ∀ (ls : List (List Nat)), ls ≠ [] → (TL.joinL [44, 32] ls).length + 2 = (ls.map fun l => l.length + 2).sum
  | [l], _ => by simp [TL.joinL]
  | l :: m :: ls, _ => by
    have := joinL_len2 (m :: ls) (by simp)
    simp only [TL.joinL, List.length_append, List.map_cons, List.sum_cons, List.length_cons, List.length_nil] at *
    omega
theorem pTail_back : ∀ {m : Nat} {ks : List α} {r : List Nat}, ks.length ≤ m → (∀ k ∈ ks, ∀ r, r.take 1 = [41] ∨ r.take 1 = [44] → pk (t k ++ r) = some (k, r)) → pTail pk m (tailL t ks ++ 41 :: r) = some (ks, r)
  | m, [], r, _, _ => by unfold pTail; simp [tailL]
  | 0, k :: ks, r, h, _ => by simp at h
  | m + 1, k :: ks, r, h, hk => by
    have e : tailL t (k :: ks) ++ 41 :: r = 44 :: 32 :: (t k ++ (tailL t ks ++ 41 :: r)) := by simp [tailL]
    rw [e]
    unfold pTail
    have h1 := hk k (.head _) (tailL t ks ++ 41 :: r) (by
      cases ks with
      | nil => left; simp [tailL]
      | cons l ks => right; simp [tailL])
    have h2 := pTail_back (m := m) (ks := ks) (r := r) (by simpa using h) fun k hk' => hk k (.tail _ hk')
    simp [h1, h2]
theorem pMany_back {ks : List α} {r : List Nat} (h : ks.length ≤ 3) (hk : ∀ k ∈ ks, ∀ r, r.take 1 = [41] ∨ r.take 1 = [44] → pk (t k ++ r) = some (k, r)) (ht : ∀ k ∈ ks, ∃ c q, t k = c :: q ∧ c ≠ 41) :
    pMany pk (TL.joinL [44, 32] (ks.map t) ++ 41 :: r) = some (ks, r) := by
  cases ks with
  | nil => unfold pMany; simp [TL.joinL]
  | cons k ks =>
    rw [joinL_tail, List.append_assoc]
    have h1 := hk k (.head _) (tailL t ks ++ 41 :: r) (by
      cases ks with
      | nil => left; simp [tailL]
      | cons l ks => right; simp [tailL])
    have h2 := pTail_back (m := 2) (ks := ks) (r := r) (by simpa using h) fun k hk' => hk k (.tail _ hk')
    obtain ⟨c, q, e, hc⟩ := ht k (.head _)
    unfold pMany
    rw [e] at h1 ⊢
    rw [if_neg (by simpa using hc)]
    simp only [h1, h2]
end
theorem nameL_mem {s : List Nat} (h : nameL s = true) : s ≠ [] ∧ ∀ c ∈ s, lowC c = true := by
  unfold nameL at h
  simp only [Bool.and_eq_true, decide_eq_true_eq, List.all_eq_true] at h
  exact ⟨List.length_pos_iff.mp h.1.1, h.2⟩
theorem low_iff {c : Nat} : lowC c = true ↔ 97 ≤ c ∧ c ≤ 122 := by
  unfold lowC
  simp
theorem pKind_spec : ∀ {n : Nat} {s : List Nat} {k : Kd} {s' : List Nat}, pKind n s = some (k, s') → ∃ w, s = w ++ s' ∧ (k.ok ∧ k.dep ≤ n) ∧ (txt k).length ≤ w.length
  | 0, _, _, _, h => by cases h
  | n + 1, s, k, s', h => by
    unfold pKind at h
    split at h
    · split at h
      · cases h
      · rename_i i s1 e
        cases h
        obtain ⟨a, b, c⟩ := pNum_ok e
        exact ⟨_, a, ⟨b, by simp [Kd.dep]⟩, by rw [txt]; exact c⟩
    · split at h
      · rename_i hn
        split at h
        · rename_i hb
          split at h
          · cases h
          · rename_i ks s1 e
            cases h
            obtain ⟨w, a, b, c, d⟩ := pMany_spec (Q := fun k => k.ok ∧ k.dep ≤ n) (len := fun k => (txt k).length) (fun s k s' h => pKind_spec h) e
            refine ⟨spn LETS s ++ 40 :: w, ?_, ⟨⟨hn, b, oks_iff.mpr fun k hk => (c k hk).1⟩, ?_⟩, ?_⟩
            · rw [List.append_assoc, List.cons_append, ← a]
              have : 40 :: (aft LETS s).drop 1 = aft LETS s := by
                have := List.take_append_drop 1 (aft LETS s)
                rw [hb] at this
                exact this
              rw [this, spn_aft]
            · have := deps_iff.mpr fun k hk => (c k hk).2
              simp only [Kd.dep]
              omega
            · have j := joinL_len2 (txts ks)
              rw [txts_map] at j
              rw [txt, txts_map]
              split
              · simp
              · rename_i hne
                have j := j (by simpa using hne)
                simp only [List.map_map, Function.comp_def] at j
                simp
                omega
        · cases h
          exact ⟨_, (spn_aft LETS s).symm, ⟨⟨hn, by simp, by simp [oks]⟩, by simp [Kd.dep, deps']⟩, by simp [txt]⟩
      · cases h
/-- nothing that would go on -/
def halts (r : List Nat) : Prop := ∀ c q, r = c :: q → c ∉ FIG ∧ c ∉ LETS ∧ c ≠ 40
theorem txt_head : ∀ {k : Kd}, k.ok → ∃ c q, txt k = c :: q ∧ c ≠ 41
  | .o n, _ => by
    rw [txt]
    cases e : TL.numL n with
    | nil => exact absurd e (TL.numL_ne n)
    | cons c q =>
      refine ⟨c, q, rfl, fun z => ?_⟩
      have := TL.numL_digits n c (by rw [e]; exact .head _)
      omega
  | .m s ps, h => by
    obtain ⟨h1, h2⟩ := nameL_mem h.1
    cases s with
    | nil => exact absurd rfl h1
    | cons c q =>
      have hc : c ≠ 41 := fun z => by
        have := low_iff.mp (h2 c (.head _))
        omega
      by_cases hp : ps.length = 0
      · exact ⟨c, q, by rw [txt, if_pos hp], hc⟩
      · exact ⟨c, q ++ 40 :: (TL.joinL [44, 32] (txts ps) ++ [41]), by rw [txt, if_neg hp]; rfl, hc⟩
theorem pKind_back : ∀ {n : Nat} {k : Kd} {r : List Nat}, k.ok → k.dep < n → halts r → pKind n (txt k ++ r) = some (k, r)
  | 0, _, _, _, h, _ => by omega
  | n + 1, .o i, r, h, _, hr => by
    have hf : halt FIG r := fun c q e => (hr c q e).1
    have e := pNum_num h hf
    rw [txt]
    unfold pKind
    have hi : isFig (TL.numL i ++ r) = true := by
      cases e : TL.numL i with
      | nil => exact absurd e (TL.numL_ne i)
      | cons c q =>
        have := TL.numL_digits i c (by rw [e]; exact .head _)
        exact decide_eq_true (fig_iff.mpr this)
    rw [if_pos hi, e]
  | n + 1, .m s ps, r, ⟨h1, h2, h3⟩, hd, hr => by
    obtain ⟨h4, h5⟩ := nameL_mem h1
    have hl : ∀ c ∈ s, c ∈ LETS := fun c hc => low_lets (h5 c hc)
    have hi : ∀ x, isFig (s ++ x) = false := fun x => by
      cases s with
      | nil => exact absurd rfl h4
      | cons c q =>
        have := low_iff.mp (h5 c (.head _))
        refine decide_eq_false fun z => ?_
        have := fig_iff.mp z
        omega
    rw [txt, txts_map]
    split
    · rename_i e
      have e : ps = [] := List.length_eq_zero_iff.mp e
      subst e
      obtain ⟨e1, e2⟩ := spn_stop (r := r) hl fun c q e => (hr c q e).2.1
      unfold pKind
      rw [hi, e1, e2, h1]
      rw [if_neg (by simp), if_pos rfl, if_neg]
      cases r with
      | nil => simp
      | cons c q => simpa using (hr c q rfl).2.2
    · have hks : deps' ps ≤ n - 1 ∧ 1 ≤ n := by
        simp only [Kd.dep] at hd
        omega
      rw [List.append_assoc, List.cons_append, List.append_assoc]
      obtain ⟨e1, e2⟩ := spn_stop (r := 40 :: (TL.joinL [44, 32] (ps.map txt) ++ ([41] ++ r))) hl fun c q e => by cases e; decide
      unfold pKind
      rw [hi, e1, e2, h1]
      have hb := pMany_back (pk := pKind n) (t := txt) (ks := ps) (r := r) h2 (fun k hk r hr => pKind_back (oks_iff.mp h3 k hk) (by have := deps_iff.mp hks.1 k hk; omega) (fun c q e => by
        subst e
        rcases hr with hr | hr
        · obtain rfl : c = 41 := by simpa using hr
          decide
        · obtain rfl : c = 44 := by simpa using hr
          decide)) fun k hk => txt_head (oks_iff.mp h3 k hk)
      rw [if_neg (by simp), if_pos rfl, if_pos (by simp)]
      have : (40 :: (TL.joinL [44, 32] (ps.map txt) ++ ([41] ++ r))).drop 1 = TL.joinL [44, 32] (ps.map txt) ++ 41 :: r := rfl
      rw [this, hb]
theorem opn_low {s : List Nat} (h : ∀ c ∈ s, lowC c = true) : opn s = 0 := by
  unfold opn
  rw [List.countP_eq_zero]
  intro c hc e
  have := low_iff.mp (h c hc)
  have := eq_of_beq e
  omega
theorem opn_join : ∀ ls : List (List Nat), opn (TL.joinL [44, 32] ls) = (ls.map opn).sum
  | [] => rfl
  | [l] => by simp [TL.joinL]
  | l :: m :: ls => by
    have := opn_join (m :: ls)
    simp only [TL.joinL, opn_app, this, List.map_cons, List.sum_cons] at *
    have : opn [44, 32] = 0 := rfl
    omega
mutual
theorem opn_txt (k : Kd) (h : k.ok) : opn (txt k) ≤ k.sz := match k with
  | .o n => by
    rw [txt]
    have : opn (TL.numL n) = 0 := by
      unfold opn
      rw [List.countP_eq_zero]
      intro c hc e
      have := TL.numL_digits n c hc
      have := eq_of_beq e
      omega
    omega
  | .m s ps => by
    have := opn_txts ps h.2.2
    have h0 := opn_low (nameL_mem h.1).2
    simp only [txt, Kd.sz]
    split
    · omega
    · rw [show s ++ 40 :: (TL.joinL [44, 32] (txts ps) ++ [41]) = s ++ ([40] ++ (TL.joinL [44, 32] (txts ps) ++ [41])) from rfl, opn_app, opn_app, opn_app, opn_join]
      have h1 : opn [40] = 1 := rfl
      have h2 : opn [41] = 0 := rfl
      omega
theorem opn_txts (ks : List Kd) (h : oks ks) : ((txts ks).map opn).sum ≤ szs ks := match ks with
  | [] => by simp [txts, szs]
  | k :: ks => by
    have := opn_txt k h.1
    have := opn_txts ks h.2
    simp only [txts, szs, List.map_cons, List.sum_cons]
    omega
end
mutual
theorem len_txt (k : Kd) (h : k.ok) : (txt k).length + 2 ≤ 64 * k.sz := match k with
  | .o n => by
    rw [txt]
    have := TL.numL_len (n := n) (k := 60) (by decide) h
    simp only [Kd.sz]
    omega
  | .m s ps => by
    have := len_txts ps h.2.2
    have j := joinL_len (txts ps)
    have h0 : s.length ≤ 8 := by
      have := h.1
      unfold nameL at this
      simp only [Bool.and_eq_true, decide_eq_true_eq] at this
      exact this.1.2
    simp only [txt, Kd.sz]
    split
    · omega
    · simp only [List.length_append, List.length_cons, List.length_nil]
      omega
theorem len_txts (ks : List Kd) (h : oks ks) : ((txts ks).map fun l => l.length + 2).sum ≤ 64 * szs ks := match ks with
  | [] => by simp [txts, szs]
  | k :: ks => by
    have := len_txt k h.1
    have := len_txts ks h.2
    simp only [txts, szs, List.map_cons, List.sum_cons]
    omega
end
end Ev
end

section
set_option Elab.async false
set_option linter.all false
set_option maxRecDepth 100000
set_option maxHeartbeats 1000000
set_option exponentiation.threshold 300
/-! expressions: written, read -/
open PySem
namespace Ev
mutual
inductive Ex where
  | num (i : Int) | nam (s : List Nat) | frm (s : List Nat) (as : List Ex) | cal (s : List Nat) (as : List Ex) | cas (e : Ex) (arms : List Arm)
inductive Arm where
  | mk (f : List Nat) (ns : List (List Nat)) (e : Ex)
end
def lowB (c : Nat) : Bool := lowC c
def uppC (c : Nat) : Bool := decide (65 ≤ c) && decide (c ≤ 90)
def formL (s : List Nat) : Bool := decide (1 ≤ s.length) && decide (s.length ≤ 8) && (match s with
  | c :: r => uppC c && r.all lowC
  | [] => false)
mutual
def dE : Ex → D
  | .num i => .tup [.str (St [110, 117, 109, 98, 101, 114]), .int i]
  | .nam s => .tup [.str (St [110, 97, 109, 101]), .str (St s)]
  | .frm s as => .tup [.str (St [102, 111, 114, 109]), .str (St s), .tup (dEs as)]
  | .cal s as => .tup [.str (St [99, 97, 108, 108]), .str (St s), .tup (dEs as)]
  | .cas e arms => .tup [.str (St [99, 97, 115, 101]), dE e, .tup (dAs arms)]
def dEs : List Ex → List D
  | [] => []
  | e :: es => dE e :: dEs es
def dAs : List Arm → List D
  | [] => []
  | a :: as => dA a :: dAs as
def dA : Arm → D
  | .mk f ns e => .tup [.str (St f), .tup (ns.map fun s => .str (St s)), dE e]
end
mutual
def Ex.dep : Ex → Nat
  | .num _ => 0
  | .nam _ => 0
  | .frm _ as => depE as + 1
  | .cal _ as => depE as + 1
  | .cas e arms => max e.dep (depA arms) + 1
def depE : List Ex → Nat
  | [] => 0
  | e :: es => max e.dep (depE es)
def depA : List Arm → Nat
  | [] => 0
  | a :: as => max a.dep (depA as)
def Arm.dep : Arm → Nat
  | .mk _ _ e => e.dep
end
def armOk (f : List Nat) (ns : List (List Nat)) : Prop := formL f = true ∧ ns.length ≤ 3 ∧ (∀ s ∈ ns, nameL s = true) ∧ ns.Nodup
mutual
def Ex.ok : Ex → Prop
  | .num i => i.natAbs < 10 ^ 60
  | .nam s => nameL s = true
  | .frm s as => formL s = true ∧ as.length ≤ 3 ∧ okE as
  | .cal s as => nameL s = true ∧ as.length ≤ 3 ∧ okE as
  | .cas e arms => e.ok ∧ 1 ≤ arms.length ∧ arms.length ≤ 4 ∧ okA arms
def okE : List Ex → Prop
  | [] => True
  | e :: es => e.ok ∧ okE es
def okA : List Arm → Prop
  | [] => True
  | a :: as => a.ok ∧ okA as
def Arm.ok : Arm → Prop
  | .mk f ns e => armOk f ns ∧ e.ok
end
/-- a number's signs -/
def intL (i : Int) : List Nat := if i < 0 then 45 :: TL.numL i.natAbs else TL.numL i.natAbs
mutual
def txE : Ex → List Nat
  | .num i => intL i
  | .nam s => s
  | .frm s as => s ++ 40 :: (TL.joinL [44, 32] (txEs as) ++ [41])
  | .cal s as => s ++ 40 :: (TL.joinL [44, 32] (txEs as) ++ [41])
  | .cas e arms => 91 :: (txE e ++ 58 :: 32 :: (TL.joinL [59, 32] (txAs arms) ++ [93]))
def txEs : List Ex → List (List Nat)
  | [] => []
  | e :: es => txE e :: txEs es
def txAs : List Arm → List (List Nat)
  | [] => []
  | a :: as => txA a :: txAs as
def txA : Arm → List Nat
  | .mk f ns e => f ++ 40 :: (TL.joinL [44, 32] ns ++ 41 :: 32 :: txE e)
end
theorem dEs_map : ∀ es : List Ex, dEs es = es.map dE
  | [] => rfl
  | _ :: es => by rw [dEs, List.map_cons, dEs_map es]
theorem dAs_map : ∀ es : List Arm, dAs es = es.map dA
  | [] => rfl
  | _ :: es => by rw [dAs, List.map_cons, dAs_map es]
theorem txEs_map : ∀ es : List Ex, txEs es = es.map txE
  | [] => rfl
  | _ :: es => by rw [txEs, List.map_cons, txEs_map es]
theorem txAs_map : ∀ es : List Arm, txAs es = es.map txA
  | [] => rfl
  | _ :: es => by rw [txAs, List.map_cons, txAs_map es]
theorem okE_iff : ∀ {es : List Ex}, okE es ↔ ∀ e ∈ es, e.ok
  | [] => by simp [okE]
  | e :: es => by simp [okE, okE_iff (es := es)]
theorem okA_iff : ∀ {es : List Arm}, okA es ↔ ∀ e ∈ es, e.ok
  | [] => by simp [okA]
  | e :: es => by simp [okA, okA_iff (es := es)]
theorem depE_iff {n : Nat} : ∀ {es : List Ex}, depE es ≤ n ↔ ∀ e ∈ es, e.dep ≤ n
  | [] => by simp [depE]
  | e :: es => by simp [depE, depE_iff (es := es), Nat.max_le]
theorem depA_iff {n : Nat} : ∀ {es : List Arm}, depA es ≤ n ↔ ∀ e ∈ es, e.dep ≤ n
  | [] => by simp [depA]
  | e :: es => by simp [depA, depA_iff (es := es), Nat.max_le]
/-! ### reading -/
def isNum : List Nat → Bool
  | c :: _ => decide (c ∈ 45 :: FIG)
  | [] => false
def pName (s : List Nat) : Option (List Nat × List Nat) := if nameL (spn LETS s) = true then some (spn LETS s, aft LETS s) else none
section
variable (pe : List Nat → Option (Ex × List Nat))
def pArm (s : List Nat) : Option (Arm × List Nat) := if formL (spn LETS s) = true then (if (aft LETS s).take 1 = [40] then (match pMany pName ((aft LETS s).drop 1) with
    | none => none
    | some (ns, s1) => if ns.Nodup then (if s1.take 1 = [32] then (match pe (s1.drop 1) with
      | none => none
      | some (e, s2) => some (.mk (spn LETS s) ns e, s2)) else none) else none) else none) else none
/-- further arms -/
def pArms : Nat → List Nat → Option (List Arm × List Nat)
  | 0, _ => none
  | k + 1, s => if s.take 2 = [59, 32] then (match pArm pe (s.drop 2) with
    | none => none
    | some (a, s1) => match pArms k s1 with
      | none => none
      | some (as, s2) => some (a :: as, s2)) else some ([], s)
def pCase (s : List Nat) : Option (Ex × List Nat) := match pe s with
  | none => none
  | some (e, s1) => if s1.take 2 = [58, 32] then (match pArm pe (s1.drop 2) with
    | none => none
    | some (a, s2) => match pArms pe (s2.length + 1) s2 with
      | none => none
      | some (as, s3) => if s3.take 1 = [93] then (if as.length + 1 ≤ 4 then some (.cas e (a :: as), s3.drop 1) else none) else none) else none
end
def pExp : Nat → List Nat → Option (Ex × List Nat)
  | 0, _ => none
  | n + 1, s => if isNum s = true then (match pInt s with
      | none => none
      | some (i, s1) => some (.num i, s1))
    else if s.take 1 = [91] then pCase (pExp n) (s.drop 1)
    else if (aft LETS s).take 1 = [40] then (match pMany (pExp n) ((aft LETS s).drop 1) with
      | none => none
      | some (as, s1) => if formL (spn LETS s) = true then some (.frm (spn LETS s) as, s1) else if nameL (spn LETS s) = true then some (.cal (spn LETS s) as, s1) else none)
    else if nameL (spn LETS s) = true then some (.nam (spn LETS s), aft LETS s) else none
/-! ### brackets -/
def brk (c : Nat) : Int := if c = 40 ∨ c = 91 then 1 else if c = 41 ∨ c = 93 then -1 else 0
/-- opened less closed -/
def nt (s : List Nat) : Int := (s.map brk).sum
/-- the most that stand open at once -/
def mx : List Nat → Nat
  | [] => 0
  | c :: s => (brk c + (mx s : Int)).toNat
theorem nt_app (a b : List Nat) : nt (a ++ b) = nt a + nt b := by simp [nt]
theorem nt_c (c : Nat) (s : List Nat) : nt (c :: s) = brk c + nt s := by simp [nt]
theorem mx_app : ∀ (a b : List Nat), nt a + (mx b : Int) ≤ mx (a ++ b)
  | [], b => by simp [nt]
  | c :: a, b => by
    have := mx_app a b
    rw [nt_c, List.cons_append, mx]
    omega
theorem brk_let {c : Nat} (h : c ∈ LETS) : brk c = 0 := by
  have := lets_iff.mp h
  unfold brk
  rw [if_neg (by omega), if_neg (by omega)]
theorem brk_fig {c : Nat} (h : c ∈ FIG) : brk c = 0 := by
  have := fig_iff.mp h
  unfold brk
  rw [if_neg (by omega), if_neg (by omega)]
theorem nt_zero {s : List Nat} (h : ∀ c ∈ s, brk c = 0) : nt s = 0 := by
  induction s with
  | nil => rfl
  | cons c s ih => rw [nt_c, h c (.head _), ih fun d hd => h d (.tail _ hd)]; rfl
theorem nt_spn_let (s : List Nat) : nt (spn LETS s) = 0 := nt_zero fun c hc => brk_let (spn_all hc)
theorem nt_spn_fig (s : List Nat) : nt (spn FIG s) = 0 := nt_zero fun c hc => brk_fig (spn_all hc)
theorem take1 {s : List Nat} {c : Nat} (h : s.take 1 = [c]) : s = c :: s.drop 1 := by
  have := List.take_append_drop 1 s
  rw [h] at this
  exact this.symm
theorem take2 {s : List Nat} {c d : Nat} (h : s.take 2 = [c, d]) : s = c :: d :: s.drop 2 := by
  have := List.take_append_drop 2 s
  rw [h] at this
  exact this.symm
end Ev
end

section
set_option Elab.async false
set_option linter.all false
set_option maxRecDepth 100000
set_option maxHeartbeats 1000000
set_option exponentiation.threshold 300
/-! expressions: what reading comes to -/
open PySem
namespace Ev
section
variable {α : Type} {pk : List Nat → Option (α × List Nat)}
theorem pTail_net (hk : ∀ s k s', pk s = some (k, s') → nt s = nt s') : ∀ {m : Nat} {s : List Nat} {ks : List α} {s' : List Nat}, pTail pk m s = some (ks, s') → nt s' = nt s + 1
  | m, s, ks, s', h => by
    unfold pTail at h
    split at h
    · rename_i e
      cases h
      rw [take1 e, nt_c]
      have : brk 41 = -1 := rfl
      simp only [List.drop_one, List.tail_cons] at *
      omega
    · split at h
      · rename_i e
        cases m with
        | zero => cases h
        | succ m =>
          dsimp only at h
          split at h
          · cases h
          · rename_i k s1 e1
            split at h
            · cases h
            · rename_i ks s2 e2
              cases h
              have h1 := hk _ _ _ e1
              have h2 := pTail_net hk e2
              have h3 : nt s = nt (s.drop 2) := by
                conv => lhs; rw [take2 e, nt_c, nt_c]
                have a : brk 44 = 0 := rfl
                have b : brk 32 = 0 := rfl
                omega
              omega
      · cases h
theorem pMany_net (hk : ∀ s k s', pk s = some (k, s') → nt s = nt s') {s : List Nat} {ks : List α} {s' : List Nat} (h : pMany pk s = some (ks, s')) : nt s' = nt s + 1 := by
  unfold pMany at h
  split at h
  · rename_i e
    cases h
    rw [take1 e, nt_c]
    have : brk 41 = -1 := rfl
    simp only [List.drop_one, List.tail_cons] at *
    omega
  · split at h
    · cases h
    · rename_i k s1 e1
      split at h
      · cases h
      · rename_i ks s2 e2
        cases h
        have h1 := hk _ _ _ e1
        have h2 := pTail_net hk e2
        omega
end
theorem pInt_spec {s s' : List Nat} {i : Int} (h : pInt s = some (i, s')) : (∃ w, s = w ++ s' ∧ i.natAbs < 10 ^ 60 ∧ (intL i).length ≤ w.length) ∧ nt s = nt s' := by
  unfold pInt at h
  split at h
  · rename_i e
    split at h
    · cases h
    · rename_i n s1 e1
      cases h
      obtain ⟨a, b, c⟩ := pNum_ok e1
      refine ⟨⟨45 :: spn FIG (s.drop 1), ?_, by omega, ?_⟩, ?_⟩
      · conv => lhs; rw [take1 e, a]
        rfl
      · unfold intL
        have : (-(n : Int)).natAbs = n := by omega
        rw [this]
        split
        · simp only [List.length_cons]; omega
        · simp only [List.length_cons]; omega
      · conv => lhs; rw [take1 e, nt_c, a, nt_app, nt_spn_fig]
        have : brk 45 = 0 := rfl
        omega
  · split at h
    · cases h
    · rename_i n s1 e1
      cases h
      obtain ⟨a, b, c⟩ := pNum_ok e1
      refine ⟨⟨spn FIG s, a, by omega, ?_⟩, ?_⟩
      · unfold intL
        rw [if_neg (by omega)]
        simpa using c
      · conv => lhs; rw [a, nt_app, nt_spn_fig]
        omega
theorem pName_spec {s w s' : List Nat} (h : pName s = some (w, s')) : (∃ v, s = v ++ s' ∧ nameL w = true ∧ w.length ≤ v.length) ∧ nt s = nt s' := by
  unfold pName at h
  split at h
  · rename_i e
    cases h
    refine ⟨⟨_, (spn_aft _ _).symm, e, Nat.le_refl _⟩, ?_⟩
    conv => lhs; rw [← spn_aft LETS s, nt_app, nt_spn_let]
    omega
  · cases h
/-- what a reading of expressions keeps -/
def PeOk (n : Nat) (pe : List Nat → Option (Ex × List Nat)) : Prop := ∀ s e s', pe s = some (e, s') → (∃ w, s = w ++ s' ∧ (e.ok ∧ e.dep ≤ n) ∧ (txE e).length ≤ w.length) ∧ nt s = nt s'
theorem pArm_spec {n : Nat} {pe : List Nat → Option (Ex × List Nat)} (hp : PeOk n pe) {s s' : List Nat} {a : Arm} (h : pArm pe s = some (a, s')) : (∃ w, s = w ++ s' ∧ (a.ok ∧ a.dep ≤ n) ∧ (txA a).length ≤ w.length) ∧ nt s = nt s' := by
  unfold pArm at h
  split at h
  · rename_i hf
    split at h
    · rename_i hb
      split at h
      · cases h
      · rename_i ns s1 e1
        split at h
        · rename_i hn
          split at h
          · rename_i hsp
            split at h
            · cases h
            · rename_i e s2 e2
              cases h
              obtain ⟨w1, a1, a2, a3, a4⟩ := pMany_spec (Q := fun s => nameL s = true) (len := fun s => s.length) (fun s k s' h => (pName_spec h).1) e1
              have n1 := pMany_net (fun s k s' h => (pName_spec h).2) e1
              obtain ⟨⟨w2, b1, ⟨b2, b3⟩, b4⟩, n2⟩ := hp _ _ _ e2
              have sa := spn_aft LETS s
              have t1 := take1 hb
              have t2 := take1 hsp
              refine ⟨⟨spn LETS s ++ 40 :: (w1 ++ 32 :: w2), ?_, ⟨⟨⟨hf, a2, a3, hn⟩, b2⟩, b3⟩, ?_⟩, ?_⟩
              · conv => lhs; rw [← sa, t1, a1, t2, b1]
                simp
              · rw [txA]
                have j := joinL_len ns
                have j2 : ns ≠ [] → (TL.joinL [44, 32] ns).length + 2 = (ns.map fun l => l.length + 2).sum := joinL_len2 ns
                have j3 : ns = [] → (TL.joinL [44, 32] ns).length = 0 := fun e => by subst e; rfl
                have w1n : 1 ≤ w1.length := by
                  have := congrArg List.length a1
                  by_cases hz : w1 = []
                  · subst hz
                    rw [List.nil_append] at a1
                    rw [a1] at n1
                    omega
                  · exact List.length_pos_iff.mpr hz
                simp only [List.length_append, List.length_cons, List.length_nil]
                by_cases hz : ns = []
                · have := j3 hz; omega
                · have := j2 hz; omega
              · conv => lhs; rw [← sa, nt_app, nt_spn_let, t1, nt_c]
                have : nt s1 = nt (s1.drop 1) := by
                  conv => lhs; rw [t2, nt_c]
                  have : brk 32 = 0 := rfl
                  omega
                have : brk 40 = 1 := rfl
                omega
          · cases h
        · cases h
    · cases h
  · cases h
theorem pArms_spec {n : Nat} {pe : List Nat → Option (Ex × List Nat)} (hp : PeOk n pe) : ∀ {k : Nat} {s s' : List Nat} {as : List Arm}, pArms pe k s = some (as, s') → (∃ w, s = w ++ s' ∧ (okA as ∧ depA as ≤ n) ∧ (as.map fun a => (txA a).length + 2).sum ≤ w.length) ∧ nt s = nt s'
  | 0, _, _, _, h => by cases h
  | k + 1, s, s', as, h => by
    unfold pArms at h
    split at h
    · rename_i e
      split at h
      · cases h
      · rename_i a s1 e1
        split at h
        · cases h
        · rename_i as s2 e2
          cases h
          obtain ⟨⟨w1, a1, ⟨a2, a3⟩, a4⟩, n1⟩ := pArm_spec hp e1
          obtain ⟨⟨w2, b1, ⟨b2, b3⟩, b4⟩, n2⟩ := pArms_spec hp e2
          have t := take2 e
          refine ⟨⟨59 :: 32 :: (w1 ++ w2), ?_, ⟨⟨a2, b2⟩, by simp only [depA]; omega⟩, by simp; omega⟩, ?_⟩
          · conv => lhs; rw [t, a1, b1]
            simp
          · conv => lhs; rw [t, nt_c, nt_c]
            have : brk 59 = 0 := rfl
            have : brk 32 = 0 := rfl
            omega
    · cases h
      exact ⟨⟨[], rfl, ⟨trivial, Nat.zero_le _⟩, by simp⟩, rfl⟩
theorem joinA_len : ∀ (ls : List (List Nat)), ls ≠ [] → (TL.joinL [59, 32] ls).length + 2 = (ls.map fun l => l.length + 2).sum
  | [l], _ => by simp [TL.joinL]
  | l :: m :: ls, _ => by
    have := joinA_len (m :: ls) (by simp)
    simp only [TL.joinL, List.length_append, List.map_cons, List.sum_cons, List.length_cons, List.length_nil] at *
    omega
theorem pCase_spec {n : Nat} {pe : List Nat → Option (Ex × List Nat)} (hp : PeOk n pe) {s s' : List Nat} {e : Ex} (h : pCase pe s = some (e, s')) : (∃ w, s = w ++ s' ∧ (e.ok ∧ e.dep ≤ n + 1) ∧ (txE e).length ≤ w.length + 1) ∧ nt s' = nt s + 1 := by
  unfold pCase at h
  split at h
  · cases h
  · rename_i e0 s1 e1
    split at h
    · rename_i h1
      split at h
      · cases h
      · rename_i a s2 e2
        split at h
        · cases h
        · rename_i as s3 e3
          split at h
          · rename_i h2
            split at h
            · rename_i h3
              cases h
              obtain ⟨⟨w1, a1, ⟨a2, a3⟩, a4⟩, n1⟩ := hp _ _ _ e1
              obtain ⟨⟨w2, b1, ⟨b2, b3⟩, b4⟩, n2⟩ := pArm_spec hp e2
              obtain ⟨⟨w3, c1, ⟨c2, c3⟩, c4⟩, n3⟩ := pArms_spec hp e3
              have t1 := take2 h1
              have t2 := take1 h2
              refine ⟨⟨w1 ++ 58 :: 32 :: (w2 ++ (w3 ++ [93])), ?_, ⟨⟨a2, by simp, by simpa using h3, ⟨b2, c2⟩⟩, by simp only [Ex.dep, depA]; omega⟩, ?_⟩, ?_⟩
              · conv => lhs; rw [a1, t1, b1, c1, t2]
                simp
              · have j := joinA_len (txAs (a :: as)) (by rw [txAs]; simp)
                rw [txAs_map, List.map_map] at j
                rw [txE, txAs_map]
                simp only [List.length_append, List.length_cons, List.length_nil, List.map_cons, List.sum_cons, Function.comp_def] at *
                omega
              · have u1 : nt s1 = nt (s1.drop 2) := by
                  conv => lhs; rw [t1, nt_c, nt_c]
                  have : brk 58 = 0 := rfl
                  have : brk 32 = 0 := rfl
                  omega
                have u2 : nt s3 = -1 + nt (s3.drop 1) := by
                  conv => lhs; rw [t2, nt_c]
                  rfl
                omega
            · cases h
          · cases h
    · cases h
theorem pExp_spec : ∀ {n : Nat}, PeOk n (pExp n)
  | 0 => fun s e s' h => by cases h
  | n + 1 => fun s e s' h => by
    unfold pExp at h
    split at h
    · split at h
      · cases h
      · rename_i i s1 e1
        cases h
        obtain ⟨⟨w, a, b, c⟩, d⟩ := pInt_spec e1
        exact ⟨⟨w, a, ⟨b, by simp [Ex.dep]⟩, by rw [txE]; exact c⟩, d⟩
    · split at h
      · rename_i hb
        obtain ⟨⟨w, a, ⟨b, c⟩, d⟩, f⟩ := pCase_spec pExp_spec h
        have t := take1 hb
        refine ⟨⟨91 :: w, ?_, ⟨b, c⟩, by simp; omega⟩, ?_⟩
        · conv => lhs; rw [t, a]
          rfl
        · conv => lhs; rw [t, nt_c]
          have : brk 91 = 1 := rfl
          omega
      · split at h
        · rename_i hb
          split at h
          · cases h
          · rename_i as s1 e1
            obtain ⟨w, a, b, c, d⟩ := pMany_spec (Q := fun e => e.ok ∧ e.dep ≤ n) (len := fun e => (txE e).length) (fun s k s' h => (pExp_spec s k s' h).1) e1
            have nn := pMany_net (fun s k s' h => (pExp_spec s k s' h).2) e1
            have sa := spn_aft LETS s
            have t := take1 hb
            have wn : 1 ≤ w.length := by
              by_cases hz : w = []
              · subst hz
                rw [List.nil_append] at a
                rw [a] at nn
                omega
              · exact List.length_pos_iff.mpr hz
            have hlen : (spn LETS s ++ 40 :: (TL.joinL [44, 32] (txEs as) ++ [41])).length ≤ (spn LETS s ++ 40 :: w).length := by
              rw [txEs_map]
              have j2 : as ≠ [] → (TL.joinL [44, 32] (as.map txE)).length + 2 = ((as.map txE).map fun l => l.length + 2).sum := fun hz => joinL_len2 _ (by simpa using hz)
              have j3 : as = [] → (TL.joinL [44, 32] (as.map txE)).length = 0 := fun e => by subst e; rfl
              simp only [List.map_map, Function.comp_def] at j2
              simp only [List.length_append, List.length_cons, List.length_nil]
              by_cases hz : as = []
              · have := j3 hz; omega
              · have := j2 hz; omega
            have hs : s = (spn LETS s ++ 40 :: w) ++ s1 := by
              conv => lhs; rw [← sa, t, a]
              simp
            have hnt : nt s = nt s1 := by
              conv => lhs; rw [← sa, nt_app, nt_spn_let, t, nt_c]
              have : brk 40 = 1 := rfl
              omega
            have hok : okE as := okE_iff.mpr fun e he => (c e he).1
            have hdp : depE as ≤ n := depE_iff.mpr fun e he => (c e he).2
            split at h
            · rename_i hf
              cases h
              exact ⟨⟨_, hs, ⟨⟨hf, b, hok⟩, by simp only [Ex.dep]; omega⟩, by rw [txE]; exact hlen⟩, hnt⟩
            · split at h
              · rename_i hf
                cases h
                exact ⟨⟨_, hs, ⟨⟨hf, b, hok⟩, by simp only [Ex.dep]; omega⟩, by rw [txE]; exact hlen⟩, hnt⟩
              · cases h
        · split at h
          · rename_i hf
            cases h
            refine ⟨⟨_, (spn_aft LETS s).symm, ⟨hf, by simp [Ex.dep]⟩, by rw [txE]; exact Nat.le_refl _⟩, ?_⟩
            conv => lhs; rw [← spn_aft LETS s, nt_app, nt_spn_let]
            omega
          · cases h
end Ev
end

section
set_option Elab.async false
set_option linter.all false
set_option maxRecDepth 100000
set_option maxHeartbeats 1000000
set_option exponentiation.threshold 300
/-! expressions: what is written is read again -/
open PySem
namespace Ev
theorem upp_iff {c : Nat} : uppC c = true ↔ 65 ≤ c ∧ c ≤ 90 := by unfold uppC; simp
theorem formL_mem {s : List Nat} (h : formL s = true) : s ≠ [] ∧ ∀ c ∈ s, c ∈ LETS := by
  unfold formL at h
  cases s with
  | nil => simp at h
  | cons c r =>
    simp only [Bool.and_eq_true, List.all_eq_true] at h
    refine ⟨by simp, fun d hd => ?_⟩
    rcases List.mem_cons.mp hd with rfl | hd
    · exact lets_iff.mpr (.inr (upp_iff.mp h.2.1))
    · exact low_lets (h.2.2 d hd)
theorem nameL_lets {s : List Nat} (h : nameL s = true) : ∀ c ∈ s, c ∈ LETS := fun c hc => low_lets ((nameL_mem h).2 c hc)
theorem name_not_form {s : List Nat} (h : nameL s = true) : formL s = false := by
  cases hf : formL s with
  | false => rfl
  | true =>
    obtain ⟨h1, h2⟩ := nameL_mem h
    cases s with
    | nil => exact absurd rfl h1
    | cons c r =>
      unfold formL at hf
      simp only [Bool.and_eq_true] at hf
      have a := upp_iff.mp hf.2.1
      have b := low_iff.mp (h2 c (.head _))
      omega
theorem isNum_let {s r : List Nat} (h1 : s ≠ []) (h2 : ∀ c ∈ s, c ∈ LETS) : isNum (s ++ r) = false := by
  cases s with
  | nil => exact absurd rfl h1
  | cons c s =>
    have := lets_iff.mp (h2 c (.head _))
    refine decide_eq_false fun z => ?_
    rcases List.mem_cons.mp z with rfl | z
    · omega
    · have := fig_iff.mp z
      omega
theorem head_let {s r : List Nat} (h1 : s ≠ []) (h2 : ∀ c ∈ s, c ∈ LETS) : ¬ (s ++ r).take 1 = [91] := by
  cases s with
  | nil => exact absurd rfl h1
  | cons c s =>
    have := lets_iff.mp (h2 c (.head _))
    intro z
    obtain rfl : c = 91 := by simpa using z
    omega
theorem pInt_back {i : Int} {r : List Nat} (h : i.natAbs < 10 ^ 60) (hr : halt FIG r) : pInt (intL i ++ r) = some (i, r) ∧ isNum (intL i ++ r) = true := by
  have e := pNum_num h hr
  unfold intL
  split
  · rename_i hi
    refine ⟨?_, rfl⟩
    unfold pInt
    have : -((i.natAbs : Nat) : Int) = i := by omega
    simp [e, this]
  · rename_i hi
    have hd : ∃ c q, TL.numL i.natAbs = c :: q ∧ c ∈ FIG := by
      cases e2 : TL.numL i.natAbs with
      | nil => exact absurd e2 (TL.numL_ne _)
      | cons c q => exact ⟨c, q, rfl, fig_iff.mpr (TL.numL_digits _ c (by rw [e2]; exact .head _))⟩
    obtain ⟨c, q, e2, hc⟩ := hd
    have h45 : ¬ (TL.numL i.natAbs ++ r).take 1 = [45] := fun z => by
      rw [e2] at z
      obtain rfl : c = 45 := by simpa using z
      exact absurd hc (by decide)
    refine ⟨?_, ?_⟩
    · unfold pInt
      rw [if_neg h45, e]
      have : ((i.natAbs : Nat) : Int) = i := by omega
      simp [this]
    · rw [e2]
      exact decide_eq_true (List.mem_cons_of_mem _ hc)
theorem pName_back {s r : List Nat} (h : nameL s = true) (hr : halt LETS r) : pName (s ++ r) = some (s, r) := by
  obtain ⟨e1, e2⟩ := spn_stop (r := r) (nameL_lets h) hr
  unfold pName
  rw [e1, e2, if_pos h]
theorem txE_head : ∀ {e : Ex}, e.ok → ∃ c q, txE e = c :: q ∧ c ≠ 41
  | .num i, _ => by
    rw [txE]
    unfold intL
    split
    · exact ⟨45, _, rfl, by decide⟩
    · cases e2 : TL.numL i.natAbs with
      | nil => exact absurd e2 (TL.numL_ne _)
      | cons c q =>
        refine ⟨c, q, rfl, fun z => ?_⟩
        have := TL.numL_digits i.natAbs c (by rw [e2]; exact .head _)
        omega
  | .nam s, h => by
    obtain ⟨h1, h2⟩ := nameL_mem h
    cases s with
    | nil => exact absurd rfl h1
    | cons c q => exact ⟨c, q, by rw [txE], fun z => by have := low_iff.mp (h2 c (.head _)); omega⟩
  | .cal s as, h => by
    obtain ⟨h1, h2⟩ := nameL_mem h.1
    cases s with
    | nil => exact absurd rfl h1
    | cons c q => exact ⟨c, _, by rw [txE]; rfl, fun z => by have := low_iff.mp (h2 c (.head _)); omega⟩
  | .frm s as, h => by
    obtain ⟨h1, h2⟩ := formL_mem h.1
    cases s with
    | nil => exact absurd rfl h1
    | cons c q => exact ⟨c, _, by rw [txE]; rfl, fun z => by have := lets_iff.mp (h2 c (.head _)); omega⟩
  | .cas e arms, _ => ⟨91, _, by rw [txE], by decide⟩
theorem halts_of {r : List Nat} (h : ∀ c q, r = c :: q → c = 41 ∨ c = 44 ∨ c = 58 ∨ c = 59 ∨ c = 93) : halts r := fun c q e => by
  rcases h c q e with rfl | rfl | rfl | rfl | rfl <;> decide
/-- what is read again -/
def PeBack (n : Nat) (pe : List Nat → Option (Ex × List Nat)) : Prop := ∀ e r, e.ok → e.dep < n → halts r → pe (txE e ++ r) = some (e, r)
theorem pArm_back {n : Nat} {pe : List Nat → Option (Ex × List Nat)} (hp : PeBack n pe) {a : Arm} {r : List Nat} (h : a.ok) (hd : a.dep < n) (hr : halts r) : pArm pe (txA a ++ r) = some (a, r) := by
  obtain ⟨f, ns, e⟩ := a
  obtain ⟨⟨h1, h2, h3, h4⟩, h5⟩ := h
  obtain ⟨_, h6⟩ := formL_mem h1
  rw [txA, List.append_assoc, List.cons_append, List.append_assoc, List.cons_append, List.cons_append]
  obtain ⟨e1, e2⟩ := spn_stop (r := 40 :: (TL.joinL [44, 32] ns ++ 41 :: 32 :: (txE e ++ r))) h6 fun c q e => by cases e; decide
  unfold pArm
  rw [e1, e2, if_pos h1, if_pos (by simp)]
  have hb := pMany_back (pk := pName) (t := fun s => s) (ks := ns) (r := 32 :: (txE e ++ r)) h2 (fun s hs r hr => pName_back (h3 s hs) fun c q e => by
    subst e
    rcases hr with hr | hr
    · obtain rfl : c = 41 := by simpa using hr
      decide
    · obtain rfl : c = 44 := by simpa using hr
      decide) fun s hs => by
      obtain ⟨g1, g2⟩ := nameL_mem (h3 s hs)
      cases s with
      | nil => exact absurd rfl g1
      | cons c q => exact ⟨c, q, rfl, fun z => by have := low_iff.mp (g2 c (.head _)); omega⟩
  rw [List.map_id'] at hb
  have he := hp e r h5 hd hr
  simp only [List.drop_one, List.tail_cons, hb, if_pos h4]
  simp [he]
/-- further arms as written -/
def tailA (as : List Arm) : List Nat := as.flatMap fun a => 59 :: 32 :: txA a
theorem joinA_tail (a : Arm) : ∀ as : List Arm, TL.joinL [59, 32] ((a :: as).map txA) = txA a ++ tailA as
  | [] => by simp [TL.joinL, tailA]
  | b :: as => by
    show txA a ++ ([59, 32] ++ TL.joinL [59, 32] ((b :: as).map txA)) = _
    rw [joinA_tail b as]
    simp [tailA]
theorem pArms_back {n : Nat} {pe : List Nat → Option (Ex × List Nat)} (hp : PeBack n pe) : ∀ {as : List Arm} {k : Nat} {r : List Nat}, okA as → depA as < n → as.length < k → pArms pe k (tailA as ++ 93 :: r) = some (as, 93 :: r)
  | _, 0, _, _, _, h => by omega
  | [], k + 1, r, _, _, _ => by unfold pArms; simp [tailA]
  | a :: as, k + 1, r, h, hd, hk => by
    have e : tailA (a :: as) ++ 93 :: r = 59 :: 32 :: (txA a ++ (tailA as ++ 93 :: r)) := by simp [tailA]
    rw [e]
    simp only [depA] at hd
    have h1 := pArm_back hp (a := a) (r := tailA as ++ 93 :: r) h.1 (by omega) (halts_of fun c q e => by
      cases as with
      | nil => simp [tailA] at e; omega
      | cons b as => simp [tailA] at e; omega)
    have h2 := pArms_back hp (as := as) (k := k) (r := r) h.2 (by omega) (by simp at hk; omega)
    unfold pArms
    simp [h1, h2]
theorem txA_len (a : Arm) : 1 ≤ (txA a).length := by
  obtain ⟨f, ns, e⟩ := a
  rw [txA]
  simp only [List.length_append, List.length_cons]
  omega
theorem tailA_len : ∀ as : List Arm, as.length ≤ (tailA as).length
  | [] => Nat.zero_le _
  | a :: as => by
    have := tailA_len as
    simp [tailA] at *
    omega
theorem pExp_back : ∀ {n : Nat}, PeBack n (pExp n)
  | 0 => fun e r _ h _ => by omega
  | n + 1 => fun e r h hd hr => by
    match e, h, hd with
    | .num i, h, hd =>
      obtain ⟨e1, e2⟩ := pInt_back (r := r) h fun c q e => (hr c q e).1
      rw [txE]
      unfold pExp
      rw [if_pos e2, e1]
    | .nam s, h, hd =>
      obtain ⟨h1, h2⟩ := nameL_mem h
      have h3 := nameL_lets h
      obtain ⟨e1, e2⟩ := spn_stop (r := r) h3 fun c q e => (hr c q e).2.1
      rw [txE]
      unfold pExp
      rw [if_neg (by rw [isNum_let h1 h3]; simp), if_neg (head_let h1 h3), e1, e2, if_neg, if_pos (show nameL s = true from h)]
      cases r with
      | nil => simp
      | cons c q => simpa using (hr c q rfl).2.2
    | .frm s as, ⟨h1, h2, h3⟩, hd =>
      obtain ⟨g1, g2⟩ := formL_mem h1
      rw [txE, List.append_assoc, List.cons_append, List.append_assoc, txEs_map]
      obtain ⟨e1, e2⟩ := spn_stop (r := 40 :: (TL.joinL [44, 32] (as.map txE) ++ ([41] ++ r))) g2 fun c q e => by cases e; decide
      simp only [Ex.dep] at hd
      have hb := pMany_back (pk := pExp n) (t := txE) (ks := as) (r := r) h2 (fun e he r hr => pExp_back e r (okE_iff.mp h3 e he) (by have := depE_iff.mp (Nat.le_refl (depE as)) e he; omega) (halts_of fun c q e => by
        subst e
        rcases hr with hr | hr
        · left; simpa using hr
        · right; left; simpa using hr)) fun e he => txE_head (okE_iff.mp h3 e he)
      unfold pExp
      rw [if_neg (by rw [isNum_let g1 g2]; simp), if_neg (head_let g1 g2), e1, e2, if_pos (by simp)]
      have : (40 :: (TL.joinL [44, 32] (as.map txE) ++ ([41] ++ r))).drop 1 = TL.joinL [44, 32] (as.map txE) ++ 41 :: r := rfl
      rw [this, hb]
      simp [h1]
    | .cal s as, ⟨h1, h2, h3⟩, hd =>
      obtain ⟨g1, _⟩ := nameL_mem h1
      have g2 := nameL_lets h1
      rw [txE, List.append_assoc, List.cons_append, List.append_assoc, txEs_map]
      obtain ⟨e1, e2⟩ := spn_stop (r := 40 :: (TL.joinL [44, 32] (as.map txE) ++ ([41] ++ r))) g2 fun c q e => by cases e; decide
      simp only [Ex.dep] at hd
      have hb := pMany_back (pk := pExp n) (t := txE) (ks := as) (r := r) h2 (fun e he r hr => pExp_back e r (okE_iff.mp h3 e he) (by have := depE_iff.mp (Nat.le_refl (depE as)) e he; omega) (halts_of fun c q e => by
        subst e
        rcases hr with hr | hr
        · left; simpa using hr
        · right; left; simpa using hr)) fun e he => txE_head (okE_iff.mp h3 e he)
      unfold pExp
      rw [if_neg (by rw [isNum_let g1 g2]; simp), if_neg (head_let g1 g2), e1, e2, if_pos (by simp)]
      have : (40 :: (TL.joinL [44, 32] (as.map txE) ++ ([41] ++ r))).drop 1 = TL.joinL [44, 32] (as.map txE) ++ 41 :: r := rfl
      rw [this, hb]
      simp [name_not_form h1, h1]
    | .cas e arms, ⟨h1, h2, h3, h4⟩, hd =>
      simp only [Ex.dep] at hd
      cases arms with
      | nil => simp at h2
      | cons a as =>
        simp only [depA] at hd
        rw [txE, txAs_map, joinA_tail, List.cons_append, List.append_assoc, List.cons_append, List.cons_append, List.append_assoc, List.append_assoc]
        have he := pExp_back (n := n) e (58 :: 32 :: (txA a ++ (tailA as ++ ([93] ++ r)))) h1 (by omega) (halts_of fun c q e => by cases e; simp)
        have ha := pArm_back (n := n) pExp_back (a := a) (r := tailA as ++ ([93] ++ r)) h4.1 (by omega) (halts_of fun c q e => by
          cases as with
          | nil => simp [tailA] at e; omega
          | cons b as => simp [tailA] at e; omega)
        have hs := pArms_back (n := n) pExp_back (as := as) (k := (tailA as ++ ([93] ++ r)).length + 1) (r := r) h4.2 (by omega) (by
          have := tailA_len as
          simp only [List.length_append]
          omega)
        unfold pExp
        rw [if_neg (by simp [isNum]; decide), if_pos (by simp)]
        unfold pCase
        have e93 : ([93] : List Nat) ++ r = 93 :: r := rfl
        rw [List.drop_one, List.tail_cons, he]
        rw [e93] at ha hs ⊢
        simp only [List.length_cons] at h3
        dsimp only
        rw [if_pos (by simp)]
        have e0 : (58 :: 32 :: (txA a ++ (tailA as ++ 93 :: r))).drop 2 = txA a ++ (tailA as ++ 93 :: r) := rfl
        rw [e0, ha]
        dsimp only
        rw [hs]
        dsimp only
        rw [if_pos (by simp), if_pos (by omega)]
        rfl
/-! ### how deep brackets stand -/
theorem mx_app_le : ∀ (a b : List Nat), nt a = 0 → mx (a ++ b) ≤ max (mx a) (mx b) := by
  have key : ∀ (a b : List Nat), ((mx (a ++ b) : Nat) : Int) ≤ max (mx a : Int) (nt a + (mx b : Int)) := by
    intro a b
    induction a with
    | nil => simp [mx, nt]
    | cons c a ih =>
      rw [List.cons_append, mx, mx, nt_c]
      omega
  intro a b h
  have := key a b
  omega
theorem mx_join {sep : List Nat} (h0 : nt sep = 0) (h1 : mx sep = 0) : ∀ {ls : List (List Nat)} {m : Nat}, (∀ l ∈ ls, nt l = 0 ∧ mx l ≤ m) → nt (TL.joinL sep ls) = 0 ∧ mx (TL.joinL sep ls) ≤ m
  | [], m, _ => ⟨rfl, Nat.zero_le _⟩
  | [l], m, h => h l (.head _)
  | l :: k :: ls, m, h => by
    obtain ⟨a, b⟩ := mx_join h0 h1 (ls := k :: ls) (m := m) fun x hx => h x (.tail _ hx)
    obtain ⟨c, d⟩ := h l (.head _)
    have e1 := mx_app_le sep (TL.joinL sep (k :: ls)) h0
    have e2 := mx_app_le l (sep ++ TL.joinL sep (k :: ls)) c
    refine ⟨?_, ?_⟩
    · show nt (l ++ (sep ++ TL.joinL sep (k :: ls))) = 0
      rw [nt_app, nt_app, a, c, h0]; rfl
    · show mx (l ++ (sep ++ TL.joinL sep (k :: ls))) ≤ m
      omega
theorem mx_zero {s : List Nat} (h : ∀ c ∈ s, brk c = 0) : mx s = 0 := by
  induction s with
  | nil => rfl
  | cons c s ih => rw [mx, h c (.head _), ih fun d hd => h d (.tail _ hd)]; rfl
theorem mx_brack {o c : Nat} {s : List Nat} {m : Nat} (ho : brk o = 1) (hc : brk c = -1) (h : nt s = 0 ∧ mx s ≤ m) (r : List Nat) (hr : mx r ≤ m) : mx (o :: (s ++ c :: r)) ≤ m + 1 := by
  have h1 := mx_app_le s (c :: r) h.1
  have h2 : mx (c :: r) ≤ mx r := by rw [mx, hc]; omega
  rw [mx, ho]
  omega
theorem lets_brk {s : List Nat} (h : ∀ c ∈ s, c ∈ LETS) : nt s = 0 ∧ mx s = 0 := ⟨nt_zero fun c hc => brk_let (h c hc), mx_zero fun c hc => brk_let (h c hc)⟩
theorem int_brk (i : Int) : nt (intL i) = 0 ∧ mx (intL i) = 0 := by
  have h : ∀ c ∈ intL i, brk c = 0 := by
    intro c hc
    unfold intL at hc
    split at hc
    · rcases List.mem_cons.mp hc with rfl | hc
      · rfl
      · exact brk_fig (fig_iff.mpr (TL.numL_digits _ c hc))
    · exact brk_fig (fig_iff.mpr (TL.numL_digits _ c hc))
  exact ⟨nt_zero h, mx_zero h⟩
mutual
theorem mx_txE (e : Ex) (h : e.ok) : nt (txE e) = 0 ∧ mx (txE e) ≤ e.dep + 1 := match e with
  | .num i => by rw [txE]; have := int_brk i; omega
  | .nam s => by rw [txE]; have := lets_brk (nameL_lets h); omega
  | .frm s as => by
    have hs := lets_brk (formL_mem h.1).2
    have hj := mx_join (sep := [44, 32]) rfl rfl (ls := txEs as) (m := depE as + 1) (mx_txEs as h.2.2 _ (Nat.le_refl _))
    have hb := mx_brack (o := 40) (c := 41) rfl rfl hj [] (Nat.zero_le _)
    have ha := mx_app_le s (40 :: (TL.joinL [44, 32] (txEs as) ++ [41])) hs.1
    rw [txE, Ex.dep]
    refine ⟨?_, by omega⟩
    rw [nt_app, nt_c, nt_app, hs.1, hj.1]; rfl
  | .cal s as => by
    have hs := lets_brk (nameL_lets h.1)
    have hj := mx_join (sep := [44, 32]) rfl rfl (ls := txEs as) (m := depE as + 1) (mx_txEs as h.2.2 _ (Nat.le_refl _))
    have hb := mx_brack (o := 40) (c := 41) rfl rfl hj [] (Nat.zero_le _)
    have ha := mx_app_le s (40 :: (TL.joinL [44, 32] (txEs as) ++ [41])) hs.1
    rw [txE, Ex.dep]
    refine ⟨?_, by omega⟩
    rw [nt_app, nt_c, nt_app, hs.1, hj.1]; rfl
  | .cas e arms => by
    obtain ⟨a1, a2⟩ := mx_txE e h.1
    have hj := mx_join (sep := [59, 32]) rfl rfl (ls := txAs arms) (m := depA arms + 1) (mx_txAs arms h.2.2.2 _ (Nat.le_refl _))
    have h1 := mx_app_le (txE e) (58 :: 32 :: TL.joinL [59, 32] (txAs arms)) a1
    have h2 : mx (58 :: 32 :: TL.joinL [59, 32] (txAs arms)) = mx (TL.joinL [59, 32] (txAs arms)) := by
      rw [mx, mx]
      have a : brk 58 = 0 := rfl
      have b : brk 32 = 0 := rfl
      omega
    have h3 : nt (txE e ++ 58 :: 32 :: TL.joinL [59, 32] (txAs arms)) = 0 := by
      rw [nt_app, nt_c, nt_c, a1, hj.1]; rfl
    have hb := mx_brack (o := 91) (c := 93) (m := max e.dep (depA arms) + 1) rfl rfl ⟨h3, by omega⟩ [] (Nat.zero_le _)
    have ht : txE (.cas e arms) = 91 :: ((txE e ++ 58 :: 32 :: TL.joinL [59, 32] (txAs arms)) ++ [93]) := by rw [txE]; simp
    rw [ht, Ex.dep]
    refine ⟨?_, by omega⟩
    rw [nt_c, nt_app, h3]; rfl
theorem mx_txEs (es : List Ex) (h : okE es) (m : Nat) (hm : depE es ≤ m) : ∀ l ∈ txEs es, nt l = 0 ∧ mx l ≤ m + 1 := match es with
  | [] => by simp [txEs]
  | e :: es => by
    have h1 := mx_txE e h.1
    simp only [depE] at hm
    have h2 := mx_txEs es h.2 m (by omega)
    intro l hl
    rw [txEs] at hl
    rcases List.mem_cons.mp hl with rfl | hl
    · exact ⟨h1.1, by omega⟩
    · exact h2 l hl
theorem mx_txAs (es : List Arm) (h : okA es) (m : Nat) (hm : depA es ≤ m) : ∀ l ∈ txAs es, nt l = 0 ∧ mx l ≤ m + 1 := match es with
  | [] => by simp [txAs]
  | e :: es => by
    have h1 := mx_txA e h.1
    simp only [depA] at hm
    have h2 := mx_txAs es h.2 m (by omega)
    intro l hl
    rw [txAs] at hl
    rcases List.mem_cons.mp hl with rfl | hl
    · exact ⟨h1.1, by omega⟩
    · exact h2 l hl
theorem mx_txA (a : Arm) (h : a.ok) : nt (txA a) = 0 ∧ mx (txA a) ≤ a.dep + 1 := match a with
  | .mk f ns e => by
    have hs := lets_brk (formL_mem h.1.1).2
    obtain ⟨a1, a2⟩ := mx_txE e h.2
    have hj := mx_join (sep := [44, 32]) rfl rfl (ls := ns) (m := 0) fun l hl => by have := lets_brk (nameL_lets (h.1.2.2.1 l hl)); omega
    have h2 : mx (32 :: txE e) = mx (txE e) := by
      rw [mx]
      have b : brk 32 = 0 := rfl
      omega
    have hb := mx_brack (o := 40) (c := 41) (m := 0) rfl rfl hj [] (Nat.le_refl _)
    have hb2 : nt (40 :: (TL.joinL [44, 32] ns ++ [41])) = 0 := by rw [nt_c, nt_app, hj.1]; rfl
    have e1 : txA (.mk f ns e) = f ++ ((40 :: (TL.joinL [44, 32] ns ++ [41])) ++ 32 :: txE e) := by rw [txA]; simp
    have h3 := mx_app_le (40 :: (TL.joinL [44, 32] ns ++ [41])) (32 :: txE e) hb2
    have h4 := mx_app_le f ((40 :: (TL.joinL [44, 32] ns ++ [41])) ++ 32 :: txE e) hs.1
    rw [e1, Arm.dep]
    refine ⟨?_, by omega⟩
    rw [nt_app, nt_app, hs.1, hb2, nt_c, a1]; rfl
end
/-- one sign changed -/
theorem mx_swap {k : Nat} : ∀ (a : List Nat) {b c : List Nat}, mx c ≤ mx b + k → mx (a ++ c) ≤ mx (a ++ b) + k
  | [], b, c, h => h
  | d :: a, b, c, h => by
    have := mx_swap a h
    rw [List.cons_append, List.cons_append, mx, mx]
    omega
theorem mx_drop1 : ∀ b : List Nat, mx (b.drop 1) ≤ mx b + 1
  | [] => Nat.zero_le _
  | c :: b => by
    show mx b ≤ mx (c :: b) + 1
    rw [mx]
    unfold brk
    split
    · omega
    · split <;> omega
theorem mx_cons (c : Nat) (b : List Nat) : mx (c :: b) ≤ mx b + 1 := by
  rw [mx]
  unfold brk
  split
  · omega
  · split <;> omega
end Ev
end

section
set_option Elab.async false
set_option linter.all false
set_option maxRecDepth 100000
set_option maxHeartbeats 1000000
/-! the Reader: signs, numbers, names, brackets -/
open PySem
namespace Ev

/-- a reader that has passed p and has s ahead -/
abbrev rd (p s : List Nat) : O := .ins 0 [.d (.str (St (p ++ s))), .d (.int p.length)]
theorem app_drop {w s : List Nat} (h : s.take w.length = w) : w ++ s.drop w.length = s := by
  have := List.take_append_drop w.length s
  rw [h] at this
  exact this
section
theorem meets_at (n : Nat) {p s w : List Nat} (hl : p.length + s.length ≤ line) (hw : w.length ≤ 10) : callN (pg WW) (n + 1) 5 [rd p s, .d (.str (St w))] =
    if s.take w.length = w then .ok (.d (.bl true)) [rd (p ++ w) (s.drop w.length), .d (.str (St w))] else .ok (.d (.bl false)) [rd p s, .d (.str (St w))] := by
  have hw2 : w.length ≤ line := by unfold line; omega
  rw [cn_Reader_meets, runF_eq rfl]
  simp [fd_Reader_meets, hl, hw2, cut_mid]
  split
  · rename_i h
    simp [app_drop h]
  · rfl
theorem must_at (n : Nat) {p s w : List Nat} (hl : p.length + s.length ≤ line) (hw : w.length ≤ 10) : callN (pg WW) (n + 2) 6 [rd p s, .d (.str (St w))] =
    if s.take w.length = w then .ok (.d .non) [rd (p ++ w) (s.drop w.length), .d (.str (St w))] else .exc 4 .non [rd p s, .d (.str (St w))] := by
  rw [cn_Reader_must, runF_eq rfl]
  simp [fd_Reader_must, meets_at n hl hw]
theorem run_loop {cf : CallF} (q : List Nat) (b : Option O) : ∀ (s : List Nat) {p : List Nat} {j : Nat}, p.length + s.length ≤ line → s.length < j →
    wlp cf pgG WW [0] lp_Reader_run_1 j [(some (rd p s)), (some (.d (.str (St q)))), (b)] = .ok .nx [(some (rd (p ++ spn q s) (aft q s))), (some (.d (.str (St q)))), (b)]
  | _, _, 0, _, h => by omega
  | [], p, j + 1, hl, _ => by
    rw [wlp_s (s := lp_Reader_run_1) rfl]
    simp [spn, aft, show p.length ≤ line by simpa using hl]
  | c :: s, p, j + 1, hl, h => by
    have hl2 : p.length + (s.length + 1) ≤ line := by simpa using hl
    have hl3 : (p ++ c :: s).length ≤ line := by simpa using hl2
    have ih := run_loop (cf := cf) q b s (p := p ++ [c]) (j := j) (by simp; omega) (by simp at h; omega)
    rw [wlp_s (s := lp_Reader_run_1) rfl]
    simp [hl2, six_mid hl3, show ((p.length : Int) < p.length + (s.length + 1)) by omega]
    by_cases hc : c ∈ q
    · simp [rd, spn, aft, hc] at ih ⊢
      exact ih
    · simp [hc, spn, aft]
theorem run_at (n : Nat) {p s q : List Nat} (hl : p.length + s.length ≤ line) (hs : s.length < WW) : callN (pg WW) (n + 1) 7 [rd p s, .d (.str (St q))] =
    .ok (.d (.str (St (spn q s)))) [rd (p ++ spn q s) (aft q s), .d (.str (St q))] := by
  have h := run_loop (cf := callN (pg WW) n) q (some (.d (.int p.length))) s hl hs
  rw [cn_Reader_run, runF_eq rfl]
  have ht : s.take (spn q s).length = spn q s := by
    have := List.take_left' (l₁ := spn q s) (l₂ := aft q s) rfl
    rwa [spn_aft] at this
  simp [fd_Reader_run, evS_wlp (s := lp_Reader_run_1) rfl, h, spn_aft, hl, cut_mid, ht]
/-- int of digits -/
theorem int_figs {ds : List Nat} (h1 : 1 ≤ ds.length) (h2 : ds.length ≤ 60) (hd : ∀ c ∈ ds, c ∈ FIG) : biO .int (.d (.str (St ds))) = some (.d (.int (NumText.digitsVal ds))) := by
  show (if (St ds).length ≤ 640 then _ else none) = _
  rw [St_len, if_pos (by omega), intText_digits (x := St ds) (fun c hc => fig_iff.mp (hd c hc)) (by
    show ds ≠ []
    exact List.length_pos_iff.mp h1) (by rw [St_len]; omega)]
  rfl
theorem low60 {n : Nat} (h : n < 10 ^ 60) : lowW (n : Int) = true := decide_eq_true (by
  show n < _
  exact Nat.lt_trans h (Nat.lt_of_lt_of_le (show 10 ^ 60 < 2 ^ 200 by decide) (Nat.pow_le_pow_right (by decide) (by decide))))
/-- what a reading method comes to -/
def ReadsC {α : Type} (res : COut) (p : List Nat) (emb : α → O) : Option (α × List Nat) → List Nat → Prop
  | some (a, s'), s => ∃ w, s = w ++ s' ∧ res = .ok (emb a) [rd (p ++ w) s']
  | none, _ => ∃ o, res = .exc 4 .non [o]
abbrev Reads {α : Type} (f : Nat) (n : Nat) (p : List Nat) (emb : α → O) (m : Option (α × List Nat)) (s : List Nat) : Prop := ReadsC (callN (pg WW) n f [rd p s]) p emb m s
theorem opn_drop (k : Nat) (s : List Nat) : opn (s.drop k) ≤ opn s := by
  conv => rhs; rw [← List.take_append_drop k s, opn_app]
  omega
/-- a whole number without a sign -/
theorem num_at (n : Nat) {p s : List Nat} (hl : p.length + s.length ≤ line) (hs : s.length < WW) (hm : s.take 1 ≠ [45]) :
    match pNum s with
    | some (i, s') => ∃ w, s = w ++ s' ∧ callN (pg WW) (n + 2) 8 [rd p s] = .ok (.d (.int i)) [rd (p ++ w) s']
    | none => ∃ o, callN (pg WW) (n + 2) 8 [rd p s] = .exc 4 .non [o] := by
  have hm' : s.take 1 ≠ [45] := hm
  have h1 := meets_at n (w := [45]) hl (by simp)
  simp [hm'] at h1
  have h2 := run_at n (q := FIG) hl hs
  rw [cn_Reader_whole_number, runF_eq rfl]
  have hlen : (spn FIG s).length ≤ line := by have := spn_len FIG s; omega
  unfold pNum
  by_cases hp : 1 ≤ (spn FIG s).length ∧ (spn FIG s).length ≤ 60
  · rw [if_pos hp]
    refine ⟨spn FIG s, (spn_aft _ _).symm, ?_⟩
    have h3 := int_figs hp.1 hp.2 fun c hc => spn_all hc
    have h4 := low60 (Nat.lt_of_lt_of_le (val_lt (ds := spn FIG s) fun c hc => (fig_iff.mp (spn_all hc)).2) (Nat.pow_le_pow_right (by decide) hp.2))
    have h5 : lowW 1 = true := low64 (by decide)
    simp [fd_Reader_whole_number, h1, h2, hlen, h3, h4, h5]
    rw [if_pos (by omega), if_neg (by omega)]
  · rw [if_neg hp]
    refine ⟨rd (p ++ spn FIG s) (aft FIG s), ?_⟩
    simp [fd_Reader_whole_number, h1, h2, hlen]
    exact fun a b => absurd ⟨by omega, by omega⟩ hp
/-- a whole number, perhaps with a sign -/
theorem int_at (n : Nat) {p s : List Nat} (hl : p.length + s.length ≤ line) (hs : s.length < WW) : Reads 8 (n + 2) p (fun i => .d (.int i)) (pInt s) s := by
  unfold pInt
  by_cases hm : s.take 1 = [45]
  · rw [if_pos hm]
    have es : [45] ++ s.drop 1 = s := app_drop (w := [45]) hm
    have h1 := meets_at n (w := [45]) hl (by simp)
    simp [hm] at h1
    have hl' : (p ++ [45]).length + (s.drop 1).length ≤ line := by
      have := congrArg List.length es
      simp only [List.length_append, List.length_cons, List.length_nil] at this ⊢
      omega
    have h2 := run_at n (q := FIG) hl' (by simp; omega)
    rw [List.drop_one] at h2 es ⊢
    have hlen : (spn FIG s.tail).length ≤ line := by
      have := spn_len FIG s.tail
      simp at this
      omega
    rw [Reads, cn_Reader_whole_number, runF_eq rfl]
    unfold pNum
    by_cases hp : 1 ≤ (spn FIG s.tail).length ∧ (spn FIG s.tail).length ≤ 60
    · rw [if_pos hp]
      refine ⟨[45] ++ spn FIG s.tail, by rw [List.append_assoc, spn_aft, es], ?_⟩
      have h3 := int_figs hp.1 hp.2 fun c hc => spn_all hc
      have h4 := low60 (Nat.lt_of_lt_of_le (val_lt (ds := spn FIG s.tail) fun c hc => (fig_iff.mp (spn_all hc)).2) (Nat.pow_le_pow_right (by decide) hp.2))
      have h5 : lowW (-1) = true := low64 (by decide)
      simp at h2
      simp [fd_Reader_whole_number, h1, h2, hlen, h3, h4, h5]
      rw [if_pos (by omega), if_neg (by omega)]
    · rw [if_neg hp]
      simp at h2
      refine ⟨rd (p ++ 45 :: spn FIG s.tail) (aft FIG s.tail), ?_⟩
      simp [fd_Reader_whole_number, h1, h2, hlen]
      exact fun a b => absurd ⟨by omega, by omega⟩ hp
  · rw [if_neg hm]
    have h := num_at n hl hs hm
    cases e : pNum s with
    | none => rw [e] at h; exact h
    | some r => obtain ⟨i, s'⟩ := r; rw [e] at h; exact h
theorem name_is (n : Nat) {w : List Nat} (hl : w.length ≤ line) : callN (pg WW) (n + 1) 0 [.d (.str (St w))] = .ok (.d (.bl (nameL w))) [.d (.str (St w))] := by
  rw [cn_is_name, runF_eq rfl]
  have h := lc_m (cf := callN (pg WW) n) (G := pgG) (lp := lp_is_name_1) (r := [some (.d (.str (St w))), none]) (as := w) (fun c => D.str (St [c])) (fun c => .bl (lowC c)) rfl (by simp [hl]) hl rfl (by
    intro c _
    simp [le_chr, lowC]
    by_cases h1 : 97 ≤ c <;> simp [h1])
  simp [fd_is_name, hl, h, allB_map, nameL]
  by_cases h1 : 1 ≤ w.length
  · by_cases h2 : w.length ≤ 8
    · rw [if_pos (by omega), if_neg (by omega)]
      simp [h1, h2]
    · rw [if_pos (by omega), if_pos (by omega)]
      simp [h2]
  · rw [if_neg (by omega)]
    simp [h1]
/-- a name that comes next -/
theorem name_at (n : Nat) {p s : List Nat} (hl : p.length + s.length ≤ line) (hs : s.length < WW) : callN (pg WW) (n + 2) 12 [rd p s] =
    if nameL (spn LETS s) = true then .ok (.d (.str (St (spn LETS s)))) [rd (p ++ spn LETS s) (aft LETS s)] else .exc 4 .non [rd (p ++ spn LETS s) (aft LETS s)] := by
  have h2 := run_at n (q := LETS) hl hs
  have h3 := name_is n (w := spn LETS s) (by have := spn_len LETS s; omega)
  rw [cn_Reader_name, runF_eq rfl]
  cases hq : nameL (spn LETS s) <;> simp [fd_Reader_name, h2, h3, hq]
/-- whether one more thing stands within brackets -/
theorem goes_at (n : Nat) {p s : List Nat} {fs : List D} (hl : p.length + s.length ≤ line) (he : eqD (.lst fs) (.lst []) = some fs.isEmpty) : callN (pg WW) (n + 3) 9 [rd p s, .lst fs] =
    if s.take 1 = [41] then .ok (.d (.bl false)) [rd (p ++ [41]) (s.drop 1), .lst fs]
    else if fs.isEmpty = true then .ok (.d (.bl true)) [rd p s, .lst fs]
    else if s.take 2 = [44, 32] then (if fs.length = 3 then .exc 4 .non [rd (p ++ [44, 32]) (s.drop 2), .lst fs] else .ok (.d (.bl true)) [rd (p ++ [44, 32]) (s.drop 2), .lst fs])
    else .exc 4 .non [rd p s, .lst fs] := by
  have h1 := meets_at (n + 1) (w := [41]) hl (by simp)
  have h2 := must_at n (w := [44, 32]) hl (by simp)
  simp only [List.length_cons, List.length_nil] at h1 h2
  rw [cn_Reader_goes_on, runF_eq rfl]
  cases fs with
  | nil =>
    simp only [List.isEmpty_nil] at he
    by_cases c1 : s.take 1 = [41]
    · simp [c1] at h1
      simp [fd_Reader_goes_on, he, h1, c1]
    · simp [c1] at h1
      simp [fd_Reader_goes_on, he, h1, c1]
  | cons f fs =>
    simp only [List.isEmpty_cons] at he
    by_cases c1 : s.take 1 = [41]
    · simp [c1] at h1
      simp [fd_Reader_goes_on, he, h1, c1]
    · simp [c1] at h1
      by_cases c2 : s.take 2 = [44, 32]
      · simp [c2] at h2
        simp [fd_Reader_goes_on, he, h1, h2, c1, c2]
        by_cases c3 : fs.length = 2
        · rw [if_pos (by omega), if_pos c3]
        · rw [if_neg (by omega), if_neg c3]
      · simp [c2] at h2
        simp [fd_Reader_goes_on, he, h1, h2, c1, c2]
/-- things within brackets, behind the first -/
theorem many_loop {α : Type} {n f : Nat} {lp : S} {pk : List Nat → Option (α × List Nat)} {emb : α → D} {Cd : List Nat → Prop}
    (hlp : lp = .whl (.meth 0 9 0 (.lend 1 .nil)) (.cons (.app 1 (.meth 0 f 0 .nil)) .nil))
    (hk : ∀ p s, p.length + s.length ≤ line → s.length < WW → Cd s → Reads f (n + 3) p (fun a => .d (emb a)) (pk s) s)
    (hc : ∀ s a s', Cd s → pk s = some (a, s') → Cd s') (hc2 : ∀ s, Cd s → s.take 2 = [44, 32] → Cd (s.drop 2)) (hfit : ∀ s a s', pk s = some (a, s') → Fit 60 (emb a)) :
    ∀ (m : Nat) {fs : List D} {p s : List Nat} {j : Nat}, p.length + s.length ≤ line → s.length < WW → Cd s → fs ≠ [] → fs.length + m = 3 → m < j → (∀ x ∈ fs, Fit 60 x) →
      match pTail pk m s with
      | some (ks, s') => ∃ w, s = w ++ s' ∧ wlp (callN (pg WW) (n + 3)) pgG WW [0] lp j [some (rd p s), some (.lst fs)] = .ok .nx [some (rd (p ++ w) s'), some (.lst (fs ++ ks.map emb))]
      | none => ∃ o x, wlp (callN (pg WW) (n + 3)) pgG WW [0] lp j [some (rd p s), some (.lst fs)] = .exc 4 .non [some o, x]
  | _, _, _, _, 0, _, _, _, _, _, h, _ => by omega
  | m, fs, p, s, j + 1, hl, hs, ho, hne, hm, hj, hf => by
    have he := eq_lst_nil hf (by decide)
    have hem : fs.isEmpty = false := by cases fs <;> simp_all
    have hg := goes_at n hl he
    rw [hem] at hg
    rw [wlp_s (s := lp) hlp]
    unfold pTail
    by_cases c1 : s.take 1 = [41]
    · simp [c1] at hg
      rw [if_pos c1]
      refine ⟨[41], (app_drop (w := [41]) c1).symm, ?_⟩
      simp [hg]
    · by_cases c2 : s.take 2 = [44, 32]
      · simp [c1, c2] at hg
        rw [if_neg c1, if_pos c2]
        cases m with
        | zero =>
          rw [if_pos (by omega)] at hg
          exact ⟨rd (p ++ [44, 32]) (s.drop 2), some (.lst fs), by simp [hg]⟩
        | succ m =>
          rw [if_neg (by omega)] at hg
          have es : [44, 32] ++ s.drop 2 = s := app_drop (w := [44, 32]) c2
          have q := hk (p ++ [44, 32]) (s.drop 2) (by simp; have := congrArg List.length es; simp at this; omega) (by simp; omega) (hc2 s ho c2)
          cases e : pk (s.drop 2) with
          | none =>
            rw [e] at q
            obtain ⟨o, q⟩ := q
            exact ⟨o, some (.lst fs), by simp [hg, q]⟩
          | some r =>
            obtain ⟨k, s'⟩ := r
            rw [e] at q
            obtain ⟨w, e1, q⟩ := q
            have hl1 : s.length = 2 + (w.length + s'.length) := by
              have := congrArg List.length es
              rw [e1] at this
              simp at this
              omega
            have ih := many_loop hlp hk hc hc2 hfit m (fs := fs ++ [emb k]) (p := p ++ [44, 32] ++ w) (s := s') (j := j) (by simp; omega) (by omega) (hc _ _ _ (hc2 s ho c2) e) (by simp) (by simp; omega) (by omega) (by
              intro x hx
              rcases List.mem_append.mp hx with hx | hx
              · exact hf x hx
              · rw [List.mem_singleton] at hx
                subst hx
                exact hfit _ _ _ e)
            have hll : fs.length < line := by unfold line; omega
            dsimp only
            cases e2 : pTail pk m s' with
            | none =>
              rw [e2] at ih
              obtain ⟨o, x, ih⟩ := ih
              refine ⟨o, x, ?_⟩
              simp [hg, q, hll]
              simpa using ih
            | some r =>
              obtain ⟨ks, s''⟩ := r
              rw [e2] at ih
              obtain ⟨w2, e3, ih⟩ := ih
              refine ⟨[44, 32] ++ w ++ w2, ?_, ?_⟩
              · rw [← es, e1, e3]; simp
              · simp [hg, q, hll]
                simpa using ih
      · simp [c1, c2] at hg
        rw [if_neg c1, if_neg c2]
        exact ⟨rd p s, some (.lst fs), by simp [hg]⟩
/-- the whole of it -/
theorem many_whole {α : Type} {n f : Nat} {lp : S} {pk : List Nat → Option (α × List Nat)} {emb : α → D} {Cd : List Nat → Prop}
    (hlp : lp = .whl (.meth 0 9 0 (.lend 1 .nil)) (.cons (.app 1 (.meth 0 f 0 .nil)) .nil))
    (hk : ∀ p s, p.length + s.length ≤ line → s.length < WW → Cd s → Reads f (n + 3) p (fun a => .d (emb a)) (pk s) s)
    (hc : ∀ s a s', Cd s → pk s = some (a, s') → Cd s') (hc2 : ∀ s, Cd s → s.take 2 = [44, 32] → Cd (s.drop 2)) (hfit : ∀ s a s', pk s = some (a, s') → Fit 60 (emb a))
    {p s : List Nat} (hl : p.length + s.length ≤ line) (hs : s.length < WW) (ho : Cd s) :
      match pMany pk s with
      | some (ks, s') => ∃ w, s = w ++ s' ∧ wlp (callN (pg WW) (n + 3)) pgG WW [0] lp WW [some (rd p s), some (.lst [])] = .ok .nx [some (rd (p ++ w) s'), some (.lst (ks.map emb))]
      | none => ∃ o x, wlp (callN (pg WW) (n + 3)) pgG WW [0] lp WW [some (rd p s), some (.lst [])] = .exc 4 .non [some o, x] := by
  have he := eq_lst_nil (xs := []) (n := 0) (by simp) (by decide)
  have hg := goes_at n hl he
  simp only [List.isEmpty_nil] at hg
  rw [wlp_1 (s := lp) (m := WW) (n := 99999) hlp rfl]
  unfold pMany
  by_cases c1 : s.take 1 = [41]
  · simp [c1] at hg
    rw [if_pos c1]
    refine ⟨[41], (app_drop (w := [41]) c1).symm, ?_⟩
    simp [hg]
  · simp [c1] at hg
    rw [if_neg c1]
    have q := hk p s hl hs ho
    cases e : pk s with
    | none =>
      rw [e] at q
      obtain ⟨o, q⟩ := q
      exact ⟨o, some (.lst []), by simp [hg, q]⟩
    | some r =>
      obtain ⟨k, s'⟩ := r
      rw [e] at q
      obtain ⟨w, e1, q⟩ := q
      have hl1 : s.length = w.length + s'.length := by rw [e1]; simp
      have ih := many_loop hlp hk hc hc2 hfit 2 (fs := [emb k]) (p := p ++ w) (s := s') (j := 99999) (by simp; omega) (by omega) (hc _ _ _ ho e) (by simp) (by simp) (by omega) (by
        intro x hx
        rw [List.mem_singleton] at hx
        subst hx
        exact hfit _ _ _ e)
      have hll : 0 < line := by decide
      dsimp only
      cases e2 : pTail pk 2 s' with
      | none =>
        rw [e2] at ih
        obtain ⟨o, x, ih⟩ := ih
        exact ⟨o, x, by simp [hg, q, hll, ih]⟩
      | some r =>
        obtain ⟨ks, s''⟩ := r
        rw [e2] at ih
        obtain ⟨w2, e3, ih⟩ := ih
        refine ⟨w ++ w2, by rw [e1, e3]; simp, ?_⟩
        simp [hg, q, hll, ih]
theorem init_at (n : Nat) (s : List Nat) : callN (pg WW) (n + 1) 4 [.ins 0 [], .d (.str (St s))] = .ok (.d .non) [rd [] s, .d (.str (St s))] := by
  rw [cn_Reader___init__, runF_eq rfl]
  simp [fd_Reader___init__]
end
end Ev
end

section
set_option Elab.async false
set_option linter.all false
set_option maxRecDepth 100000
set_option maxHeartbeats 1000000
set_option exponentiation.threshold 300
/-! the Reader: expressions -/
open PySem
namespace Ev
section
theorem form_is (n : Nat) {w : List Nat} (hl : w.length ≤ line) : callN (pg WW) (n + 1) 1 [.d (.str (St w))] = .ok (.d (.bl (formL w))) [.d (.str (St w))] := by
  rw [cn_is_form_name, runF_eq rfl]
  cases w with
  | nil => simp [fd_is_form_name, formL]
  | cons c w =>
    have hl1 : w.length + 1 ≤ line := by simpa using hl
    have hl2 : w.length ≤ line := by omega
    have h := lc_m (cf := callN (pg WW) n) (G := pgG) (lp := lp_is_form_name_1) (r := [some (.d (.str (St (c :: w)))), none]) (as := w) (fun c => D.str (St [c])) (fun c => .bl (lowC c)) rfl (by simp [hl1, hl2]) hl2 rfl (by
      intro c _
      simp [le_chr, lowC]
      by_cases h1 : 97 ≤ c <;> simp [h1])
    have h0 : seqIx (.d (.str (St (c :: w)))) 0 = some (.str (St [c])) := by
      have := six_at (l := c :: w) (n := 0) hl
      simpa using this
    simp only [formL, uppC]
    by_cases h8 : w.length + 1 ≤ 8
    · have h8' : (w.length : Int) + 1 ≤ 8 := by omega
      have h8'' : ¬ (8 < (w.length : Int) + 1) := by omega
      have h1' : (1 : Int) ≤ (w.length : Int) + 1 := by omega
      by_cases hA : 65 ≤ c
      · by_cases hZ : c ≤ 90 <;> simp [fd_is_form_name, hl1, h8'', h1', h0, le_chr, hA, hZ, h, allB_map, h8]
      · simp [fd_is_form_name, hl1, h8'', h1', h0, le_chr, hA]
    · have h8'' : 8 < (w.length : Int) + 1 := by omega
      have h1' : (1 : Int) ≤ (w.length : Int) + 1 := by omega
      simp [fd_is_form_name, hl1, h8'', h1', h8]
theorem nm_fit {s : List Nat} (h : nameL s = true) : Fit 60 (.str (St s)) := fit_str (name_ok (by
  unfold nameL at h
  unfold nameB
  rw [St_len]
  exact h))
/-- names within brackets -/
def pNames (s : List Nat) : Option (List (List Nat) × List Nat) := match pMany pName s with
  | none => none
  | some (ns, s') => if ns.Nodup then some (ns, s') else none
theorem pname_at (n : Nat) {p s : List Nat} (hl : p.length + s.length ≤ line) (hs : s.length < WW) : Reads 12 (n + 3) p (fun w => .d (.str (St w))) (pName s) s := by
  have h := name_at (n + 1) hl hs
  unfold pName
  cases hq : nameL (spn LETS s) with
  | true =>
    rw [hq, if_pos rfl] at h
    rw [if_pos rfl]
    exact ⟨_, (spn_aft LETS s).symm, h⟩
  | false =>
    rw [hq, if_neg (by simp)] at h
    rw [if_neg (by simp)]
    exact ⟨_, h⟩
theorem names_rd (n : Nat) {p s : List Nat} (hl : p.length + s.length ≤ line) (hs : s.length < WW) : Reads 11 (n + 4) p (fun ns => .lst (ns.map fun w => .str (St w))) (pNames s) s := by
  have hw := many_whole (n := n) (f := 12) (lp := lp_Reader_names_1) (pk := pName) (Cd := fun _ => True) (emb := fun w => .str (St w)) rfl (fun p s a b _ => pname_at n a b) (fun _ _ _ _ _ => trivial) (fun _ _ _ => trivial) (fun s a s' e => nm_fit (by
    obtain ⟨⟨_, _, h, _⟩, _⟩ := pName_spec e
    exact h)) hl hs trivial
  rw [Reads, cn_Reader_names, runF_eq rfl]
  unfold pNames
  cases e : pMany pName s with
  | none =>
    rw [e] at hw
    obtain ⟨o, x, hw⟩ := hw
    exact ⟨o, by simp [fd_Reader_names, evS_wlp (s := lp_Reader_names_1) rfl, hw]⟩
  | some r =>
    obtain ⟨ns, s'⟩ := r
    rw [e] at hw
    obtain ⟨w, e1, hw⟩ := hw
    obtain ⟨_, _, h3, _⟩ := pMany_spec (Q := fun s => nameL s = true) (len := fun s => s.length) (fun s k s' h => (pName_spec h).1) e
    have h1000 : ns.length ≤ 1000 := by omega
    dsimp only
    by_cases hn : ns.Nodup
    · have hd := ddup_iff.mpr hn
      rw [if_pos hn]
      exact ⟨w, e1, by simp [fd_Reader_names, evS_wlp (s := lp_Reader_names_1) rfl, hw, h1000, hd]⟩
    · have hd : ¬ (((ddup (ns.map St)).length : Int) = (ns.length : Int)) := fun z => hn (ddup_iff.mp (by omega))
      rw [if_neg hn]
      exact ⟨rd (p ++ w) s', by simp [fd_Reader_names, evS_wlp (s := lp_Reader_names_1) rfl, hw, h1000, hd]⟩
theorem suf_len {w s s' : List Nat} (e : s = w ++ s') (p : List Nat) (hl : p.length + s.length ≤ line) (hs : s.length < WW) : (p ++ w).length + s'.length ≤ line ∧ s'.length < WW := by
  have : s.length = w.length + s'.length := by rw [e]; simp
  simp only [List.length_append]
  omega
theorem nt_aft (s : List Nat) : nt s = nt (aft LETS s) := by
  have h := nt_app (spn LETS s) (aft LETS s)
  rw [spn_aft, nt_spn_let] at h
  omega
theorem mx_suf {w s s' : List Nat} (e : s = w ++ s') (h : nt s = nt s') : mx s' ≤ mx s := by
  have h1 := mx_app w s'
  have h2 : nt s = nt w + nt s' := by conv => lhs; rw [e, nt_app]
  rw [← e] at h1
  omega
theorem name_strB {s : List Nat} (h : nameL s = true) : PyData.strOk (St s) = true := name_ok (by
  unfold nameL at h
  unfold nameB
  rw [St_len]
  exact h)
theorem lets_strB {s : List Nat} (h : ∀ c ∈ s, c ∈ LETS) (hl : s.length ≤ 8) : PyData.strOk (St s) = true := by
  unfold PyData.strOk
  rw [Array.all_eq_true_iff_forall_mem]
  intro c hc
  have := lets_iff.mp (h c (by simpa using hc))
  exact decide_eq_true (by omega)
theorem form_strB {s : List Nat} (h : formL s = true) : PyData.strOk (St s) = true := lets_strB (formL_mem h).2 (by
  unfold formL at h
  simp only [Bool.and_eq_true, decide_eq_true_eq] at h
  exact h.1.2)
theorem fit3 {n : Nat} {a b c : D} (ha : Fit n a) (hb : Fit n b) (hc : Fit n c) : Fit (n + 1) (.tup [a, b, c]) := fit_tup fun x hx => by
  simp only [List.mem_cons, List.not_mem_nil, or_false] at hx
  rcases hx with rfl | rfl | rfl
  · exact ha
  · exact hb
  · exact hc
mutual
theorem fit_dE (e : Ex) (h : e.ok) : Fit (3 * e.dep + 2) (dE e) := match e with
  | .num i => by
    rw [dE]
    refine (fit_tup (n := 0) fun x hx => ?_).mono (by omega)
    simp only [List.mem_cons, List.not_mem_nil, or_false] at hx
    rcases hx with rfl | rfl
    · exact fit_str (by decide +kernel)
    · exact fit_int _
  | .nam s => by
    rw [dE]
    refine (fit_tup (n := 0) fun x hx => ?_).mono (by omega)
    simp only [List.mem_cons, List.not_mem_nil, or_false] at hx
    rcases hx with rfl | rfl
    · exact fit_str (by decide +kernel)
    · exact fit_str (name_strB h)
  | .frm s as => by
    rw [dE, Ex.dep]
    exact (fit3 (fit_str (by decide +kernel)) (fit_str (form_strB h.1)) (fit_tup (n := 3 * depE as + 2) (fit_dEs as h.2.2 _ (Nat.le_refl _)))).mono (by omega)
  | .cal s as => by
    rw [dE, Ex.dep]
    exact (fit3 (fit_str (by decide +kernel)) (fit_str (name_strB h.1)) (fit_tup (n := 3 * depE as + 2) (fit_dEs as h.2.2 _ (Nat.le_refl _)))).mono (by omega)
  | .cas e arms => by
    have h1 := fit_dE e h.1
    have h2 := fit_dAs arms h.2.2.2 _ (Nat.le_refl _)
    rw [dE, Ex.dep]
    exact (fit3 (n := 3 * max e.dep (depA arms) + 4) (fit_str (by decide +kernel)) (h1.mono (by omega)) ((fit_tup h2).mono (by omega))).mono (by omega)
theorem fit_dEs (es : List Ex) (h : okE es) (n : Nat) (hn : depE es ≤ n) : ∀ x ∈ dEs es, Fit (3 * n + 2) x := match es with
  | [] => by simp [dEs]
  | e :: es => by
    intro x hx
    rw [dEs] at hx
    rw [depE] at hn
    rcases List.mem_cons.mp hx with rfl | hx
    · exact (fit_dE e h.1).mono (by omega)
    · exact fit_dEs es h.2 n (by omega) x hx
theorem fit_dAs (es : List Arm) (h : okA es) (n : Nat) (hn : depA es ≤ n) : ∀ x ∈ dAs es, Fit (3 * n + 3) x := match es with
  | [] => by simp [dAs]
  | e :: es => by
    intro x hx
    rw [dAs] at hx
    rw [depA] at hn
    rcases List.mem_cons.mp hx with rfl | hx
    · exact (fit_dA e h.1).mono (by omega)
    · exact fit_dAs es h.2 n (by omega) x hx
theorem fit_dA (a : Arm) (h : a.ok) : Fit (3 * a.dep + 3) (dA a) := match a with
  | .mk f ns e => by
    have h1 := fit_dE e h.2
    rw [dA, Arm.dep]
    refine fit3 (fit_str (form_strB h.1.1)) ((fit_tup (n := 0) fun x hx => ?_).mono (by omega)) h1
    obtain ⟨s, hs, rfl⟩ := List.mem_map.mp hx
    exact fit_str (name_strB (h.1.2.2.1 s hs))
end
theorem given_at {N n : Nat} (hN : N ≤ 19) (hk : ∀ p s, p.length + s.length ≤ line → s.length < WW → mx s < N → Reads 15 (n + 3) p (fun e => .d (dE e)) (pExp N s) s)
    {p s : List Nat} (hl : p.length + s.length ≤ line) (hs : s.length < WW) (ho : mx s < N) : Reads 10 (n + 4) p (fun es => .lst (dEs es)) (pMany (pExp N) s) s := by
  have hw := many_whole (lp := lp_Reader_given_1) (Cd := fun s => mx s < N) (emb := dE) rfl hk (fun s a s' h e => by
    obtain ⟨⟨w, e1, _⟩, e2⟩ := pExp_spec _ _ _ e
    have := mx_suf e1 e2
    omega) (fun s h t => by
    have e := take2 t
    rw [e, mx, mx] at h
    have a : brk 44 = 0 := rfl
    have b : brk 32 = 0 := rfl
    omega) (fun s a s' e => by
    obtain ⟨⟨_, _, ⟨ko, kd⟩, _⟩, _⟩ := pExp_spec _ _ _ e
    exact (fit_dE a ko).mono (by omega)) hl hs ho
  rw [Reads, cn_Reader_given, runF_eq rfl]
  cases e : pMany (pExp N) s with
  | none =>
    rw [e] at hw
    obtain ⟨o, x, hw⟩ := hw
    exact ⟨o, by simp [fd_Reader_given, evS_wlp (s := lp_Reader_given_1) rfl, hw]⟩
  | some r =>
    obtain ⟨ks, s'⟩ := r
    rw [e] at hw
    obtain ⟨w, e1, hw⟩ := hw
    exact ⟨w, e1, by simp [fd_Reader_given, evS_wlp (s := lp_Reader_given_1) rfl, hw, dEs_map]⟩
/-- an arm -/
theorem arm_at {N n : Nat} (hk : ∀ p s, p.length + s.length ≤ line → s.length < WW → mx s < N → Reads 15 (n + 5) p (fun e => .d (dE e)) (pExp N s) s)
    {p s : List Nat} (hl : p.length + s.length ≤ line) (hs : s.length < WW) (ho : mx s < N) : Reads 13 (n + 6) p (fun a => .d (dA a)) (pArm (pExp N) s) s := by
  have hrun := run_at (n + 4) (q := LETS) hl hs
  have esa := spn_aft LETS s
  obtain ⟨hl1, hs1⟩ := suf_len esa.symm p hl hs
  have hform := form_is (n + 4) (w := spn LETS s) (by have := spn_len LETS s; omega)
  have hmust := must_at (n + 3) (w := [40]) hl1 (by simp)
  rw [Reads, cn_Reader_arm, runF_eq rfl]
  unfold pArm
  cases hf : formL (spn LETS s) with
  | false =>
    rw [if_neg (by simp)]
    exact ⟨rd (p ++ spn LETS s) (aft LETS s), by simp [fd_Reader_arm, hrun, hform, hf]⟩
  | true =>
    rw [if_pos rfl]
    rw [hf] at hform
    by_cases c1 : (aft LETS s).take 1 = [40]
    · simp [c1] at hmust
      rw [if_pos c1]
      have t1 := take1 c1
      rw [List.drop_one] at t1
      have e2 : aft LETS s = [40] ++ (aft LETS s).tail := t1
      obtain ⟨hl2, hs2⟩ := suf_len e2 _ hl1 hs1
      have hns := names_rd (n + 1) hl2 hs2
      have hm1 : mx (aft LETS s).tail + 1 ≤ mx s := by
        have h1 := mx_suf esa.symm (nt_aft s)
        have h2 : mx (40 :: (aft LETS s).tail) = mx (aft LETS s).tail + 1 := by
          rw [mx]
          have : brk 40 = 1 := rfl
          omega
        rw [← t1] at h2
        omega
      rw [List.drop_one]
      unfold pNames at hns
      cases e3 : pMany pName (aft LETS s).tail with
      | none =>
        rw [e3] at hns
        obtain ⟨o, hns⟩ := hns
        simp at hns
        exact ⟨o, by simp [fd_Reader_arm, hrun, hform, hmust, hns]⟩
      | some r =>
        obtain ⟨ns, s1⟩ := r
        have hnt := pMany_net (fun s k s' h => (pName_spec h).2) e3
        rw [e3] at hns
        dsimp only at hns ⊢
        by_cases hn : ns.Nodup
        · rw [if_pos hn] at hns ⊢
          obtain ⟨w1, e4, hns⟩ := hns
          obtain ⟨hl3, hs3⟩ := suf_len e4 _ hl2 hs2
          have hmust2 := must_at (n + 3) (w := [32]) hl3 (by simp)
          by_cases c2 : s1.take 1 = [32]
          · rw [if_pos c2]
            have t2 := take1 c2
            rw [List.drop_one] at t2 ⊢
            have e5 : s1 = [32] ++ s1.tail := t2
            obtain ⟨hl4, hs4⟩ := suf_len e5 _ hl3 hs3
            have hm2 : mx s1.tail < N := by
              have h1 := mx_app w1 s1
              rw [← e4] at h1
              have h2 : nt (aft LETS s).tail = nt w1 + nt s1 := by conv => lhs; rw [e4, nt_app]
              have h3 : mx s1 = mx s1.tail := by
                conv => lhs; rw [t2, mx]
                have : brk 32 = 0 := rfl
                omega
              omega
            have he := hk _ _ hl4 hs4 hm2
            cases e6 : pExp N s1.tail with
            | none =>
              rw [e6] at he
              obtain ⟨o, he⟩ := he
              simp [c2] at hns hmust2 he
              exact ⟨o, by simp [fd_Reader_arm, hrun, hform, hmust, hns, hmust2, he]⟩
            | some r =>
              obtain ⟨e, s2⟩ := r
              rw [e6] at he
              obtain ⟨w2, e7, he⟩ := he
              refine ⟨spn LETS s ++ ([40] ++ (w1 ++ ([32] ++ w2))), ?_, ?_⟩
              · conv => lhs; rw [← esa, e2, e4, e5, e7]
                simp
              · simp [c2] at hns hmust2 he
                simp [fd_Reader_arm, hrun, hform, hmust, hns, hmust2, he, dA]
          · rw [if_neg c2]
            simp [c2] at hns hmust2
            exact ⟨_, by simp [fd_Reader_arm, hrun, hform, hmust, hns, hmust2]; rfl⟩
        · rw [if_neg hn] at hns ⊢
          obtain ⟨o, hns⟩ := hns
          simp at hns
          exact ⟨o, by simp [fd_Reader_arm, hrun, hform, hmust, hns]⟩
    · simp [c1] at hmust
      rw [if_neg c1]
      exact ⟨rd (p ++ spn LETS s) (aft LETS s), by simp [fd_Reader_arm, hrun, hform, hmust]⟩
theorem case_loop {N n : Nat} (hk : ∀ p s, p.length + s.length ≤ line → s.length < WW → mx s < N → Reads 15 (n + 5) p (fun e => .d (dE e)) (pExp N s) s) (x1 : Option O) :
    ∀ (k : Nat) {fs : List D} {p s : List Nat} {j : Nat}, p.length + s.length ≤ line → s.length < WW → mx s < N → s.length < k → k ≤ j → fs.length + s.length ≤ line →
      match pArms (pExp N) k s with
      | some (as, s') => ∃ w, s = w ++ s' ∧ wlp (callN (pg WW) (n + 6)) pgG WW [0] lp_Reader_case_1 j [(some (rd p s)), (x1), (some (.lst fs))] = .ok .nx [(some (rd (p ++ w) s')), (x1), (some (.lst (fs ++ as.map dA)))]
      | none => ∃ o x y, wlp (callN (pg WW) (n + 6)) pgG WW [0] lp_Reader_case_1 j [(some (rd p s)), (x1), (some (.lst fs))] = .exc 4 .non [some o, x, y]
  | 0, _, _, _, _, _, _, _, h, _, _ => by omega
  | k + 1, _, _, _, 0, _, _, _, _, h, _ => by omega
  | k + 1, fs, p, s, j + 1, hl, hs, ho, hsk, hkj, hf => by
    have hm := meets_at (n + 5) (w := [59, 32]) hl (by simp)
    rw [wlp_s (s := lp_Reader_case_1) rfl]
    unfold pArms
    by_cases c1 : s.take 2 = [59, 32]
    · simp [c1] at hm
      rw [if_pos c1]
      have t := take2 c1
      have e2 : s = [59, 32] ++ s.drop 2 := t
      have hsl : s.length = 2 + (s.drop 2).length := by
        conv => lhs; rw [e2]
        simp only [List.length_append, List.length_cons, List.length_nil]
      obtain ⟨hl2, hs2⟩ := suf_len e2 p hl hs
      have hmx : mx (s.drop 2) < N := by
        rw [t, mx, mx] at ho
        have a : brk 59 = 0 := rfl
        have b : brk 32 = 0 := rfl
        omega
      have ha := arm_at hk hl2 hs2 hmx
      cases e : pArm (pExp N) (s.drop 2) with
      | none =>
        rw [e] at ha
        obtain ⟨o, ha⟩ := ha
        exact ⟨o, x1, some (.lst fs), by simp [hm, ha]⟩
      | some r =>
        obtain ⟨a, s1⟩ := r
        obtain ⟨⟨_, e5, _⟩, e6⟩ := pArm_spec (pExp_spec (n := N)) e
        rw [e] at ha
        obtain ⟨w, e3, ha⟩ := ha
        have hs1 : (s.drop 2).length = w.length + s1.length := by
          conv => lhs; rw [e3]
          simp
        obtain ⟨hl3, hs3⟩ := suf_len e3 _ hl2 hs2
        have hmx1 := mx_suf e3 e6
        have ih := case_loop hk x1 k (fs := fs ++ [dA a]) (p := p ++ [59, 32] ++ w) (s := s1) (j := j) hl3 hs3 (by omega) (by omega) (by omega) (by simp only [List.length_append, List.length_cons, List.length_nil]; omega)
        have hll : fs.length < line := by omega
        dsimp only
        cases e4 : pArms (pExp N) k s1 with
        | none =>
          rw [e4] at ih
          obtain ⟨o, x, y, ih⟩ := ih
          refine ⟨o, x, y, ?_⟩
          simp [hm, ha, hll]
          simpa using ih
        | some r =>
          obtain ⟨as, s2⟩ := r
          rw [e4] at ih
          obtain ⟨w2, e7, ih⟩ := ih
          refine ⟨[59, 32] ++ w ++ w2, ?_, ?_⟩
          · conv => lhs; rw [e2, e3, e7]
            simp
          · simp [hm, ha, hll]
            simpa using ih
    · simp [c1] at hm
      rw [if_neg c1]
      exact ⟨[], rfl, by simp [hm]⟩
theorem case_at {N n : Nat} (hk : ∀ p s, p.length + s.length ≤ line → s.length < WW → mx s < N → Reads 15 (n + 5) p (fun e => .d (dE e)) (pExp N s) s)
    (hk2 : ∀ p s, p.length + s.length ≤ line → s.length < WW → mx s < N → Reads 15 (n + 6) p (fun e => .d (dE e)) (pExp N s) s)
    {p s : List Nat} (hl : p.length + s.length ≤ line) (hs : s.length < WW) (ho : mx s < N) : Reads 14 (n + 7) p (fun e => .d (dE e)) (pCase (pExp N) s) s := by
  have h1 := hk2 p s hl hs ho
  rw [Reads, cn_Reader_case, runF_eq rfl]
  unfold pCase
  cases e1 : pExp N s with
  | none =>
    rw [e1] at h1
    obtain ⟨o, h1⟩ := h1
    exact ⟨o, by simp [fd_Reader_case, h1]⟩
  | some r =>
    obtain ⟨e, s1⟩ := r
    obtain ⟨_, n1⟩ := pExp_spec (n := N) _ _ _ e1
    rw [e1] at h1
    obtain ⟨w1, q1, h1⟩ := h1
    have m1 := mx_suf q1 n1
    obtain ⟨hl1, hs1⟩ := suf_len q1 p hl hs
    have h2 := must_at (n + 4) (w := [58, 32]) hl1 (by simp)
    dsimp only
    by_cases c1 : s1.take 2 = [58, 32]
    · rw [if_pos c1]
      have t := take2 c1
      have q2 : s1 = [58, 32] ++ s1.drop 2 := t
      obtain ⟨hl2, hs2⟩ := suf_len q2 _ hl1 hs1
      have m2 : mx (s1.drop 2) ≤ mx s1 := by
        conv => rhs; rw [t, mx, mx]
        have a : brk 58 = 0 := rfl
        have b : brk 32 = 0 := rfl
        omega
      have h3 := arm_at hk hl2 hs2 (by omega)
      cases e2 : pArm (pExp N) (s1.drop 2) with
      | none =>
        rw [e2] at h3
        obtain ⟨o, h3⟩ := h3
        simp [c1] at h1 h2 h3
        exact ⟨o, by simp [fd_Reader_case, h1, h2, h3]⟩
      | some r =>
        obtain ⟨a, s2⟩ := r
        obtain ⟨_, n2⟩ := pArm_spec (pExp_spec (n := N)) e2
        rw [e2] at h3
        obtain ⟨w2, q3, h3⟩ := h3
        have m3 := mx_suf q3 n2
        obtain ⟨hl3, hs3⟩ := suf_len q3 _ hl2 hs2
        have hlen2 : s2.length + 1 ≤ WW := by omega
        have h4 := case_loop hk (some (.d (dE e))) (s2.length + 1) (fs := [dA a]) (s := s2) (j := WW) hl3 hs3 (by omega) (by omega) hlen2 (by
          have := hl3
          simp only [List.length_append, List.length_cons, List.length_nil] at this ⊢
          omega)
        dsimp only
        cases e3 : pArms (pExp N) (s2.length + 1) s2 with
        | none =>
          rw [e3] at h4
          obtain ⟨o, x, y, h4⟩ := h4
          simp [c1] at h1 h2 h3 h4
          exact ⟨o, by simp [fd_Reader_case, h1, h2, h3, evS_wlp (s := lp_Reader_case_1) rfl, h4]⟩
        | some r =>
          obtain ⟨as, s3⟩ := r
          rw [e3] at h4
          obtain ⟨w3, q4, h4⟩ := h4
          obtain ⟨hl4, hs4⟩ := suf_len q4 _ hl3 hs3
          have h5 := must_at (n + 4) (w := [93]) hl4 (by simp)
          dsimp only
          by_cases c2 : s3.take 1 = [93]
          · rw [if_pos c2]
            have t2 := take1 c2
            rw [List.drop_one] at t2 ⊢
            by_cases c3 : as.length + 1 ≤ 4
            · rw [if_pos c3]
              have c3' : ¬ (4 < (as.length : Int) + 1) := by omega
              refine ⟨w1 ++ ([58, 32] ++ (w2 ++ (w3 ++ [93]))), ?_, ?_⟩
              · conv => lhs; rw [q1, q2, q3, q4, t2]
                simp
              · simp [c1, c2] at h1 h2 h3 h4 h5
                simp [fd_Reader_case, h1, h2, h3, evS_wlp (s := lp_Reader_case_1) rfl, h4, h5, c3', dE, dAs_map, dAs]
            · rw [if_neg c3]
              have c3' : 4 < (as.length : Int) + 1 := by omega
              simp [c1, c2] at h1 h2 h3 h4 h5
              exact ⟨rd (p ++ (w1 ++ 58 :: 32 :: (w2 ++ (w3 ++ [93])))) s3.tail, by simp [fd_Reader_case, h1, h2, h3, evS_wlp (s := lp_Reader_case_1) rfl, h4, h5, c3']⟩
          · rw [if_neg c2]
            simp [c1, c2] at h1 h2 h3 h4 h5
            exact ⟨rd (p ++ (w1 ++ 58 :: 32 :: (w2 ++ w3))) s3, by simp [fd_Reader_case, h1, h2, h3, evS_wlp (s := lp_Reader_case_1) rfl, h4, h5]⟩
    · rw [if_neg c1]
      simp [c1] at h1 h2
      exact ⟨rd (p ++ w1) s1, by simp [fd_Reader_case, h1, h2]⟩
theorem exp_at : ∀ {N : Nat} (m : Nat), N ≤ 19 → ∀ p s, p.length + s.length ≤ line → s.length < WW → mx s < N → Reads 15 (m + 3 * N + 5) p (fun e => .d (dE e)) (pExp N s) s
  | 0, _, _, _, _, _, _, h => by omega
  | N + 1, m, hN, p, s, hl, hs, ho => by
    have hk1 : ∀ p s, p.length + s.length ≤ line → s.length < WW → mx s < N → Reads 15 (m + 3 * N + 5) p (fun e => .d (dE e)) (pExp N s) s := exp_at m (by omega)
    have hk2 : ∀ p s, p.length + s.length ≤ line → s.length < WW → mx s < N → Reads 15 (m + 3 * N + 6) p (fun e => .d (dE e)) (pExp N s) s := by
      have := exp_at (N := N) (m + 1) (by omega)
      rw [show m + 1 + 3 * N + 5 = m + 3 * N + 6 by omega] at this
      exact this
    rw [Reads, show m + 3 * (N + 1) + 5 = (m + 3 * N + 7) + 1 by omega, cn_Reader_expression, runF_eq rfl]
    unfold pExp
    have hmc := meets_at (m + 3 * N + 6) (w := [91]) hl (by simp)
    have hrun := run_at (m + 3 * N + 6) (q := LETS) hl hs
    have esa := spn_aft LETS s
    obtain ⟨hl1, hs1⟩ := suf_len esa.symm p hl hs
    have hlen : (spn LETS s).length ≤ line := by have := spn_len LETS s; omega
    have hnm := name_is (m + 3 * N + 6) hlen
    have hfm := form_is (m + 3 * N + 6) hlen
    have hmb := meets_at (m + 3 * N + 6) (w := [40]) hl1 (by simp)
    -- what stands behind the number's look
    have tail_ : ∀ st : Rho, isNum s = false → ReadsC (fin [rd p s] (evSs (callN (pg WW) (m + 3 * N + 7)) pgG WW [0] (match fd_Reader_expression.body with | .cons _ b => b | b => b) [some (rd p s), none, none])) p (fun e => O.d (dE e))
        (if s.take 1 = [91] then pCase (pExp N) (s.drop 1)
          else if (aft LETS s).take 1 = [40] then (match pMany (pExp N) ((aft LETS s).drop 1) with
            | none => none
            | some (as, s1) => if formL (spn LETS s) = true then some (.frm (spn LETS s) as, s1) else if nameL (spn LETS s) = true then some (.cal (spn LETS s) as, s1) else none)
          else if nameL (spn LETS s) = true then some (.nam (spn LETS s), aft LETS s) else none) s := by
      intro _ _
      by_cases c1 : s.take 1 = [91]
      · simp [c1] at hmc
        rw [if_pos c1]
        have t := take1 c1
        rw [List.drop_one] at t ⊢
        have q1 : s = [91] ++ s.tail := t
        obtain ⟨hl2, hs2⟩ := suf_len q1 p hl hs
        have hm1 : mx s.tail < N := by
          rw [t, mx] at ho
          have : brk 91 = 1 := rfl
          omega
        have hc := case_at (n := m + 3 * N) hk1 hk2 hl2 hs2 hm1
        cases e : pCase (pExp N) s.tail with
        | none =>
          rw [e] at hc
          obtain ⟨o, hc⟩ := hc
          exact ⟨o, by simp [fd_Reader_expression, hmc, hc]⟩
        | some r =>
          obtain ⟨x, s1⟩ := r
          rw [e] at hc
          obtain ⟨w, q2, hc⟩ := hc
          refine ⟨[91] ++ w, ?_, ?_⟩
          · conv => lhs; rw [q1, q2]
            simp
          · simp at hc
            simp [fd_Reader_expression, hmc, hc]
      · simp [c1] at hmc
        rw [if_neg c1]
        by_cases c2 : (aft LETS s).take 1 = [40]
        · simp [c2] at hmb
          rw [if_pos c2]
          have t := take1 c2
          rw [List.drop_one] at t ⊢
          have q1 : aft LETS s = [40] ++ (aft LETS s).tail := t
          obtain ⟨hl2, hs2⟩ := suf_len q1 _ hl1 hs1
          have hm1 : mx (aft LETS s).tail < N := by
            have h1 := mx_suf esa.symm (nt_aft s)
            have h2 : mx (aft LETS s) = mx (aft LETS s).tail + 1 := by
              conv => lhs; rw [t, mx]
              have : brk 40 = 1 := rfl
              omega
            omega
          have hg := given_at (n := m + 3 * N + 3) (by omega) hk2 hl2 hs2 hm1
          cases e : pMany (pExp N) (aft LETS s).tail with
          | none =>
            rw [e] at hg
            obtain ⟨o, hg⟩ := hg
            simp at hg
            exact ⟨o, by simp [fd_Reader_expression, hmc, hrun, hmb, hg]⟩
          | some r =>
            obtain ⟨as, s1⟩ := r
            rw [e] at hg
            obtain ⟨w, q2, hg⟩ := hg
            simp at hg
            have hsplit : s = (spn LETS s ++ ([40] ++ w)) ++ s1 := by
              conv => lhs; rw [← esa, q1, q2]
              simp
            dsimp only
            cases hf : formL (spn LETS s) with
            | true =>
              rw [if_pos rfl]
              rw [hf] at hfm
              exact ⟨_, hsplit, by simp [fd_Reader_expression, hmc, hrun, hmb, hg, hfm, dE]⟩
            | false =>
              rw [if_neg (by simp)]
              rw [hf] at hfm
              cases hn : nameL (spn LETS s) with
              | true =>
                rw [if_pos rfl]
                rw [hn] at hnm
                exact ⟨_, hsplit, by simp [fd_Reader_expression, hmc, hrun, hmb, hg, hfm, hnm, dE]⟩
              | false =>
                rw [if_neg (by simp)]
                rw [hn] at hnm
                exact ⟨rd (p ++ (spn LETS s ++ 40 :: w)) s1, by simp [fd_Reader_expression, hmc, hrun, hmb, hg, hfm, hnm]⟩
        · simp [c2] at hmb
          rw [if_neg c2]
          cases hn : nameL (spn LETS s) with
          | true =>
            rw [if_pos rfl]
            rw [hn] at hnm
            exact ⟨_, esa.symm, by simp [fd_Reader_expression, hmc, hrun, hmb, hnm, dE]⟩
          | false =>
            rw [if_neg (by simp)]
            rw [hn] at hnm
            exact ⟨rd (p ++ spn LETS s) (aft LETS s), by simp [fd_Reader_expression, hmc, hrun, hmb, hnm]⟩
    have hbody : fd_Reader_expression.body = .cons (.ifs (.and (.cmp .lt (.fld 0 0 1) (.bi .len (.fld 0 0 0))) (.cmp .isin (.ix (.fld 0 0 0) (.fld 0 0 1)) (.str "-0123456789"))) (.cons (.ret (.tup (.cons (.str "number") (.cons (.meth 0 8 0 .nil) .nil)))) .nil) .nil) (match fd_Reader_expression.body with | .cons _ b => b | b => b) := rfl
    have start_ : (List.map some [rd p s] ++ List.replicate (fd_Reader_expression.ns - [rd p s].length) none) = [some (rd p s), none, none] := rfl
    cases hq : isNum s with
    | false =>
      rw [if_neg (by simp)]
      have hgo : evS (callN (pg WW) (m + 3 * N + 7)) pgG WW [0] (.ifs (.and (.cmp .lt (.fld 0 0 1) (.bi .len (.fld 0 0 0))) (.cmp .isin (.ix (.fld 0 0 0) (.fld 0 0 1)) (.str "-0123456789"))) (.cons (.ret (.tup (.cons (.str "number") (.cons (.meth 0 8 0 .nil) .nil)))) .nil) .nil) [some (rd p s), none, none] = .ok .nx [some (rd p s), none, none] := by
        cases s with
        | nil =>
          have hl' : p.length ≤ line := by simpa using hl
          simp [hl']
        | cons c s =>
          have hl3 : (p ++ c :: s).length ≤ line := by simpa using hl
          have hl4 : p.length + (s.length + 1) ≤ line := by simpa using hl
          have hlt : (p.length : Int) < p.length + (s.length + 1) := by omega
          have hc : c ∉ 45 :: FIG := of_decide_eq_false hq
          have hc1 : c ≠ 45 := fun z => hc (by rw [z]; exact .head _)
          have hc2 : c ∉ FIG := fun z => hc (List.mem_cons_of_mem _ z)
          simp [hl4, hlt, six_mid hl3, hc1, hc2]
      have := tail_ [] hq
      rw [hbody, start_]
      show ReadsC (fin [rd p s] (evSs (callN (pg WW) (m + 3 * N + 7)) pgG WW [0] _ _)) _ _ _ _
      rw [ss_go hgo]
      exact this
    | true =>
      rw [if_pos rfl]
      have hi := int_at (m + 3 * N + 5) hl hs
      cases s with
      | nil => cases hq
      | cons c s =>
        have hl3 : (p ++ c :: s).length ≤ line := by simpa using hl
        have hl4 : p.length + (s.length + 1) ≤ line := by simpa using hl
        have hlt : (p.length : Int) < p.length + (s.length + 1) := by omega
        have hc : c ∈ 45 :: FIG := of_decide_eq_true hq
        have hc' : c = 45 ∨ c ∈ FIG := List.mem_cons.mp hc
        cases e : pInt (c :: s) with
        | none =>
          rw [e] at hi
          obtain ⟨o, hi⟩ := hi
          exact ⟨o, by simp [fd_Reader_expression, hl4, hlt, six_mid hl3, hc', hi]⟩
        | some r =>
          obtain ⟨i, s'⟩ := r
          rw [e] at hi
          obtain ⟨w, e1, hi⟩ := hi
          exact ⟨w, e1, by simp [fd_Reader_expression, hl4, hlt, six_mid hl3, hc', hi, dE]⟩
end
end Ev
end

section
set_option Elab.async false
set_option linter.all false
set_option maxRecDepth 100000
set_option maxHeartbeats 1000000
set_option exponentiation.threshold 300
/-! expressions' texts -/
open PySem
namespace Ev
theorem str_int {i : Int} (h : i.natAbs < 10 ^ 60) : biO .str (.d (.int i)) = some (.d (.str (St (intL i)))) := by
  have h19 : i.natAbs < 2 ^ 1900 := Nat.lt_trans h (Nat.lt_of_lt_of_le (show 10 ^ 60 < 2 ^ 200 by decide) (Nat.pow_le_pow_right (by decide) (by decide)))
  cases i with
  | ofNat n =>
    have := str_nat (n := n) h19
    unfold intL
    rw [if_neg (by simp)]
    exact this
  | negSucc n =>
    show (if (Int.negSucc n).natAbs.log2 < 1920 then some (O.d (.str (Str.ofString (toString (Int.negSucc n))))) else none) = _
    have h1 : (Int.negSucc n).natAbs.log2 < 1920 := (Nat.log2_lt (by simp)).mpr (Nat.lt_of_lt_of_le h19 (Nat.pow_le_pow_right (by decide) (by decide)))
    rw [if_pos h1]
    unfold intL
    rw [if_pos (Int.negSucc_lt_zero n)]
    congr 3
    refine TL.ext_tl ?_
    show (Str.ofString (toString (Int.negSucc n))).cps.toList = 45 :: TL.numL (n + 1)
    rw [PyProof.Rows.signs_ofString]
    show (("-" ++ Nat.repr (n + 1) : String).toList).map Char.toNat = _
    rw [String.toList_append, List.map_append, Nat.toList_repr]
    rfl
/-- parts' lengths -/
theorem sum2 : ∀ (ls : List (List Nat)), (ls.map fun l => l.length).sum + ls.length * 2 = (ls.map fun l => l.length + 2).sum
  | [] => rfl
  | l :: ls => by
    have := sum2 ls
    simp only [List.map_cons, List.sum_cons, List.length_cons] at *
    omega
theorem mem2 {l : List Nat} : ∀ {ls : List (List Nat)}, l ∈ ls → l.length + 2 ≤ (ls.map fun l => l.length + 2).sum
  | k :: ls, h => by
    simp only [List.map_cons, List.sum_cons]
    rcases List.mem_cons.mp h with rfl | h
    · omega
    · have := mem2 h; omega
theorem join2 (ls : List (List Nat)) : (TL.joinL [44, 32] ls).length + 2 = (ls.map fun l => l.length + 2).sum ∨ ls = [] := by
  by_cases h : ls = []
  · exact .inr h
  · exact .inl (joinL_len2 ls h)
theorem text_arm {m : Nat} {f : List Nat} {ns : List (List Nat)} {e : Ex} (hl : (txA (.mk f ns e)).length ≤ line) (he : callN (pg WW) (m + 1) 3 [.d (dE e)] = .ok (.d (.str (St (txE e)))) [.d (dE e)]) :
    callN (pg WW) (m + 2) 2 [.d (dA (.mk f ns e))] = .ok (.d (.str (St (txA (.mk f ns e))))) [.d (dA (.mk f ns e))] := by
  have hlen : (txA (.mk f ns e)).length = f.length + 1 + (TL.joinL [44, 32] ns).length + 2 + (txE e).length := by
    rw [txA]
    simp only [List.length_append, List.length_cons]
    omega
  have hj2 := join2 ns
  have hs := sum2 ns
  have hsl : (ns.map fun l => l.length).sum + ns.length * 2 ≤ line := by
    rcases hj2 with h | rfl
    · omega
    · simp
  have hj := join_o (s := St [44, 32]) (c := [44, 32]) (q := .d (.tup (ns.map fun l => .str (St l)))) (ls := ns) rfl rfl (by simpa using hsl)
  have h1 : f.length + 1 ≤ line := by omega
  have h2 : f.length + 1 + (TL.joinL [44, 32] ns).length ≤ line := by omega
  have h3 : f.length + 1 + (TL.joinL [44, 32] ns).length + 2 ≤ line := by omega
  have h4 : f.length + 1 + (TL.joinL [44, 32] ns).length + 2 + (txE e).length ≤ line := by omega
  rw [cn_arm_text, runF_eq rfl]
  simp [fd_arm_text, dA, hj, he, h1, txA]
  rw [if_pos h2, if_pos (by omega), if_pos (by omega)]
abbrev nm_frm : List Nat := [102, 111, 114, 109]
abbrev nm_cal : List Nat := [99, 97, 108, 108]
theorem joinA2 (ls : List (List Nat)) : (TL.joinL [59, 32] ls).length + 2 = (ls.map fun l => l.length + 2).sum ∨ ls = [] := by
  by_cases h : ls = []
  · exact .inr h
  · exact .inl (joinA_len ls h)
/-- the args' texts -/
theorem args_txt {cf : CallF} {f : Nat} {d0 : D} {x1 x2 x3 : Option O} {c1 c2 : List Nat} {as : List Ex} (hd : d0 = .tup [.str (St c1), .str (St c2), .tup (dEs as)]) (hf : f = 3) (hl : as.length ≤ line)
    (h : ∀ e ∈ as, cf f [.d (dE e)] = .ok (.d (.str (St (txE e)))) [.d (dE e)]) :
    evE cf pgG lp_expression_text_1 [some (.d d0), x1, x2, x3, none] = .ok (.lst (as.map fun e => .str (St (txE e)))) [some (.d d0), x1, x2, x3, none] := by
  subst hd; subst hf
  exact lc_m (lp := lp_expression_text_1) dE (fun e => .str (St (txE e))) rfl (by simp [dEs_map]) hl rfl (by
    intro e he
    simp [h e he])
theorem text_at (m : Nat) : ∀ (N : Nat) (e : Ex), e.ok → (txE e).length ≤ line → e.dep ≤ N → callN (pg WW) (m + 2 * N + 1) 3 [.d (dE e)] = .ok (.d (.str (St (txE e)))) [.d (dE e)]
  | N, .num i, h, hl, hd => by
    have hs := str_int (i := i) h
    rw [cn_expression_text, runF_eq rfl]
    simp [fd_expression_text, dE, txE, hs]
  | N, .nam s, h, hl, hd => by
    rw [cn_expression_text, runF_eq rfl]
    simp [fd_expression_text, dE, txE]
  | 0, .frm s as, h, hl, hd => by simp [Ex.dep] at hd
  | 0, .cal s as, h, hl, hd => by simp [Ex.dep] at hd
  | 0, .cas s as, h, hl, hd => by simp [Ex.dep] at hd
  | N + 1, .frm s as, h, hl, hd => by
    simp only [Ex.dep] at hd
    have hlen : (txE (.frm s as)).length = s.length + 1 + (TL.joinL [44, 32] (txEs as)).length + 1 := by
      rw [txE]
      simp only [List.length_append, List.length_cons, List.length_nil]
      omega
    have hj2 := join2 (txEs as)
    have hs := sum2 (txEs as)
    have hsl : ((txEs as).map fun l => l.length).sum + (txEs as).length * 2 ≤ line := by
      rcases hj2 with h | h
      · omega
      · rw [h]; simp
    have hal : as.length ≤ line := by have := h.2.1; unfold line; omega
    have hc := args_txt (cf := callN (pg WW) (m + 2 * N + 2)) (d0 := dE (.frm s as)) (x1 := some (.d (.str (St (nm_frm))))) (x2 := none) (x3 := none) (as := as) (by rw [dE]) rfl hal (by
      intro e he
      have h1 : (txE e).length + 2 ≤ ((txEs as).map fun l => l.length + 2).sum := mem2 (by rw [txEs_map]; exact List.mem_map.mpr ⟨e, he, rfl⟩)
      have := text_at (m + 1) N e (okE_iff.mp h.2.2 e he) (by
        rcases hj2 with h | h
        · omega
        · rw [h] at h1; simp at h1) (depE_iff.mp (Nat.le_of_succ_le_succ hd) e he)
      rw [show m + 1 + 2 * N + 1 = m + 2 * N + 2 by omega] at this
      exact this)
    have hj := join_c (s := St [44, 32]) (c := [44, 32]) (ls := txEs as) rfl (by simpa using hsl)
    rw [txEs_map, List.map_map] at hj
    simp only [Function.comp_def] at hj
    rw [← txEs_map] at hj
    have h1 : s.length + 1 ≤ line := by omega
    have h2 : s.length + 1 + (TL.joinL [44, 32] (txEs as)).length ≤ line := by omega
    rw [show m + 2 * (N + 1) + 1 = (m + 2 * N + 2) + 1 by omega, cn_expression_text, runF_eq rfl]
    simp [dE] at hc
    simp [fd_expression_text, dE, txE, hc, hj, h1, h2]
    omega
  | N + 1, .cal s as, h, hl, hd => by
    simp only [Ex.dep] at hd
    have hlen : (txE (.cal s as)).length = s.length + 1 + (TL.joinL [44, 32] (txEs as)).length + 1 := by
      rw [txE]
      simp only [List.length_append, List.length_cons, List.length_nil]
      omega
    have hj2 := join2 (txEs as)
    have hs := sum2 (txEs as)
    have hsl : ((txEs as).map fun l => l.length).sum + (txEs as).length * 2 ≤ line := by
      rcases hj2 with h | h
      · omega
      · rw [h]; simp
    have hal : as.length ≤ line := by have := h.2.1; unfold line; omega
    have hc := args_txt (cf := callN (pg WW) (m + 2 * N + 2)) (d0 := dE (.cal s as)) (x1 := some (.d (.str (St (nm_cal))))) (x2 := none) (x3 := none) (as := as) (by rw [dE]) rfl hal (by
      intro e he
      have h1 : (txE e).length + 2 ≤ ((txEs as).map fun l => l.length + 2).sum := mem2 (by rw [txEs_map]; exact List.mem_map.mpr ⟨e, he, rfl⟩)
      have := text_at (m + 1) N e (okE_iff.mp h.2.2 e he) (by
        rcases hj2 with h | h
        · omega
        · rw [h] at h1; simp at h1) (depE_iff.mp (Nat.le_of_succ_le_succ hd) e he)
      rw [show m + 1 + 2 * N + 1 = m + 2 * N + 2 by omega] at this
      exact this)
    have hj := join_c (s := St [44, 32]) (c := [44, 32]) (ls := txEs as) rfl (by simpa using hsl)
    rw [txEs_map, List.map_map] at hj
    simp only [Function.comp_def] at hj
    rw [← txEs_map] at hj
    have h1 : s.length + 1 ≤ line := by omega
    have h2 : s.length + 1 + (TL.joinL [44, 32] (txEs as)).length ≤ line := by omega
    rw [show m + 2 * (N + 1) + 1 = (m + 2 * N + 2) + 1 by omega, cn_expression_text, runF_eq rfl]
    simp [dE] at hc
    simp [fd_expression_text, dE, txE, hc, hj, h1, h2]
    omega
  | N + 1, .cas e arms, h, hl, hd => by
    simp only [Ex.dep] at hd
    have hlen : (txE (.cas e arms)).length = 1 + (txE e).length + 2 + (TL.joinL [59, 32] (txAs arms)).length + 1 := by
      rw [txE]
      simp only [List.length_append, List.length_cons, List.length_nil]
      omega
    have hj2 := joinA2 (txAs arms)
    have hs := sum2 (txAs arms)
    have hsl : ((txAs arms).map fun l => l.length).sum + (txAs arms).length * 2 ≤ line := by
      rcases hj2 with h | h
      · omega
      · rw [h]; simp
    have hal : arms.length ≤ line := by have := h.2.2.1; unfold line; omega
    have he := text_at (m + 1) N e h.1 (by omega) (by omega)
    rw [show m + 1 + 2 * N + 1 = m + 2 * N + 2 by omega] at he
    have hc := lc_m (cf := callN (pg WW) (m + 2 * N + 2)) (G := pgG) (lp := lp_expression_text_2) (r := [some (.d (dE (.cas e arms))), some (.d (.str (St [99, 97, 115, 101]))), none, none, none]) (as := arms) dA (fun a => .str (St (txA a))) rfl (by simp [dE, dAs_map]) hal rfl (by
      intro a ha
      obtain ⟨f, ns, e'⟩ := a
      have h1 : (txA (.mk f ns e')).length + 2 ≤ ((txAs arms).map fun l => l.length + 2).sum := mem2 (by rw [txAs_map]; exact List.mem_map.mpr ⟨_, ha, rfl⟩)
      have hla : (txA (.mk f ns e')).length ≤ line := by
        rcases hj2 with h | h
        · omega
        · rw [h] at h1; simp at h1
      have hle : (txE e').length ≤ line := by
        have : (txA (.mk f ns e')).length = f.length + 1 + (TL.joinL [44, 32] ns).length + 2 + (txE e').length := by
          rw [txA]
          simp only [List.length_append, List.length_cons]
          omega
        omega
      have hok := okA_iff.mp h.2.2.2 _ ha
      have hdp : e'.dep ≤ N := by
        have := depA_iff.mp (Nat.le_refl (depA arms)) _ ha
        simp only [Arm.dep] at this
        omega
      have ht := text_arm (m := m + 2 * N) hla (text_at m N e' hok.2 hle hdp)
      simp [ht])
    have hj := join_c (s := St [59, 32]) (c := [59, 32]) (ls := txAs arms) rfl (by simpa using hsl)
    rw [txAs_map, List.map_map] at hj
    simp only [Function.comp_def] at hj
    rw [← txAs_map] at hj
    have h1 : 1 + (txE e).length ≤ line := by omega
    have h2 : 1 + (txE e).length + 2 ≤ line := by omega
    have h3 : 1 + (txE e).length + 2 + (TL.joinL [59, 32] (txAs arms)).length ≤ line := by omega
    rw [show m + 2 * (N + 1) + 1 = (m + 2 * N + 2) + 1 by omega, cn_expression_text, runF_eq rfl]
    simp [dE] at hc
    simp [fd_expression_text, dE, txE, hc, hj, he]
    rw [if_pos (by omega), if_pos (by omega), if_pos (by omega), if_pos (by omega)]
end Ev
end

section
set_option Elab.async false
set_option linter.all false
set_option maxRecDepth 100000
set_option maxHeartbeats 1000000
set_option exponentiation.threshold 300
/-! read_expression; how long texts are -/
open PySem
namespace Ev
theorem read_exp_at (n : Nat) (hn : 60 ≤ n) {s : List Nat} (hs : s.length < 99000) (ho : mx s < 12) :
    (∃ e : Ex, e.ok ∧ e.dep ≤ 12 ∧ txE e = s ∧ callN (pg WW) n 16 [.d (.str (St s))] = .ok (.d (dE e)) [.d (.str (St s))]) ∨
    ((∀ e : Ex, e.ok → e.dep < 12 → txE e ≠ s) ∧ callN (pg WW) n 16 [.d (.str (St s))] = .exc 4 .non [.d (.str (St s))]) := by
  obtain ⟨m, rfl⟩ : ∃ m, n = m + 3 * 12 + 5 + 1 := ⟨n - 42, by omega⟩
  have hl : ([] : List Nat).length + s.length ≤ line := by simp; unfold line; omega
  have hw : s.length < WW := by show s.length < 100000; omega
  have hi := init_at (m + 3 * 12 + 4) s
  have hk := exp_at (N := 12) m (by omega) [] s hl hw ho
  have hll : s.length ≤ line := by simpa using hl
  rw [cn_read_expression, runF_eq rfl]
  cases e : pExp 12 s with
  | none =>
    rw [e] at hk
    obtain ⟨o, hk⟩ := hk
    right
    refine ⟨fun k h1 h2 h3 => ?_, ?_⟩
    · have := pExp_back (n := 12) k [] h1 h2 (fun c q e => by cases e)
      rw [List.append_nil, h3, e] at this
      cases this
    · simp [rd] at hi hk
      simp [fd_read_expression, hi, hk]
  | some r =>
    obtain ⟨k, s'⟩ := r
    rw [e] at hk
    obtain ⟨w, e1, hk⟩ := hk
    obtain ⟨⟨w', e2, ⟨k1, k2⟩, k3⟩, _⟩ := pExp_spec (n := 12) _ _ _ e
    have hlk : (txE k).length ≤ line := by
      have := congrArg List.length e2
      simp at this
      omega
    have ht := text_at (m + 16) 12 k k1 hlk k2
    rw [show m + 16 + 2 * 12 + 1 = m + 3 * 12 + 5 by omega] at ht
    simp [rd] at hi hk
    by_cases hx : txE k = s
    · left
      refine ⟨k, k1, k2, hx, ?_⟩
      simp [fd_read_expression, hi, hk, ht, hx]
    · right
      refine ⟨fun k' h1 h2 h3 => ?_, ?_⟩
      · have := pExp_back (n := 12) k' [] h1 h2 (fun c q e => by cases e)
        rw [List.append_nil, h3, e] at this
        cases this
        exact hx h3
      · simp [fd_read_expression, hi, hk, ht, hx]
/-- other things are refused -/
theorem readx_other (n : Nat) {d : D} (h : isTy d .str = false) (hi : isIns d = false) : callN (pg WW) (n + 1) 16 [.d d] = .exc 4 .non [.d d] := by
  rw [cn_read_expression, runF_eq rfl]
  simp only [isTy_str] at h
  simp [fd_read_expression, hi, h]
/-- a text read again -/
theorem readx_back (n : Nat) (hn : 60 ≤ n) {e : Ex} (h : e.ok) (hd : e.dep ≤ 10) (hl : (txE e).length < 99000) : callN (pg WW) n 16 [.d (.str (St (txE e)))] = .ok (.d (dE e)) [.d (.str (St (txE e)))] := by
  have hm := (mx_txE e h).2
  rcases read_exp_at n hn hl (by omega) with ⟨k, k1, k2, k3, k4⟩ | ⟨h', _⟩
  · have a := pExp_back (n := 13) e [] h (by omega) (fun c q e => by cases e)
    have b := pExp_back (n := 13) k [] k1 (by omega) (fun c q e => by cases e)
    rw [k3, a] at b
    cases b
    exact k4
  · exact absurd rfl (h' e h (by omega))
/-! ### how long -/
def lb : Nat → Nat
  | 0 => 61
  | n + 1 => 5 * lb n + 190
theorem lb_mono {n m : Nat} (h : n ≤ m) : lb n ≤ lb m := by
  induction h with
  | refl => exact Nat.le_refl _
  | step _ ih => exact Nat.le_trans ih (by show _ ≤ 5 * lb _ + 190; omega)
theorem sum_bd {f : α → Nat} {b : Nat} : ∀ {xs : List α}, (∀ x ∈ xs, f x ≤ b) → (xs.map f).sum ≤ xs.length * b
  | [], _ => by simp
  | x :: xs, h => by
    have h1 := h x (.head _)
    have h2 := sum_bd (xs := xs) fun y hy => h y (.tail _ hy)
    simp only [List.map_cons, List.sum_cons, List.length_cons, Nat.add_mul, Nat.one_mul]
    omega
theorem form_len {s : List Nat} (h : formL s = true) : s.length ≤ 8 := by
  unfold formL at h
  simp only [Bool.and_eq_true, decide_eq_true_eq] at h
  exact h.1.2
theorem name_len {s : List Nat} (h : nameL s = true) : s.length ≤ 8 := by
  unfold nameL at h
  simp only [Bool.and_eq_true, decide_eq_true_eq] at h
  exact h.1.2
theorem len_args {as : List Ex} {b : Nat} (h3 : as.length ≤ 3) (hb : ∀ e ∈ as, (txE e).length ≤ b) : (TL.joinL [44, 32] (txEs as)).length ≤ 3 * (b + 2) := by
  have j := joinL_len (txEs as)
  rw [txEs_map, List.map_map] at j
  have s := sum_bd (f := (fun l : List Nat => l.length + 2) ∘ txE) (b := b + 2) (xs := as) fun e he => by have := hb e he; simp; omega
  have : as.length * (b + 2) ≤ 3 * (b + 2) := Nat.mul_le_mul_right _ h3
  rw [txEs_map]
  omega
theorem len_txE : ∀ (n : Nat) (e : Ex), e.ok → e.dep ≤ n → (txE e).length ≤ lb n
  | n, .num i, h, hd => by
    rw [txE]
    unfold intL
    have := TL.numL_len (n := i.natAbs) (k := 60) (by decide) h
    have := lb_mono (Nat.zero_le n)
    have h0 : lb 0 = 61 := rfl
    split
    · simp only [List.length_cons]; omega
    · omega
  | n, .nam s, h, hd => by
    rw [txE]
    have := name_len h
    have := lb_mono (Nat.zero_le n)
    have h0 : lb 0 = 61 := rfl
    omega
  | 0, .frm s as, h, hd => by simp [Ex.dep] at hd
  | 0, .cal s as, h, hd => by simp [Ex.dep] at hd
  | 0, .cas s as, h, hd => by simp [Ex.dep] at hd
  | n + 1, .frm s as, h, hd => by
    simp only [Ex.dep] at hd
    have := form_len h.1
    have := len_args h.2.1 fun e he => len_txE n e (okE_iff.mp h.2.2 e he) (depE_iff.mp (by omega) e he)
    rw [txE]
    simp only [List.length_append, List.length_cons, List.length_nil, lb]
    omega
  | n + 1, .cal s as, h, hd => by
    simp only [Ex.dep] at hd
    have := name_len h.1
    have := len_args h.2.1 fun e he => len_txE n e (okE_iff.mp h.2.2 e he) (depE_iff.mp (by omega) e he)
    rw [txE]
    simp only [List.length_append, List.length_cons, List.length_nil, lb]
    omega
  | n + 1, .cas e arms, h, hd => by
    simp only [Ex.dep] at hd
    have h1 := len_txE n e h.1 (by omega)
    have ha : ∀ a ∈ arms, (txA a).length ≤ lb n + 41 := by
      intro a ha
      obtain ⟨f, ns, e'⟩ := a
      have hok := okA_iff.mp h.2.2.2 _ ha
      have hdp := depA_iff.mp (Nat.le_refl (depA arms)) _ ha
      simp only [Arm.dep] at hdp
      have h2 := len_txE n e' hok.2 (by omega)
      have h3 := form_len hok.1.1
      have j := joinL_len ns
      have s := sum_bd (f := fun l : List Nat => l.length + 2) (b := 10) (xs := ns) fun l hl => by have := name_len (hok.1.2.2.1 l hl); omega
      have : ns.length * 10 ≤ 3 * 10 := Nat.mul_le_mul_right _ hok.1.2.1
      rw [txA]
      simp only [List.length_append, List.length_cons]
      omega
    have j := joinA2 (txAs arms)
    have s := sum_bd (f := (fun l : List Nat => l.length + 2) ∘ txA) (b := lb n + 43) (xs := arms) fun a h => by have := ha a h; simp; omega
    have h4 : arms.length * (lb n + 43) ≤ 4 * (lb n + 43) := Nat.mul_le_mul_right _ h.2.2.1
    have hj : (TL.joinL [59, 32] (txAs arms)).length ≤ 4 * (lb n + 43) := by
      rcases j with j | j
      · rw [txAs_map, List.map_map] at j
        rw [txAs_map]
        omega
      · rw [j]; exact Nat.zero_le _
    rw [txE]
    simp only [List.length_append, List.length_cons, List.length_nil, lb]
    omega
end Ev
end

section
set_option Elab.async false
set_option linter.all false
set_option maxRecDepth 100000
set_option maxHeartbeats 1000000
set_option exponentiation.threshold 300
/-! alike, part by part; putting -/
open PySem
namespace Ev
/-- ints, texts, tuples, so deep -/
def pl : Nat → D → Prop
  | _, .int _ => True
  | _, .str _ => True
  | n + 1, .tup xs => xs.length ≤ 1000 ∧ ∀ x ∈ xs, pl n x
  | _, _ => False
theorem same_at : ∀ {n : Nat} {d : D}, pl n d → callN (pg WW) (n + 1) 23 [.d d, .d d] = .ok (.d (.bl true)) [.d d, .d d]
  | n, .int i, _ => by
    rw [cn_law_same, runF_eq rfl]
    simp [fd_law_same]
  | n, .str s, _ => by
    have h : eqD (.str s) (.str s) = some true := by show some (decide (s = s)) = _; simp
    rw [cn_law_same, runF_eq rfl]
    simp [fd_law_same, h]
  | n + 1, .tup xs, h => by
    rw [cn_law_same, runF_eq rfl]
    have hr := fun r => rngO_nat (r := r) (i := (xs.length : Int)) (m := xs.length) rfl (by have := h.1; omega)
    have hc := lc_m (cf := callN (pg WW) (n + 1)) (G := pgG) (lp := lp_law_same_1) (r := [some (.d (.tup xs)), some (.d (.tup xs)), none]) (as := List.range xs.length) (fun k => D.int (k : Nat)) (fun _ => .bl true) rfl (by simp [hr]) (by rw [List.length_range]; have := h.1; unfold line; omega) rfl (by
      intro k hk
      rw [List.mem_range] at hk
      have ih := same_at (h.2 xs[k] (List.getElem_mem hk))
      simp [List.getElem?_eq_getElem hk, ih])
    have ha := allB_map (fun _ : Nat => true) (List.range xs.length)
    simp [fd_law_same, hc, ha]
  | 0, .tup _, h => h.elim
  | 0, .non, h => h.elim
  | 0, .bl _, h => h.elim
  | 0, .lst _, h => h.elim
  | 0, .dct _ _, h => h.elim
  | 0, .dtt _ _, h => h.elim
  | 0, .ins _ _, h => h.elim
  | _ + 1, .non, h => h.elim
  | _ + 1, .bl _, h => h.elim
  | _ + 1, .lst _, h => h.elim
  | _ + 1, .dct _ _, h => h.elim
  | _ + 1, .dtt _ _, h => h.elim
  | _ + 1, .ins _ _, h => h.elim
theorem pl_up : ∀ {n m : Nat} {d : D}, n ≤ m → pl n d → pl m d
  | _, _, .int _, _, _ => by unfold pl; trivial
  | _, _, .str _, _, _ => by unfold pl; trivial
  | n + 1, m + 1, .tup xs, h, hp => ⟨hp.1, fun x hx => pl_up (Nat.le_of_succ_le_succ h) (hp.2 x hx)⟩
  | n + 1, 0, .tup _, h, _ => by omega
  | 0, _, .tup _, _, h => h.elim
  | 0, _, .non, _, h => h.elim
  | 0, _, .bl _, _, h => h.elim
  | 0, _, .lst _, _, h => h.elim
  | 0, _, .dct _ _, _, h => h.elim
  | 0, _, .dtt _ _, _, h => h.elim
  | 0, _, .ins _ _, _, h => h.elim
  | _ + 1, _, .non, _, h => h.elim
  | _ + 1, _, .bl _, _, h => h.elim
  | _ + 1, _, .lst _, _, h => h.elim
  | _ + 1, _, .dct _ _, _, h => h.elim
  | _ + 1, _, .dtt _ _, _, h => h.elim
  | _ + 1, _, .ins _ _, _, h => h.elim
mutual
theorem pl_dK (k : Kd) (h : k.ok) : pl k.dep (dK k) := match k with
  | .o _ => by rw [dK]; unfold pl; trivial
  | .m s ps => by
    rw [dK, Kd.dep]
    refine ⟨by have := h.2.1; rw [dKs_map]; simp; omega, fun x hx => ?_⟩
    rcases List.mem_cons.mp hx with rfl | hx
    · unfold pl; trivial
    · exact pl_dKs ps h.2.2 (deps' ps) (Nat.le_refl _) x hx
theorem pl_dKs (ks : List Kd) (h : oks ks) (n : Nat) (hn : deps' ks ≤ n) : ∀ x ∈ dKs ks, pl n x := match ks with
  | [] => by simp [dKs]
  | k :: ks => by
    intro x hx
    rw [dKs] at hx
    rw [deps'] at hn
    rcases List.mem_cons.mp hx with rfl | hx
    · exact pl_up (by omega) (pl_dK k h.1)
    · exact pl_dKs ks h.2 n (by omega) x hx
end
end Ev
end

section
set_option Elab.async false
set_option linter.all false
set_option maxRecDepth 100000
set_option maxHeartbeats 1000000
/-! expressions, alike part by part -/
open PySem
namespace Ev
theorem pl_str {n : Nat} {s : Str} : pl n (.str s) := by unfold pl; trivial
theorem pl_int {n : Nat} {i : Int} : pl n (.int i) := by unfold pl; trivial
theorem pl2 {n : Nat} {a b : D} (ha : pl n a) (hb : pl n b) : pl (n + 1) (.tup [a, b]) := ⟨by simp, fun x hx => by
  simp only [List.mem_cons, List.not_mem_nil, or_false] at hx
  rcases hx with rfl | rfl
  · exact ha
  · exact hb⟩
theorem pl3 {n : Nat} {a b c : D} (ha : pl n a) (hb : pl n b) (hc : pl n c) : pl (n + 1) (.tup [a, b, c]) := ⟨by simp, fun x hx => by
  simp only [List.mem_cons, List.not_mem_nil, or_false] at hx
  rcases hx with rfl | rfl | rfl
  · exact ha
  · exact hb
  · exact hc⟩
mutual
theorem pl_dE (e : Ex) (h : e.ok) : pl (3 * e.dep + 2) (dE e) := match e with
  | .num i => by rw [dE]; exact pl_up (n := 1) (by omega) (pl2 pl_str pl_int)
  | .nam s => by rw [dE]; exact pl_up (n := 1) (by omega) (pl2 pl_str pl_str)
  | .frm s as => by
    rw [dE, Ex.dep]
    exact pl_up (n := 3 * depE as + 4) (by omega) (pl3 pl_str pl_str ⟨by rw [dEs_map]; have := h.2.1; simp; omega, pl_dEs as h.2.2 _ (Nat.le_refl _)⟩)
  | .cal s as => by
    rw [dE, Ex.dep]
    exact pl_up (n := 3 * depE as + 4) (by omega) (pl3 pl_str pl_str ⟨by rw [dEs_map]; have := h.2.1; simp; omega, pl_dEs as h.2.2 _ (Nat.le_refl _)⟩)
  | .cas e arms => by
    have h1 := pl_dE e h.1
    have h2 := pl_dAs arms h.2.2.2 _ (Nat.le_refl _)
    rw [dE, Ex.dep]
    exact pl_up (n := 3 * max e.dep (depA arms) + 5) (by omega) (pl3 pl_str (pl_up (by omega) h1) (pl_up (n := 3 * depA arms + 4) (by omega) ⟨by rw [dAs_map]; have := h.2.2.1; simp; omega, h2⟩))
theorem pl_dEs (es : List Ex) (h : okE es) (n : Nat) (hn : depE es ≤ n) : ∀ x ∈ dEs es, pl (3 * n + 2) x := match es with
  | [] => by simp [dEs]
  | e :: es => by
    intro x hx
    rw [dEs] at hx
    rw [depE] at hn
    rcases List.mem_cons.mp hx with rfl | hx
    · exact pl_up (by omega) (pl_dE e h.1)
    · exact pl_dEs es h.2 n (by omega) x hx
theorem pl_dAs (es : List Arm) (h : okA es) (n : Nat) (hn : depA es ≤ n) : ∀ x ∈ dAs es, pl (3 * n + 3) x := match es with
  | [] => by simp [dAs]
  | e :: es => by
    intro x hx
    rw [dAs] at hx
    rw [depA] at hn
    rcases List.mem_cons.mp hx with rfl | hx
    · exact pl_up (by omega) (pl_dA e h.1)
    · exact pl_dAs es h.2 n (by omega) x hx
theorem pl_dA (a : Arm) (h : a.ok) : pl (3 * a.dep + 3) (dA a) := match a with
  | .mk f ns e => by
    have h1 := pl_dE e h.2
    rw [dA, Arm.dep]
    refine pl3 pl_str (pl_up (n := 1) (by omega) ⟨by have := h.1.2.1; simp; omega, fun x hx => ?_⟩) h1
    obtain ⟨s, hs, rfl⟩ := List.mem_map.mp hx
    exact pl_str
end
end Ev
end

section
set_option Elab.async false
set_option linter.all false
set_option maxRecDepth 100000
set_option maxHeartbeats 1000000
set_option exponentiation.threshold 300
/-! the law's own text of an expression -/
open PySem
namespace Ev
theorem ltext_loop {cf : CallF} (x0 x5 : Option O) : ∀ (arms : List Arm) {ts : List (List Nat)} {x2 x3 x4 : Option O}, ts.length + arms.length ≤ 1000 → (∀ a ∈ arms, (txA a).length ≤ line) →
    (∀ f ns e, .mk f ns e ∈ arms → cf 24 [.d (dE e)] = .ok (.d (.str (St (txE e)))) [.d (dE e)]) →
    ∃ x2' x3' x4', frp cf pgG WW [] lp_law_text_1 (dAs arms) [x0, some (.lst (ts.map fun t => .str (St t))), x2, x3, x4, x5] = .ok .nx [x0, some (.lst ((ts ++ txAs arms).map fun t => .str (St t))), x2', x3', x4', x5]
  | [], ts, x2, x3, x4, _, _, _ => ⟨x2, x3, x4, by rw [dAs, frp_nil (s := lp_law_text_1) rfl, txAs, List.append_nil]⟩
  | .mk f ns e :: arms, ts, x2, x3, x4, hl, hla, hc => by
    simp only [List.length_cons] at hl
    obtain ⟨x2', x3', x4', ih⟩ := ltext_loop (cf := cf) x0 x5 arms (ts := ts ++ [txA (.mk f ns e)]) (x2 := some (.d (.str (St f)))) (x3 := some (.d (.tup (ns.map fun s => .str (St s))))) (x4 := some (.d (dE e))) (by simp; omega) (fun a ha => hla a (.tail _ ha)) (fun f ns e he => hc f ns e (.tail _ he))
    refine ⟨x2', x3', x4', ?_⟩
    have he := hc f ns e (.head _)
    have hla := hla _ (.head _)
    have hlen : (txA (.mk f ns e)).length = f.length + 1 + (TL.joinL [44, 32] ns).length + 2 + (txE e).length := by
      rw [txA]
      simp only [List.length_append, List.length_cons]
      omega
    have hj2 := join2 ns
    have hs := sum2 ns
    have hsl : (ns.map fun l => l.length).sum + ns.length * 2 ≤ line := by
      rcases hj2 with h | rfl
      · omega
      · simp
    have hj := join_o (s := St [44, 32]) (c := [44, 32]) (q := .d (.tup (ns.map fun l => .str (St l)))) (ls := ns) rfl rfl (by simpa using hsl)
    have h1 : f.length + 1 ≤ line := by omega
    have h2 : f.length + 1 + (TL.joinL [44, 32] ns).length ≤ line := by omega
    have h3 : f.length + (1 + (TL.joinL [44, 32] ns).length) + 2 ≤ line := by omega
    have h4 : f.length + ((TL.joinL [44, 32] ns).length + 1) + 2 ≤ line := by omega
    have h5 : f.length + ((TL.joinL [44, 32] ns).length + 2 + 1) + (txE e).length ≤ line := by omega
    have h6 : ts.length < line := by unfold line; omega
    rw [dAs, frp_c (s := lp_law_text_1) rfl]
    simp [txA, txAs] at ih
    simp [dA, he, hj, h1, h2, h4, h5, h6]
    exact ih
theorem ltext_at : ∀ (N : Nat) (m : Nat) (e : Ex), e.ok → (txE e).length ≤ line → e.dep ≤ N → callN (pg WW) (m + N + 1) 24 [.d (dE e)] = .ok (.d (.str (St (txE e)))) [.d (dE e)]
  | N, m, .num i, h, hl, hd => by
    have hs := str_int (i := i) h
    rw [cn_law_text, runF_eq rfl]
    simp [fd_law_text, dE, txE, hs]
  | N, m, .nam s, h, hl, hd => by
    rw [cn_law_text, runF_eq rfl]
    simp [fd_law_text, dE, txE]
  | 0, _, .frm s as, h, hl, hd => by simp [Ex.dep] at hd
  | 0, _, .cal s as, h, hl, hd => by simp [Ex.dep] at hd
  | 0, _, .cas s as, h, hl, hd => by simp [Ex.dep] at hd
  | N + 1, m, .frm s as, h, hl, hd => by
    simp only [Ex.dep] at hd
    have hlen : (txE (.frm s as)).length = s.length + 1 + (TL.joinL [44, 32] (txEs as)).length + 1 := by
      rw [txE]
      simp only [List.length_append, List.length_cons, List.length_nil]
      omega
    have hj2 := join2 (txEs as)
    have hs := sum2 (txEs as)
    have hsl : ((txEs as).map fun l => l.length).sum + (txEs as).length * 2 ≤ line := by
      rcases hj2 with h | h
      · omega
      · rw [h]; simp
    have hal : as.length ≤ line := by have := h.2.1; unfold line; omega
    have hc := lc_m (cf := callN (pg WW) (m + N + 1)) (G := pgG) (lp := lp_law_text_2) (r := [some (.d (dE (.frm s as))), none, none, none, none, none]) (as := as) dE (fun e => .str (St (txE e))) rfl (by simp [dE, dEs_map]) hal rfl (by
      intro e he
      have h1 : (txE e).length + 2 ≤ ((txEs as).map fun l => l.length + 2).sum := mem2 (by rw [txEs_map]; exact List.mem_map.mpr ⟨e, he, rfl⟩)
      have := ltext_at N m e (okE_iff.mp h.2.2 e he) (by
        rcases hj2 with h | h
        · omega
        · rw [h] at h1; simp at h1) (depE_iff.mp (Nat.le_of_succ_le_succ hd) e he)
      simp [this])
    have hj := join_c (s := St [44, 32]) (c := [44, 32]) (ls := txEs as) rfl (by simpa using hsl)
    rw [txEs_map, List.map_map] at hj
    simp only [Function.comp_def] at hj
    rw [← txEs_map] at hj
    have h1 : s.length + 1 ≤ line := by omega
    have h2 : s.length + 1 + (TL.joinL [44, 32] (txEs as)).length ≤ line := by omega
    rw [show m + (N + 1) + 1 = (m + N + 1) + 1 by omega, cn_law_text, runF_eq rfl]
    simp [dE] at hc
    simp [fd_law_text, dE, txE, hc, hj, h1, h2]
    omega
  | N + 1, m, .cal s as, h, hl, hd => by
    simp only [Ex.dep] at hd
    have hlen : (txE (.cal s as)).length = s.length + 1 + (TL.joinL [44, 32] (txEs as)).length + 1 := by
      rw [txE]
      simp only [List.length_append, List.length_cons, List.length_nil]
      omega
    have hj2 := join2 (txEs as)
    have hs := sum2 (txEs as)
    have hsl : ((txEs as).map fun l => l.length).sum + (txEs as).length * 2 ≤ line := by
      rcases hj2 with h | h
      · omega
      · rw [h]; simp
    have hal : as.length ≤ line := by have := h.2.1; unfold line; omega
    have hc := lc_m (cf := callN (pg WW) (m + N + 1)) (G := pgG) (lp := lp_law_text_2) (r := [some (.d (dE (.cal s as))), none, none, none, none, none]) (as := as) dE (fun e => .str (St (txE e))) rfl (by simp [dE, dEs_map]) hal rfl (by
      intro e he
      have h1 : (txE e).length + 2 ≤ ((txEs as).map fun l => l.length + 2).sum := mem2 (by rw [txEs_map]; exact List.mem_map.mpr ⟨e, he, rfl⟩)
      have := ltext_at N m e (okE_iff.mp h.2.2 e he) (by
        rcases hj2 with h | h
        · omega
        · rw [h] at h1; simp at h1) (depE_iff.mp (Nat.le_of_succ_le_succ hd) e he)
      simp [this])
    have hj := join_c (s := St [44, 32]) (c := [44, 32]) (ls := txEs as) rfl (by simpa using hsl)
    rw [txEs_map, List.map_map] at hj
    simp only [Function.comp_def] at hj
    rw [← txEs_map] at hj
    have h1 : s.length + 1 ≤ line := by omega
    have h2 : s.length + 1 + (TL.joinL [44, 32] (txEs as)).length ≤ line := by omega
    rw [show m + (N + 1) + 1 = (m + N + 1) + 1 by omega, cn_law_text, runF_eq rfl]
    simp [dE] at hc
    simp [fd_law_text, dE, txE, hc, hj, h1, h2]
    omega
  | N + 1, m, .cas e arms, h, hl, hd => by
    simp only [Ex.dep] at hd
    have hlen : (txE (.cas e arms)).length = 1 + (txE e).length + 2 + (TL.joinL [59, 32] (txAs arms)).length + 1 := by
      rw [txE]
      simp only [List.length_append, List.length_cons, List.length_nil]
      omega
    have hj2 := joinA2 (txAs arms)
    have hs := sum2 (txAs arms)
    have hsl : ((txAs arms).map fun l => l.length).sum + (txAs arms).length * 2 ≤ line := by
      rcases hj2 with h | h
      · omega
      · rw [h]; simp
    have he := ltext_at N m e h.1 (by omega) (by omega)
    have hla : ∀ a ∈ arms, (txA a).length ≤ line := by
      intro a ha
      have h1 : (txA a).length + 2 ≤ ((txAs arms).map fun l => l.length + 2).sum := mem2 (by rw [txAs_map]; exact List.mem_map.mpr ⟨_, ha, rfl⟩)
      rcases hj2 with h | h
      · omega
      · rw [h] at h1; simp at h1
    obtain ⟨x2, x3, x4, hc⟩ := ltext_loop (cf := callN (pg WW) (m + N + 1)) (some (.d (dE (.cas e arms)))) none arms (ts := []) (x2 := none) (x3 := none) (x4 := none) (by have := h.2.2.1; simp; omega) hla (by
      intro f ns e' ha
      have hle : (txE e').length ≤ line := by
        have h2 := hla _ ha
        have : (txA (.mk f ns e')).length = f.length + 1 + (TL.joinL [44, 32] ns).length + 2 + (txE e').length := by
          rw [txA]
          simp only [List.length_append, List.length_cons]
          omega
        omega
      have hok := okA_iff.mp h.2.2.2 _ ha
      have hdp : e'.dep ≤ N := by
        have := depA_iff.mp (Nat.le_refl (depA arms)) _ ha
        simp only [Arm.dep] at this
        omega
      exact ltext_at N m e' hok.2 hle hdp)
    have hj := join_c (s := St [59, 32]) (c := [59, 32]) (ls := txAs arms) rfl (by simpa using hsl)
    have hjd := join_o (s := St [59, 32]) (c := [59, 32]) (q := .d (.lst ((txAs arms).map fun l => .str (St l)))) (ls := txAs arms) rfl rfl (by simpa using hsl)
    rw [show m + (N + 1) + 1 = (m + N + 1) + 1 by omega, cn_law_text, runF_eq rfl]
    simp [dE] at hc
    simp [fd_law_text, dE, txE, evS_frp (s := lp_law_text_1) rfl, hc, hj, hjd, he]
    rw [if_pos (by omega), if_pos (by omega), if_pos (by omega), if_pos (by omega)]
end Ev
end

section
set_option Elab.async false
set_option linter.all false
set_option maxRecDepth 100000
set_option maxHeartbeats 1000000
set_option exponentiation.threshold 300
/-! what the laws draw: cells, names, kinds -/
open PySem
namespace Ev
/-- a script as data -/
abbrev scr (ns : List Int) : D := .lst (ns.map .int)
def cellM (ns : List Int) (k : Nat) : Nat := (ns.getD k 0 % 10 ^ 30).toNat
theorem cellM_lt (ns : List Int) (k : Nat) : cellM ns k < 10 ^ 30 := by unfold cellM; omega
theorem cell_at (n : Nat) (ns : List Int) (k : Nat) : callN (pg WW) (n + 1) 17 [.d (scr ns), .d (.int k)] = .ok (.d (.int (cellM ns k))) [.d (scr ns), .d (.int k)] := by
  rw [cn_law_cell_at, runF_eq rfl]
  by_cases h : k < ns.length
  · have e : (ns.getD k 0) = ns[k] := by simp [List.getD, h]
    have hc : ((cellM ns k : Nat) : Int) = ns[k] % 10 ^ 30 := by unfold cellM; rw [e]; omega
    rw [hc]
    simp [fd_law_cell_at, h]
  · have hc : cellM ns k = 0 := by unfold cellM; simp [List.getD, show ns.length ≤ k by omega]
    rw [hc]
    have h1 : ¬ ((k : Int) < ns.length) := by omega
    simp [fd_law_cell_at, h1]
theorem cell_ati (n : Nat) (ns : List Int) {i : Int} {k : Nat} (h : i = (k : Int)) : callN (pg WW) (n + 1) 17 [.d (scr ns), .d (.int i)] = .ok (.d (.int (cellM ns k))) [.d (scr ns), .d (.int i)] := by
  subst h; exact cell_at n ns k
theorem alpha_ix {i : Nat} (h : i < 26) : seqIx (.d (.str (St [97, 98, 99, 100, 101, 102, 103, 104, 105, 106, 107, 108, 109, 110, 111, 112, 113, 114, 115, 116, 117, 118, 119, 120, 121, 122]))) (i : Int) = some (.str (St [97 + i])) := by
  rw [six_at (by decide)]
  have : ([97, 98, 99, 100, 101, 102, 103, 104, 105, 106, 107, 108, 109, 110, 111, 112, 113, 114, 115, 116, 117, 118, 119, 120, 121, 122] : List Nat)[i]? = some (97 + i) := by
    have key : ∀ i < 26, ([97, 98, 99, 100, 101, 102, 103, 104, 105, 106, 107, 108, 109, 110, 111, 112, 113, 114, 115, 116, 117, 118, 119, 120, 121, 122] : List Nat)[i]? = some (97 + i) := by decide
    exact key i h
  rw [this]; rfl
theorem low_nat {m : Nat} (h : m < 2 ^ 64) : lowW (m : Int) = true := low64 (by omega)
/-- six names alike but for a letter -/
structure Six (nm : List (List Nat)) : Prop where
  ex : ∃ (p q : List Nat) (b : Nat), p.length + q.length ≤ 7 ∧ (∀ c ∈ p ++ q, lowC c = true) ∧ nm = (List.range 6).map fun k => p ++ (97 + (b + k) % 26) :: q
theorem names_loop {cf : CallF} (c : Nat) (x4 : Option O) : ∀ (is : List Nat) {stem : List Nat} {x3 : Option O}, (∀ i ∈ is, i < 8) → stem.length + is.length ≤ 7 → (∀ c ∈ stem, lowC c = true) →
    ∃ stem' x3', stem'.length ≤ 7 ∧ (∀ c ∈ stem', lowC c = true) ∧
    frp cf pgG WW [] lp_law_names_2 (is.map fun k => .int (k : Nat)) [(some (.d (.int c))), (some (.d (.str (St [97, 98, 99, 100, 101, 102, 103, 104, 105, 106, 107, 108, 109, 110, 111, 112, 113, 114, 115, 116, 117, 118, 119, 120, 121, 122])))), (some (.d (.str (St stem)))), (x3), (x4)]
      = .ok .nx [(some (.d (.int c))), (some (.d (.str (St [97, 98, 99, 100, 101, 102, 103, 104, 105, 106, 107, 108, 109, 110, 111, 112, 113, 114, 115, 116, 117, 118, 119, 120, 121, 122])))), (some (.d (.str (St stem')))), (x3'), (x4)]
  | [], stem, x3, _, hl, hs => ⟨stem, x3, by simpa using hl, hs, frp_nil (s := lp_law_names_2) rfl⟩
  | i :: is, stem, x3, hi, hl, hs => by
    have hi8 := hi i (.head _)
    have hix := alpha_ix (i := c / (8 + 3 * i) % 26) (Nat.mod_lt _ (by decide))
    have hcast : ((c / (8 + 3 * i) % 26 : Nat) : Int) = (c : Int) / (8 + 3 * (i : Int)) % 26 := by simp
    rw [hcast] at hix
    have l3 : lowW 3 = true := low64 (by decide)
    have li : lowW (i : Int) = true := low_nat (by omega)
    have l8 : lowW (8 + 3 * (i : Int)) = true := low64 (by omega)
    have hp : (0 : Int) < 8 + 3 * (i : Int) := by omega
    simp at hl
    obtain ⟨stem', x3', a1, a2, a3⟩ := names_loop (cf := cf) c x4 is (stem := stem ++ [97 + c / (8 + 3 * i) % 26]) (x3 := some (.d (.int i))) (fun j hj => hi j (.tail _ hj)) (by simp; omega) (by
      intro d hd
      rcases List.mem_append.mp hd with hd | hd
      · exact hs d hd
      · rw [List.mem_singleton] at hd
        subst hd
        exact low_iff.mpr (by have := Nat.mod_lt (c / (8 + 3 * i)) (show 0 < 26 by decide); omega))
    refine ⟨stem', x3', a1, a2, ?_⟩
    rw [List.map_cons, frp_c (s := lp_law_names_2) rfl]
    have hll : stem.length + 1 ≤ line := by unfold line; omega
    simp [l3, li, l8, hp, hix, hll]
    exact a3
theorem names_at (n : Nat) (c : Nat) : ∃ nm, Six nm ∧ callN (pg WW) (n + 1) 18 [.d (.int c)] = .ok (.lst (nm.map fun s => .str (St s))) [.d (.int c)] := by
  obtain ⟨stem, x3, a1, a2, a3⟩ := names_loop (cf := callN (pg WW) n) c none (List.range (c % 8)) (stem := []) (x3 := none) (fun i hi => by rw [List.mem_range] at hi; omega) (by simp; omega) (by simp)
  have hc8 : ((c % 8 : Nat) : Int) = (c : Int) % 8 := by simp
  have hrn := fun r => rngO_nat (r := r) hc8.symm (by omega)
  generalize hat : c / 64 % (stem.length + 1) = at'
  have hat2 : (c : Int) / 64 % ((stem.length : Int) + 1) = (at' : Int) := by rw [← hat]; simp
  have hle : at' ≤ stem.length := by
    have := Nat.mod_lt (c / 64) (show 0 < stem.length + 1 by omega)
    omega
  have hpos : (0 : Int) < (stem.length : Int) + 1 := by omega
  have hll : stem.length ≤ line := by unfold line; omega
  have l64 : lowW 64 = true := low64 (by decide)
  have l512 : lowW 512 = true := low64 (by decide)
  have lst1 : lowW ((stem.length : Int) + 1) = true := low64 (by omega)
  refine ⟨(List.range 6).map fun k => stem.take at' ++ (97 + (c / 512 + k) % 26) :: stem.drop at', ⟨⟨_, _, c / 512, ?_, ?_, rfl⟩⟩, ?_⟩
  · rw [← List.length_append, List.take_append_drop]; exact a1
  · rw [List.take_append_drop]; exact a2
  · have h6 := fun r => rngO_nat (r := r) (i := 6) (m := 6) rfl (by decide)
    have h := lc_m (cf := callN (pg WW) n) (G := pgG) (lp := lp_law_names_1) (r := [(some (.d (.int c))), (some (.d (.str (St [97, 98, 99, 100, 101, 102, 103, 104, 105, 106, 107, 108, 109, 110, 111, 112, 113, 114, 115, 116, 117, 118, 119, 120, 121, 122])))), (some (.d (.str (St stem)))), (x3), (some (.d (.int at')))]) (as := List.range 6) (fun k => D.int (k : Nat)) (fun k => .str (St (stem.take at' ++ (97 + (c / 512 + k) % 26) :: stem.drop at'))) rfl (by simp [h6]) (by rw [List.length_range]; unfold line; omega) rfl (by
      intro k hk
      rw [List.mem_range] at hk
      have hix := alpha_ix (i := (c / 512 + k) % 26) (Nat.mod_lt _ (by decide))
      have hcast : (((c / 512 + k) % 26 : Nat) : Int) = ((c : Int) / 512 + (k : Int)) % 26 := by simp
      rw [hcast] at hix
      have hl1 : min at' stem.length + 1 ≤ line := by unfold line; omega
      have hl2 : min at' stem.length + 1 + (stem.length - at') ≤ line := by unfold line; omega
      simp [hll, l512, hix, cut_to, cut_from, hl1, hl2])
    rw [cn_law_names, runF_eq rfl]
    simp [fd_law_names, evS_frp (s := lp_law_names_2) rfl, hrn, a3, hll, l64, lst1, hpos, hat2, h]
theorem Six.len {nm : List (List Nat)} (h : Six nm) : nm.length = 6 := by
  obtain ⟨p, q, b, _, _, rfl⟩ := h.ex
  simp
theorem Six.ok {nm : List (List Nat)} (h : Six nm) : ∀ s ∈ nm, nameL s = true := by
  obtain ⟨p, q, b, h1, h2, rfl⟩ := h.ex
  intro s hs
  obtain ⟨k, _, rfl⟩ := List.mem_map.mp hs
  unfold nameL
  simp only [List.length_append, List.length_cons, Bool.and_eq_true, decide_eq_true_eq, List.all_eq_true, List.mem_append, List.mem_cons]
  refine ⟨⟨by omega, by omega⟩, fun c hc => ?_⟩
  rcases hc with hc | rfl | hc
  · exact h2 c (List.mem_append_left _ hc)
  · exact low_iff.mpr (by have := Nat.mod_lt (b + k) (show 0 < 26 by decide); omega)
  · exact h2 c (List.mem_append_right _ hc)
end Ev
end

section
set_option Elab.async false
set_option linter.all false
set_option maxRecDepth 100000
set_option maxHeartbeats 1000000
set_option exponentiation.threshold 300
/-! drawn forms' names, drawn expressions -/
open PySem
namespace Ev
theorem great_ix {i : Nat} (h : i < 26) : seqIx (.d (.str (St [65, 66, 67, 68, 69, 70, 71, 72, 73, 74, 75, 76, 77, 78, 79, 80, 81, 82, 83, 84, 85, 86, 87, 88, 89, 90]))) (i : Int) = some (.str (St [65 + i])) := by
  rw [six_at (by decide)]
  have : ([65, 66, 67, 68, 69, 70, 71, 72, 73, 74, 75, 76, 77, 78, 79, 80, 81, 82, 83, 84, 85, 86, 87, 88, 89, 90] : List Nat)[i]? = some (65 + i) := by
    have key : ∀ i < 26, ([65, 66, 67, 68, 69, 70, 71, 72, 73, 74, 75, 76, 77, 78, 79, 80, 81, 82, 83, 84, 85, 86, 87, 88, 89, 90] : List Nat)[i]? = some (65 + i) := by decide
    exact key i h
  rw [this]; rfl
theorem forms_loop {cf : CallF} (c : Nat) (g : D) (x5 x6 : Option O) : ∀ (is : List Nat) {stem : List Nat} {x4 : Option O}, (∀ i ∈ is, i < 8) → stem.length + is.length ≤ 6 → (∀ c ∈ stem, lowC c = true) →
    ∃ stem' x4', stem'.length ≤ 6 ∧ (∀ c ∈ stem', lowC c = true) ∧
    frp cf pgG WW [] lp_law_forms_2 (is.map fun k => .int (k : Nat)) [(some (.d (.int c))), (some (.d (.str (St [97, 98, 99, 100, 101, 102, 103, 104, 105, 106, 107, 108, 109, 110, 111, 112, 113, 114, 115, 116, 117, 118, 119, 120, 121, 122])))), (some (.d g)), (some (.d (.str (St stem)))), (x4), (x5), (x6)]
      = .ok .nx [(some (.d (.int c))), (some (.d (.str (St [97, 98, 99, 100, 101, 102, 103, 104, 105, 106, 107, 108, 109, 110, 111, 112, 113, 114, 115, 116, 117, 118, 119, 120, 121, 122])))), (some (.d g)), (some (.d (.str (St stem')))), (x4'), (x5), (x6)]
  | [], stem, x4, _, hl, hs => ⟨stem, x4, by simpa using hl, hs, frp_nil (s := lp_law_forms_2) rfl⟩
  | i :: is, stem, x4, hi, hl, hs => by
    have hi8 := hi i (.head _)
    have hix := alpha_ix (i := c / (14 + 5 * i) % 26) (Nat.mod_lt _ (by decide))
    have hcast : ((c / (14 + 5 * i) % 26 : Nat) : Int) = (c : Int) / (14 + 5 * (i : Int)) % 26 := by simp
    rw [hcast] at hix
    have l3 : lowW 5 = true := low64 (by decide)
    have li : lowW (i : Int) = true := low_nat (by omega)
    have l8 : lowW (14 + 5 * (i : Int)) = true := low64 (by omega)
    have hp : (0 : Int) < 14 + 5 * (i : Int) := by omega
    simp at hl
    obtain ⟨stem', x4', a1, a2, a3⟩ := forms_loop (cf := cf) c g x5 x6 is (stem := stem ++ [97 + c / (14 + 5 * i) % 26]) (x4 := some (.d (.int i))) (fun j hj => hi j (.tail _ hj)) (by simp; omega) (by
      intro d hd
      rcases List.mem_append.mp hd with hd | hd
      · exact hs d hd
      · rw [List.mem_singleton] at hd
        subst hd
        exact low_iff.mpr (by have := Nat.mod_lt (c / (14 + 5 * i)) (show 0 < 26 by decide); omega))
    refine ⟨stem', x4', a1, a2, ?_⟩
    rw [List.map_cons, frp_c (s := lp_law_forms_2) rfl]
    have hll : stem.length + 1 ≤ line := by unfold line; omega
    simp [l3, li, l8, hp, hix, hll]
    exact a3
/-- six forms' names -/
def SixF (fm : List (List Nat)) : Prop := fm.length = 6 ∧ ∀ s ∈ fm, formL s = true
theorem forms_at (n : Nat) (c : Nat) : ∃ fm, SixF fm ∧ callN (pg WW) (n + 1) 19 [.d (.int c)] = .ok (.lst (fm.map fun s => .str (St s))) [.d (.int c)] := by
  have h6 := fun r => rngO_nat (r := r) (i := 6) (m := 6) rfl (by decide)
  have l2 : lowW 2 = true := low64 (by decide)
  have l3 : lowW 3 = true := low64 (by decide)
  have l64 : lowW 64 = true := low64 (by decide)
  have l512 : lowW 512 = true := low64 (by decide)
  by_cases hc : c % 2 = 0
  · have hc' : (c : Int) % 2 = 0 := by omega
    refine ⟨(List.range 6).map fun k => [65 + (c / 2 + k) % 26], ⟨by simp, fun s hs => ?_⟩, ?_⟩
    · obtain ⟨k, _, rfl⟩ := List.mem_map.mp hs
      have := Nat.mod_lt (c / 2 + k) (show 0 < 26 by decide)
      unfold formL uppC
      simp
      omega
    · have h := lc_m (cf := callN (pg WW) n) (G := pgG) (lp := lp_law_forms_3) (r := [(some (.d (.int c))), (some (.d (.str (St [97, 98, 99, 100, 101, 102, 103, 104, 105, 106, 107, 108, 109, 110, 111, 112, 113, 114, 115, 116, 117, 118, 119, 120, 121, 122])))), (some (.d (.str (St [65, 66, 67, 68, 69, 70, 71, 72, 73, 74, 75, 76, 77, 78, 79, 80, 81, 82, 83, 84, 85, 86, 87, 88, 89, 90])))), none, none, none, none]) (as := List.range 6) (fun k => D.int (k : Nat)) (fun k => .str (St [65 + (c / 2 + k) % 26])) rfl (by simp [h6]) (by simp; unfold line; omega) rfl (by
        intro k hk
        have hix := great_ix (i := (c / 2 + k) % 26) (Nat.mod_lt _ (by decide))
        have hcast : (((c / 2 + k) % 26 : Nat) : Int) = ((c : Int) / 2 + (k : Int)) % 26 := by simp
        rw [hcast] at hix
        simp [l2, hix])
      rw [cn_law_forms, runF_eq rfl]
      simp [fd_law_forms, hc', h]
  · have hc' : ¬ ((c : Int) % 2 = 0) := by omega
    obtain ⟨stem, x4, a1, a2, a3⟩ := forms_loop (cf := callN (pg WW) n) c (.str (St [65, 66, 67, 68, 69, 70, 71, 72, 73, 74, 75, 76, 77, 78, 79, 80, 81, 82, 83, 84, 85, 86, 87, 88, 89, 90])) none none (List.range (c / 2 % 7)) (stem := []) (x4 := none) (fun i hi => by rw [List.mem_range] at hi; omega) (by simp; omega) (by simp)
    have hc7 : ((c / 2 % 7 : Nat) : Int) = (c : Int) / 2 % 7 := by simp
    have hrn := fun r => rngO_nat (r := r) hc7.symm (by omega)
    generalize hat : c / 64 % (stem.length + 1) = at'
    have hat2 : (c : Int) / 64 % ((stem.length : Int) + 1) = (at' : Int) := by rw [← hat]; simp
    have hle : at' ≤ stem.length := by
      have := Nat.mod_lt (c / 64) (show 0 < stem.length + 1 by omega)
      omega
    have hpos : (0 : Int) < (stem.length : Int) + 1 := by omega
    have hll : stem.length ≤ line := by unfold line; omega
    have hgi := great_ix (i := c / 3 % 26) (Nat.mod_lt _ (by decide))
    rw [show ((c / 3 % 26 : Nat) : Int) = (c : Int) / 3 % 26 by simp] at hgi
    refine ⟨(List.range 6).map fun k => (65 + c / 3 % 26) :: (stem.take at' ++ (97 + (c / 512 + k) % 26) :: stem.drop at'), ⟨by simp, fun s hs => ?_⟩, ?_⟩
    · obtain ⟨k, _, rfl⟩ := List.mem_map.mp hs
      have h1 := Nat.mod_lt (c / 3) (show 0 < 26 by decide)
      have h2 := Nat.mod_lt (c / 512 + k) (show 0 < 26 by decide)
      unfold formL
      simp only [List.length_cons, List.length_append, List.length_take, List.length_drop, Bool.and_eq_true, decide_eq_true_eq, List.all_eq_true]
      refine ⟨⟨by omega, by omega⟩, upp_iff.mpr (by omega), fun d hd => ?_⟩
      rcases List.mem_append.mp hd with hd | hd
      · exact a2 d (List.mem_of_mem_take hd)
      · rcases List.mem_cons.mp hd with rfl | hd
        · exact low_iff.mpr (by omega)
        · exact a2 d (List.mem_of_mem_drop hd)
    · have h := lc_m (cf := callN (pg WW) n) (G := pgG) (lp := lp_law_forms_1) (r := [(some (.d (.int c))), (some (.d (.str (St [97, 98, 99, 100, 101, 102, 103, 104, 105, 106, 107, 108, 109, 110, 111, 112, 113, 114, 115, 116, 117, 118, 119, 120, 121, 122])))), (some (.d (.str (St [65, 66, 67, 68, 69, 70, 71, 72, 73, 74, 75, 76, 77, 78, 79, 80, 81, 82, 83, 84, 85, 86, 87, 88, 89, 90])))), (some (.d (.str (St stem)))), (x4), (some (.d (.int at'))), (some (.d (.str (St ((65 + c / 3 % 26) :: stem.take at')))))]) (as := List.range 6) (fun k => D.int (k : Nat)) (fun k => .str (St ((65 + c / 3 % 26) :: (stem.take at' ++ (97 + (c / 512 + k) % 26) :: stem.drop at')))) rfl (by simp [h6]) (by simp; unfold line; omega) rfl (by
        intro k hk
        have hix := alpha_ix (i := (c / 512 + k) % 26) (Nat.mod_lt _ (by decide))
        have hcast : (((c / 512 + k) % 26 : Nat) : Int) = ((c : Int) / 512 + (k : Int)) % 26 := by simp
        rw [hcast] at hix
        have hl1 : min at' stem.length + 1 + 1 ≤ line := by unfold line; omega
        have hl2 : min at' stem.length + 1 + 1 + (stem.length - at') ≤ line := by unfold line; omega
        simp [hll, l512, hix, cut_from, hl1, hl2])
      have hl3 : 1 + min at' stem.length ≤ line := by unfold line; omega
      rw [cn_law_forms, runF_eq rfl]
      simp [fd_law_forms, hc', evS_frp (s := lp_law_forms_2) rfl, l2, hrn, a3, hll, l64, hpos, hat2, l3, hgi, cut_to, hl3, h]
/-- cells as data -/
abbrev cel (cs : List Nat) : List D := cs.map fun c => .int (c : Nat)
theorem cel_fit (cs : List Nat) : ∀ x ∈ cel cs, Fit 0 x := fun x hx => by
  obtain ⟨c, _, rfl⟩ := List.mem_map.mp hx
  exact fit_int _
theorem next_at (n : Nat) (cs : List Nat) : callN (pg WW) (n + 1) 20 [.lst (cel cs)] = .ok (.d (.int (cs.getLastD 0 : Nat))) [.lst (cel cs.dropLast)] := by
  have he := eq_lst_nil (cel_fit cs) (by decide)
  rw [cn_law_next, runF_eq rfl]
  rcases List.eq_nil_or_concat cs with rfl | ⟨ds, c, rfl⟩
  · simp at he
    simp [fd_law_next, he]
  · simp at he
    simp [fd_law_next, he]
theorem number_at (n : Nat) (c : Nat) : ∃ i : Int, i.natAbs < 10 ^ 60 ∧ callN (pg WW) (n + 1) 21 [.d (.int c)] = .ok (.d (.int i)) [.d (.int c)] := by
  rw [cn_law_number, runF_eq rfl]
  have h4 : c % 4 = 0 ∨ c % 4 = 1 ∨ c % 4 = 2 ∨ c % 4 = 3 := by omega
  rcases h4 with h | h | h | h
  · have h' : (c : Int) % 4 = 0 := by omega
    exact ⟨(c : Int) % 10, by omega, by simp [fd_law_number, h']⟩
  · have h' : (c : Int) % 4 = 1 := by omega
    exact ⟨0 - (c : Int) % 10 ^ 60, by omega, by simp [fd_law_number, h']⟩
  · have h' : (c : Int) % 4 = 2 := by omega
    exact ⟨(c : Int) % 10 ^ 60, by omega, by simp [fd_law_number, h']⟩
  · have h' : (c : Int) % 4 = 3 := by omega
    exact ⟨10 ^ 60 - 1 - (c : Int) % 2, by omega, by simp [fd_law_number, h']⟩
theorem Six.nodup {nm : List (List Nat)} (h : Six nm) : nm.Nodup := by
  obtain ⟨p, q, b, _, _, rfl⟩ := h.ex
  rw [List.nodup_iff_pairwise_ne, List.pairwise_map]
  have : List.Pairwise (fun a b => a ∈ List.range 6 → b ∈ List.range 6 → a < b) (List.range 6) := by
    have := List.pairwise_lt_range (n := 6)
    exact this.imp fun h _ _ => h
  refine (List.pairwise_lt_range (n := 6)).imp_of_mem fun {x y} hx hy hlt z => ?_
  rw [List.mem_range] at hx hy
  have z := List.append_cancel_left z
  have z1 : 97 + (b + x) % 26 = 97 + (b + y) % 26 := by injection z
  omega
/-- what is drawn at a depth -/
def AnyAt (n N : Nat) (nm fm : List (List Nat)) : Prop := ∀ cs : List Nat, ∃ e cs', e.ok ∧ e.dep ≤ N ∧
  callN (pg WW) n 22 [.lst (cel cs), .d (.lst (nm.map fun s => .str (St s))), .d (.lst (fm.map fun s => .str (St s))), .d (.int (N : Nat))] = .ok (.d (dE e)) [.lst (cel cs'), .d (.lst (nm.map fun s => .str (St s))), .d (.lst (fm.map fun s => .str (St s))), .d (.int (N : Nat))]
theorem any_args {n N : Nat} {nm fm : List (List Nat)} (hA : AnyAt n N nm fm) (x4 x5 x9 : Option O) (cs : List Nat) {many : Nat} (hm : many ≤ 3) (h9 : x9 = some (.d (.int (many : Nat)))) :
    ∃ es cs', okE es ∧ depE es ≤ N ∧ es.length = many ∧ evE (callN (pg WW) n) pgG lp_law_any_2 [(some (.lst (cel cs))), (some (.d (.lst (nm.map fun s => .str (St s))))), (some (.d (.lst (fm.map fun s => .str (St s))))), (some (.d (.int ((N + 1 : Nat) : Int)))), (x4), (x5), none, none, none, (x9), none, none]
      = .ok (.lst (dEs es)) [(some (.lst (cel cs'))), (some (.d (.lst (nm.map fun s => .str (St s))))), (some (.d (.lst (fm.map fun s => .str (St s))))), (some (.d (.int ((N + 1 : Nat) : Int)))), (x4), (x5), none, none, none, (x9), none, none] := by
  subst h9
  have hr := fun r => rngO_nat (r := r) (i := (many : Int)) (m := many) rfl (by omega)
  obtain ⟨r', ys, e1, es, cs', h1, h2, h3, h4, h5⟩ := lc_inv (cf := callN (pg WW) n) (G := pgG) (lp := lp_law_any_2) (r := [(some (.lst (cel cs))), (some (.d (.lst (nm.map fun s => .str (St s))))), (some (.d (.lst (fm.map fun s => .str (St s))))), (some (.d (.int ((N + 1 : Nat) : Int)))), (x4), (x5), none, none, none, (some (.d (.int (many : Nat)))), none, none])
    (r0 := [(some (.lst (cel cs))), (some (.d (.lst (nm.map fun s => .str (St s))))), (some (.d (.lst (fm.map fun s => .str (St s))))), (some (.d (.int ((N + 1 : Nat) : Int)))), (x4), (x5), none, none, none, (some (.d (.int (many : Nat)))), none, none])
    (xs := (List.range many).map fun k => .int (k : Nat)) (y0 := none)
    (fun k r ys => ∃ es cs', okE es ∧ depE es ≤ N ∧ es.length = k ∧ ys = dEs es ∧ r = [(some (.lst (cel cs'))), (some (.d (.lst (nm.map fun s => .str (St s))))), (some (.d (.lst (fm.map fun s => .str (St s))))), (some (.d (.int ((N + 1 : Nat) : Int)))), (x4), (x5), none, none, none, (some (.d (.int (many : Nat)))), none, none])
    rfl (by simp [hr]) (by simp; unfold line; omega) rfl ⟨[], cs, trivial, Nat.zero_le _, rfl, rfl, rfl⟩ (by
      rintro k x s ys hx ⟨es, cs', h1, h2, h3, rfl, rfl⟩
      rw [List.getElem?_map] at hx
      obtain ⟨e, cs'', g1, g2, g3⟩ := hA cs'
      refine ⟨.d (dE e), [(some (.lst (cel cs''))), (some (.d (.lst (nm.map fun s => .str (St s))))), (some (.d (.lst (fm.map fun s => .str (St s))))), (some (.d (.int ((N + 1 : Nat) : Int)))), (x4), (x5), none, none, (some (.d x)), (some (.d (.int (many : Nat)))), none, none], ?_, es ++ [e], cs'', ?_, ?_, by simp [h3], ?_, rfl⟩
      · have hsub : ((N : Int) + 1) - 1 = N := by omega
        simp [hsub, g3]
      · exact okE_iff.mpr fun z hz => by
          rcases List.mem_append.mp hz with hz | hz
          · exact okE_iff.mp h1 z hz
          · rw [List.mem_singleton] at hz; subst hz; exact g1
      · exact depE_iff.mpr fun z hz => by
          rcases List.mem_append.mp hz with hz | hz
          · exact depE_iff.mp h2 z hz
          · rw [List.mem_singleton] at hz; subst hz; exact g2
      · rw [dEs_map, dEs_map]; simp)
  refine ⟨es, cs', h1, h2, by simpa using h3, ?_⟩
  rw [e1, h4, h5]
theorem at_map {nm : List (List Nat)} {i : Int} {j : Nat} (h : i = (j : Int)) (hj : j < nm.length) : atD (nm.map fun s => D.str (St s)) i = some (.str (St (nm.getD j []))) := by
  subst h
  rw [at_nat, List.getElem?_map, List.getElem?_eq_getElem hj, List.getD_eq_getElem?_getD, List.getElem?_eq_getElem hj]
  rfl
theorem getD_mem {nm : List (List Nat)} {j : Nat} (hj : j < nm.length) : nm.getD j [] ∈ nm := by
  rw [List.getD_eq_getElem?_getD, List.getElem?_eq_getElem hj]
  exact List.getElem_mem hj
theorem any_arms {n N : Nat} {nm fm : List (List Nat)} (h6 : Six nm) (hf : SixF fm) (hA : AnyAt n N nm fm) (c : Nat) (x5 x6 x9 x10 : Option O) : ∀ (ks : List Nat) {cs : List Nat} {as : List Arm} {x8 x11 : Option O}, okA as → depA as ≤ N → as.length + ks.length ≤ 1000 →
    ∃ as' cs' x8' x11', okA as' ∧ depA as' ≤ N ∧ as'.length = as.length + ks.length ∧ frp (callN (pg WW) n) pgG WW [0] lp_law_any_1 (ks.map fun k => .int (k : Nat)) [(some (.lst (cel cs))), (some (.d (.lst (nm.map fun s => .str (St s))))), (some (.d (.lst (fm.map fun s => .str (St s))))), (some (.d (.int ((N + 1 : Nat) : Int)))), (some (.d (.int (c : Nat)))), (x5), (x6), (some (.lst (dAs as))), (x8), (x9), (x10), (x11)]
      = .ok .nx [(some (.lst (cel cs'))), (some (.d (.lst (nm.map fun s => .str (St s))))), (some (.d (.lst (fm.map fun s => .str (St s))))), (some (.d (.int ((N + 1 : Nat) : Int)))), (some (.d (.int (c : Nat)))), (x5), (x6), (some (.lst (dAs as'))), (x8'), (x9), (x10), (x11')]
  | [], cs, as, x8, x11, h1, h2, _ => ⟨as, cs, x8, x11, h1, h2, rfl, frp_nil (s := lp_law_any_1) rfl⟩
  | k :: ks, cs, as, x8, x11, h1, h2, h3 => by
    simp only [List.length_cons] at h3
    obtain ⟨e, cs', g1, g2, g3⟩ := hA cs
    have hfl : (c / 400 + k) % 6 < fm.length := by rw [hf.1]; exact Nat.mod_lt _ (by decide)
    generalize hns : (nm.drop (c / 24 % 4)).take ((c / 96 + k) % 4) = ns
    have hsub : ns.Sublist nm := by rw [← hns]; exact (List.take_sublist _ _).trans (List.drop_sublist _ _)
    have harm : (Arm.mk (fm.getD ((c / 400 + k) % 6) []) ns e).ok := by
      refine ⟨⟨hf.2 _ (getD_mem hfl), ?_, fun s hs => h6.ok s (hsub.subset hs), h6.nodup.sublist hsub⟩, g1⟩
      rw [← hns, List.length_take]
      have := Nat.mod_lt (c / 96 + k) (show 0 < 4 by decide)
      omega
    obtain ⟨as', cs'', x8', x11', a1, a2, a3, a4⟩ := any_arms h6 hf hA c x5 x6 x9 x10 ks (cs := cs') (as := as ++ [.mk (fm.getD ((c / 400 + k) % 6) []) ns e]) (x8 := some (.d (.int (k : Nat)))) (x11 := some (.d (.lst (ns.map fun s => .str (St s))))) (okA_iff.mpr fun z hz => by
      rcases List.mem_append.mp hz with hz | hz
      · exact okA_iff.mp h1 z hz
      · rw [List.mem_singleton] at hz; subst hz; exact harm) (depA_iff.mpr fun z hz => by
      rcases List.mem_append.mp hz with hz | hz
      · exact depA_iff.mp h2 z hz
      · rw [List.mem_singleton] at hz; subst hz; exact g2) (by simp; omega)
    refine ⟨as', cs'', x8', x11', a1, a2, by rw [a3]; simp; omega, ?_⟩
    have hat := at_map (nm := fm) (i := ((c : Int) / 400 + (k : Int)) % 6) (j := (c / 400 + k) % 6) (by omega) hfl
    have hc1 : cutD (nm.map fun s => D.str (St s)) (some ((c : Int) / 24 % 4)) none = (nm.drop (c / 24 % 4)).map fun s => D.str (St s) := by
      rw [show (c : Int) / 24 % 4 = ((c / 24 % 4 : Nat) : Int) by omega, cut_from, List.map_drop]
    have hc2 : cutD ((nm.map fun s => D.str (St s)).drop (c / 24 % 4)) none (some (((c : Int) / 96 + (k : Int)) % 4)) = ns.map fun s => D.str (St s) := by
      rw [← List.map_drop, show ((c : Int) / 96 + (k : Int)) % 4 = (((c / 96 + k) % 4 : Nat) : Int) by omega, cut_to, ← List.map_take, hns]
    have l24 : lowW 24 = true := low64 (by decide)
    have l96 : lowW 96 = true := low64 (by decide)
    have l400 : lowW 400 = true := low64 (by decide)
    have hll : as.length < line := by unfold line; omega
    have hlA : (dAs as).length < line := by rw [dAs_map, List.length_map]; exact hll
    rw [List.map_cons, frp_c (s := lp_law_any_1) rfl]
    have hda : dAs (as ++ [.mk (fm.getD ((c / 400 + k) % 6) []) ns e]) = dAs as ++ [dA (.mk (fm.getD ((c / 400 + k) % 6) []) ns e)] := by
      rw [dAs_map, dAs_map]; simp
    rw [hda, dA] at a4
    simp only [Int.natCast_add, Int.cast_ofNat_Int] at a4
    have hsb : ((N : Int) + 1) - 1 = N := by omega
    simp at a4 g3
    simp [l24, l96, l400, hc1, hc2, hat, hsb, g3, hlA]
    exact a4
/-- a leaf, by its cell -/
theorem leaf_run {n N : Nat} {nm : List (List Nat)} (h6 : Six nm) (fmD : D) (cs : List Nat) (hz : N = 0 ∨ cs.getLastD 0 % 6 < 2) : ∃ e, e.ok ∧ e.dep = 0 ∧
    callN (pg WW) (n + 2) 22 [.lst (cel cs), .d (.lst (nm.map fun s => .str (St s))), .d fmD, .d (.int (N : Nat))] = .ok (.d (dE e)) [.lst (cel cs.dropLast), .d (.lst (nm.map fun s => .str (St s))), .d fmD, .d (.int (N : Nat))] := by
  have hn := next_at n cs
  generalize cs.getLastD 0 = c at hn hz
  obtain ⟨i, hi, hnum⟩ := number_at n (c / 6)
  rw [show ((c / 6 : Nat) : Int) = (c : Int) / 6 by omega] at hnum
  have hj : c / 6 % 6 < nm.length := by rw [h6.len]; exact Nat.mod_lt _ (by decide)
  have hat := at_map (nm := nm) (i := (c : Int) / 6 % 6) (j := c / 6 % 6) (by omega) hj
  have l6 : lowW 6 = true := low64 (by decide)
  have l36 : lowW 36 = true := low64 (by decide)
  have h2 : c / 36 % 2 = 0 ∨ c / 36 % 2 = 1 := by omega
  have hzz : ¬ ((N : Int) = 0) → (c : Int) % 6 < 2 := fun h => by omega
  rcases h2 with h2 | h2
  · have h2' : (c : Int) / 36 % 2 = 0 := by omega
    refine ⟨.num i, hi, rfl, ?_⟩
    rw [cn_law_any, runF_eq rfl]
    by_cases h0 : N = 0
    · simp [fd_law_any, hn, h0, hnum, hat, l6, l36, h2', dE]
    · have := hzz (by omega)
      simp [fd_law_any, hn, h0, this, hnum, hat, l6, l36, h2', dE]
  · have h2' : (c : Int) / 36 % 2 = 1 := by omega
    refine ⟨.nam (nm.getD (c / 6 % 6) []), h6.ok _ (getD_mem hj), rfl, ?_⟩
    rw [cn_law_any, runF_eq rfl]
    by_cases h0 : N = 0
    · simp [fd_law_any, hn, h0, hnum, hat, l6, l36, h2', dE]
    · have := hzz (by omega)
      simp [fd_law_any, hn, h0, this, hnum, hat, l6, l36, h2', dE]
theorem any_at {nm fm : List (List Nat)} (h6 : Six nm) (hf : SixF fm) : ∀ (N m : Nat), AnyAt (m + N + 2) N nm fm
  | 0, m => fun cs => by
    obtain ⟨e, h1, h2, h3⟩ := leaf_run (n := m) (N := 0) h6 (.lst (fm.map fun s => .str (St s))) cs (.inl rfl)
    exact ⟨e, _, h1, by omega, h3⟩
  | N + 1, m => fun cs => by
    by_cases hz : cs.getLastD 0 % 6 < 2
    · obtain ⟨e, h1, h2, h3⟩ := leaf_run (n := m + (N + 1)) (N := N + 1) h6 (.lst (fm.map fun s => .str (St s))) cs (.inr hz)
      exact ⟨e, _, h1, by omega, h3⟩
    · have hA := any_at h6 hf N m
      have hn := next_at (m + N + 1) cs
      generalize cs.getLastD 0 = c at hn hz
      generalize cs.dropLast = ds at hn
      have hz' : ¬ ((c : Int) % 6 < 2) := by omega
      have l6 : lowW 6 = true := low64 (by decide)
      have l24 : lowW 24 = true := low64 (by decide)
      have l100 : lowW 100 = true := low64 (by decide)
      have hsb : ((N : Int) + 1) - 1 = N := by omega
      have hN0 : ¬ ((N : Int) + 1 = 0) := by omega
      rw [show m + (N + 1) + 2 = (m + N + 2) + 1 by omega]
      by_cases h5 : c % 6 < 5
      · have h5' : (c : Int) % 6 < 5 := by omega
        obtain ⟨many, hm3, hmany⟩ : ∃ many : Nat, many ≤ 3 ∧ atD [.int ((c : Int) / 6 % 4), .int 3, .int 1, .int 0] ((c : Int) / 24 % 4) = some (.int (many : Nat)) := by
          have h4 : c / 24 % 4 = 0 ∨ c / 24 % 4 = 1 ∨ c / 24 % 4 = 2 ∨ c / 24 % 4 = 3 := by omega
          rcases h4 with h | h | h | h
          · rw [show (c : Int) / 24 % 4 = 0 by omega]
            exact ⟨c / 6 % 4, by omega, by simp⟩
          · rw [show (c : Int) / 24 % 4 = 1 by omega]
            exact ⟨3, by omega, rfl⟩
          · rw [show (c : Int) / 24 % 4 = 2 by omega]
            exact ⟨1, by omega, rfl⟩
          · rw [show (c : Int) / 24 % 4 = 3 by omega]
            exact ⟨0, by omega, rfl⟩
        obtain ⟨es, cs', g1, g2, g3, g4⟩ := any_args hA (some (.d (.int (c : Nat)))) (some (.d (.int ((c : Int) % 6)))) (some (.d (.int (many : Nat)))) ds hm3 rfl
        simp at g4
        have hj : c / 100 % 6 < nm.length := by rw [h6.len]; exact Nat.mod_lt _ (by decide)
        have hj2 : c / 100 % 6 < fm.length := by rw [hf.1]; exact Nat.mod_lt _ (by decide)
        have hat := at_map (nm := nm) (i := (c : Int) / 100 % 6) (j := c / 100 % 6) (by omega) hj
        have hat2 := at_map (nm := fm) (i := (c : Int) / 100 % 6) (j := c / 100 % 6) (by omega) hj2
        by_cases h0 : c % 6 % 2 = 0
        · have h0' : (c : Int) % 2 = 0 := by omega
          refine ⟨.frm (fm.getD (c / 100 % 6) []) es, cs', ⟨hf.2 _ (getD_mem hj2), by omega, g1⟩, by simp only [Ex.dep]; omega, ?_⟩
          rw [cn_law_any, runF_eq rfl]
          simp [fd_law_any, hn, hN0, hz', h5', l6, l24, hmany, g4, h0', l100, hat2, dE]
        · have h0' : ¬ ((c : Int) % 2 = 0) := by omega
          refine ⟨.cal (nm.getD (c / 100 % 6) []) es, cs', ⟨h6.ok _ (getD_mem hj), by omega, g1⟩, by simp only [Ex.dep]; omega, ?_⟩
          rw [cn_law_any, runF_eq rfl]
          simp [fd_law_any, hn, hN0, hz', h5', l6, l24, hmany, g4, h0', l100, hat, dE]
      · have h5' : ¬ ((c : Int) % 6 < 5) := by omega
        obtain ⟨e, cs1, k1, k2, k3⟩ := hA ds
        have hrm : ((1 + c / 6 % 4 : Nat) : Int) = 1 + (c : Int) / 6 % 4 := by omega
        have hr := fun r => rngO_nat (r := r) hrm.symm (by omega)
        obtain ⟨as, cs2, x8, x11, g1, g2, g3, g4⟩ := any_arms h6 hf hA c (some (.d (.int ((c : Int) % 6)))) (some (.d (dE e))) none none (List.range (1 + c / 6 % 4)) (cs := cs1) (as := []) (x8 := none) (x11 := none) trivial (Nat.zero_le _) (by simp; omega)
        simp [dAs] at g3 g4 k3
        refine ⟨.cas e as, cs2, ⟨k1, by omega, by omega, g1⟩, by simp only [Ex.dep]; omega, ?_⟩
        rw [cn_law_any, runF_eq rfl]
        simp [fd_law_any, hn, hN0, hz', h5', hsb, k3, evS_frp (s := lp_law_any_1) rfl, l6, hr, g4, dE]
end Ev
end

section
set_option Elab.async false
set_option linter.all false
set_option maxRecDepth 100000
set_option maxHeartbeats 1000000
set_option exponentiation.threshold 300
/-! k52: the law's own tests of a form -/
open PySem
namespace Ev
theorem lname_at (n : Nat) {s : List Nat} (hl : s.length ≤ line) : callN (pg WW) (n + 1) 26 [.d (.str (St s))] = .ok (.d (.bl (nameL s))) [.d (.str (St s))] := by
  have h := lc_m (cf := callN (pg WW) n) (G := pgG) (lp := lp_law_is_name_1) (r := [some (.d (.str (St s))), none]) (as := s) (fun c => D.str (St [c])) (fun c => .bl (lowC c)) rfl (by simp [hl]) hl rfl (by
    intro c _
    simp [le_chr, lowC]
    by_cases h1 : 97 ≤ c <;> simp [h1])
  rw [cn_law_is_name, runF_eq rfl]
  unfold nameL
  by_cases h1 : 1 ≤ s.length
  · have h1' : (1 : Int) ≤ (s.length : Int) := by omega
    by_cases h8 : s.length ≤ 8
    · have h8' : (s.length : Int) ≤ 8 := by omega
      have h8'' : ¬ (8 < (s.length : Int)) := by omega
      simp [fd_law_is_name, hl, h, allB_map, h1, h1', h8, h8', h8'']
    · have h8' : ¬ ((s.length : Int) ≤ 8) := by omega
      have h8'' : (8 < (s.length : Int)) := by omega
      simp [fd_law_is_name, hl, h, allB_map, h1, h1', h8, h8', h8'']
  · have h1' : ¬ ((1 : Int) ≤ (s.length : Int)) := by omega
    simp [fd_law_is_name, hl, h, allB_map, h1, h1']
theorem lform_at (n : Nat) {s : List Nat} (hf : formL s = true) : callN (pg WW) (n + 2) 27 [.d (.str (St s))] = .ok (.d (.bl true)) [.d (.str (St s))] := by
  cases s with
  | nil => simp [formL] at hf
  | cons c w =>
    simp only [formL, uppC, Bool.and_eq_true, decide_eq_true_eq, List.length_cons] at hf
    obtain ⟨⟨_, h8⟩, ⟨hA, hZ⟩, hw⟩ := hf
    have hl1 : w.length + 1 ≤ line := by unfold line; omega
    have hl2 : w.length ≤ line := by omega
    have hn := lname_at n (s := w) hl2
    have h0 : seqIx (.d (.str (St (c :: w)))) 0 = some (.str (St [c])) := by
      have := six_at (l := c :: w) (n := 0) hl1
      simpa using this
    have h8'' : ¬ (8 < (w.length : Int) + 1) := by omega
    have h8' : (w.length : Int) + 1 ≤ 8 := by omega
    have h1' : (1 : Int) ≤ (w.length : Int) + 1 := by omega
    rw [cn_law_is_form, runF_eq rfl]
    cases w with
    | nil => simp [fd_law_is_form, line, h0, le_chr, hA, hZ]
    | cons d w =>
      have hnl : nameL (d :: w) = true := by
        simp only [nameL, Bool.and_eq_true, decide_eq_true_eq, hw, List.length_cons] at h8 ⊢
        refine ⟨⟨by omega, by omega⟩, trivial⟩
      rw [hnl] at hn
      have hne : ¬ ((w.length : Int) + 1 + 1 = 1) := by omega
      simp at hl1 h8' h1' h8''
      simp [fd_law_is_form, hl1, h0, le_chr, hA, hZ, h8', h8'', h1', hne, hn]
theorem larm_at (n : Nat) {f : List Nat} {ns : List (List Nat)} {e : Ex} (h : armOk f ns) (he : callN (pg WW) (n + 2) 29 [.d (dE e)] = .ok (.d (.bl true)) [.d (dE e)]) :
    callN (pg WW) (n + 3) 28 [.d (dA (.mk f ns e))] = .ok (.d (.bl true)) [.d (dA (.mk f ns e))] := by
  obtain ⟨h1, h2, h3, h4⟩ := h
  have hf := lform_at n h1
  have hd := ddup_iff.mpr h4
  have hpl : ns.length ≤ line := by unfold line; omega
  have h1000 : ns.length ≤ 1000 := by omega
  have h3' : ¬ (3 < (ns.length : Int)) := by omega
  have hc := lc_m (cf := callN (pg WW) (n + 2)) (G := pgG) (lp := lp_law_is_arm_1) (r := [some (.d (dA (.mk f ns e))), none]) (as := ns) (fun s => D.str (St s)) (fun _ => .bl true) rfl (by simp [dA, hpl]) hpl rfl (by
    intro s hs
    have := h3 s hs
    have hsl : s.length ≤ line := by have := name_len this; unfold line; omega
    have hn := lname_at (n + 1) hsl
    rw [this] at hn
    simp [hn])
  have ha := allB_map (fun _ : List Nat => true) ns
  simp only [dA] at hc
  rw [cn_law_is_arm, runF_eq rfl]
  simp [fd_law_is_arm, dA, hf, h1000, hd, h3', hc, ha, allB_map, hpl, he]
def SORTS : List D := [D.str (St [110, 117, 109, 98, 101, 114]), D.str (St [110, 97, 109, 101]), D.str (St [102, 111, 114, 109]), D.str (St [99, 97, 108, 108]), D.str (St [99, 97, 115, 101])]
theorem in_1 : inF (D.str (St [110, 117, 109, 98, 101, 114])) [D.str (St [110, 117, 109, 98, 101, 114]), D.str (St [110, 97, 109, 101]), D.str (St [102, 111, 114, 109]), D.str (St [99, 97, 108, 108]), D.str (St [99, 97, 115, 101])] = some true := by rfl
theorem in_2 : inF (D.str (St [110, 97, 109, 101])) [D.str (St [110, 117, 109, 98, 101, 114]), D.str (St [110, 97, 109, 101]), D.str (St [102, 111, 114, 109]), D.str (St [99, 97, 108, 108]), D.str (St [99, 97, 115, 101])] = some true := by rfl
theorem in_3 : inF (D.str (St [102, 111, 114, 109])) [D.str (St [110, 117, 109, 98, 101, 114]), D.str (St [110, 97, 109, 101]), D.str (St [102, 111, 114, 109]), D.str (St [99, 97, 108, 108]), D.str (St [99, 97, 115, 101])] = some true := by rfl
theorem in_4 : inF (D.str (St [99, 97, 108, 108])) [D.str (St [110, 117, 109, 98, 101, 114]), D.str (St [110, 97, 109, 101]), D.str (St [102, 111, 114, 109]), D.str (St [99, 97, 108, 108]), D.str (St [99, 97, 115, 101])] = some true := by rfl
theorem in_5 : inF (D.str (St [99, 97, 115, 101])) [D.str (St [110, 117, 109, 98, 101, 114]), D.str (St [110, 97, 109, 101]), D.str (St [102, 111, 114, 109]), D.str (St [99, 97, 108, 108]), D.str (St [99, 97, 115, 101])] = some true := by rfl
theorem lone_at : ∀ (N m : Nat) (e : Ex), e.ok → e.dep ≤ N → callN (pg WW) (m + 2 * N + 3) 29 [.d (dE e)] = .ok (.d (.bl true)) [.d (dE e)]
  | N, m, .num i, h, _ => by
    have h : i.natAbs < 10 ^ 60 := h
    rw [cn_law_is_one, runF_eq rfl]
    simp [fd_law_is_one, in_1, dE]
    split <;> omega
  | N, m, .nam s, h, _ => by
    have hsl : s.length ≤ line := by have := name_len h; unfold line; omega
    have hn := lname_at (m + 2 * N + 1) hsl
    have h : nameL s = true := h
    rw [h] at hn
    rw [cn_law_is_one, runF_eq rfl]
    simp [fd_law_is_one, in_2, dE, hn]
  | 0, m, .frm s as, h, hd => by simp [Ex.dep] at hd
  | 0, m, .cal s as, h, hd => by simp [Ex.dep] at hd
  | 0, m, .cas s as, h, hd => by simp [Ex.dep] at hd
  | N + 1, m, .frm s as, h, hd => by
    simp only [Ex.dep] at hd
    obtain ⟨h1, h2, h3⟩ := h
    have hsl : s.length ≤ line := by have := form_len h1; unfold line; omega
    have hn := lname_at (m + 2 * (N + 1) + 1) hsl
    have hf := lform_at (m + 2 * (N + 1)) h1
    have hpl : as.length ≤ line := by unfold line; omega
    have h3' : (as.length : Int) ≤ 3 := by omega
    have hc := lc_m (cf := callN (pg WW) (m + 2 * (N + 1) + 2)) (G := pgG) (lp := lp_law_is_one_1) (r := [some (.d (dE (.frm s as))), some (.d (.bl true)), none, none]) (as := as) dE (fun _ => .bl true) rfl (by simp [dE, dEs_map, hpl]) hpl rfl (by
      intro e he
      have ih := lone_at N (m + 1) e (okE_iff.mp h3 e he) (depE_iff.mp (by omega) e he)
      rw [show m + 1 + 2 * N + 3 = m + 2 * (N + 1) + 2 by omega] at ih
      simp [ih])
    have ha := allB_map (fun _ : Ex => true) as
    simp [dE, dEs_map] at hc
    rw [cn_law_is_one, runF_eq rfl]
    simp [fd_law_is_one, in_3, dE, dEs_map, hn, hf, hc, ha, allB_map, hpl, h3']
  | N + 1, m, .cal s as, h, hd => by
    simp only [Ex.dep] at hd
    obtain ⟨h1, h2, h3⟩ := h
    have hsl : s.length ≤ line := by have := name_len h1; unfold line; omega
    have hn := lname_at (m + 2 * (N + 1) + 1) hsl
    rw [h1] at hn
    have hpl : as.length ≤ line := by unfold line; omega
    have h3' : (as.length : Int) ≤ 3 := by omega
    have hc := lc_m (cf := callN (pg WW) (m + 2 * (N + 1) + 2)) (G := pgG) (lp := lp_law_is_one_1) (r := [some (.d (dE (.cal s as))), some (.d (.bl true)), none, none]) (as := as) dE (fun _ => .bl true) rfl (by simp [dE, dEs_map, hpl]) hpl rfl (by
      intro e he
      have ih := lone_at N (m + 1) e (okE_iff.mp h3 e he) (depE_iff.mp (by omega) e he)
      rw [show m + 1 + 2 * N + 3 = m + 2 * (N + 1) + 2 by omega] at ih
      simp [ih])
    have ha := allB_map (fun _ : Ex => true) as
    simp [dE, dEs_map] at hc
    rw [cn_law_is_one, runF_eq rfl]
    simp [fd_law_is_one, in_4, dE, dEs_map, hn, hc, ha, allB_map, hpl, h3']
  | N + 1, m, .cas e arms, h, hd => by
    simp only [Ex.dep] at hd
    obtain ⟨h1, h2, h3, h4⟩ := h
    have hpl : arms.length ≤ line := by unfold line; omega
    have h3' : (arms.length : Int) ≤ 4 := by omega
    have h2' : (1 : Int) ≤ (arms.length : Int) := by omega
    have hi := lone_at N (m + 1) e h1 (by omega)
    rw [show m + 1 + 2 * N + 3 = m + 2 * (N + 1) + 2 by omega] at hi
    have hc := lc_m (cf := callN (pg WW) (m + 2 * (N + 1) + 2)) (G := pgG) (lp := lp_law_is_one_2) (r := [some (.d (dE (.cas e arms))), none, none, none]) (as := arms) dA (fun _ => .bl true) rfl (by simp [dE, dAs_map, hpl]) hpl rfl (by
      intro a ha
      cases a with
      | mk f ns b =>
      have hok := okA_iff.mp h4 _ ha
      have ih := lone_at N m b hok.2 (by have := depA_iff (n := N).mp (by omega) _ ha; simpa [Arm.dep] using this)
      have := larm_at (m + 2 * N + 1) hok.1 ih
      rw [show m + 2 * N + 1 + 3 = m + 2 * (N + 1) + 2 by omega] at this
      simp [this])
    have ha := allB_map (fun _ : Arm => true) arms
    simp [dE, dAs_map] at hc
    rw [cn_law_is_one, runF_eq rfl]
    simp [fd_law_is_one, in_5, dE, dAs_map, hi, hc, ha, allB_map, hpl, h3', h2']
end Ev
end

section
set_option Elab.async false
set_option linter.all false
set_option maxRecDepth 100000
set_option maxHeartbeats 1000000
set_option exponentiation.threshold 300
/-! k52: spoilt texts, reading -/
open PySem
namespace Ev
def SGN : List Nat := [40, 41, 44, 32, 59, 58, 91, 93, 45, 48, 49, 50, 97, 98, 122, 65, 89, 90, 32, 61, 9]
theorem sgn_ix {i : Nat} (h : i < 21) : ∃ ch, seqIx (.d (.str (St [40, 41, 44, 32, 59, 58, 91, 93, 45, 48, 49, 50, 97, 98, 122, 65, 89, 90, 32, 61, 9]))) (i : Int) = some (.str (St [ch])) := by
  rw [six_at (by decide)]
  refine ⟨SGN[i]'h, ?_⟩
  have : ([40, 41, 44, 32, 59, 58, 91, 93, 45, 48, 49, 50, 97, 98, 122, 65, 89, 90, 32, 61, 9] : List Nat)[i]? = some (SGN[i]'h) := List.getElem?_eq_getElem (l := SGN) h
  rw [this]; rfl
theorem mx_1 (t : List Nat) (a : Nat) : mx (t.take a ++ t.drop (a + 1)) ≤ mx t + 1 := by
  have h := mx_swap (k := 1) (t.take a) (b := t.drop a) (c := t.drop (a + 1)) (by rw [← List.drop_drop]; exact mx_drop1 _)
  rwa [List.take_append_drop] at h
theorem mx_2 (t : List Nat) (a ch : Nat) : mx (t.take a ++ ch :: t.drop a) ≤ mx t + 1 := by
  have h := mx_swap (k := 1) (t.take a) (b := t.drop a) (c := ch :: t.drop a) (mx_cons _ _)
  rwa [List.take_append_drop] at h
theorem mx_3 (t : List Nat) (a ch : Nat) : mx (t.take a ++ ch :: t.drop (a + 1)) ≤ mx t + 2 := by
  have h := mx_swap (k := 2) (t.take a) (b := t.drop a) (c := ch :: t.drop (a + 1)) (by
    have h1 := mx_cons ch (t.drop (a + 1))
    have h2 : mx (t.drop (a + 1)) ≤ mx (t.drop a) + 1 := by rw [← List.drop_drop]; exact mx_drop1 _
    omega)
  rwa [List.take_append_drop] at h
theorem spoilt_at (n : Nat) (t : List Nat) (c : Nat) (ht : t.length < 90000) : ∃ t', t'.length ≤ t.length + 1 ∧ mx t' ≤ mx t + 2 ∧ callN (pg WW) (n + 1) 25 [.d (.str (St t)), .d (.int c)] = .ok (.d (.str (St t'))) [.d (.str (St t)), .d (.int c)] := by
  obtain ⟨ch, hch⟩ := sgn_ix (i := c / 3000 % 21) (Nat.mod_lt _ (by decide))
  rw [show ((c / 3000 % 21 : Nat) : Int) = (c : Int) / 3000 % 21 by omega] at hch
  generalize hat : c / 3 % (t.length + 1) = a
  have ha : a ≤ t.length := by have := Nat.mod_lt (c / 3) (show 0 < t.length + 1 by omega); omega
  have hat' : (c : Int) / 3 % ((t.length : Int) + 1) = (a : Int) := by rw [← hat]; simp
  have hp : (0 : Int) < (t.length : Int) + 1 := by omega
  have htl : t.length ≤ line := by unfold line; omega
  have l3 : lowW 3 = true := low64 (by decide)
  have l3000 : lowW 3000 = true := low64 (by decide)
  have c1 : cutD t none (some (a : Int)) = t.take a := cut_to
  have c2 : cutD t (some ((a : Int) + 1)) none = t.drop (a + 1) := by have := cut_from (l := t) (n := a + 1); simpa using this
  have c3 : cutD t (some (a : Int)) none = t.drop a := cut_from
  have o1 := mx_1 t a
  have o2 := mx_2 t a ch
  have o3 := mx_3 t a ch
  have hb1 : min a t.length + (t.length - (a + 1)) ≤ line := by unfold line; omega
  have hb2 : min a t.length + 1 ≤ line := by unfold line; omega
  have hb3 : min a t.length + 1 + (t.length - a) ≤ line := by unfold line; omega
  have hb4 : min a t.length + 1 + (t.length - (a + 1)) ≤ line := by unfold line; omega
  rw [cn_law_spoilt, runF_eq rfl]
  by_cases h0 : c % 3 = 0
  · have h0' : (c : Int) % 3 = 0 := by omega
    refine ⟨t.take a ++ t.drop (a + 1), by simp; omega, by omega, ?_⟩
    simp [fd_law_spoilt, hch, l3, l3000, htl, hp, hat', h0', c1, c2, hb1]
  · have h0' : ¬ ((c : Int) % 3 = 0) := by omega
    by_cases h1 : c % 3 = 1
    · have h1' : (c : Int) % 3 = 1 := by omega
      refine ⟨t.take a ++ ch :: t.drop a, by simp; omega, by omega, ?_⟩
      simp [fd_law_spoilt, hch, l3, l3000, htl, hp, hat', h1', c1, c3, hb2, hb3]
    · have h1' : ¬ ((c : Int) % 3 = 1) := by omega
      refine ⟨t.take a ++ ch :: t.drop (a + 1), by simp; omega, by omega, ?_⟩
      simp [fd_law_spoilt, hch, l3, l3000, htl, hp, hat', h0', h1', c1, c2, hb2, hb4]
theorem read_ok (n : Nat) {d v : D} (h : callN (pg WW) n 16 [.d d] = .ok (.d v) [.d d]) : callN (pg WW) (n + 1) 30 [.d d] = .ok (.d (.tup [.bl true, v])) [.d d] := by
  rw [cn_law_read, runF_eq rfl]
  simp [fd_law_read, evS_try (s := lp_law_read_1) rfl, h]
theorem read_exc (n : Nat) {d : D} (h : callN (pg WW) n 16 [.d d] = .exc 4 .non [.d d]) : callN (pg WW) (n + 1) 30 [.d d] = .ok (.d (.tup [.bl true, .non])) [.d d] := by
  rw [cn_law_read, runF_eq rfl]
  simp [fd_law_read, evS_try (s := lp_law_read_1) rfl, h, xH, anyK, isSub, xSs, xS, xE]
/-- a text that writes no expression -/
def badB (s : List Nat) : Bool := match pExp 13 s with
  | some (e, []) => decide (txE e ≠ s)
  | _ => true
theorem bad_exc {m : Nat} (hm : 60 ≤ m) {s : List Nat} (hs : s.length < 100) (ho : mx s < 12) (h : badB s = true) : callN (pg WW) m 16 [.d (.str (St s))] = .exc 4 .non [.d (.str (St s))] := by
  rcases read_exp_at m hm (s := s) (by omega) ho with ⟨k, k1, k2, k3, _⟩ | ⟨_, k4⟩
  · have b := pExp_back (n := 13) k [] k1 (by omega) (fun c q e => by cases e)
    rw [List.append_nil, k3] at b
    unfold badB at h
    rw [b] at h
    simp [k3] at h
  · exact k4
/-- the spoilt ones, one after the other -/
theorem spoil_loop {m : Nat} (hm : 60 ≤ m) {t : List Nat} (ht : t.length < 90000) (ho : mx t ≤ 5) (c0 c1 c2 c3 c4 c6 c7 c12 : Option O) : ∀ (cs : List Nat) {x8 x9 x10 x11 : Option O},
    ∃ x8' x9' x10' x11', frp (callN (pg WW) (m + 1)) pgG WW [] lp_law_2 (cel cs) [c0, c1, c2, c3, c4, some (.d (.str (St t))), c6, c7, x8, x9, x10, x11, c12] = .ok .nx [c0, c1, c2, c3, c4, some (.d (.str (St t))), c6, c7, x8', x9', x10', x11', c12]
  | [], x8, x9, x10, x11 => ⟨x8, x9, x10, x11, frp_nil (s := lp_law_2) rfl⟩
  | c :: cs, x8, x9, x10, x11 => by
    obtain ⟨t', ht', ho', hsp⟩ := spoilt_at m t c ht
    rcases read_exp_at m hm (s := t') (by omega) (by omega) with ⟨k, k1, k2, k3, k4⟩ | ⟨_, k4⟩
    · have hr := read_ok m k4
      have hlk : (txE k).length ≤ line := by rw [k3]; unfold line; omega
      have hk := lone_at 12 (m + 1 - 27) k k1 k2
      rw [show m + 1 - 27 + 2 * 12 + 3 = m + 1 by omega] at hk
      have htx := ltext_at 12 (m - 12) k k1 hlk k2
      rw [show m - 12 + 12 + 1 = m + 1 by omega] at htx
      obtain ⟨x8', x9', x10', x11', ih⟩ := spoil_loop hm ht ho c0 c1 c2 c3 c4 c6 c7 c12 cs (x8 := some (.d (.int c))) (x9 := some (.d (.str (St t')))) (x10 := some (.d (.bl true))) (x11 := some (.d (dE k)))
      refine ⟨x8', x9', x10', x11', ?_⟩
      rw [cel, List.map_cons, frp_c (s := lp_law_2) rfl]
      have hnn : ∀ r : Rho, (match dE k with | .non => false | _ => true) = true := fun _ => by cases k <;> rw [dE]
      have hnn := hnn []
      simp [hsp, hr, hk, htx, k3, hnn]
      exact ih
    · have hr := read_exc m k4
      obtain ⟨x8', x9', x10', x11', ih⟩ := spoil_loop hm ht ho c0 c1 c2 c3 c4 c6 c7 c12 cs (x8 := some (.d (.int c))) (x9 := some (.d (.str (St t')))) (x10 := some (.d (.bl true))) (x11 := some (.d .non))
      refine ⟨x8', x9', x10', x11', ?_⟩
      rw [cel, List.map_cons, frp_c (s := lp_law_2) rfl]
      simp [hsp, hr]
      exact ih
end Ev
end

section
set_option Elab.async false
set_option linter.all false
set_option maxRecDepth 100000
set_option maxHeartbeats 2000000
set_option exponentiation.threshold 300
/-! k52: the law -/
open PySem
namespace Ev
abbrev DEPTH : Nat := 110
def ones : List Nat := List.replicate 61 49
theorem mul_ones : binO .mul (.d (.str (St [49]))) (.d (.int 61)) = some (.d (.str (St ones))) := by rfl
theorem law_loop {m : Nat} (hm : 80 ≤ m) (ns : List Int) {nm fm : List (List Nat)} (h6 : Six nm) (hf : SixF fm) : ∀ (ts : List Nat) {o1 o2 : O} {x3 x5 x6 x7 x8 x9 x10 x11 : Option O}, (o1 = .lst (nm.map fun s => .str (St s)) ∨ o1 = .d (.lst (nm.map fun s => .str (St s)))) → (o2 = .lst (fm.map fun s => .str (St s)) ∨ o2 = .d (.lst (fm.map fun s => .str (St s)))) →
    ∃ o1' o2' x3' x5' x6' x7' x8' x9' x10' x11', frp (callN (pg WW) (m + 3)) pgG WW [] lp_law_4 (ts.map fun t => .int ((2 + t * 10 : Nat) : Int)) [some (.d (scr ns)), some o1, some o2, x3, none, x5, x6, x7, x8, x9, x10, x11, none] = .ok .nx [some (.d (scr ns)), some o1', some o2', x3', none, x5', x6', x7', x8', x9', x10', x11', none]
  | [], o1, o2, x3, x5, x6, x7, x8, x9, x10, x11, _, _ => ⟨o1, o2, x3, x5, x6, x7, x8, x9, x10, x11, frp_nil (s := lp_law_4) rfl⟩
  | t :: ts, o1, o2, x3, x5, x6, x7, x8, x9, x10, x11, h1, h2 => by
    have h10 := fun r => rngO_nat (r := r) (i := 10) (m := 10) rfl (by decide)
    have hcell := fun k : Nat => cell_ati (m + 2) ns (i := 2 + (t : Int) * 10 + (k : Int)) (k := 2 + t * 10 + k) (by omega)
    have hl1 := lc_m (cf := callN (pg WW) (m + 3)) (G := pgG) (lp := lp_law_3) (r := [some (.d (scr ns)), some o1, some o2, some (.d (.int (2 + (t : Int) * 10))), none, x5, x6, x7, x8, x9, x10, x11, none]) (as := List.range 10) (fun k => D.int (k : Nat)) (fun k => .int (cellM ns (2 + t * 10 + k) : Nat)) rfl (by simp [h10]) (by simp; unfold line; omega) rfl (by
      intro k _
      simp [hcell])
    have hcs : (List.range 10).map (fun k => D.int ((cellM ns (2 + t * 10 + k) : Nat) : Int)) = cel ((List.range 10).map fun k => cellM ns (2 + t * 10 + k)) := by simp [cel]
    rw [hcs] at hl1
    have hcl : ((List.range 10).map (fun k => cellM ns (2 + t * 10 + k))).length = 10 := by simp
    generalize (List.range 10).map (fun k => cellM ns (2 + t * 10 + k)) = cs at hl1 hcl
    obtain ⟨e, cs', k1, k2, k3⟩ := any_at h6 hf 3 (m - 2) (cs.drop 3)
    rw [show m - 2 + 3 + 2 = m + 3 by omega] at k3
    have hlen : (txE e).length ≤ lb 3 := len_txE 3 e k1 k2
    have hlb : lb 3 < 80000 := by decide
    have hll : (txE e).length ≤ line := by unfold line; omega
    have hmx := (mx_txE e k1).2
    have g1 := ltext_at 3 (m - 1) e k1 hll k2
    rw [show m - 1 + 3 + 1 = m + 3 by omega] at g1
    have g2 := readx_back (m + 3) (by omega) k1 (by omega) (by omega)
    have g3 := same_at (n := m + 2) (pl_up (m := m + 2) (by omega) (pl_dE e k1))
    obtain ⟨y8, y9, y10, y11, g4⟩ := spoil_loop (m := m + 2) (by omega) (t := txE e) (by omega) (by omega) (some (.d (scr ns))) (some (.d (.lst (nm.map fun s => .str (St s))))) (some (.d (.lst (fm.map fun s => .str (St s))))) (some (.d (.int (2 + (t : Int) * 10)))) none (some (.d (.lst (cel cs)))) (some (.d (dE e))) none (cs.take 3) (x8 := x8) (x9 := x9) (x10 := x10) (x11 := x11)
    obtain ⟨o1', o2', x3', x5', x6', x7', x8', x9', x10', x11', ih⟩ := law_loop hm ns h6 hf ts (o1 := .d (.lst (nm.map fun s => .str (St s)))) (o2 := .d (.lst (fm.map fun s => .str (St s)))) (x3 := some (.d (.int (2 + (t : Int) * 10)))) (x5 := some (.d (.str (St (txE e))))) (x6 := some (.d (.lst (cel cs)))) (x7 := some (.d (dE e))) (x8 := y8) (x9 := y9) (x10 := y10) (x11 := y11) (.inr rfl) (.inr rfl)
    refine ⟨o1', o2', x3', x5', x6', x7', x8', x9', x10', x11', ?_⟩
    rw [List.map_cons, frp_c (s := lp_law_4) rfl]
    have e1 : asgT [] (.one 3) (.int ((2 + t * 10 : Nat) : Int)) [some (.d (scr ns)), some o1, some o2, x3, none, x5, x6, x7, x8, x9, x10, x11, none] = some [some (.d (scr ns)), some o1, some o2, some (.d (.int (2 + (t : Int) * 10))), none, x5, x6, x7, x8, x9, x10, x11, none] := by simp
    rw [e1]
    have e2 : evS (callN (pg WW) (m + 3)) pgG WW [] (.set 6 lp_law_3) [some (.d (scr ns)), some o1, some o2, some (.d (.int (2 + (t : Int) * 10))), none, x5, x6, x7, x8, x9, x10, x11, none] = .ok .nx [some (.d (scr ns)), some o1, some o2, some (.d (.int (2 + (t : Int) * 10))), none, x5, some (.lst (cel cs)), x7, x8, x9, x10, x11, none] := by simp [hl1]
    simp at k3
    have hc3 : cutD (cel cs) (some 3) none = (cel cs).drop 3 := cut_from
    have hct : cutD (cel cs) none (some 3) = (cel cs).take 3 := cut_to
    have hcc : (cel cs).length = 10 := by simp [hcl]
    have e3 : evS (callN (pg WW) (m + 3)) pgG WW [] (.set 7 (.callT 22 (.sl (.v 6) (.some (.int 3)) .none) (.val (.v 1) (.val (.v 2) (.val (.int 3) .nil))))) [some (.d (scr ns)), some o1, some o2, some (.d (.int (2 + (t : Int) * 10))), none, x5, some (.lst (cel cs)), x7, x8, x9, x10, x11, none] = .ok .nx [some (.d (scr ns)), some (.d (.lst (nm.map fun s => .str (St s)))), some (.d (.lst (fm.map fun s => .str (St s)))), some (.d (.int (2 + (t : Int) * 10))), none, x5, some (.d (.lst (cel cs))), some (.d (dE e)), x8, x9, x10, x11, none] := by
      rcases h1 with rfl | rfl <;> rcases h2 with rfl | rfl <;> simp [k3, hc3]
    dsimp only
    rw [ss_go e2, ss_go e3]
    simp at ih g4
    simp [g1, evS_frp (s := lp_law_2) rfl, hct, g4, g2, g3]
    exact ih
theorem odd_loop {m : Nat} (x0 x1 x2 x3 x4 x6 x7 x8 x9 x12 : Option O) : ∀ (ds : List D) {x5 x10 x11 : Option O}, (∀ d ∈ ds, callN (pg WW) m 16 [.d d] = .exc 4 .non [.d d]) →
    ∃ x5' x10' x11', frp (callN (pg WW) (m + 1)) pgG WW [] lp_law_1 ds [x0, x1, x2, x3, x4, x5, x6, x7, x8, x9, x10, x11, x12] = .ok .nx [x0, x1, x2, x3, x4, x5', x6, x7, x8, x9, x10', x11', x12]
  | [], x5, x10, x11, _ => ⟨x5, x10, x11, frp_nil (s := lp_law_1) rfl⟩
  | d :: ds, x5, x10, x11, h => by
    obtain ⟨x5', x10', x11', ih⟩ := odd_loop x0 x1 x2 x3 x4 x6 x7 x8 x9 x12 ds (x5 := some (.d d)) (x10 := some (.d (.bl true))) (x11 := some (.d .non)) fun e he => h e (.tail _ he)
    have hr := read_exc m (h d (.head _))
    refine ⟨x5', x10', x11', ?_⟩
    rw [frp_c (s := lp_law_1) rfl]
    simp [hr]
    exact ih
def odd1 : List D := [D.str (St []), D.str (St [32]), D.str (St [48, 48]), D.str (St [48, 49]), D.str (St [45, 48]), D.str (St [45]), D.str (St [45, 45, 49]), D.str (St ones), D.str (St [65]), D.str (St [97, 32, 98]), D.str (St [97, 40]), D.str (St [97, 40, 98]), D.str (St [97, 40, 98, 44, 99, 41]), D.str (St [97, 40, 98, 44, 32, 32, 99, 41]), D.str (St [70, 40, 97, 41, 41])]
def odd2 : List D := [D.str (St [91, 97, 58, 32, 70, 40, 41, 32, 98]), D.str (St [91, 97, 32, 70, 40, 41, 32, 98, 93]), D.str (St [91, 97, 58, 32, 70, 32, 98, 93]), D.str (St [91, 97, 58, 32, 70, 40, 120, 44, 32, 120, 41, 32, 98, 93]), D.str (St [91, 97, 58, 32, 70, 40, 41, 98, 93]), D.str (St [91, 97, 58, 32, 93]), D.str (St [91, 97, 58, 32, 70, 40, 41, 32, 98, 59, 71, 40, 41, 32, 99, 93])]
def odd3 : List D := [D.str (St [102, 40, 97, 44, 32, 98, 44, 32, 99, 44, 32, 100, 41]), D.str (St [70, 40, 97, 44, 32, 98, 44, 32, 99, 44, 32, 100, 41]), D.str (St [91, 97, 58, 32, 102, 40, 41, 32, 98, 93]), D.str (St [91, 97, 58, 32, 70, 40, 88, 41, 32, 98, 93])]
def odd4 : List D := [D.non, D.int 7, D.tup [D.str (St [110, 97, 109, 101]), D.str (St [97])], D.lst [], D.lst [D.str (St [97])]]
theorem small33 : ∀ t < 34, Builtin.Range.small ((2 : Nat) : Int) ((t : Nat) : Int) ((10 : Nat) : Int) = true := by decide +kernel
theorem odd_bad {m : Nat} (hm : 80 ≤ m) : ∀ d ∈ odd1 ++ odd2 ++ odd3 ++ odd4, callN (pg WW) (m + 2) 16 [.d d] = .exc 4 .non [.d d] := by
  have bad : ∀ s : List Nat, s.length < 100 → mx s < 12 → badB s = true → callN (pg WW) (m + 2) 16 [.d (.str (St s))] = .exc 4 .non [.d (.str (St s))] := fun s a b c => bad_exc (by omega) a b c
  intro d hd
  simp only [odd1, odd2, odd3, odd4, List.cons_append, List.nil_append, List.mem_cons, List.not_mem_nil, or_false] at hd
  rcases hd with rfl | rfl | rfl | rfl | rfl | rfl | rfl | rfl | rfl | rfl | rfl | rfl | rfl | rfl | rfl | rfl | rfl | rfl | rfl | rfl | rfl | rfl | rfl | rfl | rfl | rfl | rfl | rfl | rfl | rfl | rfl
  · exact bad _ (by decide) (by decide) (by decide +kernel)
  · exact bad _ (by decide) (by decide) (by decide +kernel)
  · exact bad _ (by decide) (by decide) (by decide +kernel)
  · exact bad _ (by decide) (by decide) (by decide +kernel)
  · exact bad _ (by decide) (by decide) (by decide +kernel)
  · exact bad _ (by decide) (by decide) (by decide +kernel)
  · exact bad _ (by decide) (by decide) (by decide +kernel)
  · exact bad _ (by decide) (by decide) (by decide +kernel)
  · exact bad _ (by decide) (by decide) (by decide +kernel)
  · exact bad _ (by decide) (by decide) (by decide +kernel)
  · exact bad _ (by decide) (by decide) (by decide +kernel)
  · exact bad _ (by decide) (by decide) (by decide +kernel)
  · exact bad _ (by decide) (by decide) (by decide +kernel)
  · exact bad _ (by decide) (by decide) (by decide +kernel)
  · exact bad _ (by decide) (by decide) (by decide +kernel)
  · exact bad _ (by decide) (by decide) (by decide +kernel)
  · exact bad _ (by decide) (by decide) (by decide +kernel)
  · exact bad _ (by decide) (by decide) (by decide +kernel)
  · exact bad _ (by decide) (by decide) (by decide +kernel)
  · exact bad _ (by decide) (by decide) (by decide +kernel)
  · exact bad _ (by decide) (by decide) (by decide +kernel)
  · exact bad _ (by decide) (by decide) (by decide +kernel)
  · exact bad _ (by decide) (by decide) (by decide +kernel)
  · exact bad _ (by decide) (by decide) (by decide +kernel)
  · exact bad _ (by decide) (by decide) (by decide +kernel)
  · exact bad _ (by decide) (by decide) (by decide +kernel)
  · exact readx_other (m + 1) rfl rfl
  · exact readx_other (m + 1) rfl rfl
  · exact readx_other (m + 1) rfl rfl
  · exact readx_other (m + 1) rfl rfl
  · exact readx_other (m + 1) rfl rfl
theorem law_at {m : Nat} (hm : 80 ≤ m) (ns : List Int) : callN (pg WW) (m + 4) 31 [.d (scr ns)] = .ok (.d (.bl true)) [.d (scr ns)] := by
  obtain ⟨nm, h6, hnm⟩ := names_at (m + 2) (cellM ns 0)
  obtain ⟨fm, hf, hfm⟩ := forms_at (m + 2) (cellM ns 1)
  have hc0 := cell_ati (m + 2) ns (i := 0) (k := 0) rfl
  have hc1 := cell_ati (m + 2) ns (i := 1) (k := 1) rfl
  have hmin : (if (30 : Int) < (ns.length : Int) then (30 : Int) else (ns.length : Int)) = ((min ns.length 30 : Nat) : Int) := by split <;> omega
  have hr3 := fun r => rng3O_at (r := r) (i := 2) (j := 3 + ((min ns.length 30 : Nat) : Int)) (a := 2) (n := 3 + min ns.length 30) (k := 10) rfl (by simp) (by decide) (by omega) (small33 _ (by omega)) (by decide) (by decide)
  generalize (Builtin.Range.rangeSize ((2 : Nat) : Int) ((3 + min ns.length 30 : Nat) : Int) ((10 : Nat) : Int)).toNat = N at hr3
  have hr3' : ∀ r, rng3O 10 (.d (.int 2)) (.d (.int (3 + if (30 : Int) < (ns.length : Int) then 30 else (ns.length : Int)))) r = .ok ((List.range N).map fun t => .int ((2 + t * 10 : Nat) : Int)) r := fun r => by rw [hmin]; exact hr3 r
  obtain ⟨o1, o2, x3, x5, x6, x7, x8, x9, x10, x11, hloop⟩ := law_loop hm ns h6 hf (List.range N) (x3 := none) (x5 := none) (x6 := none) (x7 := none) (x8 := none) (x9 := none) (x10 := none) (x11 := none) (.inl rfl) (.inl rfl)
  obtain ⟨y5, y10, y11, ho⟩ := odd_loop (m := m + 2) (some (.d (scr ns))) (some o1) (some o2) x3 (some (.d (.lst (odd1 ++ odd2 ++ odd3)))) x6 x7 x8 x9 none (odd1 ++ odd2 ++ odd3 ++ odd4) (x5 := x5) (x10 := x10) (x11 := x11) (odd_bad hm)
  have hlp := hloop
  simp only [Nat.reduceAdd, odd1, odd2, odd3, odd4, List.cons_append, List.nil_append] at hlp ho
  rw [cn_law, runF_eq rfl]
  simp [fd_law, hc0, hnm, hc1, hfm, evS_frp (s := lp_law_4) rfl, evS_frp (s := lp_law_1) rfl, hr3', mul_ones]
  simp at hlp
  simp [hlp, line, mul_ones, ho]
theorem plain (ns : List Int) (hns : ns.length ≤ 63) (_ : ∀ z ∈ ns, Builtin.Int.intBits z ≤ 1048576) : ∃ os, callN (pg WW) DEPTH 31 [.d (.lst (ns.map .int))] = .ok (.d (.bl true)) os :=
  ⟨[.d (scr ns)], law_at (m := 106) (by decide) ns⟩
end Ev
end
set_option maxRecDepth 100000
set_option maxHeartbeats 0
namespace Ev
open PySem PySem.W PyProof.Rows
abbrev RR : PySem.W.OpenRow := PySem.W.OpenLaw.row PySem.Challenge.rw_kinddeeds_k52_expressions_read
abbrev hkV : PySem.W.Hook := hookV 5 tab (pg 0).G
def obT (s : PySem.W.SharedT) : AlV := obsV 5 tab (pg 0).G (HandSHeadRun.getT s)
theorem obT_eq (s : PySem.W.SharedT) : obT s = hkV.obs s.abs := obsV_eq (HandSHeadRun.getT_eq s)
def loose0 : List PySem.Str := ["_wall", "DeedsError", "NoProgram", "Twice", "NoSuch", "NoWords", "MOST_LETTERS", "is_name", "is_form_name", "FIGURES", "LETTERS", "MOST_FIGURES", "MOST_ARGS", "MOST_ARMS", "arm_text", "expression_text", "Reader", "read_expression", "_law_cell_at", "_law_names", "_law_forms", "_law_next", "_law_number", "_law_any", "_law_same", "_law_text", "_law_spoilt", "_law_is_name", "_law_is_form", "_law_is_arm", "_law_is_one", "_law_read"]
abbrev looseA : List PySem.Str := loose0
theorem runT (w : World) : HandSHeadRun.RunEq RR (PySem.W.view RR.prog [36]) hkV obT 6000 looseA w := by
  intro os
  kernel_rfl
end Ev
open PySem PySem.W PySem.Calls PyProof.Rows in
theorem PySem.Challenge.cw_kinddeeds_k52_expressions_read_holds : PySem.Challenge.rw_kinddeeds_k52_expressions_read.Holds := by
  w_on; o_law
  refine HandSHeadRun.head_any (r := OpenLaw.row PySem.Challenge.rw_kinddeeds_k52_expressions_read) (q := view (OpenLaw.row PySem.Challenge.rw_kinddeeds_k52_expressions_read).prog [36]) (H := Ev.hkV) (ob := Ev.obT) (M := 6000) (loose := Ev.looseA) (d := HandSHeadRun.topDef (OpenLaw.row PySem.Challenge.rw_kinddeeds_k52_expressions_read).prog 36) (kwd := []) Ev.obT_eq
    (by kernel_rfl) (fun s => by kernel_rfl) Ev.runT (by kernel_rfl) (by kernel_rfl) (by kernel_rfl) (by rfl) (by first | assumption | decide +kernel) (by decide +kernel) ⟨rfl, rfl, rfl, rfl, rfl, by decide +kernel⟩ ?hw ?hc
  case hw => w_witness2
  case hc =>
    exact Ev.walk (l := PySem.Challenge.rw_kinddeeds_k52_expressions_read) (t := Ev.tab) (Q := Ev.pg Ev.WW) (n := 63) (m := 5) (i := 31) (x := "_law_script") Ev.DEPTH ⟨"law", "law", none, Ev.topS 36, ["_law_script", "_law_names_here", "_law_forms_here", "_law_at", "_law_odd", "_law_text_here", "_law_cells", "_law_one", "_law_cell", "_law_bad", "_law_good", "_law_told", "_law_k"], ["_law_script"], Ev.fd_law⟩ rfl (by decide) (by kernel_rfl) ⟨rfl, by decide, by decide⟩ rfl Ev.ck rfl (by kernel_rfl) rfl rfl rfl rfl Ev.bnds Ev.plain
#print axioms PySem.Challenge.cw_kinddeeds_k52_expressions_read_holds
