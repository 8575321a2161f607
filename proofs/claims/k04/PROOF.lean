import PyProof.Rows.All
import Wide.All
import OpenK.AllK
import Wide.FinOn
import HandS.ForMost
import HandS.ForExc
import HandS.Deep
import HandS.StrMore
import HandS.IsInst
import HandS.ExcInit
import HandS.ExcField
import HandS.ExcIs
import HandS.Flow
import HandS.TryMany
import HandS.Walk
import HandS.Wide
import HandS.TupAny
import HandS.Style
import HandS.Codes
import HandS.WordsDict
import HandS.RaiseMore
import HandS.Conv
import KE.KExcIs
import KE.KTryMore
import KE.GoesEnum
import KE.KDictZip
import HandS.Ends
import KE.KStateDown
import KE.KExcInit
import HandS.Defaults
import HandS.Head0
import HandS.Head1
import HandS.Head2
import HandS.HeadEnd
import HandS.HeadHook1
import HandS.HeadHook2
import PyProof.StrLawsIn
import PyProof.Rows.StrCut
import PySem.Challenge.RW_keysinline_k04_below_against_compare
set_option Elab.async false
set_option linter.all false
set_option maxRecDepth 100000
/-! # Mp: a small evaluator of Python over plain data trees. Part 1: data, terms, what they compute. -/
namespace Mp
open PySem

abbrev D := PyData

/-- a text by its signs -/
def S (l : List Nat) : Str := ⟨l.toArray⟩
def L (s : Str) : List Nat := s.cps.toList
@[simp] theorem L_S (l : List Nat) : L (S l) = l := by simp [L, S]
@[simp] theorem S_L (s : Str) : S (L s) = s := by simp [L, S]
theorem S_inj {a b : List Nat} : S a = S b ↔ a = b := ⟨fun h => by have := congrArg L h; simpa using this, fun h => by rw [h]⟩
@[simp] theorem S_eq {a b : List Nat} : (S a = S b) = (a = b) := propext S_inj
theorem len_L (s : Str) : s.length = (L s).length := by simp [L, Str.length]
@[simp] theorem len_S (l : List Nat) : (S l).length = l.length := by simp [S, Str.length]
theorem append_S (a b : List Nat) : S a ++ S b = S (a ++ b) := by
  show Str.append (S a) (S b) = S (a ++ b)
  simp [S, Str.append]

/-- the longest list or text -/
abbrev cap : Nat := 16777216

/-- an exception: its class, its fields -/
structure Ex where
  c : Nat
  fs : List (Nat × D)

/-- what a slot holds: nothing, data that no one changes, data that this frame owns, the caller's, the caller's since shared, a list that a loop walks, a caught exception -/
inductive Sl where
  | un
  | fz (d : D)
  | ow (d : D)
  | bw (d : D)
  | bf (d : D)
  | ln (b : Bool) (d : D)
  | ex (x : Ex)

abbrev St := List Sl

inductive R (α : Type) where
  | ok (a : α) (t : St)
  | rs (x : Ex) (t : St)
  | bad

namespace R
def bind {α β : Type} (r : R α) (f : α → St → R β) : R β :=
  match r with
  | .ok a t => f a t
  | .rs x t => .rs x t
  | .bad => .bad
@[simp] theorem bind_ok {α β : Type} (a : α) (t : St) (f : α → St → R β) : (R.ok a t).bind f = f a t := (rfl)
@[simp] theorem bind_rs {α β : Type} (x : Ex) (t : St) (f : α → St → R β) : (R.rs x t).bind f = .rs x t := (rfl)
@[simp] theorem bind_bad {α β : Type} (f : α → St → R β) : (R.bad : R α).bind f = .bad := (rfl)
theorem bind_assoc {α β γ : Type} (r : R α) (f : α → St → R β) (g : β → St → R γ) : (r.bind f).bind g = r.bind fun a t => (f a t).bind g := by
  cases r <;> rfl
/-- a value if there is one -/
def of {α : Type} (o : Option α) (t : St) : R α := match o with
  | some a => .ok a t
  | none => .bad
@[simp] theorem of_some {α : Type} (a : α) (t : St) : R.of (some a) t = .ok a t := (rfl)
@[simp] theorem of_none {α : Type} (t : St) : (R.of none t : R α) = .bad := (rfl)
end R

inductive Bop where
  | add | sub | mul | fdiv | mod | pow
  deriving DecidableEq
inductive Cop where
  | eq | ne | lt | le | gt | ge | isin | notin | isN | notN
  deriving DecidableEq
/-- built-in functions -/
inductive Bf where
  | len | abs | int | str | min | max | sum | list | tuple | sorted | any | all
  deriving DecidableEq
/-- methods of built-in types -/
inductive Mf where
  | startswith | strip | find | join | index | count
  deriving DecidableEq
/-- classes -/
inductive Cl where
  | own (k : Nat) | VE | int | str | bool | tuple | list | dict
  deriving DecidableEq

/-- targets -/
inductive Tg where
  | nm (i : Nat)
  | tp (ts : List Tg)

mutual
inductive E where
  | bad
  | var (i : Nat)
  | c (d : D)
  | g (k : Nat)
  | bin (op : Bop) (a b : E)
  | neg (a : E)
  | not (a : E)
  | cmp (op : Cop) (a b : E)
  | cmp2 (op op' : Cop) (a b c : E)
  | and (es : Es)
  | or (es : Es)
  | ife (c a b : E)
  | tup (es : Es)
  | lst (es : Es)
  | dic0
  | ix (a b : E)
  | sl (a : E) (lo hi : O)
  | rev (a : E)
  | call (k : Nat) (es : Es)
  | bi (f : Bf) (es : Es)
  | me (m : Mf) (a : E) (es : Es)
  | lkeys (a : E)
  | lvals (a : E)
  | pop (i : Nat)
  | popi (i : Nat) (a : E)
  | app (i : Nat) (a : E)
  | ext (i : Nat) (a : E)
  | isi (a : E) (cs : List Cl)
  | fld (i : Nat) (f : Nat)
  | lc (elt : E) (own : List Nat) (tg : Tg) (it : It) (cs : Es)
  | lc2 (elt : E) (own : List Nat) (tg : Tg) (it : It) (cs : Es) (own1 : List Nat) (tg1 : Tg) (it1 : It) (cs1 : Es)
inductive Es where
  | nil
  | cons (e : E) (es : Es)
inductive O where
  | no
  | so (e : E)
inductive It where
  | bad
  | of (e : E)
  | rng1 (a : E)
  | rng2 (a b : E)
  | rng3 (a b c : E)
  | enum (e : E)
  | zip (a b : E)
  | enz (a b : E)
end

mutual
inductive Sm where
  | bad
  | asg (tg : Tg) (e : E)
  | par (is : List Nat) (es : Es)
  | set (i : Nat) (b e : E)
  | aug (i : Nat) (op : Bop) (e : E)
  | ex (e : E)
  | ret (e : E)
  | ret0
  | ite (c : E) (a b : Ss)
  | whl (c : E) (b : Ss)
  | for_ (tg : Tg) (it : It) (b : Ss)
  | brk | cnt | pass
  | raise (k : Nat) (es : Es)
  | try_ (b : Ss) (hs : Hs)
inductive Ss where
  | nil
  | cons (s : Sm) (r : Ss)
inductive Hs where
  | nil
  | cons (c : Cl) (nm : Option Nat) (b : Ss) (r : Hs)
end

/-- a def: its parameters, its slots, which parameters are never bound anew, its body -/
structure Df where
  np : Nat
  ns : Nat
  keep : List Bool
  body : Ss
/-- a program: defs by number, own exception classes by number (ancestors, itself first; the fields of its __init__), constants -/
structure Pr where
  df : Nat → Option Df
  sup : Nat → List Nat
  fld : Nat → List Nat
  gl : Nat → Option D

/-! ### values -/
/-- a value: its data, whether it is a new list or dict that nobody else holds -/
abbrev Rv := D × Bool
/-- an operand: a value, or a slot that is read when the operation runs -/
inductive Op where
  | v (d : D)
  | i (k : Nat)

def rdS : Sl → Option D
  | .fz d => some d
  | .ow d => some d
  | .bw d => some d
  | .bf d => some d
  | .ln _ d => some d
  | _ => none
def rd (o : Op) (t : St) : Option D := match o with
  | .v d => some d
  | .i k => (t[k]?).bind rdS

/-- the slot's data is shared from now on -/
def fzS : Sl → Option (D × Sl)
  | .fz d => some (d, .fz d)
  | .ow d => some (d, .fz d)
  | .bw d => some (d, .bf d)
  | .bf d => some (d, .bf d)
  | _ => none

def isMut : D → Bool
  | .list _ => true
  | .dict _ => true
  | _ => false

def flag (d : D) : D × Bool := (d, isMut d)

/-- operations on data -/
def intOf : D → Option Int
  | .int i => some i
  | .bool b => some (if b then 1 else 0)
  | _ => none

/-- products that stay small enough -/
def mulOk (a b : Int) : Prop := a.natAbs < 2 ^ 4000 ∧ b.natAbs < 2 ^ 4000
def repL {α : Type} (n : Nat) (l : List α) : List α := (List.replicate n l).flatten

open Classical in
noncomputable def bop (o : Bop) (x y : D) : Option D :=
  match o, x, y with
  | .add, .int a, .int b => some (.int (a + b))
  | .add, .str a, .str b => if (L a).length + (L b).length ≤ cap then some (.str (S (L a ++ L b))) else none
  | .add, .list a, .list b => if a.length + b.length ≤ cap then some (.list (a ++ b)) else none
  | .add, .tuple a, .tuple b => if a.length + b.length ≤ cap then some (.tuple (a ++ b)) else none
  | .sub, .int a, .int b => some (.int (a - b))
  | .mul, .int a, .int b => if mulOk a b then some (.int (a * b)) else none
  | .mul, .str a, .int b => if (L a).length * b.toNat ≤ cap ∧ b.natAbs < 2 ^ 62 then some (.str (S (repL b.toNat (L a)))) else none
  | .mul, .list a, .int b => if a.length * b.toNat ≤ cap ∧ b.natAbs < 2 ^ 62 then some (.list (repL b.toNat a)) else none
  | .fdiv, .int a, .int b => if 0 < b ∧ b < 2 ^ 8000 then some (.int (a / b)) else none
  | .mod, .int a, .int b => if 0 < b then some (.int (a % b)) else none
  | .pow, .int a, .int b => if 0 ≤ a ∧ a < 2 ^ 2048 ∧ 0 ≤ b ∧ b < 128 then some (.int (a ^ b.toNat)) else none
  | _, _, _ => none

def flatD : D → Bool
  | .none | .bool _ | .int _ | .str _ => true
  | _ => false

mutual
/-- no dict within, not too deep -/
def plain : Nat → D → Bool
  | _, .none | _, .bool _ | _, .int _ | _, .str _ => true
  | 0, _ => false
  | n + 1, .list l => plains n l
  | n + 1, .tuple l => plains n l
  | _, .dict _ => false
def plains : Nat → List D → Bool
  | _, [] => true
  | n, x :: r => plain n x && plains n r
end
def pl (d : D) : Bool := plain 60 d

/-- == of plain data -/
noncomputable def deq (x y : D) : Bool := PyData.eqv x y

def subS (a b : Str) : Bool := !(Builtin.Str.occurrences b a 0 b.length 1).isEmpty

/-- lists of unlike lengths -/
def lenNe (x y : D) : Bool := match x, y with
  | .list a, .list b => a.length != b.length
  | _, _ => false
def isNo : D → Bool
  | .none => true
  | _ => false
noncomputable def cop (o : Cop) (x y : D) : Option D :=
  match o with
  | .eq => if lenNe x y then some (.bool false) else if pl x && pl y then some (.bool (deq x y)) else none
  | .ne => if lenNe x y then some (.bool true) else if pl x && pl y then some (.bool (!deq x y)) else none
  | .lt => (match x, y with
    | .int a, .int b => some (.bool (decide (a < b)))
    | .str a, .str b => some (.bool (decide (L a < L b)))
    | _, _ => none)
  | .le => (match x, y with
    | .int a, .int b => some (.bool (decide (a ≤ b)))
    | _, _ => none)
  | .gt => (match x, y with
    | .int a, .int b => some (.bool (decide (b < a)))
    | .str a, .str b => some (.bool (decide (L b < L a)))
    | _, _ => none)
  | .ge => (match x, y with
    | .int a, .int b => some (.bool (decide (b ≤ a)))
    | _, _ => none)
  | .isin => (match y with
    | .list ys => if flatD x && ys.all flatD then some (.bool (ys.any fun z => deq z x)) else none
    | .tuple ys => if flatD x && ys.all flatD then some (.bool (ys.any fun z => deq z x)) else none
    | .str b => (match x with
      | .str a => some (.bool (subS a b))
      | _ => none)
    | _ => none)
  | .notin => (match y with
    | .list ys => if flatD x && ys.all flatD then some (.bool (!(ys.any fun z => deq z x))) else none
    | .tuple ys => if flatD x && ys.all flatD then some (.bool (!(ys.any fun z => deq z x))) else none
    | .str b => (match x with
      | .str a => some (.bool (!subS a b))
      | _ => none)
    | _ => none)
  | .isN => (match y with
    | .none => some (.bool (isNo x))
    | _ => none)
  | .notN => (match y with
    | .none => some (.bool (!isNo x))
    | _ => none)

def truth : D → Bool
  | .none => false
  | .bool b => b
  | .int i => i != 0
  | .str s => !(L s).isEmpty
  | .list l => !l.isEmpty
  | .tuple l => !l.isEmpty
  | .dict l => !l.isEmpty

/-- a place from the front or from the back -/
def place (n : Nat) (i : Int) : Option Nat := if 0 ≤ i then (if i < n then some i.toNat else none) else if -(n : Int) ≤ i then some (i + n).toNat else none
/-- an end of a slice -/
def sEnd (n dflt : Nat) : Option Int → Nat
  | none => dflt
  | some v => if v < 0 then (v + (n : Int)).toNat else min v.toNat n
def cut {α : Type} (l : List α) (lo hi : Option Int) : List α := (l.drop (sEnd l.length 0 lo)).take (sEnd l.length l.length hi - sEnd l.length 0 lo)

def ixD (x y : D) : Option D := match x, y with
  | .list l, .int i => (place l.length i).bind fun j => l[j]?
  | .tuple l, .int i => (place l.length i).bind fun j => l[j]?
  | .str s, .int i => (place (L s).length i).bind fun j => (L s)[j]?.map fun c => .str (S [c])
  | _, _ => none
def slD (x : D) (lo hi : Option Int) : Option D := match x with
  | .list l => some (.list (cut l lo hi))
  | .tuple l => some (.tuple (cut l lo hi))
  | .str s => some (.str (S (cut (L s) lo hi)))
  | _ => none
def revD : D → Option D
  | .list l => some (.list l.reverse)
  | _ => none
def lenD : D → Option D
  | .list l => some (.int l.length)
  | .tuple l => some (.int l.length)
  | .str s => some (.int (L s).length)
  | .dict l => some (.int l.length)
  | _ => none

def intsOf : List D → Option (List Int)
  | [] => some []
  | .int i :: r => (intsOf r).map fun l => i :: l
  | _ => none

def bLen : List D → Option D
  | [x] => lenD x
  | _ => none
def bAbs : List D → Option D
  | [.int i] => some (.int (if i < 0 then -i else i))
  | _ => none
def bInt : List D → Option D
  | [.int i] => some (.int i)
  | [.bool b] => some (.int (if b then 1 else 0))
  | _ => none
def bMin : List D → Option D
  | [.int i, .int j] => some (.int (if j < i then j else i))
  | _ => none
def bMax : List D → Option D
  | [.int i, .int j] => some (.int (if j > i then j else i))
  | _ => none
def bList : List D → Option D
  | [.list l] => some (.list l)
  | [.tuple l] => some (.list l)
  | _ => none
def bTuple : List D → Option D
  | [.list l] => some (.tuple l)
  | [.tuple l] => some (.tuple l)
  | _ => none
/-- a number's digits -/
def numI (n : Nat) : List Nat := (Nat.toDigits 10 n).map Char.toNat
def bStr : List D → Option D
  | [.int i] => if 0 ≤ i ∧ i < 10 ^ 100 then some (.str (S (numI i.toNat))) else none
  | [.str a] => some (.str a)
  | _ => none
def boolsOf : List D → Option (List Bool)
  | [] => some []
  | .bool b :: r => (boolsOf r).map fun l => b :: l
  | _ => none
def strsOf : List D → Option (List Str)
  | [] => some []
  | .str b :: r => (strsOf r).map fun l => b :: l
  | _ => none
def bAll : List D → Option D
  | [.list l] => (boolsOf l).map fun bs => .bool (bs.all id)
  | _ => none
def bAny : List D → Option D
  | [.list l] => (boolsOf l).map fun bs => .bool (bs.any id)
  | _ => none
def bSum : List D → Option D
  | [.list l] => (intsOf l).map fun bs => .int bs.sum
  | _ => none
def biD (f : Bf) (xs : List D) : Option D := match f with
  | .len => bLen xs
  | .abs => bAbs xs
  | .int => bInt xs
  | .min => bMin xs
  | .max => bMax xs
  | .list => bList xs
  | .tuple => bTuple xs
  | .str => bStr xs
  | .all => bAll xs
  | .any => bAny xs
  | .sum => bSum xs
  | _ => none

def mStart (x : D) (xs : List D) : Option D := match x, xs with
  | .str a, [.str b] => some (.bool (Txt.startswith a b))
  | _, _ => none
def mStrip (x : D) (xs : List D) : Option D := match x, xs with
  | .str a, [.str b] => some (.str (Txt.stripChars a b))
  | _, _ => none
def mFind (x : D) (xs : List D) : Option D := match x, xs with
  | .str a, [.str b, .int i] => some (.int (Txt.find3 a b i))
  | _, _ => none
/-- texts joined by a text -/
def joinL (a : List Nat) : List (List Nat) → List Nat
  | [] => []
  | [x] => x
  | x :: y :: r => x ++ a ++ joinL a (y :: r)
def joinD (a : Str) (l : List D) : Option D := (strsOf l).bind fun ys => if (ys.map fun y => (L y).length).sum + ys.length * (L a).length ≤ cap then some (.str (S (joinL (L a) (ys.map L)))) else none
def mJoin (x : D) (xs : List D) : Option D := match x, xs with
  | .str a, [.list l] => joinD a l
  | .str a, [.tuple l] => joinD a l
  | _, _ => none
def meD (m : Mf) (x : D) (xs : List D) : Option D := match m with
  | .startswith => mStart x xs
  | .strip => mStrip x xs
  | .find => mFind x xs
  | .join => mJoin x xs
  | _ => none

def keysD : D → Option (List D)
  | .dict l => some (l.map (·.1))
  | _ => none
def valsD : D → Option (List D)
  | .dict l => some (l.map (·.2))
  | _ => none

def sqD : D → Option (List D)
  | .list l => some l
  | .tuple l => some l
  | .str s => some ((L s).map fun c => .str (S [c]))
  | _ => none
def enumD (l : List D) : List D := l.mapIdx fun i x => .tuple [.int i, x]
def zipD (a b : List D) : List D := (a.zip b).map fun p => .tuple [p.1, p.2]
def rangeD (lo hi : Int) : List D := (List.range (hi - lo).toNat).map fun (i : Nat) => .int (lo + i)
def small (i : Int) : Bool := decide (-(2 ^ 62) ≤ i) && decide (i < 2 ^ 62)
def rngD : List D → Option (List D)
  | [.int j] => if small j then some (rangeD 0 j) else none
  | [.int i, .int j] => if small i && small j then some (rangeD i j) else none
  | [.int i, .int j, .int (-1)] => if small i && small j then some ((List.range (i - j).toNat).map fun (k : Nat) => .int (i - k)) else none
  | _ => none

/-! ### classes -/
def isExc (P : Pr) (k : Nat) : Cl → Bool
  | .own j => (P.sup k).contains j
  | .VE => true
  | _ => false
def isCl (d : D) : Cl → Bool
  | .int => (match d with | .int _ | .bool _ => true | _ => false)
  | .bool => (match d with | .bool _ => true | _ => false)
  | .str => (match d with | .str _ => true | _ => false)
  | .list => (match d with | .list _ => true | _ => false)
  | .tuple => (match d with | .tuple _ => true | _ => false)
  | .dict => (match d with | .dict _ => true | _ => false)
  | .own _ => false
  | .VE => false
def isB : Cl → Bool
  | .own _ => false
  | .VE => false
  | _ => true
def isX (P : Pr) : Cl → Bool
  | .own k => (P.sup k).contains k
  | .VE => true
  | _ => false
def isClD (cs : List Cl) (d : D) : Option D := if cs.all isB = true then some (.bool (cs.any (isCl d))) else none
def isClS (P : Pr) (cs : List Cl) : Sl → Option D
  | .ex x => if cs.all (isX P) = true ∧ (P.sup x.c).contains x.c = true then some (.bool (cs.any (isExc P x.c))) else none
  | s => (rdS s).bind (isClD cs)

/-! ### targets -/
mutual
def asgT : Tg → D → St → Option St
  | .nm i, d, t => (match t[i]? with
    | some .un | some (.fz _) | some (.ow _) => some (t.set i (.fz d))
    | _ => none)
  | .tp ts, .tuple l, t => asgTs ts l t
  | .tp _, _, _ => none
def asgTs : List Tg → List D → St → Option St
  | [], [], t => some t
  | g :: gs, d :: ds, t => (asgT g d t).bind fun t' => asgTs gs ds t'
  | _, _, _ => none
end
/-- a name bound to a value -/
def asgN (i : Nat) (v : Rv) (t : St) : Option St := match t[i]? with
  | some .un | some (.fz _) | some (.ow _) => some (t.set i (if v.2 then .ow v.1 else .fz v.1))
  | _ => none
def asgV (g : Tg) (v : Rv) (t : St) : Option St := match g with
  | .nm i => asgN i v t
  | g => asgT g v.1 t

/-! ### calls -/
inductive CR where
  | ok (v : Rv) (fin : St)
  | rs (x : Ex) (fin : St)
  | bad
abbrev Cs := Nat → St → CR

/-- an argument as the callee gets it; the slot that is lent -/
def pass1 (keep : Bool) (o : Op) (t : St) : Option (Sl × Option Nat × St) := match o with
  | .v d => some (.fz d, none, t)
  | .i k => (match t[k]? with
    | some (.fz d) => some (.fz d, none, t)
    | some (.bf d) => some (.fz d, none, t)
    | some (.ow d) => if keep = true then some (.bw d, some k, t) else some (.fz d, none, t.set k (.fz d))
    | some (.bw d) => if keep = true then some (.bw d, some k, t) else some (.fz d, none, t.set k (.bf d))
    | _ => none)
def lentO (o : Op) (ls : List Nat) : Bool := match o with
  | .i k => ls.contains k
  | .v _ => false
def passA : List Bool → List Op → List Nat → St → Option (St × List (Option Nat) × St)
  | _, [], _, t => some ([], [], t)
  | ks, o :: os, ls, t => if lentO o ls = true then none else (pass1 (ks.headD false) o t).bind fun p =>
    (passA ks.tail os (p.2.1.toList ++ ls) p.2.2).map fun q => (p.1 :: q.1, p.2.1 :: q.2.1, q.2.2)
/-- behind the call -/
def back1 (l : Option Nat) (s : Sl) (t : St) : Option St := match l with
  | none => some t
  | some k => (match t[k]?, s with
    | some (.ow _), .bw d => some (t.set k (.ow d))
    | some (.ow _), .bf d => some (t.set k (.fz d))
    | some (.bw _), .bw d => some (t.set k (.bw d))
    | some (.bw _), .bf d => some (t.set k (.bf d))
    | _, _ => none)
def backA : List (Option Nat) → St → St → Option St
  | [], _, t => some t
  | l :: ls, s :: ss, t => (back1 l s t).bind fun t' => backA ls ss t'
  | _ :: _, [], _ => none

def wipeS (t : St) : List Nat → St
  | [] => t
  | v :: vs => (wipeS t vs).set v .un
def restS (t t0 : St) : List Nat → St
  | [] => t
  | v :: vs => (restS t t0 vs).set v (t0.getD v .un)

/-- a walk's list that stands in a slot is lent to the loop -/
def lend (l : Option Nat) (t : St) : Option St := match l with
  | none => some t
  | some k => (match t[k]? with
    | some (.ow d) => some (t.set k (.ln false d))
    | some (.bw d) => some (t.set k (.ln true d))
    | some (.ln _ _) => some t
    | _ => none)
open Classical in
noncomputable def unlend (l : Option Nat) (t0 t : St) : Option St := match l with
  | none => some t
  | some k => (match t0[k]? with
    | some (.ow d) => if t[k]? = some (.ln false d) then some (t.set k (.ow d)) else none
    | some (.bw d) => if t[k]? = some (.ln true d) then some (t.set k (.bw d)) else none
    | some (.ln b d) => if t[k]? = some (.ln b d) then some t else none
    | _ => none)
/-- the items of a walk over a value; the slot that is lent -/
def walkOp (o : Op) (t : St) : Option (List D × Option Nat) := match o with
  | .v d => (sqD d).map fun l => (l, none)
  | .i k => (match t[k]? with
    | some (.fz d) => (sqD d).map fun l => (l, none)
    | some (.bf d) => (sqD d).map fun l => (l, none)
    | some (.ow d) => (sqD d).map fun l => (l, some k)
    | some (.bw d) => (sqD d).map fun l => (l, some k)
    | some (.ln _ d) => (sqD d).map fun l => (l, some k)
    | _ => none)

/-- a comprehension's turns -/
def lcLoop (turn : D → St → R (List D)) : List D → St → R (List D)
  | [], t => .ok [] t
  | x :: xs, t => (turn x t).bind fun a t1 => (lcLoop turn xs t1).bind fun r t2 => .ok (a ++ r) t2
def noRs {α : Type} : R α → R α
  | .rs _ _ => .bad
  | r => r

section
variable (P : Pr) (cs : Cs) (hot : Bool)
def opnV (i : Nat) (t : St) : R Op := match t[i]? with
  | some .un => .bad
  | some _ => .ok (.i i) t
  | none => .bad
theorem opnV_ok {i : Nat} {t : St} {s : Sl} (h : t[i]? = some s) (n : s ≠ .un) : opnV i t = .ok (.i i) t := by
  unfold opnV
  rw [h]
  cases s <;> first | exact absurd rfl n | rfl
/-- an operand -/
def opn (e : E) (r : St → R Rv) : St → R Op := match e with
  | .var i => opnV i
  | _ => fun t => (r t).bind fun v t => .ok (.v v.1) t

/-! the pieces of an evaluation -/
def trR (r : R Rv) : R Bool := r.bind fun v t => .ok (truth v.1) t
def rdO (o : Op) (t : St) : R D := R.of (rd o t) t
noncomputable def kBin (op : Bop) (a b : St → R Op) (t : St) : R Rv := (a t).bind fun x t => (b t).bind fun y t => R.of ((rd x t).bind fun u => (rd y t).bind fun w => (bop op u w).map flag) t
def kNeg (a : St → R Op) (t : St) : R Rv := (a t).bind fun x t => R.of ((rd x t).bind fun d => match d with
  | .int i => some (.int (-i), false)
  | _ => none) t
def kNot (a : St → R Op) (t : St) : R Rv := (a t).bind fun x t => R.of ((rd x t).map fun d => (.bool (!truth d), false)) t
noncomputable def kCmp (op : Cop) (a b : St → R Op) (t : St) : R Rv := (a t).bind fun x t => (b t).bind fun y t => R.of ((rd x t).bind fun u => (rd y t).bind fun w => (cop op u w).map fun d => (d, false)) t
noncomputable def kCmpT (op : Cop) (a b : St → R Op) (t : St) : R Bool := (a t).bind fun x t => (b t).bind fun y t => R.of ((rd x t).bind fun u => (rd y t).bind fun w => (cop op u w).map truth) t
noncomputable def kCmp2 (op op' : Cop) (a b c : St → R Op) (t : St) : R Rv := (a t).bind fun x t => (b t).bind fun y t => (R.of ((rd x t).bind fun u => (rd y t).bind fun w => cop op u w) t).bind fun d t =>
  if truth d = true then (c t).bind fun z t => R.of ((rd y t).bind fun u => (rd z t).bind fun w => (cop op' u w).map fun d => (d, false)) t else .ok (.bool false, false) t
noncomputable def kCmp2T (op op' : Cop) (a b c : St → R Op) (t : St) : R Bool := (a t).bind fun x t => (b t).bind fun y t => (R.of ((rd x t).bind fun u => (rd y t).bind fun w => cop op u w) t).bind fun d t =>
  if truth d = true then (c t).bind fun z t => R.of ((rd y t).bind fun u => (rd z t).bind fun w => (cop op' u w).map truth) t else .ok false t
def kIx (a b : St → R Op) (t : St) : R Rv := (a t).bind fun x t => (b t).bind fun y t => R.of ((rd x t).bind fun u => (rd y t).bind fun w => (ixD u w).map fun d => (d, false)) t
def kSl (a : St → R Op) (lo hi : St → R (Option Int)) (t : St) : R Rv := (a t).bind fun x t => (lo t).bind fun l t => (hi t).bind fun h t => R.of ((rd x t).bind fun u => (slD u l h).map flag) t
def kRev (a : St → R Op) (t : St) : R Rv := (a t).bind fun x t => R.of ((rd x t).bind fun u => (revD u).map flag) t
def kFin (ls : List (Option Nat)) (t : St) (c : CR) : R Rv := match c with
  | .ok v fin => (R.of (backA ls fin t) t).bind fun t' _ => .ok v t'
  | .rs x fin => (match backA ls fin t with
    | some t' => .rs x t'
    | none => .bad)
  | .bad => .bad
def kCall (f : Option Df) (c : St → CR) (as : St → R (List Op)) (t : St) : R Rv := (as t).bind fun os t => (R.of (f.bind fun f => passA f.keep os [] t) t).bind fun p _ => kFin p.2.1 p.2.2 (c p.1)
def rdA (os : List Op) (t : St) : Option (List D) := match os with
  | [] => some []
  | o :: os => (rd o t).bind fun d => (rdA os t).map fun l => d :: l
def kBi (f : Bf) (as : St → R (List Op)) (t : St) : R Rv := (as t).bind fun os t => R.of ((rdA os t).bind fun xs => (biD f xs).map flag) t
def strOp (x : Op) (t : St) : Option Str := match rd x t with
  | some (.str a) => some a
  | _ => none
def kMe (m : Mf) (a : St → R Op) (as : St → R (List Op)) (t : St) : R Rv := (a t).bind fun x t => (R.of (strOp x t) t).bind fun s t => (as t).bind fun os t => R.of ((rdA os t).bind fun xs => (meD m (.str s) xs).map flag) t
def kKeys (a : St → R Op) (t : St) : R Rv := (a t).bind fun x t => R.of ((rd x t).bind fun u => (keysD u).map fun l => (.list l, true)) t
def kVals (a : St → R Op) (t : St) : R Rv := (a t).bind fun x t => R.of ((rd x t).bind fun u => (valsD u).map fun l => (.list l, true)) t
def kPop (i : Nat) (t : St) : R Rv := match t[i]? with
  | some (.ow (.list l)) => (match l.getLast? with
    | some d => .ok (d, false) (t.set i (.ow (.list l.dropLast)))
    | none => .bad)
  | some (.bw (.list l)) => (match l.getLast? with
    | some d => .ok (d, false) (t.set i (.bw (.list l.dropLast)))
    | none => .bad)
  | _ => .bad
/-- a list of this frame's own stands in the slot -/
def isLs (i : Nat) (t : St) : Option Unit := match t[i]? with
  | some (.ow (.list _)) => some ()
  | some (.bw (.list _)) => some ()
  | _ => none
def appE (i : Nat) (v : Rv) (t : St) : R Rv := match t[i]? with
  | some (.ow (.list l)) => if l.length < cap then .ok (.none, false) (t.set i (.ow (.list (l ++ [v.1])))) else .bad
  | some (.bw (.list l)) => if l.length < cap then .ok (.none, false) (t.set i (.bw (.list (l ++ [v.1])))) else .bad
  | _ => .bad
def popiE (i : Nat) (v : Rv) (t : St) : R Rv := match t[i]?, v.1 with
  | some (.ow (.list l)), .int z => (match place l.length z with
    | some j => (match l[j]? with
      | some d => .ok (d, false) (t.set i (.ow (.list (l.eraseIdx j))))
      | none => .bad)
    | none => .bad)
  | some (.bw (.list l)), .int z => (match place l.length z with
    | some j => (match l[j]? with
      | some d => .ok (d, false) (t.set i (.bw (.list (l.eraseIdx j))))
      | none => .bad)
    | none => .bad)
  | _, _ => .bad
def kPopi (i : Nat) (a : St → R Rv) (t : St) : R Rv := (R.of (isLs i t) t).bind fun _ t => (a t).bind (popiE i)
def kApp (i : Nat) (a : St → R Rv) (t : St) : R Rv := (R.of (isLs i t) t).bind fun _ t => (a t).bind (appE i)
def extE (i : Nat) (v : Rv) (t : St) : R Rv := match t[i]?, v.1 with
  | some (.ow (.list l)), .list m => if l.length + m.length ≤ cap then .ok (.none, false) (t.set i (.ow (.list (l ++ m)))) else .bad
  | some (.bw (.list l)), .list m => if l.length + m.length ≤ cap then .ok (.none, false) (t.set i (.bw (.list (l ++ m)))) else .bad
  | _, _ => .bad
def kExt (i : Nat) (a : St → R Rv) (t : St) : R Rv := (R.of (isLs i t) t).bind fun _ t => (a t).bind (extE i)
def isiO (P : Pr) (cls : List Cl) (t : St) : Op → Option D
  | .v d => isClD cls d
  | .i i => (t[i]?).bind (isClS P cls)
def kIsi (P : Pr) (a : St → R Op) (cls : List Cl) (t : St) : R Rv := (a t).bind fun x t => R.of ((isiO P cls t x).map fun d => (d, false)) t
def fldD (P : Pr) (f : Nat) (s : Sl) : Option D := match s with
  | .ex x => if (P.fld x.c).contains f = true ∧ (P.sup x.c).contains x.c = true then x.fs.lookup f else none
  | _ => none
def kFld (P : Pr) (i f : Nat) (t : St) : R Rv := R.of (((t[i]?).bind (fldD P f)).map fun d => (d, false)) t
noncomputable def kLcEnd (own : List Nat) (l : Option Nat) (t t1 : St) (r : R (List D)) : R Rv := (noRs r).bind fun ds t2 => (R.of (unlend l t (restS t2 t1 own)) t2).bind fun t3 _ => if ds.length ≤ cap then .ok (.list ds, true) t3 else .bad
/-- one turn of a comprehension: the target, the test, what follows -/
def kTurn (own : List Nat) (tg : Tg) (cond : St → R Bool) (body : St → R (List D)) (x : D) (t : St) : R (List D) := (R.of (asgT tg x t) t).bind fun t _ => (cond t).bind fun b t => if b = true then (body t).bind fun l t => .ok l (wipeS t own) else .ok [] (wipeS t own)
noncomputable def kLc (own : List Nat) (it : St → R (List D × Option Nat)) (turn : D → St → R (List D)) (t : St) : R Rv := (it t).bind fun w t => (R.of (lend w.2 t) t).bind fun t1 _ => kLcEnd own w.2 t t1 (lcLoop turn w.1 (wipeS t1 own))
noncomputable def kLcIn (own1 : List Nat) (it : St → R (List D × Option Nat)) (turn : D → St → R (List D)) (t : St) : R (List D) := (it t).bind fun w t => match w.2 with
  | none => lcLoop turn w.1 (wipeS t own1)
  | some _ => .bad
def rngE (os : List Op) (t : St) : R (List D × Option Nat) := R.of ((rdA os t).bind fun xs => (rngD xs).map fun l => (l, none)) t
def zipE (f : List D → List D) (x y : Op) (t : St) : R (List D × Option Nat) := R.of ((walkOp x t).bind fun u => (walkOp y t).bind fun w => if u.2 = none ∧ w.2 = none then some (f (zipD u.1 w.1), none) else none) t
def kVar (i : Nat) (t : St) : R Rv := (R.of ((t[i]?).bind fzS) t).bind fun p t => .ok (p.1, false) (t.set i p.2)
def kSh (a : St → R Rv) (t : St) : R Rv := (a t).bind fun v t => .ok (v.1, false) t
def gd (hot : Bool) {α : Type} (f : St → R α) : St → R α := if hot = true then fun _ => .bad else f

mutual
noncomputable def evE : E → St → R Rv
  | .bad => fun _ => .bad
  | .var i => kVar i
  | .c d => fun t => .ok (d, false) t
  | .g k => fun t => R.of ((P.gl k).map fun d => (d, false)) t
  | .bin op a b => kBin op (opn a (evE a)) (opn b (evE b))
  | .neg a => kNeg (opn a (evE a))
  | .not a => kNot (opn a (evE a))
  | .cmp op a b => kCmp op (opn a (evE a)) (opn b (evE b))
  | .cmp2 op op' a b c => kCmp2 op op' (opn a (evE a)) (opn b (evE b)) (opn c (evE c))
  | .and es => evAnd es
  | .or es => evOr es
  | .ife c a b => fun t => (evT c t).bind fun k t => if k = true then kSh (evE a) t else kSh (evE b) t
  | .tup es => fun t => (evEs es t).bind fun l t => if l.length ≤ 1000 then .ok (.tuple l, false) t else .bad
  | .lst es => fun t => (evEs es t).bind fun l t => if l.length ≤ 1000 then .ok (.list l, true) t else .bad
  | .dic0 => fun t => .ok (.dict [], true) t
  | .ix a b => kIx (opn a (evE a)) (opn b (evE b))
  | .sl a lo hi => kSl (opn a (evE a)) (evO lo) (evO hi)
  | .rev a => kRev (opn a (evE a))
  | .call k es => gd hot (kCall (P.df k) (cs k) (evAs es))
  | .bi f es => gd hot (kBi f (evAs es))
  | .me m a es => gd hot (kMe m (opn a (evE a)) (evAs es))
  | .lkeys a => gd hot (kKeys (opn a (evE a)))
  | .lvals a => gd hot (kVals (opn a (evE a)))
  | .pop i => gd hot (kPop i)
  | .popi i a => gd hot (kPopi i (kSh (evE a)))
  | .app i a => gd hot (kApp i (kSh (evE a)))
  | .ext i a => gd hot (kExt i (kSh (evE a)))
  | .isi a cls => kIsi P (opn a (evE a)) cls
  | .fld i f => kFld P i f
  | .lc elt own tg it cds => gd hot (kLc own (evIt it) (kTurn own tg (evCs cds) (fun t => (evE elt t).bind fun v t => .ok [v.1] t)))
  | .lc2 elt own tg it cds own1 tg1 it1 cds1 => gd hot (kLc own (evIt it) (kTurn own tg (evCs cds) (kLcIn own1 (evIt it1) (kTurn own1 tg1 (evCs cds1) (fun t => (evE elt t).bind fun v t => .ok [v.1] t)))))
/-- truth of a test -/
noncomputable def evT : E → St → R Bool
  | .not a => fun t => (evT a t).bind fun b t => .ok (!b) t
  | .and es => evTAnd es
  | .or es => evTOr es
  | .var i => fun t => R.of (((t[i]?).bind rdS).map truth) t
  | .cmp op a b => kCmpT op (opn a (evE a)) (opn b (evE b))
  | .cmp2 op op' a b c => kCmp2T op op' (opn a (evE a)) (opn b (evE b)) (opn c (evE c))
  | .c d => fun t => .ok (truth d) t
  | .g k => fun t => R.of ((P.gl k).map truth) t
  | .ix a b => fun t => trR (kIx (opn a (evE a)) (opn b (evE b)) t)
  | .call k es => fun t => trR (gd hot (kCall (P.df k) (cs k) (evAs es)) t)
  | .bi f es => fun t => trR (gd hot (kBi f (evAs es)) t)
  | .me m a es => fun t => trR (gd hot (kMe m (opn a (evE a)) (evAs es)) t)
  | .isi a cls => fun t => trR (kIsi P (opn a (evE a)) cls t)
  | .fld i f => fun t => trR (kFld P i f t)
  | _ => fun _ => .bad
noncomputable def evTAnd : Es → St → R Bool
  | .nil => fun _ => .bad
  | .cons e .nil => evT e
  | .cons e (.cons e' es) => fun t => (evT e t).bind fun b t => if b = true then evTAnd (.cons e' es) t else .ok false t
noncomputable def evTOr : Es → St → R Bool
  | .nil => fun _ => .bad
  | .cons e .nil => evT e
  | .cons e (.cons e' es) => fun t => (evT e t).bind fun b t => if b = true then .ok true t else evTOr (.cons e' es) t
noncomputable def evAnd : Es → St → R Rv
  | .nil => fun _ => .bad
  | .cons e .nil => kSh (evE e)
  | .cons e (.cons e' es) => fun t => (kSh (evE e) t).bind fun v t => if truth v.1 = true then evAnd (.cons e' es) t else .ok (v.1, false) t
noncomputable def evOr : Es → St → R Rv
  | .nil => fun _ => .bad
  | .cons e .nil => kSh (evE e)
  | .cons e (.cons e' es) => fun t => (kSh (evE e) t).bind fun v t => if truth v.1 = true then .ok (v.1, false) t else evOr (.cons e' es) t
noncomputable def evEs : Es → St → R (List D)
  | .nil => fun t => .ok [] t
  | .cons e es => fun t => (kSh (evE e) t).bind fun v t => (evEs es t).bind fun l t => .ok (v.1 :: l) t
noncomputable def evAs : Es → St → R (List Op)
  | .nil => fun t => .ok [] t
  | .cons e es => fun t => (opn e (evE e) t).bind fun o t => (evAs es t).bind fun l t => .ok (o :: l) t
noncomputable def evCs : Es → St → R Bool
  | .nil => fun t => .ok true t
  | .cons e .nil => evT e
  | .cons _ (.cons _ _) => fun _ => .bad
noncomputable def evO : O → St → R (Option Int)
  | .no => fun t => .ok none t
  | .so e => fun t => (opn e (evE e) t).bind fun x t => R.of ((rd x t).bind fun d => match d with
    | .int i => some (some i)
    | _ => none) t
noncomputable def evIt : It → St → R (List D × Option Nat)
  | .bad => fun _ => .bad
  | .of e => fun t => (opn e (evE e) t).bind fun x t => R.of (walkOp x t) t
  | .rng1 a => fun t => (opn a (evE a) t).bind fun x t => rngE [x] t
  | .rng2 a b => fun t => (opn a (evE a) t).bind fun x t => (opn b (evE b) t).bind fun y t => rngE [x, y] t
  | .rng3 a b c => fun t => (opn a (evE a) t).bind fun x t => (opn b (evE b) t).bind fun y t => (opn c (evE c) t).bind fun z t => rngE [x, y, z] t
  | .enum e => fun t => (opn e (evE e) t).bind fun x t => R.of ((walkOp x t).map fun w => (enumD w.1, w.2)) t
  | .zip a b => fun t => (opn a (evE a) t).bind fun x t => (opn b (evE b) t).bind fun y t => zipE id x y t
  | .enz a b => fun t => (opn a (evE a) t).bind fun x t => (opn b (evE b) t).bind fun y t => zipE enumD x y t
end
end
end Mp

/-! Part 2: statements, defs. -/
namespace Mp
open PySem
inductive Fl where
  | nx (t : St)
  | rt (v : Rv) (t : St)
  | bk (t : St)
  | ct (t : St)
  | rs (x : Ex) (t : St)
  | bad
namespace Fl
def seq (a : Fl) (k : St → Fl) : Fl := match a with
  | .nx t => k t
  | a => a
@[simp] theorem seq_nx (t : St) (k : St → Fl) : (Fl.nx t).seq k = k t := (rfl)
@[simp] theorem seq_rt (v : Rv) (t : St) (k : St → Fl) : (Fl.rt v t).seq k = .rt v t := (rfl)
@[simp] theorem seq_bk (t : St) (k : St → Fl) : (Fl.bk t).seq k = .bk t := (rfl)
@[simp] theorem seq_ct (t : St) (k : St → Fl) : (Fl.ct t).seq k = .ct t := (rfl)
@[simp] theorem seq_rs (x : Ex) (t : St) (k : St → Fl) : (Fl.rs x t).seq k = .rs x t := (rfl)
@[simp] theorem seq_bad (k : St → Fl) : (Fl.bad).seq k = .bad := (rfl)
end Fl
def R.fl {α : Type} (r : R α) (k : α → St → Fl) : Fl := match r with
  | .ok a t => k a t
  | .rs x t => .rs x t
  | .bad => .bad
@[simp] theorem R.fl_ok {α : Type} (a : α) (t : St) (k : α → St → Fl) : (R.ok a t).fl k = k a t := (rfl)
@[simp] theorem R.fl_rs {α : Type} (x : Ex) (t : St) (k : α → St → Fl) : (R.rs x t : R α).fl k = .rs x t := (rfl)
@[simp] theorem R.fl_bad {α : Type} (k : α → St → Fl) : (R.bad : R α).fl k = .bad := (rfl)
def nxO (o : Option St) : Fl := match o with
  | some t => .nx t
  | none => .bad
@[simp] theorem nxO_some (t : St) : nxO (some t) = .nx t := (rfl)
@[simp] theorem nxO_none : nxO none = .bad := (rfl)

/-- a for's turns -/
def forLoop (turn : D → St → Fl) : List D → St → Fl
  | [], t => .nx t
  | x :: xs, t => (match turn x t with
    | .nx t' => forLoop turn xs t'
    | .ct t' => forLoop turn xs t'
    | .bk t' => .nx t'
    | r => r)
/-- the lent list comes back, however the loop ends -/
noncomputable def unlendF (l : Option Nat) (t0 : St) (f : Fl) : Fl := match f with
  | .nx t => nxO (unlend l t0 t)
  | .rt v t => (match unlend l t0 t with | some t' => .rt v t' | none => .bad)
  | .rs x t => (match unlend l t0 t with | some t' => .rs x t' | none => .bad)
  | .bk t => .bad
  | .ct t => .bad
  | .bad => .bad
/-- a while's turns -/
def whlLoop (test : St → R Bool) (body : St → Fl) : Nat → St → Fl
  | 0, _ => .bad
  | n + 1, t => (test t).fl fun b t => if b = true then (match body t with
    | .nx t' => whlLoop test body n t'
    | .ct t' => whlLoop test body n t'
    | .bk t' => .nx t'
    | r => r) else .nx t
def wfuel : Nat := 2 ^ 62

/-- the returned value: a local list that the frame owns moves out -/
def retE (np : Nat) (e : E) (ev : St → R Rv) (t : St) : Fl := match e with
  | .var i => (match t[i]? with
    | some (.ow d) => .rt (d, true) (t.set i .un)
    | _ => (ev t).fl fun v t => .rt v t)
  | _ => (ev t).fl fun v t => .rt v t

def mkEx (fs : List Nat) (k : Nat) (ds : List D) : Option Ex := if ds.length = fs.length then some ⟨k, fs.zip ds⟩ else none

/-- xs[i] = value, xs a list of the frame's own or of the caller's -/
def setE (i : Nat) (v : D) (y : Op) (t : St) : Fl := match t[i]?, rd y t with
  | some (.ow (.list l)), some (.int z) => (match place l.length z with
    | some j => .nx (t.set i (.ow (.list (l.set j v))))
    | none => .bad)
  | some (.bw (.list l)), some (.int z) => (match place l.length z with
    | some j => .nx (t.set i (.bw (.list (l.set j v))))
    | none => .bad)
  | _, _ => .bad
def setF (i : Nat) (ev : St → R Rv) (evb : St → R Op) (t : St) : Fl := (kSh ev t).fl fun v t => (R.of (isLs i t) t).fl fun _ t => (evb t).fl fun y t => setE i v.1 y t
/-- a turn of a for -/
def forT (g : Tg) (body : St → Fl) (x : D) (t : St) : Fl := match asgT g x t with
  | none => .bad
  | some t => body t
noncomputable def forE (g : Tg) (it : St → R (List D × Option Nat)) (body : St → Fl) (t : St) : Fl := (it t).fl fun w t => match lend w.2 t with
  | none => .bad
  | some t1 => unlendF w.2 t (forLoop (forT g body) w.1 t1)
/-- a target gets a value -/
def asgF (tg : Tg) (ev : St → R Rv) : St → Fl := match tg with
  | .nm i => fun t => (ev t).fl fun v t => nxO (asgN i v t)
  | .tp gs => fun t => (kSh ev t).fl fun v t => nxO (asgT (.tp gs) v.1 t)
def ifF (ec : St → R Bool) (a b : St → Fl) (t : St) : Fl := (ec t).fl fun k t => if k = true then a t else b t
def exF (ev : St → R Rv) (t : St) : Fl := (ev t).fl fun _ t => .nx t
def raiseF (P : Pr) (k : Nat) (ev : St → R (List D)) (t : St) : Fl := (ev t).fl fun ds t => match mkEx (P.fld k) k ds with
  | some x => .rs x t
  | none => .bad
/-- a, b = x, y; a, b, c = x, y, z -/
def parA : List Nat → List D → St → Option St
  | [], [], t => some t
  | i :: is, d :: ds, t => (asgN i (d, false) t).bind (parA is ds)
  | _, _, _ => none
def parF (is : List Nat) (ev : St → R (List D)) (t : St) : Fl := (ev t).fl fun ds t => nxO (parA is ds t)
/-- no caught exception stands in a slot -/
def isEx : Sl → Bool
  | .ex _ => true
  | _ => false
def noEx (t : St) : Bool := t.all fun s => !isEx s
def clS (t : St) (f : Fl) : Fl := if noEx t = true then f else .bad
def dropI (i : Option Nat) (t : St) : St := match i with
  | none => t
  | some i => t.set i .un
/-- behind a suite: the exception's name goes -/
def offS (i : Option Nat) (f : Fl) : Fl := match f with
  | .nx t => clS (dropI i t) (.nx (dropI i t))
  | .bk t => clS (dropI i t) (.bk (dropI i t))
  | .ct t => clS (dropI i t) (.ct (dropI i t))
  | .rt v t => clS (dropI i t) (.rt v (dropI i t))
  | _ => .bad
def exSl (i : Option Nat) (x : Ex) (t : St) : Option St := match i with
  | none => some t
  | some i => (match t[i]? with
    | some .un => some (t.set i (.ex x))
    | _ => none)
/-- the suites of a try -/
def hdF (P : Pr) (c : Cl) (nm : Option Nat) (suite : St → Fl) (x : Ex) (rest : St → Fl) (t : St) : Fl :=
  if isX P c = true ∧ (P.sup x.c).contains x.c = true then (if isExc P x.c c = true then (match exSl nm x t with
    | some t' => offS nm (suite t')
    | none => .bad) else rest t) else .bad
def tryF (body : St → Fl) (hs : Ex → St → Fl) (t : St) : Fl := match body t with
  | .rs x t' => hs x t'
  | r => r
def gdF (hot : Bool) (f : St → Fl) : St → Fl := if hot = true then fun _ => .bad else f

/-- x op= y: numbers -/
def augD (op : Bop) (x y : D) : Option D := match op, x, y with
  | .add, .int a, .int b => some (.int (a + b))
  | .sub, .int a, .int b => some (.int (a - b))
  | _, _, _ => none
def augF (i : Nat) (op : Bop) (ev : St → R Rv) (t : St) : Fl := (R.of ((t[i]?).bind rdS) t).fl fun x t => (kSh ev t).fl fun v t => (R.of (augD op x v.1) t).fl fun d t => nxO (asgN i (d, false) t)
section
variable (P : Pr) (cs : Cs)
mutual
noncomputable def exS (hot : Bool) : Sm → St → Fl
  | .bad => fun _ => .bad
  | .asg tg e => asgF tg (evE P cs hot e)
  | .par is es => gdF hot (parF is (evEs P cs hot es))
  | .aug i op e => gdF hot (augF i op (evE P cs hot e))
  | .set i b e => gdF hot (setF i (evE P cs hot e) (opn b (evE P cs hot b)))
  | .ex e => exF (evE P cs hot e)
  | .ret e => retE 0 e (evE P cs hot e)
  | .ret0 => fun t => .rt (.none, false) t
  | .ite c a b => ifF (evT P cs hot c) (exSs hot a) (exSs hot b)
  | .whl c b => gdF hot (whlLoop (evT P cs hot c) (exSs hot b) wfuel)
  | .for_ tg it b => gdF hot (forE tg (evIt P cs hot it) (exSs hot b))
  | .brk => Fl.bk
  | .cnt => Fl.ct
  | .pass => Fl.nx
  | .raise k es => gdF hot (raiseF P k (evEs P cs hot es))
  | .try_ b hs => gdF hot (tryF (exSs hot b) (exHs hs))
noncomputable def exSs (hot : Bool) : Ss → St → Fl
  | .nil => Fl.nx
  | .cons s r => fun t => (exS hot s t).seq (exSs hot r)
noncomputable def exHs : Hs → Ex → St → Fl
  | .nil => fun x t => .rs x t
  | .cons cls nm b r => fun x t => hdF P cls nm (exSs true b) x (exHs r x) t
end
/-- what a def hands back of its parameters' slots -/
def fins (np : Nat) (f : Fl) : CR := match f with
  | .nx t => .ok (.none, false) (t.take np)
  | .rt v t => .ok v (t.take np)
  | .rs x t => .rs x (t.take np)
  | _ => .bad
noncomputable def callN : Nat → Cs
  | 0, _, _ => .bad
  | n + 1, k, args => (match P.df k with
    | none => .bad
    | some f => if args.length = f.np then fins f.np (exSs P (callN n) false f.body (args ++ List.replicate (f.ns - f.np) .un)) else .bad)
end
end Mp

/-! Part 3: how data lies in the heap. -/
namespace Mp
open PySem PySem.Spec PyProof.Rows L2

/-- slots of the layer -/
abbrev Sg := List (Option V)
def kD : Key → D
  | .inl i => .int i
  | .inr s => .str s
def keyOk : Key → Prop
  | .inl _ => True
  | .inr s => s.length ≤ cap ∧ PyData.strOk s = true

/-- a list: read in the heap, or in the written part -/
def SqE (K : PySem.W.Frag) (H : Hp) (a : Addr) (xs : List V) : Prop :=
  Rd H a (.lst xs) ∨ ∃ (its : Array Value) (n : Nat), K.lookup a = some { cls := .type "list", data := .seq its n } ∧ its.size ≤ sizeLine ∧ Vals xs its.toList
theorem SqE.l {K : PySem.W.Frag} {H : Hp} {a : Addr} {xs : List V} (h : SqE K H a xs) : SqL K H a xs := by
  rcases h with h | ⟨its, n, h1, h2, h3⟩
  · exact .inl h
  · exact .inr ⟨_, its, n, h1, rfl, rfl, rfl, h2, h3⟩
theorem SqE.obj {X : Cx} {pins : List (Addr × Obj)} {σ : L2.St} {H : Hp} {s : Shared} {a : Addr} {xs : List V} (h : SqE X.K H a xs) (I : Inv X pins σ H s) : ObjOk X.prog X.w H s.heap a (.lst xs) := by
  rcases h with h | ⟨its, n, h1, h2, h3⟩
  · exact h.ok I.hok
  · have e := h3.length
    simp only [Array.length_toList] at e
    exact ⟨by omega, its.toList, n, h3, by simpa using I.kIn a _ h1⟩
mutual
/-- v is the data d, by the heap F of what no one changes -/
inductive Rp (K : PySem.W.Frag) (F : Hp) : V → D → Prop
  | non : Rp K F .non .none
  | bl (b : Bool) : Rp K F (.bl b) (.bool b)
  | int (i : Int) : Rp K F (.int i) (.int i)
  | str (x : Str) (h : x.length ≤ cap) (o : PyData.strOk x = true) : Rp K F (.str x) (.str x)
  | lst {a : Addr} {xs : List V} {ds : List D} (h : SqE K F a xs) (r : Rps K F xs ds) (z : ds.length ≤ cap) : Rp K F (.ref a) (.list ds)
  | tup {a : Addr} {xs : List V} {ds : List D} (h : SqT K F a xs) (r : Rps K F xs ds) (z : ds.length ≤ cap) : Rp K F (.ref a) (.tuple ds)
  | dic {a : Addr} {kvs : List (Key × V)} {ds : List (D × D)} (h : F a = some (.dK kvs)) (r : Rpk K F kvs ds) (z : ds.length ≤ cap) : Rp K F (.ref a) (.dict ds)
inductive Rps (K : PySem.W.Frag) (F : Hp) : List V → List D → Prop
  | nil : Rps K F [] []
  | cons {v : V} {vs : List V} {d : D} {ds : List D} (h : Rp K F v d) (r : Rps K F vs ds) : Rps K F (v :: vs) (d :: ds)
inductive Rpk (K : PySem.W.Frag) (F : Hp) : List (Key × V) → List (D × D) → Prop
  | nil : Rpk K F [] []
  | cons {k : Key} {v : V} {vs : List (Key × V)} {d : D} {ds : List (D × D)} (ok : keyOk k) (h : Rp K F v d) (r : Rpk K F vs ds) : Rpk K F ((k, v) :: vs) ((kD k, d) :: ds)
end

def Sub (F F' : Hp) : Prop := ∀ a o, F a = some o → F' a = some o
theorem Sub.refl (F : Hp) : Sub F F := fun _ _ h => h
theorem Sub.trans {F G H : Hp} (a : Sub F G) (b : Sub G H) : Sub F H := fun x o h => b x o (a x o h)
theorem Sub.rd {F F' : Hp} (s : Sub F F') {a : Addr} {u : HO} (h : Rd F a u) : Rd F' a u := by
  rcases h with h | ⟨o, h⟩
  · exact .inl (s _ _ h)
  · exact .inr ⟨o, s _ _ h⟩
theorem Sub.sqE {F F' : Hp} (s : Sub F F') {a : Addr} {xs : List V} {K : PySem.W.Frag} (h : SqE K F a xs) : SqE K F' a xs := by
  rcases h with h | h
  · exact .inl (s.rd h)
  · exact .inr h
theorem Sub.sqL {K : PySem.W.Frag} {F F' : Hp} (s : Sub F F') {a : Addr} {xs : List V} (h : SqL K F a xs) : SqL K F' a xs := by
  rcases h with h | h
  · exact .inl (s.rd h)
  · exact .inr h
theorem Sub.sqT {K : PySem.W.Frag} {F F' : Hp} (s : Sub F F') {a : Addr} {xs : List V} (h : SqT K F a xs) : SqT K F' a xs := by
  rcases h with h | h
  · exact .inl (s.rd h)
  · exact .inr h
theorem Sub.upd {F : Hp} {a : Addr} {o : HO} (h : F a = none) : Sub F (upd F a o) := fun b u e => by
  rw [upd_ne (ne_of_none e h)]; exact e

section
variable {K : PySem.W.Frag} {F F' : Hp}
mutual
theorem Rp.mono (s : Sub F F') : ∀ {d : D} {v : V}, Rp K F v d → Rp K F' v d
  | .none, _, h => by cases h; exact .non
  | .bool _, _, h => by cases h; exact .bl _
  | .int _, _, h => by cases h; exact .int _
  | .str _, _, h => by cases h with | str _ z o => exact .str _ z o
  | .list ds, _, h => by cases h with | lst h r z => exact .lst (s.sqE h) (Rps.mono s r) z
  | .tuple ds, _, h => by cases h with | tup h r z => exact .tup (s.sqT h) (Rps.mono s r) z
  | .dict ds, _, h => by cases h with | dic h r z => exact .dic (s _ _ h) (Rpk.mono s r) z
theorem Rps.mono (s : Sub F F') : ∀ {ds : List D} {vs : List V}, Rps K F vs ds → Rps K F' vs ds
  | [], _, h => by cases h; exact .nil
  | d :: ds, _, h => by cases h with | cons h r => exact .cons (Rp.mono s h) (Rps.mono s r)
theorem Rpk.mono (s : Sub F F') : ∀ {ds : List (D × D)} {vs : List (Key × V)}, Rpk K F vs ds → Rpk K F' vs ds
  | [], _, h => by cases h; exact .nil
  | (_, d) :: ds, _, h => by cases h with | cons ok h r => exact .cons ok (Rp.mono s h) (Rpk.mono s r)
end
theorem Rps.length : ∀ {ds : List D} {vs : List V}, Rps K F vs ds → vs.length = ds.length
  | [], _, h => by cases h; rfl
  | d :: ds, _, h => by cases h with | cons h r => simp [Rps.length r]
theorem Rpk.length : ∀ {ds : List (D × D)} {vs : List (Key × V)}, Rpk K F vs ds → vs.length = ds.length
  | [], _, h => by cases h; rfl
  | (_, d) :: ds, _, h => by cases h with | cons ok h r => simp [Rpk.length r]
theorem Rps.get : ∀ {ds : List D} {vs : List V} {i : Nat} {d : D}, Rps K F vs ds → ds[i]? = some d → ∃ v, vs[i]? = some v ∧ Rp K F v d
  | [], _, _, _, h, e => by simp at e
  | x :: ds, _, 0, d, h, e => by
    cases h with | cons h r => simp at e; subst e; exact ⟨_, rfl, h⟩
  | x :: ds, _, i + 1, d, h, e => by
    cases h with | cons h r =>
      obtain ⟨v, e1, q⟩ := Rps.get (i := i) (d := d) r (by simpa using e)
      exact ⟨v, by simpa using e1, q⟩
theorem Rps.getV : ∀ {ds : List D} {vs : List V} {i : Nat} {v : V}, Rps K F vs ds → vs[i]? = some v → ∃ d, ds[i]? = some d ∧ Rp K F v d
  | [], _, _, _, h, e => by cases h; simp at e
  | x :: ds, _, 0, v, h, e => by
    cases h with | cons h r => simp at e; subst e; exact ⟨_, rfl, h⟩
  | x :: ds, _, i + 1, v, h, e => by
    cases h with | cons h r =>
      obtain ⟨d, e1, q⟩ := Rps.getV (i := i) (v := v) r (by simpa using e)
      exact ⟨d, by simpa using e1, q⟩
theorem Rps.append : ∀ {ds es : List D} {vs us : List V}, Rps K F vs ds → Rps K F us es → Rps K F (vs ++ us) (ds ++ es)
  | [], _, _, _, h, g => by cases h; exact g
  | d :: ds, _, _, _, h, g => by cases h with | cons h r => exact .cons h (Rps.append r g)
theorem Rps.take : ∀ {ds : List D} {vs : List V} (n : Nat), Rps K F vs ds → Rps K F (vs.take n) (ds.take n)
  | _, _, 0, h => by simp; exact .nil
  | [], _, n + 1, h => by cases h; exact .nil
  | d :: ds, _, n + 1, h => by cases h with | cons h r => exact .cons h (Rps.take n r)
theorem Rps.drop : ∀ {ds : List D} {vs : List V} (n : Nat), Rps K F vs ds → Rps K F (vs.drop n) (ds.drop n)
  | _, _, 0, h => by simpa using h
  | [], _, n + 1, h => by cases h; exact .nil
  | d :: ds, _, n + 1, h => by cases h with | cons h r => exact Rps.drop n r
theorem Rps.set {d : D} {v : V} (q : Rp K F v d) : ∀ {ds : List D} {vs : List V} (i : Nat), Rps K F vs ds → Rps K F (vs.set i v) (ds.set i d)
  | [], _, _, h => by cases h; exact .nil
  | x :: ds, _, 0, h => by cases h with | cons h r => exact .cons q r
  | x :: ds, _, i + 1, h => by cases h with | cons h r => exact .cons h (Rps.set q i r)
theorem Rps.one {d : D} {v : V} (q : Rp K F v d) : Rps K F [v] [d] := .cons q .nil
theorem Rps.reverse : ∀ {ds : List D} {vs : List V}, Rps K F vs ds → Rps K F vs.reverse ds.reverse
  | [], _, h => by cases h; exact .nil
  | d :: ds, _, h => by
    cases h with | cons h r =>
      rw [List.reverse_cons, List.reverse_cons]
      exact Rps.append (Rps.reverse r) (Rps.one h)
theorem Rps.flat (n : Nat) {ds : List D} {vs : List V} (h : Rps K F vs ds) : Rps K F (List.replicate n vs).flatten (List.replicate n ds).flatten := by
  induction n with
  | zero => exact .nil
  | succ n ih => rw [List.replicate_succ, List.replicate_succ, List.flatten_cons, List.flatten_cons]; exact Rps.append h ih
theorem Rps.dropLast {ds : List D} {vs : List V} (h : Rps K F vs ds) : Rps K F vs.dropLast ds.dropLast := by
  rw [List.dropLast_eq_take, List.dropLast_eq_take, h.length]
  exact h.take _
theorem Rp.inj {v : V} {d : D} (h : Rp K F v d) : True := trivial
mutual
theorem Rp.dp {H : Hp} (s : Sub F H) : ∀ {n : Nat} {d : D} {v : V}, plain n d = true → Rp K F v d → Dp K H v d
  | _, .none, _, _, h => by cases h; exact .non
  | _, .bool _, _, _, h => by cases h; exact .bl _
  | _, .int _, _, _, h => by cases h; exact .int _
  | _, .str _, _, _, h => by cases h with | str _ z o => exact .str _
  | 0, .list ds, _, p, h => by simp [plain] at p
  | n + 1, .list ds, _, p, h => by cases h with | lst h r z => exact .lst (s.sqE h).l (Rps.dp s (n := n) (by simpa [plain] using p) r)
  | 0, .tuple ds, _, p, h => by simp [plain] at p
  | n + 1, .tuple ds, _, p, h => by cases h with | tup h r z => exact .tup (s.sqT h) (Rps.dp s (n := n) (by simpa [plain] using p) r)
  | 0, .dict ds, _, p, h => by simp [plain] at p
  | n + 1, .dict ds, _, p, h => by simp [plain] at p
theorem Rps.dp {H : Hp} (s : Sub F H) : ∀ {n : Nat} {ds : List D} {vs : List V}, plains n ds = true → Rps K F vs ds → DpAll K H vs ds
  | _, [], _, _, h => by cases h; exact .nil
  | n, d :: ds, _, p, h => by
    cases h with | cons h r =>
      simp only [plains, Bool.and_eq_true] at p
      exact .cons (Rp.dp s p.1 h) (Rps.dp s p.2 r)
end
end

section
variable {K : PySem.W.Frag} {F : Hp}
mutual
theorem plain_lay : ∀ {n : Nat} {d : D} {v : V}, plain n d = true → Rp K F v d → d.canLay0 = true ∧ d.depth ≤ n
  | _, .none, _, _, _ => by simp [PyData.canLay0, PyData.depth]
  | _, .bool _, _, _, _ => by simp [PyData.canLay0, PyData.depth]
  | _, .int _, _, _, _ => by simp [PyData.canLay0, PyData.depth]
  | _, .str _, _, _, h => by
    cases h with | str _ z o => simp [PyData.canLay0, PyData.depth, o]
  | 0, .list ds, _, p, _ => by simp [plain] at p
  | n + 1, .list ds, _, p, h => by
    cases h with | lst h r z =>
    have q := plains_lay (n := n) (ds := ds) (by simpa [plain] using p) r
    simp only [PyData.canLay0, PyData.depth]
    exact ⟨q.1, by omega⟩
  | 0, .tuple ds, _, p, _ => by simp [plain] at p
  | n + 1, .tuple ds, _, p, h => by
    cases h with | tup h r z =>
    have q := plains_lay (n := n) (ds := ds) (by simpa [plain] using p) r
    simp only [PyData.canLay0, PyData.depth]
    exact ⟨q.1, by omega⟩
  | 0, .dict ds, _, p, _ => by simp [plain] at p
  | n + 1, .dict ds, _, p, _ => by simp [plain] at p
theorem plains_lay : ∀ {n : Nat} {ds : List D} {vs : List V}, plains n ds = true → Rps K F vs ds → PyData.canLayAll0 ds = true ∧ PyData.depthAll ds ≤ n
  | _, [], _, _, _ => by simp [PyData.canLayAll0, PyData.depthAll]
  | n, d :: ds, _, p, h => by
    cases h with | cons h r =>
    simp only [plains, Bool.and_eq_true] at p
    have q := plain_lay p.1 h
    have r := plains_lay p.2 r
    simp only [PyData.canLayAll0, PyData.depthAll, Bool.and_eq_true]
    exact ⟨⟨q.1, r.1⟩, by omega⟩
end
theorem pl_shaped {d : D} {v : V} (h : pl d = true) (r : Rp K F v d) : SeqAt.shaped d = true := by
  have q := plain_lay (n := 60) h r
  unfold SeqAt.shaped
  rw [q.1]
  simp
  omega
end
end Mp

/-! Part 4: a frame's slots over the heap. -/
namespace Mp
open PySem PySem.Spec PyProof.Rows L2

/-- where the program's own things stand -/
structure Tb where
  cl : Nat → Addr
  fn : Nat → Addr
  fnm : Nat → Str
  cnm : Nat → Str
  gnm : Nat → Str
  fld : Nat → Str

/-- what a list or dict that is held has -/
def Own (K : PySem.W.Frag) (F H : Hp) (a : Addr) : D → Prop
  | .list ds => F a = none ∧ ds.length ≤ cap ∧ ∃ xs, H a = some (.lst xs) ∧ Rps K F xs ds
  | .dict ds => F a = none ∧ ds.length ≤ cap ∧ ∃ kvs, H a = some (.dK kvs) ∧ Rpk K F kvs ds
  | _ => False

/-- a caught exception in a suite -/
def XR (T : Tb) (X : Cx) (F : Hp) (a : Addr) (x : Ex) : Prop :=
  X.calm = false ∧ ∃ oe dd fs, (a, oe) ∈ X.pn ∧ Zc (.ref (T.cl x.c)) (some dd) oe ∧ (∃ vs, oe.data = .fields vs) ∧ F dd = some (.xd fs) ∧
    ∀ k d, x.fs.lookup k = some d → ∃ v, fs.lookup (T.fld k) = some v ∧ Rp X.K F v d

/-- the fixed things of a frame: B, the caller's objects by slot -/
abbrev Bs := Nat → Addr

def SlR (T : Tb) (X : Cx) (B : Bs) (F H : Hp) (i : Nat) (o : Option V) : Sl → Prop
  | .un => True
  | .fz d => ∃ v, o = some v ∧ Rp X.K F v d
  | .ow d => ∃ a, o = some (.ref a) ∧ Own X.K F H a d
  | .bw d => ∃ a, o = some (.ref a) ∧ a = B i ∧ Own X.K F H a d
  | .bf d => ∃ a, o = some (.ref a) ∧ a = B i ∧ Rp X.K F (.ref a) d
  | .ln b d => ∃ a, o = some (.ref a) ∧ a = B i ∧ Own X.K F H a d
  | .ex x => ∃ a, o = some (.ref a) ∧ XR T X F a x

def isHd : Sl → Bool
  | .ow _ => true
  | .bw _ => true
  | .ln _ _ => true
  | _ => false
def isWr : Sl → Bool
  | .ow _ => true
  | .bw _ => true
  | _ => false
theorem isHd_of_wr {s : Sl} (h : isWr s = true) : isHd s = true := by cases s <;> first | rfl | (simp [isWr] at h)

/-- a state: what no one changes, the heap, the slots' data, the slots' values -/
structure Cf where
  F : Hp
  H : Hp
  t : Mp.St
  σ : Sg
def Cf.hd (c : Cf) (i : Nat) (a : Addr) : Prop := ∃ s, c.t[i]? = some s ∧ isHd s = true ∧ c.σ[i]? = some (some (.ref a))
def Cf.wr (c : Cf) (i : Nat) (a : Addr) : Prop := ∃ s, c.t[i]? = some s ∧ isWr s = true ∧ c.σ[i]? = some (some (.ref a))
def Cf.Hd (c : Cf) (a : Addr) : Prop := ∃ i, c.hd i a
def Cf.Wr (c : Cf) (a : Addr) : Prop := ∃ i, c.wr i a
theorem Cf.wr_hd {c : Cf} {i : Nat} {a : Addr} (h : c.wr i a) : c.hd i a := let ⟨s, e, w, q⟩ := h; ⟨s, e, isHd_of_wr w, q⟩
theorem Cf.Wr_Hd {c : Cf} {a : Addr} (h : c.Wr a) : c.Hd a := let ⟨i, h⟩ := h; ⟨i, Cf.wr_hd h⟩
def Cf.New (c : Cf) (a : Addr) : Prop := c.H a = none ∨ c.Wr a

structure Rl (T : Tb) (X : Cx) (B : Bs) (c : Cf) : Prop where
  sub : Sub c.F c.H
  len : c.t.length = c.σ.length
  at_ : ∀ i s, c.t[i]? = some s → SlR T X B c.F c.H i ((c.σ[i]?).getD none) s
  dis : ∀ i j a, c.hd i a → c.hd j a → i = j

/-- one state after another -/
structure Ext (c d : Cf) : Prop where
  fsub : Sub c.F d.F
  keep : ∀ a o, c.H a = some o → ¬ c.Wr a → d.H a = some o
  fnew : ∀ a o, d.F a = some o → c.F a = some o ∨ c.New a
  wr : ∀ a, d.Wr a → c.New a
  hd : ∀ a, d.Hd a → c.Hd a ∨ c.H a = none

theorem Ext.refl (c : Cf) : Ext c c := ⟨Sub.refl _, fun _ _ h _ => h, fun _ _ h => .inl h, fun _ h => .inr h, fun _ h => .inl h⟩
theorem Ext.new {c d : Cf} (e : Ext c d) {a : Addr} (h : d.New a) : c.New a := by
  rcases h with h | h
  · by_cases w : c.Wr a
    · exact .inr w
    · cases q : c.H a with
      | none => exact .inl q
      | some o => rw [e.keep a o q w] at h; cases h
  · exact e.wr a h
theorem Ext.trans {a b c : Cf} (x : Ext a b) (y : Ext b c) : Ext a c where
  fsub := x.fsub.trans y.fsub
  keep := fun p o h n => y.keep p o (x.keep p o h n) fun w => by
    rcases x.wr p w with z | z
    · rw [h] at z; cases z
    · exact n z
  fnew := fun p o h => by
    rcases y.fnew p o h with z | z
    · exact x.fnew p o z
    · exact .inr (x.new z)
  wr := fun p h => x.new (y.wr p h)
  hd := fun p h => by
    rcases y.hd p h with z | z
    · exact x.hd p z
    · rcases x.new (.inl z) with q | q
      · exact .inr q
      · exact .inl (Cf.Wr_Hd q)

section
variable {T : Tb} {X : Cx} {B : Bs} {c d : Cf}
theorem SlR.ofun {T : Tb} {X : Cx} {B : Bs} {F H : Hp} {i : Nat} {o : Option V} : SlR T X B F H i o .un := trivial
theorem Own.held {K : PySem.W.Frag} {F H : Hp} {a : Addr} {d : D} (h : Own K F H a d) : F a = none ∧ ∃ o, H a = some o := by
  cases d with
  | list ds => obtain ⟨f, _, xs, h, _⟩ := h; exact ⟨f, _, h⟩
  | dict ds => obtain ⟨f, _, xs, h, _⟩ := h; exact ⟨f, _, h⟩
  | _ => exact h.elim
theorem Own.mut {K : PySem.W.Frag} {F H : Hp} {a : Addr} {d : D} (h : Own K F H a d) : isMut d = true := by
  cases d <;> first | rfl | exact h.elim
/-- F grows, H keeps what is held -/
theorem Own.keep {K : PySem.W.Frag} {F F' H H' : Hp} {a : Addr} {d : D} (h : Own K F H a d) (s : Sub F F') (n : F' a = none) (k : ∀ o, H a = some o → H' a = some o) : Own K F' H' a d := by
  cases d with
  | list ds => obtain ⟨f, z, xs, h, r⟩ := h; exact ⟨n, z, xs, k _ h, r.mono s⟩
  | dict ds => obtain ⟨f, z, xs, h, r⟩ := h; exact ⟨n, z, xs, k _ h, r.mono s⟩
  | _ => exact h.elim
theorem XR.mono {F F' : Hp} {a : Addr} {x : Ex} (s : Sub F F') (h : XR T X F a x) : XR T X F' a x := by
  obtain ⟨hc, oe, dd, fs, h1, h2, h3, h4, h5⟩ := h
  refine ⟨hc, oe, dd, fs, h1, h2, h3, s _ _ h4, fun k d e => ?_⟩
  obtain ⟨v, e1, r⟩ := h5 k d e
  exact ⟨v, e1, r.mono s⟩
theorem SlR.keep {F F' H H' : Hp} {i : Nat} {o : Option V} {s : Sl} (h : SlR T X B F H i o s) (f : Sub F F')
    (n : ∀ a, isHd s = true → o = some (.ref a) → F a = none → F' a = none) (k : ∀ a u, isHd s = true → o = some (.ref a) → H a = some u → H' a = some u) : SlR T X B F' H' i o s := by
  cases s with
  | un => trivial
  | fz d => obtain ⟨v, e, r⟩ := h; exact ⟨v, e, r.mono f⟩
  | ow d => obtain ⟨a, e, r⟩ := h; exact ⟨a, e, r.keep f (n a rfl e r.held.1) fun u => k a u rfl e⟩
  | bw d => obtain ⟨a, e, b, r⟩ := h; exact ⟨a, e, b, r.keep f (n a rfl e r.held.1) fun u => k a u rfl e⟩
  | bf d => obtain ⟨a, e, b, r⟩ := h; exact ⟨a, e, b, r.mono f⟩
  | ln q d => obtain ⟨a, e, b, r⟩ := h; exact ⟨a, e, b, r.keep f (n a rfl e r.held.1) fun u => k a u rfl e⟩
  | ex x => obtain ⟨a, e, r⟩ := h; exact ⟨a, e, r.mono f⟩
theorem Rl.slot (R : Rl T X B c) {i : Nat} {s : Sl} (h : c.t[i]? = some s) : SlR T X B c.F c.H i ((c.σ[i]?).getD none) s := R.at_ i s h
theorem Rl.lt (R : Rl T X B c) {i : Nat} {s : Sl} (h : c.t[i]? = some s) : i < c.σ.length := by
  rw [← R.len]; exact (List.getElem?_eq_some_iff.mp h).1
/-- a slot whose value is known -/
theorem get_of {σ : Sg} {i : Nat} {v : V} (hi : i < σ.length) (h : (σ[i]?).getD none = some v) : σ[i]? = some (some v) := by
  rw [List.getElem?_eq_getElem hi] at h ⊢
  simpa using h
theorem Rl.val (R : Rl T X B c) {i : Nat} {s : Sl} (h : c.t[i]? = some s) (hs : s ≠ .un) : ∃ v, c.σ[i]? = some (some v) ∧ SlR T X B c.F c.H i (some v) s := by
  have q := R.slot h
  have hi := R.lt h
  have go : ∀ v, (c.σ[i]?).getD none = some v → ∃ v, c.σ[i]? = some (some v) ∧ SlR T X B c.F c.H i (some v) s := fun v e => by
    rw [e] at q
    exact ⟨v, get_of hi e, q⟩
  cases s with
  | un => exact absurd rfl hs
  | fz d => obtain ⟨v, e, _⟩ := q; exact go v e
  | ow d => obtain ⟨a, e, _⟩ := q; exact go _ e
  | bw d => obtain ⟨a, e, _⟩ := q; exact go _ e
  | bf d => obtain ⟨a, e, _⟩ := q; exact go _ e
  | ln b d => obtain ⟨a, e, _⟩ := q; exact go _ e
  | ex x => obtain ⟨a, e, _⟩ := q; exact go _ e
/-- a held slot's address -/
theorem Rl.heldAt (R : Rl T X B c) {i : Nat} {s : Sl} (h : c.t[i]? = some s) (hs : isHd s = true) : ∃ a, c.hd i a ∧ c.F a = none ∧ ∃ o, c.H a = some o := by
  obtain ⟨v, e, q⟩ := R.val h (by rintro rfl; exact absurd hs (by decide))
  cases s with
  | ow d => obtain ⟨a, e', r⟩ := q; cases e'; exact ⟨a, ⟨_, h, hs, e⟩, r.held⟩
  | bw d => obtain ⟨a, e', _, r⟩ := q; cases e'; exact ⟨a, ⟨_, h, hs, e⟩, r.held⟩
  | ln b d => obtain ⟨a, e', _, r⟩ := q; cases e'; exact ⟨a, ⟨_, h, hs, e⟩, r.held⟩
  | _ => simp [isHd] at hs
theorem Rl.held (R : Rl T X B c) {i : Nat} {a : Addr} (h : c.hd i a) : c.F a = none ∧ ∃ o, c.H a = some o := by
  obtain ⟨s, e, hs, q⟩ := h
  obtain ⟨b, ⟨_, _, _, q'⟩, r⟩ := R.heldAt e hs
  rw [q] at q'; cases q'
  exact r
theorem Rl.notHd (R : Rl T X B c) {a : Addr} (h : c.H a = none) : ¬ c.Hd a := fun ⟨i, q⟩ => by
  obtain ⟨_, o, e⟩ := R.held q
  rw [h] at e; cases e
theorem Rl.Fno (R : Rl T X B c) {a : Addr} (h : c.Hd a) : c.F a = none := let ⟨_, q⟩ := h; (R.held q).1
theorem Rl.FnoH (R : Rl T X B c) {a : Addr} (h : c.H a = none) : c.F a = none := by
  cases q : c.F a with
  | none => rfl
  | some o => have := R.sub a o q; rw [h] at this; cases this
/-- data of a readable slot, by the heap as it stands -/
inductive Vw (K : PySem.W.Frag) (F H : Hp) : V → D → Prop
  | fz {v : V} {d : D} (h : Rp K F v d) : Vw K F H v d
  | ow {a : Addr} {d : D} (h : Own K F H a d) : Vw K F H (.ref a) d
theorem Rl.read (R : Rl T X B c) {i : Nat} {s : Sl} {d : D} (h : c.t[i]? = some s) (hd : rdS s = some d) : ∃ v, c.σ[i]? = some (some v) ∧ Vw X.K c.F c.H v d := by
  obtain ⟨v, e, q⟩ := R.val h (by rintro rfl; cases hd)
  refine ⟨v, e, ?_⟩
  cases s with
  | un => cases hd
  | fz x => cases hd; obtain ⟨u, e', r⟩ := q; cases e'; exact .fz r
  | ow x => cases hd; obtain ⟨a, e', r⟩ := q; cases e'; exact .ow r
  | bw x => cases hd; obtain ⟨a, e', _, r⟩ := q; cases e'; exact .ow r
  | bf x => cases hd; obtain ⟨a, e', _, r⟩ := q; cases e'; exact .fz r
  | ln b x => cases hd; obtain ⟨a, e', _, r⟩ := q; cases e'; exact .ow r
  | ex x => cases hd
end
section
variable {K : PySem.W.Frag} {F H : Hp} {v : V}
/-- what a view gives: the list as it stands -/
theorem Vw.list {ds : List D} (s : Sub F H) (h : Vw K F H v (.list ds)) : ∃ a xs, v = .ref a ∧ SqE K H a xs ∧ Rps K F xs ds ∧ ds.length ≤ cap := by
  cases h with
  | fz h => cases h with | lst h r z => exact ⟨_, _, rfl, s.sqE h, r, z⟩
  | ow h => obtain ⟨_, z, xs, h, r⟩ := h; exact ⟨_, xs, rfl, .inl (Rd.of h), r, z⟩
theorem Vw.tuple {ds : List D} (s : Sub F H) (h : Vw K F H v (.tuple ds)) : ∃ a xs, v = .ref a ∧ SqT K H a xs ∧ Rps K F xs ds ∧ ds.length ≤ cap := by
  cases h with
  | fz h => cases h with | tup h r z => exact ⟨_, _, rfl, s.sqT h, r, z⟩
  | ow h => exact h.elim
theorem Vw.dict {ds : List (D × D)} (s : Sub F H) (h : Vw K F H v (.dict ds)) : ∃ a kvs, v = .ref a ∧ H a = some (.dK kvs) ∧ Rpk K F kvs ds ∧ ds.length ≤ cap := by
  cases h with
  | fz h => cases h with | dic h r z => exact ⟨_, _, rfl, s _ _ h, r, z⟩
  | ow h => obtain ⟨_, z, xs, h, r⟩ := h; exact ⟨_, xs, rfl, h, r, z⟩
theorem Vw.str {x : Str} (h : Vw K F H v (.str x)) : v = .str x ∧ x.length ≤ cap ∧ PyData.strOk x = true := by
  cases h with
  | fz h => cases h with | str _ z o => exact ⟨rfl, z, o⟩
  | ow h => exact h.elim
theorem Vw.int {i : Int} (h : Vw K F H v (.int i)) : v = .int i := by
  cases h with
  | fz h => cases h; rfl
  | ow h => exact h.elim
theorem Vw.bool {b : Bool} (h : Vw K F H v (.bool b)) : v = .bl b := by
  cases h with
  | fz h => cases h; rfl
  | ow h => exact h.elim
theorem Vw.none (h : Vw K F H v .none) : v = .non := by
  cases h with
  | fz h => cases h; rfl
  | ow h => exact h.elim
theorem Vw.dp {d : D} (s : Sub F H) (p : pl d = true) (h : Vw K F H v d) : Dp K H v d ∧ SeqAt.shaped d = true := by
  cases h with
  | fz h => exact ⟨h.dp s p, pl_shaped p h⟩
  | @ow a d h =>
    cases d with
    | list ds =>
      obtain ⟨_, z, xs, e, r⟩ := h
      have p' : plains 59 ds = true := by simpa [pl, plain] using p
      refine ⟨.lst (SqL.of e) (Rps.dp s p' r), ?_⟩
      have q := plains_lay p' r
      unfold SeqAt.shaped
      have q2 := q.2
      have q3 : PyData.depth (.list ds) ≤ 64 := by
        simp only [PyData.depth]
        omega
      have q4 : PyData.canLay0 (.list ds) = true := by simp only [PyData.canLay0]; exact q.1
      rw [q4, decide_eq_true q3]
      rfl
    | dict ds => simp [pl, plain] at p
    | _ => exact h.elim
theorem Vw.flat {d : D} (p : flatD d = true) (h : Vw K F H v d) : flatV v = true ∧ Rp K F v d := by
  cases d with
  | none => cases h.none; exact ⟨rfl, .non⟩
  | bool b => cases h.bool; exact ⟨rfl, .bl _⟩
  | int b => cases h.int; exact ⟨rfl, .int _⟩
  | str b => obtain ⟨e, z, o⟩ := h.str; cases e; exact ⟨rfl, .str _ z o⟩
  | _ => simp [flatD] at p
end
end Mp

/-! Part 5: how states change. -/
namespace Mp
open PySem PySem.Spec PyProof.Rows L2
section
variable {T : Tb} {X : Cx} {B : Bs} {c d : Cf}

theorem hd_set {c : Cf} {i j : Nat} {s : Sl} {F H : Hp} {σ : Sg} {a : Addr} (hj : j ≠ i) (ho : ∀ j, j ≠ i → σ[j]? = c.σ[j]?) : Cf.hd ⟨F, H, c.t.set i s, σ⟩ j a ↔ c.hd j a := by
  unfold Cf.hd
  simp only [List.getElem?_set_ne (Ne.symm hj), ho j hj]
theorem wr_set {c : Cf} {i j : Nat} {s : Sl} {F H : Hp} {σ : Sg} {a : Addr} (hj : j ≠ i) (ho : ∀ j, j ≠ i → σ[j]? = c.σ[j]?) : Cf.wr ⟨F, H, c.t.set i s, σ⟩ j a ↔ c.wr j a := by
  unfold Cf.wr
  simp only [List.getElem?_set_ne (Ne.symm hj), ho j hj]
theorem hd_at {t : Mp.St} {i : Nat} {s : Sl} {F H : Hp} {σ : Sg} {a : Addr} (h : Cf.hd ⟨F, H, t.set i s, σ⟩ i a) : isHd s = true ∧ σ[i]? = some (some (.ref a)) := by
  obtain ⟨u, e, hu, q⟩ := h
  by_cases hi : i < t.length
  · simp only [List.getElem?_set_self hi] at e
    cases e
    exact ⟨hu, q⟩
  · simp only [List.getElem?_eq_none (show (t.set i s).length ≤ i by simpa using hi)] at e
    cases e
theorem wr_at {t : Mp.St} {i : Nat} {s : Sl} {F H : Hp} {σ : Sg} {a : Addr} (h : Cf.wr ⟨F, H, t.set i s, σ⟩ i a) : isWr s = true ∧ σ[i]? = some (some (.ref a)) := by
  obtain ⟨u, e, hu, q⟩ := h
  by_cases hi : i < t.length
  · simp only [List.getElem?_set_self hi] at e
    cases e
    exact ⟨hu, q⟩
  · simp only [List.getElem?_eq_none (show (t.set i s).length ≤ i by simpa using hi)] at e
    cases e
/-- one slot changes -/
theorem Rl.put (R : Rl T X B c) {i : Nat} {s' : Sl} {F' H' : Hp} {σ' : Sg} (hl : σ'.length = c.σ.length) (ho : ∀ j, j ≠ i → σ'[j]? = c.σ[j]?) (fs : Sub c.F F') (sub : Sub F' H')
    (hk : ∀ j a, j ≠ i → c.hd j a → F' a = none ∧ H' a = c.H a) (hi : SlR T X B F' H' i ((σ'[i]?).getD none) s')
    (hd : ∀ a, isHd s' = true → σ'[i]? = some (some (.ref a)) → ∀ j, j ≠ i → ¬ c.hd j a) : Rl T X B ⟨F', H', c.t.set i s', σ'⟩ where
  sub := sub
  len := by simpa [hl] using R.len
  at_ := fun j s e => by
    by_cases hj : j = i
    · subst hj
      have hlt : j < c.t.length := by
        have := (List.getElem?_eq_some_iff.mp e).1
        simpa using this
      simp only [List.getElem?_set_self hlt] at e
      cases e
      exact hi
    · simp only [List.getElem?_set_ne (Ne.symm hj)] at e
      show SlR T X B F' H' j ((σ'[j]?).getD none) s
      rw [ho j hj]
      have q := R.at_ j s e
      have lt := R.lt e
      refine q.keep fs (fun a hs eo _ => ?_) (fun a u hs eo eu => ?_)
      · exact (hk j a hj ⟨s, e, hs, get_of lt eo⟩).1
      · rw [(hk j a hj ⟨s, e, hs, get_of lt eo⟩).2]; exact eu
  dis := fun j k a h1 h2 => by
    by_cases hj : j = i
    · by_cases hk : k = i
      · rw [hj, hk]
      · subst hj
        obtain ⟨x, y⟩ := hd_at h1
        exact absurd ((hd_set hk ho).mp h2) (hd a x y k hk)
    · by_cases hk : k = i
      · subst hk
        obtain ⟨x, y⟩ := hd_at h2
        exact absurd ((hd_set hj ho).mp h1) (hd a x y j hj)
      · exact R.dis j k a ((hd_set hj ho).mp h1) ((hd_set hk ho).mp h2)
/-- no slot changes -/
theorem Rl.same (R : Rl T X B c) {F' H' : Hp} (fs : Sub c.F F') (sub : Sub F' H') (hk : ∀ j a, c.hd j a → F' a = none ∧ H' a = c.H a) : Rl T X B ⟨F', H', c.t, c.σ⟩ where
  sub := sub
  len := R.len
  at_ := fun j s e => by
    have q := R.at_ j s e
    have lt := R.lt e
    refine q.keep fs (fun a hs eo _ => ?_) (fun a u hs eo eu => ?_)
    · exact (hk j a ⟨s, e, hs, get_of lt eo⟩).1
    · show H' a = some u
      rw [(hk j a ⟨s, e, hs, get_of lt eo⟩).2]; exact eu
  dis := R.dis
theorem Cf.eta (c : Cf) : (⟨c.F, c.H, c.t, c.σ⟩ : Cf) = c := rfl

/-- a new object -/
theorem Rl.new (R : Rl T X B c) {p : Addr} {o : HO} (hp : c.H p = none) : Rl T X B ⟨c.F, upd c.H p o, c.t, c.σ⟩ ∧ Ext c ⟨c.F, upd c.H p o, c.t, c.σ⟩ := by
  refine ⟨R.same (Sub.refl _) (R.sub.trans (Sub.upd hp)) fun j a h => ?_, ?_⟩
  · obtain ⟨f, o', e⟩ := R.held h
    exact ⟨f, upd_ne (ne_of_none e hp)⟩
  · exact ⟨Sub.refl _, fun a u e _ => Sub.upd hp a u e, fun a u e => .inl e, fun a h => .inr h, fun a h => .inl h⟩
/-- a held thing that no slot holds: shared from now on -/
theorem Rl.freeze (R : Rl T X B c) {a : Addr} {x : D} (h : Own X.K c.F c.H a x) (n : ¬ c.Hd a) (w : c.New a) :
    ∃ F', Rl T X B ⟨F', c.H, c.t, c.σ⟩ ∧ Ext c ⟨F', c.H, c.t, c.σ⟩ ∧ Rp X.K F' (.ref a) x := by
  have go : ∀ o, c.H a = some o → c.F a = none → Rl T X B ⟨upd c.F a o, c.H, c.t, c.σ⟩ ∧ Ext c ⟨upd c.F a o, c.H, c.t, c.σ⟩ := fun o e f => by
    have sub : Sub (upd c.F a o) c.H := fun b u q => by
      by_cases hb : b = a
      · subst hb; rw [upd_same] at q; cases q; exact e
      · rw [upd_ne hb] at q; exact R.sub b u q
    refine ⟨R.same (Sub.upd f) sub fun j b q => ⟨?_, rfl⟩, ⟨Sub.upd f, fun _ _ q _ => q, fun b u q => ?_, fun _ q => .inr q, fun _ q => .inl q⟩⟩
    · rw [upd_ne (fun (z : b = a) => n ⟨j, by rw [← z]; exact q⟩)]; exact (R.held q).1
    · by_cases hb : b = a
      · subst hb; exact .inr w
      · rw [show (⟨upd c.F a o, c.H, c.t, c.σ⟩ : Cf).F = upd c.F a o from rfl, upd_ne hb] at q; exact .inl q
  cases x with
  | list ds =>
    obtain ⟨f, z, xs, e, r⟩ := h
    obtain ⟨g1, g2⟩ := go _ e f
    exact ⟨_, g1, g2, .lst (.inl (.inl upd_same)) (r.mono (Sub.upd f)) z⟩
  | dict ds =>
    obtain ⟨f, z, xs, e, r⟩ := h
    obtain ⟨g1, g2⟩ := go _ e f
    exact ⟨_, g1, g2, .dic upd_same (r.mono (Sub.upd f)) z⟩
  | _ => exact h.elim
/-- a slot's thing shared from now on -/
theorem Rl.fzSlot (R : Rl T X B c) {i : Nat} {s s' : Sl} {x : D} (e : c.t[i]? = some s) (h : fzS s = some (x, s')) :
    ∃ v F', c.σ[i]? = some (some v) ∧ Rl T X B ⟨F', c.H, c.t.set i s', c.σ⟩ ∧ Ext c ⟨F', c.H, c.t.set i s', c.σ⟩ ∧ Rp X.K F' v x := by
  obtain ⟨v, ev, q⟩ := R.val e (by rintro rfl; cases h)
  have stay : s' = s → Rp X.K c.F v x → ∃ v F', c.σ[i]? = some (some v) ∧ Rl T X B ⟨F', c.H, c.t.set i s', c.σ⟩ ∧ Ext c ⟨F', c.H, c.t.set i s', c.σ⟩ ∧ Rp X.K F' v x := by
    rintro rfl r
    have e' : c.t.set i s' = c.t := by
      apply List.ext_getElem?
      intro j
      by_cases hj : j = i
      · subst hj
        rw [List.getElem?_set_self (List.getElem?_eq_some_iff.mp e).1, e]
      · rw [List.getElem?_set_ne (Ne.symm hj)]
    rw [e']
    exact ⟨v, c.F, ev, R, Ext.refl _, r⟩
  have turn : ∀ a, v = .ref a → Own X.K c.F c.H a x → isHd s = true → isWr s = true → isHd s' = false → (∀ F', Rp X.K F' (.ref a) x → SlR T X B F' c.H i (some (.ref a)) s') →
      ∃ v F', c.σ[i]? = some (some v) ∧ Rl T X B ⟨F', c.H, c.t.set i s', c.σ⟩ ∧ Ext c ⟨F', c.H, c.t.set i s', c.σ⟩ ∧ Rp X.K F' v x := by
    rintro a rfl ow hh hw hn hs
    have hdi : c.hd i a := ⟨s, e, hh, ev⟩
    have go : ∀ o, c.H a = some o → c.F a = none → (Rp X.K (upd c.F a o) (.ref a) x) → ∃ v F', c.σ[i]? = some (some v) ∧ Rl T X B ⟨F', c.H, c.t.set i s', c.σ⟩ ∧ Ext c ⟨F', c.H, c.t.set i s', c.σ⟩ ∧ Rp X.K F' v x := fun o eo f r => by
      have sub : Sub (upd c.F a o) c.H := fun b u q => by
        by_cases hb : b = a
        · subst hb; rw [upd_same] at q; cases q; exact eo
        · rw [upd_ne hb] at q; exact R.sub b u q
      refine ⟨.ref a, upd c.F a o, ev, R.put rfl (fun _ _ => rfl) (Sub.upd f) sub (fun j b hj q => ⟨?_, rfl⟩) (by rw [ev]; exact hs _ r) (fun b z => by rw [hn] at z; cases z), ⟨Sub.upd f, fun _ _ q _ => q, fun b u q => ?_, fun b q => ?_, fun b q => ?_⟩, r⟩
      · rw [upd_ne (fun (z : b = a) => hj (R.dis j i a (by rw [← z]; exact q) hdi))]; exact (R.held q).1
      · by_cases hb : b = a
        · subst hb; exact .inr (.inr ⟨i, s, e, hw, ev⟩)
        · rw [show (⟨upd c.F a o, c.H, c.t.set i s', c.σ⟩ : Cf).F = upd c.F a o from rfl, upd_ne hb] at q; exact .inl q
      · obtain ⟨j, q⟩ := q
        by_cases hj : j = i
        · subst hj
          have z := isHd_of_wr (wr_at q).1
          rw [hn] at z; cases z
        · exact .inr ⟨j, (wr_set hj fun _ _ => rfl).mp q⟩
      · obtain ⟨j, q⟩ := q
        by_cases hj : j = i
        · subst hj
          have z := (hd_at q).1
          rw [hn] at z; cases z
        · exact .inl ⟨j, (hd_set hj fun _ _ => rfl).mp q⟩
    cases x with
    | list ds =>
      obtain ⟨f, z, xs, eo, r⟩ := ow
      exact go _ eo f (.lst (.inl (.inl upd_same)) (r.mono (Sub.upd f)) z)
    | dict ds =>
      obtain ⟨f, z, xs, eo, r⟩ := ow
      exact go _ eo f (.dic upd_same (r.mono (Sub.upd f)) z)
    | _ => exact ow.elim
  cases s with
  | un => cases h
  | fz y => cases h; obtain ⟨u, e', r⟩ := q; cases e'; exact stay rfl r
  | ow y => cases h; obtain ⟨a, e', r⟩ := q; cases e'; exact turn a rfl r rfl rfl rfl fun F' r => ⟨_, rfl, r⟩
  | bw y => cases h; obtain ⟨a, e', b, r⟩ := q; cases e'; exact turn a rfl r rfl rfl rfl fun F' r => ⟨_, rfl, b, r⟩
  | bf y => cases h; obtain ⟨a, e', b, r⟩ := q; cases e'; exact stay rfl r
  | ln b y => cases h
  | ex y => cases h
/-- a held thing's content is changed -/
theorem Rl.write (R : Rl T X B c) {i : Nat} {s s' : Sl} {a : Addr} {o : HO} (e : c.t[i]? = some s) (ev : c.σ[i]? = some (some (.ref a))) (hw : isWr s = true) (hw' : isWr s' = true)
    (h : SlR T X B c.F (upd c.H a o) i (some (.ref a)) s') : Rl T X B ⟨c.F, upd c.H a o, c.t.set i s', c.σ⟩ ∧ Ext c ⟨c.F, upd c.H a o, c.t.set i s', c.σ⟩ := by
  have hdi : c.hd i a := ⟨s, e, isHd_of_wr hw, ev⟩
  have f := (R.held hdi).1
  refine ⟨R.put rfl (fun _ _ => rfl) (Sub.refl _) (fun b u q => ?_) (fun j b hj q => ⟨(R.held q).1, upd_ne fun (z : b = a) => hj (R.dis j i a (by rw [← z]; exact q) hdi)⟩) (by rw [ev]; exact h) (fun b _ eb j hj q => hj (R.dis j i b q ?_)),
    ⟨Sub.refl _, fun b u q n => ?_, fun _ _ q => .inl q, fun b q => ?_, fun b q => ?_⟩⟩
  · rw [upd_ne (fun z => by subst z; rw [f] at q; cases q)]; exact R.sub b u q
  · rw [ev] at eb; cases eb; exact hdi
  · show upd c.H a o b = some u
    rw [upd_ne (fun (z : b = a) => n ⟨i, s, e, hw, by rw [z]; exact ev⟩)]; exact q
  · obtain ⟨j, q⟩ := q
    by_cases hj : j = i
    · subst hj
      exact .inr ⟨j, s, e, hw, (wr_at q).2⟩
    · exact .inr ⟨j, (wr_set hj fun _ _ => rfl).mp q⟩
  · obtain ⟨j, q⟩ := q
    by_cases hj : j = i
    · subst hj
      exact .inl ⟨j, s, e, isHd_of_wr hw, (hd_at q).2⟩
    · exact .inl ⟨j, (hd_set hj fun _ _ => rfl).mp q⟩
/-- a slot is bound to a value -/
theorem Rl.bind (R : Rl T X B c) {i : Nat} {s' : Sl} {v : V} (hi : i < c.σ.length) (h : SlR T X B c.F c.H i (some v) s') (hw : ∀ a, v = .ref a → isHd s' = true → ¬ c.Hd a ∧ c.New a) :
    Rl T X B ⟨c.F, c.H, c.t.set i s', c.σ.set i (some v)⟩ ∧ Ext c ⟨c.F, c.H, c.t.set i s', c.σ.set i (some v)⟩ := by
  have ho : ∀ j, j ≠ i → (c.σ.set i (some v))[j]? = c.σ[j]? := fun j hj => List.getElem?_set_ne (Ne.symm hj)
  have hs : (c.σ.set i (some v))[i]? = some (some v) := List.getElem?_set_self hi
  refine ⟨R.put (by simp) ho (Sub.refl _) R.sub (fun j b hj q => ⟨(R.held q).1, rfl⟩) (by rw [hs]; exact h) (fun b z eb j hj q => ?_),
    ⟨Sub.refl _, fun b u q n => q, fun _ _ q => .inl q, fun b q => ?_, fun b q => ?_⟩⟩
  · rw [hs] at eb; cases eb
    exact (hw b rfl z).1 ⟨j, q⟩
  · obtain ⟨j, q⟩ := q
    by_cases hj : j = i
    · subst hj
      obtain ⟨z, eb⟩ := wr_at q
      rw [hs] at eb; cases eb
      exact (hw b rfl (isHd_of_wr z)).2
    · exact .inr ⟨j, (wr_set hj ho).mp q⟩
  · obtain ⟨j, q⟩ := q
    by_cases hj : j = i
    · subst hj
      obtain ⟨z, eb⟩ := hd_at q
      rw [hs] at eb; cases eb
      rcases (hw b rfl z).2 with y | y
      · exact .inr y
      · exact .inl (Cf.Wr_Hd y)
    · exact .inl ⟨j, (hd_set hj ho).mp q⟩
/-- a slot is forgotten -/
theorem Rl.drop (R : Rl T X B c) (i : Nat) {o : Option V} : Rl T X B ⟨c.F, c.H, c.t.set i .un, c.σ⟩ ∧ Ext c ⟨c.F, c.H, c.t.set i .un, c.σ⟩ := by
  refine ⟨R.put rfl (fun _ _ => rfl) (Sub.refl _) R.sub (fun j b hj q => ⟨(R.held q).1, rfl⟩) trivial (fun b z => by cases z),
    ⟨Sub.refl _, fun b u q n => q, fun _ _ q => .inl q, fun b q => ?_, fun b q => ?_⟩⟩
  · obtain ⟨j, q⟩ := q
    by_cases hj : j = i
    · subst hj
      exact absurd (wr_at q).1 (by decide)
    · exact .inr ⟨j, (wr_set hj fun _ _ => rfl).mp q⟩
  · obtain ⟨j, q⟩ := q
    by_cases hj : j = i
    · subst hj
      exact absurd (hd_at q).1 (by decide)
    · exact .inl ⟨j, (hd_set hj fun _ _ => rfl).mp q⟩
/-- .. its value too -/
theorem Rl.dropV (R : Rl T X B c) (i : Nat) {o : Option V} : Rl T X B ⟨c.F, c.H, c.t.set i .un, c.σ.set i o⟩ ∧ Ext c ⟨c.F, c.H, c.t.set i .un, c.σ.set i o⟩ := by
  have ho : ∀ j, j ≠ i → (c.σ.set i o)[j]? = c.σ[j]? := fun j hj => List.getElem?_set_ne (Ne.symm hj)
  refine ⟨R.put (by simp) ho (Sub.refl _) R.sub (fun j b hj q => ⟨(R.held q).1, rfl⟩) trivial (fun b z => by cases z),
    ⟨Sub.refl _, fun b u q n => q, fun _ _ q => .inl q, fun b q => ?_, fun b q => ?_⟩⟩
  · obtain ⟨j, q⟩ := q
    by_cases hj : j = i
    · subst hj
      exact absurd (wr_at q).1 (by decide)
    · exact .inr ⟨j, (wr_set hj ho).mp q⟩
  · obtain ⟨j, q⟩ := q
    by_cases hj : j = i
    · subst hj
      exact absurd (hd_at q).1 (by decide)
    · exact .inl ⟨j, (hd_set hj ho).mp q⟩
end
end Mp

/-! Part 6: evaluations over the layer's judgements. -/
namespace Mp
open PySem PySem.Spec PyProof.Rows L2

/-- how an exception lies: its class, its own dict -/
def ExR (T : Tb) (K : PySem.W.Frag) (F : Hp) (x : Ex) (cls : Value) (dd : Addr) : Prop :=
  cls = .ref (T.cl x.c) ∧ ∃ fs, F dd = some (.xd fs) ∧ ∀ k d, x.fs.lookup k = some d → ∃ v, fs.lookup (T.fld k) = some v ∧ Rp K F v d

/-- what is wanted behind an evaluation from c -/
def Post {α β : Type} (T : Tb) (X : Cx) (B : Bs) (W : WX) (rel : Cf → Cf → β → α → Prop) (c : Cf) (r : R α) (Q : β → Hp → Prop) : Prop :=
  match r with
  | .ok a t' => ∀ b F' H', Rl T X B ⟨F', H', t', c.σ⟩ → Ext c ⟨F', H', t', c.σ⟩ → rel c ⟨F', H', t', c.σ⟩ b a → Q b H'
  | .rs x t' => ∀ cls dd F' H', Rl T X B ⟨F', H', t', c.σ⟩ → Ext c ⟨F', H', t', c.σ⟩ → ExR T X.K F' x cls dd → W cls (some dd) c.σ H'
  | .bad => False
def tG {α β : Type} (T : Tb) (X : Cx) (B : Bs) (W : WX) (rel : Cf → Cf → β → α → Prop) (ev : Mp.St → R α) : Sg → Hp → (β → Hp → Prop) → Prop :=
  fun σ H Q => ∃ F t, Rl T X B ⟨F, H, t, σ⟩ ∧ Post T X B W rel ⟨F, H, t, σ⟩ (ev t) Q

/-- later states tell of earlier ones -/
def Sh {α β : Type} (rel : Cf → Cf → β → α → Prop) : Prop := ∀ c c1 d b a, Ext c c1 → c1.σ = c.σ → rel c1 d b a → rel c d b a
def relV (K : PySem.W.Frag) : Cf → Cf → V → Rv → Prop := fun c d v r =>
  if r.2 = true then ∃ a, v = .ref a ∧ Own K d.F d.H a r.1 ∧ ¬ d.Hd a ∧ c.New a else Rp K d.F v r.1
def relO (K : PySem.W.Frag) : Cf → Cf → V → Op → Prop := fun _ d v o => match o with
  | .v x => Rp K d.F v x
  | .i k => d.σ[k]? = some (some v)
def relB : Cf → Cf → Bool → Bool → Prop := fun _ _ b a => b = a
def relI : Cf → Cf → Option Int → Option Int → Prop := fun _ _ b a => b = a
def relL (K : PySem.W.Frag) : Cf → Cf → List V → List D → Prop := fun _ d vs ds => Rps K d.F vs ds
def relOs (K : PySem.W.Frag) : Cf → Cf → List V → List Op → Prop := fun c d vs os => Paired (fun v o => relO K c d v o) vs os
theorem relV_old {K : PySem.W.Frag} {c d : Cf} {v : V} {x : D} (h : Rp K d.F v x) : relV K c d v (x, false) := by
  unfold relV
  rw [if_neg (show ¬ ((x, false) : Rv).2 = true from Bool.false_ne_true)]
  exact h
theorem relV_new {K : PySem.W.Frag} {c d : Cf} {a : Addr} {x : D} (o : Own K d.F d.H a x) (n : ¬ d.Hd a) (w : c.New a) : relV K c d (.ref a) (x, true) := by
  unfold relV
  rw [if_pos (show ((x, true) : Rv).2 = true from rfl)]
  exact ⟨a, rfl, o, n, w⟩
theorem sh_V {K : PySem.W.Frag} : Sh (relV K) := fun c c1 d b a e hs h => by
  unfold relV at h ⊢
  by_cases q : a.2 = true
  · rw [if_pos q] at h ⊢
    obtain ⟨p, e1, o, n, w⟩ := h
    exact ⟨p, e1, o, n, e.new w⟩
  · rw [if_neg q] at h ⊢; exact h
theorem sh_O {K : PySem.W.Frag} : Sh (relO K) := fun _ _ _ _ _ _ _ h => h
theorem sh_B : Sh relB := fun _ _ _ _ _ _ _ h => h
theorem sh_I : Sh relI := fun _ _ _ _ _ _ _ h => h
theorem sh_L {K : PySem.W.Frag} : Sh (relL K) := fun _ _ _ _ _ _ _ h => h
theorem sh_Os {K : PySem.W.Frag} : Sh (relOs K) := fun _ _ _ _ _ _ _ h => h
theorem relO_mono {K : PySem.W.Frag} {c c' d e : Cf} {v : V} {o : Op} (h : relO K c d v o) (f : Sub d.F e.F) (s : e.σ = d.σ) : relO K c' e v o := by
  cases o with
  | v x => exact Rp.mono f h
  | i k => show e.σ[k]? = _; rw [s]; exact h

section
variable {T : Tb} {X : Cx} {B : Bs} {W : WX} {c : Cf} {α β γ δ : Type}
theorem Post.shift {rel : Cf → Cf → β → α → Prop} {c1 : Cf} {r : R α} {Q : β → Hp → Prop} (sh : Sh rel) (e : Ext c c1) (hs : c1.σ = c.σ) (h : Post T X B W rel c r Q) : Post T X B W rel c1 r Q := by
  cases r with
  | ok a t' => intro b F' H' R x q; rw [hs] at R x q; exact h b F' H' R (e.trans x) (sh _ _ _ _ _ e hs q)
  | rs y t' => intro cls dd F' H' R x q; rw [hs] at R x ⊢; exact h cls dd F' H' R (e.trans x) q
  | bad => exact h
theorem Post.imp {rel : Cf → Cf → β → α → Prop} {r : R α} {Q Q' : β → Hp → Prop} (h : Post T X B W rel c r Q) (k : ∀ b H, Q b H → Q' b H) : Post T X B W rel c r Q' := by
  cases r with
  | ok a t' => exact fun b F' H' R x q => k _ _ (h b F' H' R x q)
  | rs y t' => exact h
  | bad => exact h
/-- one evaluation behind another -/
theorem Post.bind {rel1 : Cf → Cf → β → α → Prop} {rel2 : Cf → Cf → δ → γ → Prop} {r : R α} {f : α → Mp.St → R γ} {Q : δ → Hp → Prop} (sh : Sh rel2) (h : Post T X B W rel2 c (r.bind f) Q) :
    Post T X B W rel1 c r (fun b H1 => ∃ a F1 t1, Rl T X B ⟨F1, H1, t1, c.σ⟩ ∧ Ext c ⟨F1, H1, t1, c.σ⟩ ∧ rel1 c ⟨F1, H1, t1, c.σ⟩ b a ∧ Post T X B W rel2 ⟨F1, H1, t1, c.σ⟩ (f a t1) Q) := by
  cases r with
  | ok a t' => exact fun b F' H' R x q => ⟨a, F', t', R, x, q, h.shift sh x rfl⟩
  | rs y t' => exact h
  | bad => exact h
theorem tG.bind {rel1 : Cf → Cf → β → α → Prop} {rel2 : Cf → Cf → δ → γ → Prop} {ev : Mp.St → R α} {f : α → Mp.St → R γ} {σ : Sg} {H : Hp} {Q : δ → Hp → Prop} (sh : Sh rel2) (h : tG T X B W rel2 (fun t => (ev t).bind f) σ H Q) :
    tG T X B W rel1 ev σ H (fun b H1 => ∃ a F1 t1 F t, Rl T X B ⟨F1, H1, t1, σ⟩ ∧ Ext ⟨F, H, t, σ⟩ ⟨F1, H1, t1, σ⟩ ∧ rel1 ⟨F, H, t, σ⟩ ⟨F1, H1, t1, σ⟩ b a ∧ Post T X B W rel2 ⟨F1, H1, t1, σ⟩ (f a t1) Q) := by
  obtain ⟨F, t, R, p⟩ := h
  exact ⟨F, t, R, (p.bind (rel1 := rel1) sh).imp fun b H1 ⟨a, F1, t1, x⟩ => ⟨a, F1, t1, F, t, x⟩⟩
theorem tG.of {rel : Cf → Cf → β → α → Prop} {ev : Mp.St → R α} {F H : Hp} {t : Mp.St} {σ : Sg} {Q : β → Hp → Prop} (R : Rl T X B ⟨F, H, t, σ⟩) (p : Post T X B W rel ⟨F, H, t, σ⟩ (ev t) Q) : tG T X B W rel ev σ H Q := ⟨F, t, R, p⟩
theorem pe_imp {e : Expr} {t t' : TE} (h : PE X e t) (k : ∀ σ H Q, t' σ H Q → t σ H Q) : PE X e t' := ⟨fun pins s σ H Q I q => h.run pins s σ H Q I (k σ H Q q)⟩
theorem pt_imp {e : Expr} {t t' : TT} (h : PT X e t) (k : ∀ σ H Q, t' σ H Q → t σ H Q) : PT X e t' := ⟨fun pins s σ H Q I q => h.run pins s σ H Q I (k σ H Q q)⟩
theorem pa_imp {e : List Expr} {t t' : TA} (h : PA X e t) (k : ∀ σ H Q, t' σ H Q → t σ H Q) : PA X e t' := ⟨fun pos pins s σ H Q I q => h.run pos pins s σ H Q I (k σ H Q q)⟩

/-- what an operation hands back: data that stands, or a new object -/
inductive Res (K : PySem.W.Frag) (F H : Hp) : D → V → Hp → Prop
  | old {d : D} {v : V} (h : Rp K F v d) (n : isMut d = false) : Res K F H d v H
  | lst {p : Addr} {xs : List V} {ds : List D} (hp : H p = none) (r : Rps K F xs ds) (z : ds.length ≤ cap) : Res K F H (.list ds) (.ref p) (upd H p (.lst xs))
  | tup {p : Addr} {xs : List V} {ds : List D} (hp : H p = none) (r : Rps K F xs ds) (z : ds.length ≤ cap) : Res K F H (.tuple ds) (.ref p) (upd H p (.tup xs))
  | dic {p : Addr} {kvs : List (Key × V)} {ds : List (D × D)} (hp : H p = none) (r : Rpk K F kvs ds) (z : ds.length ≤ cap) : Res K F H (.dict ds) (.ref p) (upd H p (.dK kvs))
theorem Res.fin {d : D} {v : V} {H' : Hp} (R : Rl T X B c) (r : Res X.K c.F c.H d v H') : ∃ F', Rl T X B ⟨F', H', c.t, c.σ⟩ ∧ Ext c ⟨F', H', c.t, c.σ⟩ ∧ relV X.K c ⟨F', H', c.t, c.σ⟩ v (flag d) := by
  cases r with
  | old h n =>
    refine ⟨c.F, R, Ext.refl _, ?_⟩
    unfold flag
    rw [n]
    exact relV_old h
  | @lst p xs ds hp r z =>
    obtain ⟨R1, x1⟩ := R.new (o := .lst xs) hp
    refine ⟨c.F, R1, x1, ?_⟩
    exact relV_new (x := .list ds) ⟨R.FnoH hp, z, xs, upd_same, r⟩ (R.notHd hp) (.inl hp)
  | @dic p kvs ds hp r z =>
    obtain ⟨R1, x1⟩ := R.new (o := .dK kvs) hp
    refine ⟨c.F, R1, x1, ?_⟩
    exact relV_new (x := .dict ds) ⟨R.FnoH hp, z, kvs, upd_same, r⟩ (R.notHd hp) (.inl hp)
  | @tup p xs ds hp r z =>
    obtain ⟨R1, x1⟩ := R.new (o := .tup xs) hp
    have f := R.FnoH hp
    have sub : Sub (upd c.F p (.tup xs)) (upd c.H p (.tup xs)) := fun b u q => by
      by_cases hb : b = p
      · subst hb; rw [upd_same] at q ⊢; exact q
      · rw [upd_ne hb] at q ⊢; exact R.sub b u q
    refine ⟨upd c.F p (.tup xs), R.same (Sub.upd f) sub fun j b q => ?_, ⟨Sub.upd f, fun b u q _ => Sub.upd hp b u q, fun b u q => ?_, fun b q => .inr q, fun b q => .inl q⟩, ?_⟩
    · have nb : b ≠ p := fun z => R.notHd hp ⟨j, by rw [← z]; exact q⟩
      rw [upd_ne nb, upd_ne nb]
      exact ⟨(R.held q).1, rfl⟩
    · by_cases hb : b = p
      · subst hb; exact .inr (.inl hp)
      · rw [show (⟨upd c.F p (.tup xs), upd c.H p (.tup xs), c.t, c.σ⟩ : Cf).F = upd c.F p (.tup xs) from rfl, upd_ne hb] at q; exact .inl q
    · exact relV_old (.tup (SqT.of upd_same) (r.mono (Sub.upd f)) z)
/-- the end of an operation -/
theorem Post.res {d : D} {v : V} {H' : Hp} {Q : VK} (R : Rl T X B c) (r : Res X.K c.F c.H d v H') (p : Post T X B W (relV X.K) c (.ok (flag d) c.t) Q) : Q v H' := by
  obtain ⟨F', R', x, q⟩ := r.fin R
  exact p v F' H' R' x q
theorem Post.val {d : D} {v : V} {Q : VK} (R : Rl T X B c) (r : Rp X.K c.F v d) (p : Post T X B W (relV X.K) c (.ok (d, false) c.t) Q) : Q v c.H := p v c.F c.H R (Ext.refl _) (relV_old r)
/-- a value made data that no one changes -/
theorem relV.fz {d : Cf} {v : V} {r : Rv} (R : Rl T X B d) (h : relV X.K c d v r) (e : Ext c d) : ∃ F', Rl T X B ⟨F', d.H, d.t, d.σ⟩ ∧ Ext c ⟨F', d.H, d.t, d.σ⟩ ∧ Rp X.K F' v r.1 := by
  unfold relV at h
  by_cases q : r.2 = true
  · rw [if_pos q] at h
    obtain ⟨a, rfl, o, n, w⟩ := h
    have go : ∀ u, d.H a = some u → d.F a = none → Rp X.K (upd d.F a u) (.ref a) r.1 → ∃ F', Rl T X B ⟨F', d.H, d.t, d.σ⟩ ∧ Ext c ⟨F', d.H, d.t, d.σ⟩ ∧ Rp X.K F' (.ref a) r.1 := fun u eu f rp => by
      have sub : Sub (upd d.F a u) d.H := fun b y q => by
        by_cases hb : b = a
        · subst hb; rw [upd_same] at q; cases q; exact eu
        · rw [upd_ne hb] at q; exact R.sub b y q
      refine ⟨upd d.F a u, R.same (Sub.upd f) sub fun j b q => ⟨?_, rfl⟩, ⟨e.fsub.trans (Sub.upd f), e.keep, fun b y q => ?_, e.wr, e.hd⟩, rp⟩
      · rw [upd_ne (fun (z : b = a) => n ⟨j, by rw [← z]; exact q⟩)]; exact (R.held q).1
      · by_cases hb : b = a
        · subst hb; exact .inr w
        · rw [show (⟨upd d.F a u, d.H, d.t, d.σ⟩ : Cf).F = upd d.F a u from rfl, upd_ne hb] at q
          exact e.fnew b y q
    cases hx : r.1 with
    | list ds =>
      rw [hx] at o go
      obtain ⟨f, z, xs, eo, r⟩ := o
      exact go _ eo f (.lst (.inl (.inl upd_same)) (r.mono (Sub.upd f)) z)
    | dict ds =>
      rw [hx] at o go
      obtain ⟨f, z, xs, eo, r⟩ := o
      exact go _ eo f (.dic upd_same (r.mono (Sub.upd f)) z)
    | _ => rw [hx] at o; exact o.elim
  · rw [if_neg q] at h
    exact ⟨d.F, R, e, h⟩
end

section
variable {T : Tb} {X : Cx} {B : Bs} {W : WX}
/-- e evaluates as ev says -/
abbrev Ee (T : Tb) (X : Cx) (B : Bs) (W : WX) (py : Expr) (ev : Mp.St → R Rv) : Prop := PE X py (tG T X B W (relV X.K) ev)
abbrev Eo (T : Tb) (X : Cx) (B : Bs) (W : WX) (py : Expr) (ev : Mp.St → R Op) : Prop := PE X py (tG T X B W (relO X.K) ev)
abbrev Et (T : Tb) (X : Cx) (B : Bs) (W : WX) (py : Expr) (ev : Mp.St → R Bool) : Prop := PT X py (tG T X B W relB ev)

/-- a value, shared from now on -/
theorem ee_fz {py : Expr} {ev : Mp.St → R Rv} (h : Ee T X B W py ev) : Ee T X B W py (fun t => (ev t).bind fun v t => .ok (v.1, false) t) := by
  refine pe_imp h fun σ H Q q => ?_
  obtain ⟨F, t, R, p⟩ := q
  dsimp only at p
  refine ⟨F, t, R, ?_⟩
  cases e : ev t with
  | ok a t' =>
    rw [e] at p
    intro b F' H' R' x r
    obtain ⟨F2, R2, x2, rp⟩ := relV.fz R' r x
    exact p b F2 H' R2 x2 (relV_old rp)
  | rs y t' => rw [e] at p; exact p
  | bad => rw [e] at p; exact p
theorem eo_val {py : Expr} {ev : Mp.St → R Rv} (h : Ee T X B W py ev) : Eo T X B W py (fun t => (ev t).bind fun v t => .ok (.v v.1) t) := by
  refine pe_imp h fun σ H Q q => ?_
  obtain ⟨F, t, R, p⟩ := q
  dsimp only at p
  refine ⟨F, t, R, ?_⟩
  cases e : ev t with
  | ok a t' =>
    rw [e] at p
    intro b F' H' R' x r
    obtain ⟨F2, R2, x2, rp⟩ := relV.fz R' r x
    exact p b F2 H' R2 x2 rp
  | rs y t' => rw [e] at p; exact p
  | bad => rw [e] at p; exact p
theorem rd_val {c : Cf} {i : Nat} (R : Rl T X B c) {s : Sl} (h : c.t[i]? = some s) (hs : s ≠ .un) : ∃ v, c.σ[i]? = some (some v) := let ⟨v, e, _⟩ := R.val h hs; ⟨v, e⟩
theorem eo_var {i : Nat} {x : Str} {pos : Pos} (hN : X.N[i]? = some x) (hv : Vis X.env.scope x) (hd : (x == ("__debug__" : Str)) = false) (hcd : (x == ("__classdict__" : Str)) = false) : Eo T X B W (.Name x pos) (opnV i) := by
  refine pe_imp (pe_var hN hv hd hcd) fun σ H Q q => ?_
  obtain ⟨F, t, R, p⟩ := q
  cases e : t[i]? with
  | none => unfold opnV at p; rw [e] at p; exact p.elim
  | some s =>
    by_cases hs : s = .un
    · unfold opnV at p; rw [e, hs] at p; exact p.elim
    · rw [opnV_ok e hs] at p
      obtain ⟨v, ev⟩ := rd_val R e hs
      exact ⟨v, ev, p v F H R (Ext.refl _) ev⟩
theorem ee_var {i : Nat} {x : Str} {pos : Pos} (hN : X.N[i]? = some x) (hv : Vis X.env.scope x) (hd : (x == ("__debug__" : Str)) = false) (hcd : (x == ("__classdict__" : Str)) = false) : Ee T X B W (.Name x pos) (kVar i) := by
  refine pe_imp (pe_var hN hv hd hcd) fun σ H Q q => ?_
  obtain ⟨F, t, R, p⟩ := q
  unfold kVar at p
  cases e : t[i]? with
  | none => rw [e] at p; exact p.elim
  | some s =>
    rw [e, Option.bind_some] at p
    cases e2 : fzS s with
    | none => rw [e2] at p; exact p.elim
    | some q =>
      rw [e2] at p
      obtain ⟨d, s'⟩ := q
      obtain ⟨v, F', ev, R', x', rp⟩ := R.fzSlot e e2
      exact ⟨v, ev, p v F' H R' x' (relV_old rp)⟩
/-- reading an operand -/
theorem Rl.rdOp {c c0 : Cf} (R : Rl T X B c) {v : V} {o : Op} {d : D} (h : relO X.K c0 c v o) (e : rd o c.t = some d) : Vw X.K c.F c.H v d := by
  cases o with
  | v x => cases e; exact .fz h
  | i k =>
    have e : (c.t[k]?).bind rdS = some d := e
    cases q : c.t[k]? with
    | none => rw [q] at e; cases e
    | some s =>
      rw [q, Option.bind_some] at e
      obtain ⟨u, eu, w⟩ := R.read q e
      have h' : c.σ[k]? = some (some v) := h
      rw [h'] at eu; cases eu
      exact w
/-- two operands in a row -/
theorem two {a b : Expr} {eva evb : Mp.St → R Op} {α β δ : Type} {k : Op → Op → Mp.St → R α} {rel : Cf → Cf → β → α → Prop} {Q : β → Hp → Prop} {σ : Sg} {H : Hp} {pins : List (Addr × Obj)} {s : Shared}
    (ha : Eo T X B W a eva) (hb : Eo T X B W b evb) (sh : Sh rel) (I : Inv X pins σ H s) (h : tG T X B W rel (fun t => (eva t).bind fun x t => (evb t).bind fun y t => k x y t) σ H Q) {Qf : δ → Shared → Prop} {f : Value → Value → Sem δ}
    (hf : ∀ v u s2 x y ox oy (c : Cf), c.σ = σ → Inv X pins σ c.H s2 → RelV x v → RelV y u → Rl T X B c → relO X.K c c x ox → relO X.K c c y oy → Post T X B W rel c (k ox oy c.t) Q → wpAny (model X.prog X.w) X.A (f v u) Qf X.xe s2) :
    wpAny (model X.prog X.w) X.A (eval a X.env) (fun v s₁ => wpAny (model X.prog X.w) X.A (eval b X.env) (fun u s₂ => wpAny (model X.prog X.w) X.A (f v u) Qf X.xe s₂) X.xe s₁) X.xe s := by
  refine thn (ha.run pins s σ H _ I (tG.bind (rel1 := relO X.K) sh h)) fun v s1 ⟨x, H1, I1, r1, q1⟩ => ?_
  obtain ⟨ox, F1, t1, F, t, R1, e1, o1, p1⟩ := q1
  refine thn (hb.run pins s1 σ H1 _ I1 ⟨F1, t1, R1, p1.bind (rel1 := relO X.K) sh⟩) fun u s2 ⟨y, H2, I2, r2, q2⟩ => ?_
  obtain ⟨oy, F2, t2, R2, e2, o2, p2⟩ := q2
  exact hf v u s2 x y ox oy ⟨F2, H2, t2, σ⟩ rfl I2 r1 r2 R2 (relO_mono o1 e2.fsub rfl) (relO_mono o2 (Sub.refl _) rfl) p2
/-- an operation on two values -/
def OpS (X : Cx) (f : Value → Value → Sem Value) (sem : D → D → Option D) : Prop :=
  ∀ (pins : List (Addr × Obj)) (s : Shared) (σ : Sg) (F H : Hp) (x y : V) (v u : Value) (dx dy d : D) (Q : VK), Inv X pins σ H s → RelV x v → RelV y u → Sub F H → Vw X.K F H x dx → Vw X.K F H y dy → sem dx dy = some d →
    (∀ z H', Res X.K F H d z H' → Q z H') → wpAny (model X.prog X.w) X.A (f v u) (EP X pins σ Q) X.xe s
theorem ofBind {α : Type} {c : Cf} {β : Type} {rel : Cf → Cf → β → α → Prop} {o : Option α} {Q : β → Hp → Prop} (p : Post T X B W rel c (R.of o c.t) Q) : ∃ a, o = some a ∧ Post T X B W rel c (.ok a c.t) Q := by
  cases o with
  | none => exact p.elim
  | some a => exact ⟨a, rfl, p⟩
theorem bind_some2 {α β : Type} {o : Option α} {f : α → Option β} {b : β} (h : o.bind f = some b) : ∃ a, o = some a ∧ f a = some b := by
  cases o with
  | none => cases h
  | some a => exact ⟨a, rfl, h⟩
theorem map_some2 {α β : Type} {o : Option α} {f : α → β} {b : β} (h : o.map f = some b) : ∃ a, o = some a ∧ f a = b := by
  cases o with
  | none => cases h
  | some a => exact ⟨a, rfl, by simpa using h⟩
theorem flag_not {d : D} (h : isMut d = false) : flag d = (d, false) := by unfold flag; rw [h]
/-- the reading of two operands, the operation -/
theorem op_end {f : Value → Value → Sem Value} {sem : D → D → Option D} (ho : OpS X f sem) {pins : List (Addr × Obj)} {s : Shared} {c : Cf} {x y : V} {v u : Value} {ox oy : Op} {Q : VK} (I : Inv X pins c.σ c.H s) (rx : RelV x v) (ry : RelV y u)
    (Z : Rl T X B c) (hx : relO X.K c c x ox) (hy : relO X.K c c y oy) {g : D → Rv} (hg : ∀ a b d, sem a b = some d → g d = flag d)
    (p : Post T X B W (relV X.K) c (R.of ((rd ox c.t).bind fun a => (rd oy c.t).bind fun b => (sem a b).map g) c.t) Q) : wpAny (model X.prog X.w) X.A (f v u) (EP X pins c.σ Q) X.xe s := by
  obtain ⟨r, e, p⟩ := ofBind p
  obtain ⟨a, ea, e⟩ := bind_some2 e
  obtain ⟨b, eb, e⟩ := bind_some2 e
  obtain ⟨d, ed, e⟩ := map_some2 e
  subst e
  rw [hg a b d ed] at p
  exact ho pins s c.σ c.F c.H x y v u a b d Q I rx ry Z.sub (Z.rdOp hx ea) (Z.rdOp hy eb) ed fun z H' r => p.res Z r
theorem ee_bin {a b : Expr} {eva evb : Mp.St → R Op} {op : Operator} {sem : D → D → Option D} {pos : Pos} (ha : Eo T X B W a eva) (hb : Eo T X B W b evb) (ho : OpS X (binaryOp op) sem) :
    Ee T X B W (.BinOp a op b pos) (fun t => (eva t).bind fun x t => (evb t).bind fun y t => Mp.R.of ((rd x t).bind fun u => (rd y t).bind fun w => (sem u w).map flag) t) := by
  refine ⟨fun pins s σ H Q I h => ?_⟩
  refine wpAny_BinOp (two ha hb sh_V I h fun v u s2 x y ox oy c hc I2 rx ry R hx hy p => ?_)
  subst hc
  exact op_end ho I2 rx ry R hx hy (fun _ _ _ _ => rfl) p
theorem ee_cmp {a b : Expr} {eva evb : Mp.St → R Op} {op : CmpOp} {sem : D → D → Option D} {pos : Pos} (ha : Eo T X B W a eva) (hb : Eo T X B W b evb) (ho : OpS X (compareOp op) sem) (hs : ∀ x y d, sem x y = some d → isMut d = false) (hm : behindInMarks op b = false) :
    Ee T X B W (.Compare a [op] [b] pos) (fun t => (eva t).bind fun x t => (evb t).bind fun y t => R.of ((rd x t).bind fun u => (rd y t).bind fun w => (sem u w).map fun d => (d, false)) t) := by
  refine ⟨fun pins s σ H Q I h => ?_⟩
  refine wpAny_Compare1 (two ha hb sh_V I h fun v u s2 x y ox oy c hc I2 rx ry R hx hy p => ?_) hm
  subst hc
  exact op_end ho I2 rx ry R hx hy (fun x y d e => (flag_not (hs x y d e)).symm) p
/-- a comparison as a test -/
theorem et_cmp {a b : Expr} {eva evb : Mp.St → R Op} {op : CmpOp} {sem : D → D → Option D} {pos : Pos} (ha : Eo T X B W a eva) (hb : Eo T X B W b evb) (ho : OpS X (compareOp op) sem) (hs : ∀ x y d, sem x y = some d → ∃ k, d = .bool k) (hm : behindInMarks op b = false) :
    Et T X B W (.Compare a [op] [b] pos) (fun t => (eva t).bind fun x t => (evb t).bind fun y t => R.of ((rd x t).bind fun u => (rd y t).bind fun w => (sem u w).map truth) t) := by
  refine ⟨fun pins s σ H Q I h => ?_⟩
  refine wpAny_isTrue_Compare1 (two ha hb sh_B I h fun v u s2 x y ox oy c hc I2 rx ry R hx hy p => ?_) hm
  subst hc
  obtain ⟨r, e, p⟩ := ofBind p
  obtain ⟨a, ea, e⟩ := bind_some2 e
  obtain ⟨b, eb, e⟩ := bind_some2 e
  obtain ⟨d, ed, e⟩ := map_some2 e
  obtain ⟨k, rfl⟩ := hs a b d ed
  subst e
  refine thn (ho pins s2 c.σ c.F c.H x y v u a b _ (fun z H' => z = .bl k ∧ H' = c.H) I2 rx ry R.sub (R.rdOp hx ea) (R.rdOp hy eb) ed fun z H' r => ?_) fun w s3 ⟨z, H3, I3, rz, q⟩ => ?_
  · cases r with
    | old h n => cases h; exact ⟨rfl, rfl⟩
  · obtain ⟨e1, e2⟩ := q
    subst e1 e2
    cases rz
    exact wpAny_truthy_bool ⟨c.H, I3, p k c.F c.H R (Ext.refl _) rfl⟩
end
end Mp

set_option exponentiation.threshold 100000
/-! Part 7: operations on values. -/
namespace Mp
open PySem PySem.Spec PyProof.Rows L2
theorem cap_line : cap = sizeLine := by rw [sizeLine_eq]
theorem strOk_app {a b : Str} (h : PyData.strOk a = true) (g : PyData.strOk b = true) : PyData.strOk (a ++ b) = true := by
  show ((a.cps ++ b.cps).all _) = true
  rw [Array.all_append, Bool.and_eq_true]
  exact ⟨h, g⟩
theorem strOk_L {a : Str} : PyData.strOk a = (L a).all (· < 0x110000) := by
  unfold PyData.strOk L
  rw [← Array.all_toList]
theorem strOk_S {l : List Nat} (h : ∀ c ∈ l, c < 0x110000) : PyData.strOk (S l) = true := by
  rw [strOk_L, L_S, List.all_eq_true]
  exact fun c hc => decide_eq_true (h c hc)
theorem strOk_mem {a : Str} (h : PyData.strOk a = true) {c : Nat} (hc : c ∈ L a) : c < 0x110000 := by
  rw [strOk_L, List.all_eq_true] at h
  exact of_decide_eq_true (h c hc)
theorem strOk_sub {a : Str} (h : PyData.strOk a = true) {l : List Nat} (hl : ∀ c ∈ l, c ∈ L a) : PyData.strOk (S l) = true := strOk_S fun c hc => strOk_mem h (hl c hc)
theorem app_S (a b : Str) : a ++ b = S (L a ++ L b) := by
  conv => lhs; rw [← S_L a, ← S_L b, append_S]
theorem sEnd_eq (n d : Nat) (o : Option Int) : sEnd n d o = HT.sIx n d o := by cases o <;> rfl
theorem cut_V {xs : List V} {lo hi : Option Int} : cutV xs lo hi = cut xs lo hi := by unfold cutV cut; simp only [sEnd_eq]
theorem place_eq (n : Nat) (i : Int) : place n i = ixN n i := rfl
theorem Rps.cut {K : PySem.W.Frag} {F : Hp} {xs : List V} {ds : List D} (h : Rps K F xs ds) (lo hi : Option Int) : Rps K F (Mp.cut xs lo hi) (Mp.cut ds lo hi) := by
  unfold Mp.cut
  rw [h.length]
  exact (h.drop _).take _
theorem cut_length {α : Type} (l : List α) (lo hi : Option Int) : (cut l lo hi).length ≤ l.length := by
  unfold cut
  rw [List.length_take, List.length_drop]
  omega
theorem eqV_deq {x y : V} {d e : D} {K : PySem.W.Frag} {F : Hp} (hx : Rp K F x d) (hy : Rp K F y e) (fd : flatD d = true) (fe : flatD e = true) : eqV x y = deq d e := by
  unfold deq
  cases d <;> first | (simp [flatD] at fd; done) | skip
  all_goals cases e <;> first | (simp [flatD] at fe; done) | skip
  all_goals
    cases hx
    cases hy
    simp only [eqV, PyData.eqv]
theorem flats {K : PySem.W.Frag} {F : Hp} : ∀ {xs : List V} {ds : List D}, Rps K F xs ds → ds.all flatD = true → xs.all flatV = true
  | _, [], h, _ => by cases h; rfl
  | _, d :: ds, h, f => by
    cases h with | cons h r =>
    rw [List.all_cons, Bool.and_eq_true] at f
    rw [List.all_cons, Bool.and_eq_true]
    refine ⟨?_, flats r f.2⟩
    exact ((Vw.fz (H := F) h).flat f.1).1
theorem inV_any {K : PySem.W.Frag} {F : Hp} {x : V} {d : D} (hx : Rp K F x d) (fx : flatD d = true) : ∀ {xs : List V} {ds : List D}, Rps K F xs ds → ds.all flatD = true → inV x xs = ds.any fun z => deq z d
  | _, [], h, _ => by cases h; rfl
  | _, e :: ds, h, f => by
    cases h with | cons h r =>
    rw [List.all_cons, Bool.and_eq_true] at f
    have ih := inV_any hx fx r f.2
    unfold inV at ih ⊢
    rw [List.any_cons, List.any_cons, ih, eqV_deq h hx f.1 fx]
theorem intBits_small {a : Int} (h0 : 0 ≤ a) (h : a < 2 ^ 2048) : Builtin.Int.intBits a ≤ 2048 := by
  unfold Builtin.Int.intBits
  split
  · omega
  · have h1 : a.natAbs < 2 ^ 2048 := by
      have : (a.natAbs : Int) < 2 ^ 2048 := by omega
      exact_mod_cast this
    rename_i hz
    have h2 : a.natAbs ≠ 0 := by
      intro z
      apply hz
      simpa using z
    have := (Nat.log2_lt h2).mpr h1
    omega
section
variable {X : Cx}
theorem ops_add : OpS X (binaryOp .Add) (bop .add) := by
  intro pins s σ F H x y v u dx dy d Q I rx ry sub vx vy e q
  have hcap := cap_line
  cases dx <;> cases dy <;> simp only [bop] at e <;> first | (cases e; done) | skip
  · cases e
    cases vx.int
    cases vy.int
    exact op_add pins s σ H _ _ v u Q I rx ry ⟨_, _, rfl, rfl, q _ _ (.old (.int _) rfl)⟩
  · rename_i a b
    split at e
    · rename_i hl
      cases e
      obtain ⟨e1, z1, o1⟩ := vx.str
      obtain ⟨e2, z2, o2⟩ := vy.str
      subst e1 e2
      refine op_add_str pins s σ H _ _ v u Q I rx ry ⟨_, _, rfl, rfl, by rw [← hcap]; rw [len_L, len_L]; exact hl, q _ _ ?_⟩
      rw [app_S]
      refine .old (.str _ ?_ ?_) rfl
      · rw [len_S, List.length_append]; exact hl
      · rw [← app_S]; exact strOk_app o1 o2
    · cases e
  · rename_i a b
    split at e
    · rename_i hl
      cases e
      obtain ⟨pa, xs, e1, h1, r1, z1⟩ := vx.list sub
      obtain ⟨pb, ys, e2, h2, r2, z2⟩ := vy.list sub
      subst e1 e2
      cases rx
      cases ry
      obtain ⟨z, its, n, r, e⟩ := h1.obj I
      obtain ⟨z', its2, n2, r', e2⟩ := h2.obj I
      have l1 := r.length
      have l2 := r'.length
      have m1 := r1.length
      have m2 := r2.length
      refine PySem.P.add_list e e2 ?_ (by rw [List.size_toArray, List.size_toArray, ← hcap]; omega)
      have ea : its.toArray ++ its2.toArray = (its ++ its2).toArray := by simp
      rw [ea]
      exact ⟨.ref _, _, I.lnew (t' := s.toks) (r.append r') (by rw [List.length_append, ← hcap]; omega), rfl, q _ _ (.lst I.fresh (r1.append r2) (by rw [List.length_append]; exact hl))⟩
    · cases e
  · rename_i a b
    split at e
    · rename_i hl
      cases e
      obtain ⟨pa, xs, e1, h1, r1, z1⟩ := vx.tuple sub
      obtain ⟨pb, ys, e2, h2, r2, z2⟩ := vy.tuple sub
      subst e1 e2
      have m1 := r1.length
      have m2 := r2.length
      refine op_catA pins s σ H _ _ v u Q I rx ry ⟨pa, pb, xs, ys, rfl, rfl, h1, h2, by rw [← hcap]; omega, fun hx => ?_, fun hx hy => ?_, fun hx hy p hp => ?_⟩
      · have ha : a = [] := by
          rw [hx] at m1
          exact List.length_eq_zero_iff.mp m1.symm
        subst ha
        cases vy with
        | fz h => exact q _ _ (.old (by simpa using h) rfl)
        | ow h => exact h.elim
      · have hb : b = [] := by
          rw [hy] at m2
          exact List.length_eq_zero_iff.mp m2.symm
        subst hb
        cases vx with
        | fz h => exact q _ _ (.old (by simpa using h) rfl)
        | ow h => exact h.elim
      · exact q _ _ (.tup hp (r1.append r2) (by rw [List.length_append]; exact hl))
    · cases e
theorem ops_sub : OpS X (binaryOp .Sub) (bop .sub) := by
  intro pins s σ F H x y v u dx dy d Q I rx ry sub vx vy e q
  cases dx <;> cases dy <;> simp only [bop] at e <;> first | (cases e; done) | skip
  cases e
  cases vx.int
  cases vy.int
  exact op_sub pins s σ H _ _ v u Q I rx ry ⟨_, _, rfl, rfl, q _ _ (.old (.int _) rfl)⟩
theorem rep_str {a : Str} {n : Nat} : (⟨(List.replicate n a.cps).foldl (· ++ ·) #[]⟩ : Str) = S (repL n (L a)) := by
  unfold S repL L
  congr 1
  have gen : ∀ (k : Nat) (acc : Array Nat), List.foldl (fun x1 x2 => x1 ++ x2) acc (List.replicate k a.cps) = (acc.toList ++ (List.replicate k a.cps.toList).flatten).toArray := by
    intro k
    induction k with
    | zero => intro acc; simp
    | succ k ih =>
      intro acc
      rw [List.replicate_succ, List.replicate_succ, List.foldl_cons, ih, List.flatten_cons]
      simp
  simpa using gen n #[]
theorem repL_length {α : Type} (n : Nat) (l : List α) : (repL n l).length = l.length * n := by
  unfold repL
  simp [Nat.mul_comm]
theorem repL_mem {α : Type} {n : Nat} {l : List α} {x : α} (h : x ∈ repL n l) : x ∈ l := by
  unfold repL at h
  rw [List.mem_flatten] at h
  obtain ⟨m, hm, hx⟩ := h
  rw [List.eq_of_mem_replicate hm] at hx
  exact hx
theorem ops_mul : OpS X (binaryOp .Mult) (bop .mul) := by
  intro pins s σ F H x y v u dx dy d Q I rx ry sub vx vy e q
  have hcap := cap_line
  cases dx <;> cases dy <;> simp only [bop] at e <;> first | (cases e; done) | skip
  · split at e
    · rename_i hm
      cases e
      cases vx.int
      cases vy.int
      exact op_mulW pins s σ H _ _ v u Q I rx ry ⟨_, _, rfl, rfl, wide_mul hm.1 hm.2 (by decide) (by decide) (by decide), q _ _ (.old (.int _) rfl)⟩
    · cases e
  · rename_i a n
    split at e
    · rename_i hm
      cases e
      obtain ⟨e1, z1, o1⟩ := vx.str
      subst e1
      cases vy.int
      obtain ⟨t, rfl⟩ := rx
      obtain ⟨t', rfl⟩ := ry
      have hn : n < 2 ^ 62 ∧ -(2 ^ 62) < n := by omega
      have hfin : Rp X.K F (.str (S (repL n.toNat (L a)))) (.str (S (repL n.toNat (L a)))) := by
        refine .str _ ?_ (strOk_sub o1 fun c hc => repL_mem hc)
        rw [len_S, repL_length]
        exact hm.1
      refine PySem.P.mul_str ?_ ?_ ?_ ?_
      · rw [decide_eq_false (by omega), decide_eq_false (by omega)]
        rfl
      · intro h1 h2 h3
        have h4 : (a.length : Int) ≤ (2 ^ 63 - 1) / n := by
          refine (Int.le_ediv_iff_mul_le (by omega)).mpr ?_
          have h5 : ((L a).length * n.toNat : Nat) ≤ cap := hm.1
          rw [← len_L] at h5
          have h6 : ((a.length * n.toNat : Nat) : Int) = (a.length : Int) * n := by
            rw [Int.natCast_mul, Int.toNat_of_nonneg (by omega)]
          rw [← h6]
          have h7 : ((a.length * n.toNat : Nat) : Int) ≤ (cap : Nat) := by exact_mod_cast h5
          have h8 : ((cap : Nat) : Int) = 16777216 := rfl
          omega
        omega
      · intro h1 h2
        have h5 : ((L a).length * n.toNat : Nat) ≤ cap := hm.1
        rw [← len_L] at h5
        unfold Builtin.Str.tooLong
        simp
        have h8 : (cap : Nat) = 16777216 := rfl
        omega
      · split
        · rename_i h1
          have h2 : n.toNat = 0 := by omega
          have h3 : Str.empty = S (repL n.toNat (L a)) := by rw [h2]; rfl
          refine ⟨by decide, ?_⟩
          rw [h3]
          exact ⟨.str _, H, I.tok _, ⟨_, rfl⟩, q _ _ (.old hfin rfl)⟩
        · split
          · rename_i h1 h2
            have h3 : a = S (repL n.toNat (L a)) := by
              rw [Bool.or_eq_true] at h2
              rcases h2 with h2 | h2
              · have h4 : n = 1 := by simpa using h2
                rw [h4]
                simp [repL]
              · have h4 : (L a).length = 0 := by rw [← len_L]; simpa using h2
                have h5 : L a = [] := List.length_eq_zero_iff.mp h4
                have h6 : a = S [] := by rw [← h5, S_L]
                rw [h5]
                rw [h6]
                unfold repL
                congr 1
                simp
            refine ⟨.str a, H, I, ⟨_, rfl⟩, ?_⟩
            rw [← h3] at hfin q
            exact q _ _ (.old hfin rfl)
          · rw [rep_str]
            refine ⟨?_, .str _, H, I.tok _, ⟨_, rfl⟩, q _ _ (.old hfin rfl)⟩
            rw [len_S, repL_length, ← hcap]
            exact hm.1
    · cases e
  · rename_i a n
    split at e
    · rename_i hm
      cases e
      obtain ⟨pa, xs, e1, h1, r1, z1⟩ := vx.list sub
      subst e1
      cases vy.int
      have m1 := r1.length
      cases rx
      obtain ⟨t', rfl⟩ := ry
      obtain ⟨z, its, m, r, eo⟩ := h1.obj I
      have l1 := r.length
      have hn : n < 2 ^ 62 ∧ -(2 ^ 62) < n := by omega
      have hlen : its.toArray.size * n.toNat ≤ sizeLine := by rw [List.size_toArray, ← l1, m1, ← hcap]; exact hm.1
      have hcap2 : ¬ its.toArray.size * n.toNat > (2 ^ 63 - 1) / 8 := by
        have : (sizeLine : Nat) ≤ (2 ^ 63 - 1) / 8 := by rw [← hcap]; decide
        omega
      have hfit : ¬ (!Builtin.List.listFitsIndex n) = true := by
        rw [fitsIndex_both (by omega) (by omega)]
        exact Bool.false_ne_true
      have hlong : ¬ Builtin.List.listTooLong (its.toArray.size * n.toNat) = true := by
        rw [notLongL hlen]
        exact Bool.false_ne_true
      have hnew : List.foldl (fun x1 x2 => x1 ++ x2) #[] (List.replicate (if its.toArray.isEmpty = true then 0 else n.toNat) its.toArray) = (List.replicate n.toNat its).flatten.toArray := by
        have f0 : ∀ m : Nat, List.foldl (fun x1 x2 => x1 ++ x2) #[] (List.replicate m its.toArray) = (List.replicate m its).flatten.toArray := fun m => by
          have := L2.foldl_rep its m []
          rw [List.nil_append] at this
          exact this
        rw [f0]
        cases its with
        | nil => simp
        | cons a r' => rw [if_neg (by simp)]
      refine wpAny_binaryOp_repeat_ref (T := "list") (U := "int") (by decide) ⟨_, eo, rfl⟩ (fun s' => typeIs_int s' n t') noFill_list_mul PySem.F.fills_int_mul PySem.F.slot_int_rmul repeat_list PySem.F.slot_int_index.lookup
        (call_meets PySem.F.slot_int_rmul (typeIs_int s n t') PySem.F.entry_int_rmul (PySem.F.args_int_rmul_2 _ _) (int___rmul___int_list n t' pa its.toArray m)
          ⟨eo, rfl, ⟨_, eo, rfl⟩, call_meets PySem.F.slot_list_mul ⟨_, eo, rfl⟩ PySem.F.entry_list_mul (PySem.F.args_list_mul_2 _ _) (AutoListH.list___mul___list_int_3 pa its.toArray m n t' hfit hcap2 hlong) ⟨eo, ?_⟩⟩)
      rw [hnew]
      have hz2 : (repL n.toNat xs).length ≤ sizeLine := by rw [repL_length, m1, ← hcap]; exact hm.1
      exact ⟨.ref _, _, I.lnew (t' := s.toks) (ys := repL n.toNat xs) (r.rep n.toNat) hz2, rfl, q _ _ (.lst I.fresh (r1.flat n.toNat) (by rw [repL_length]; exact hm.1))⟩
    · cases e
theorem ops_fdiv : OpS X (binaryOp .FloorDiv) (bop .fdiv) := by
  intro pins s σ F H x y v u dx dy d Q I rx ry sub vx vy e q
  cases dx <;> cases dy <;> simp only [bop] at e <;> first | (cases e; done) | skip
  rename_i a b
  split at e
  · rename_i hm
    cases e
    cases vx.int
    cases vy.int
    have hb : b.natAbs < 2 ^ 8000 := by
      have h0 := hm.1
      have h1 : (b.natAbs : Int) < 2 ^ 8000 := by rw [Int.natAbs_of_nonneg (by omega)]; exact hm.2
      exact_mod_cast h1
    exact op_fdivW pins s σ H _ _ v u Q I rx ry ⟨_, _, rfl, rfl, wide_div hm.1 hb (by decide) (by decide), q _ _ (.old (.int _) rfl)⟩
  · cases e
theorem ops_mod : OpS X (binaryOp .Mod) (bop .mod) := by
  intro pins s σ F H x y v u dx dy d Q I rx ry sub vx vy e q
  cases dx <;> cases dy <;> simp only [bop] at e <;> first | (cases e; done) | skip
  rename_i a b
  split at e
  · rename_i hm
    cases e
    cases vx.int
    cases vy.int
    exact op_mod pins s σ H _ _ v u Q I rx ry ⟨_, _, rfl, rfl, hm, q _ _ (.old (.int _) rfl)⟩
  · cases e
theorem ops_pow : OpS X (binaryOp .Pow) (bop .pow) := by
  intro pins s σ F H x y v u dx dy d Q I rx ry sub vx vy e q
  cases dx <;> cases dy <;> simp only [bop] at e <;> first | (cases e; done) | skip
  rename_i a b
  split at e
  · rename_i hm
    obtain ⟨h0, h1, h2, h3⟩ := hm
    cases e
    cases vx.int
    cases vy.int
    obtain ⟨t, rfl⟩ := rx
    obtain ⟨t', rfl⟩ := ry
    have hb := intBits_small h0 h1
    refine PyProof.Rows.pow_int h2 ?_ ⟨.int _, H, I.tok _, ⟨_, rfl⟩, q _ _ (.old (.int _) rfl)⟩
    have h4 : (Builtin.Int.intBits a : Int) * b ≤ 2048 * 128 := Int.mul_le_mul (by omega) (by omega) h2 (by decide)
    exact Int.le_trans h4 (by decide)
  · cases e
end
end Mp

/-! Part 8: comparisons, items, slices, built-in functions and methods, by values. -/
namespace Mp
open PySem PySem.Spec PyProof.Rows L2
theorem cop_bool {o : Cop} {x y d : D} (h : cop o x y = some d) : ∃ k, d = .bool k := by
  unfold cop at h
  split at h
  · split at h
    · exact ⟨_, (Option.some.inj h).symm⟩
    · split at h
      · exact ⟨_, (Option.some.inj h).symm⟩
      · cases h
  · split at h
    · exact ⟨_, (Option.some.inj h).symm⟩
    · split at h
      · exact ⟨_, (Option.some.inj h).symm⟩
      · cases h
  all_goals
    split at h <;> first | (cases h; done) | (split at h <;> first | (cases h; done) | exact ⟨_, (Option.some.inj h).symm⟩) | exact ⟨_, (Option.some.inj h).symm⟩
theorem cop_nomut {o : Cop} {x y d : D} (h : cop o x y = some d) : isMut d = false := by
  obtain ⟨k, rfl⟩ := cop_bool h
  rfl
section
variable {X : Cx}
theorem lenNe_eq {x y : D} (h : lenNe x y = true) : ∃ a b, x = .list a ∧ y = .list b ∧ a.length ≠ b.length := by
  unfold lenNe at h
  split at h
  · exact ⟨_, _, rfl, rfl, by simpa using h⟩
  · cases h
theorem len_isList {pins : List (Addr × Obj)} {s : Shared} {σ : Sg} {F H : Hp} {x : V} {v : Value} {ds : List D} (I : Inv X pins σ H s) (rx : RelV x v) (sub : Sub F H) (vx : Vw X.K F H x (.list ds)) : ∃ a vs, v = .ref a ∧ s.heap.IsList a vs ∧ vs.size = ds.length := by
  obtain ⟨a, xs, rfl, q, r, _⟩ := vx.list sub
  obtain ⟨_, vs, n, w, e⟩ := q.obj I
  have l1 := r.length
  have l2 := w.length
  have er : v = .ref a := rx
  exact ⟨a, vs.toArray, er, ⟨_, e, rfl, n, rfl⟩, by rw [List.size_toArray]; omega⟩
theorem ops_eq (hu : X.A.units + 64 < cLine) : OpS X (compareOp .Eq) (cop .eq) := by
  intro pins s σ F H x y v u dx dy d Q I rx ry sub vx vy e q
  simp only [cop] at e
  split at e
  · rename_i h
    cases e
    obtain ⟨a, b, rfl, rfl, hne⟩ := lenNe_eq h
    obtain ⟨p, us, rfl, l1, z1⟩ := len_isList I rx sub vx
    obtain ⟨r, ws, rfl, l2, z2⟩ := len_isList I ry sub vy
    exact SeqAt.RcAt.lists_lengths l1 l2 (by rw [z1, z2]; simpa using hne) (by omega) _ _ _ _ ⟨.bl _, H, I, rfl, q _ _ (.old (.bl _) rfl)⟩
  split at e
  · rename_i h
    rw [Bool.and_eq_true] at h
    cases e
    obtain ⟨d1, s1⟩ := vx.dp sub h.1
    obtain ⟨d2, s2⟩ := vy.dp sub h.2
    exact op_eqD hu pins s σ H x y v u Q I rx ry ⟨dx, dy, d1, d2, s1, s2, q _ _ (.old (.bl _) rfl)⟩
  · cases e
theorem ops_ne (hu : X.A.units + 64 < cLine) : OpS X (compareOp .NotEq) (cop .ne) := by
  intro pins s σ F H x y v u dx dy d Q I rx ry sub vx vy e q
  simp only [cop] at e
  split at e
  · rename_i h
    cases e
    obtain ⟨a, b, rfl, rfl, hne⟩ := lenNe_eq h
    obtain ⟨p, us, rfl, l1, z1⟩ := len_isList I rx sub vx
    obtain ⟨r, ws, rfl, l2, z2⟩ := len_isList I ry sub vy
    exact SeqAt.RcNeAt.lists_lengths l1 l2 (by rw [z1, z2]; simpa using hne) (by omega) _ _ _ _ ⟨.bl _, H, I, rfl, q _ _ (.old (.bl _) rfl)⟩
  split at e
  · rename_i h
    rw [Bool.and_eq_true] at h
    cases e
    obtain ⟨d1, s1⟩ := vx.dp sub h.1
    obtain ⟨d2, s2⟩ := vy.dp sub h.2
    exact op_neD hu pins s σ H x y v u Q I rx ry ⟨dx, dy, d1, d2, s1, s2, q _ _ (.old (.bl _) rfl)⟩
  · cases e
theorem ops_lt : OpS X (compareOp .Lt) (cop .lt) := by
  intro pins s σ F H x y v u dx dy d Q I rx ry sub vx vy e q
  simp only [cop] at e
  split at e
  · cases e
    cases vx.int
    cases vy.int
    exact op_lt pins s σ H _ _ v u Q I rx ry ⟨_, _, rfl, rfl, q _ _ (.old (.bl _) rfl)⟩
  · cases e
    obtain ⟨e1, _⟩ := vx.str
    obtain ⟨e2, _⟩ := vy.str
    subst e1 e2
    exact op_lt_str pins s σ H _ _ v u Q I rx ry ⟨_, _, rfl, rfl, q _ _ (.old (.bl _) rfl)⟩
  · cases e
theorem ops_le : OpS X (compareOp .LtE) (cop .le) := by
  intro pins s σ F H x y v u dx dy d Q I rx ry sub vx vy e q
  simp only [cop] at e
  split at e
  · cases e
    cases vx.int
    cases vy.int
    exact op_le pins s σ H _ _ v u Q I rx ry ⟨_, _, rfl, rfl, q _ _ (.old (.bl _) rfl)⟩
  · cases e
theorem ops_gt : OpS X (compareOp .Gt) (cop .gt) := by
  intro pins s σ F H x y v u dx dy d Q I rx ry sub vx vy e q
  simp only [cop] at e
  split at e
  · cases e
    cases vx.int
    cases vy.int
    exact op_gt pins s σ H _ _ v u Q I rx ry ⟨_, _, rfl, rfl, q _ _ (.old (.bl _) rfl)⟩
  · cases e
    obtain ⟨e1, _⟩ := vx.str
    obtain ⟨e2, _⟩ := vy.str
    subst e1 e2
    exact op_gt_str pins s σ H _ _ v u Q I rx ry ⟨_, _, rfl, rfl, q _ _ (.old (.bl _) rfl)⟩
  · cases e
theorem ops_ge : OpS X (compareOp .GtE) (cop .ge) := by
  intro pins s σ F H x y v u dx dy d Q I rx ry sub vx vy e q
  simp only [cop] at e
  split at e
  · cases e
    cases vx.int
    cases vy.int
    exact op_ge pins s σ H _ _ v u Q I rx ry ⟨_, _, rfl, rfl, q _ _ (.old (.bl _) rfl)⟩
  · cases e
theorem isN_eq {K : PySem.W.Frag} {F H : Hp} {x : V} {d : D} (h : Vw K F H x d) : decide (x = .non) = isNo d := by
  cases h with
  | fz h => cases h <;> rfl
  | @ow a d h =>
    cases d <;> first | exact h.elim | rfl
theorem ops_isN : OpS X (compareOp .Is) (cop .isN) := by
  intro pins s σ F H x y v u dx dy d Q I rx ry sub vx vy e q
  simp only [cop] at e
  cases dy <;> first | (cases e; done) | skip
  cases e
  cases vy.none
  refine op_isN pins s σ H _ _ v u Q I rx ry ⟨rfl, ?_⟩
  rw [isN_eq vx]
  exact q _ _ (.old (.bl _) rfl)
theorem ops_notN : OpS X (compareOp .IsNot) (cop .notN) := by
  intro pins s σ F H x y v u dx dy d Q I rx ry sub vx vy e q
  simp only [cop] at e
  cases dy <;> first | (cases e; done) | skip
  cases e
  cases vy.none
  refine op_notN pins s σ H _ _ v u Q I rx ry ⟨rfl, ?_⟩
  rw [isN_eq vx]
  exact q _ _ (.old (.bl _) rfl)
theorem ops_in : OpS X (compareOp .In) (cop .isin) := by
  intro pins s σ F H x y v u dx dy d Q I rx ry sub vx vy e q
  simp only [cop] at e
  split at e
  · split at e
    · rename_i ys h
      rw [Bool.and_eq_true] at h
      cases e
      obtain ⟨a, xs, e1, h1, r1, z1⟩ := vy.list sub
      obtain ⟨f1, f2⟩ := vx.flat h.1
      subst e1
      refine op_in_seq pins s σ H _ _ v u Q I rx ry ⟨a, xs, rfl, .inl h1.l, f1, flats r1 h.2, ?_⟩
      rw [if_neg Bool.false_ne_true, inV_any f2 h.1 r1 h.2]
      exact q _ _ (.old (.bl _) rfl)
    · cases e
  · split at e
    · rename_i ys h
      rw [Bool.and_eq_true] at h
      cases e
      obtain ⟨a, xs, e1, h1, r1, z1⟩ := vy.tuple sub
      obtain ⟨f1, f2⟩ := vx.flat h.1
      subst e1
      refine op_in_seq pins s σ H _ _ v u Q I rx ry ⟨a, xs, rfl, .inr h1, f1, flats r1 h.2, ?_⟩
      rw [if_neg Bool.false_ne_true, inV_any f2 h.1 r1 h.2]
      exact q _ _ (.old (.bl _) rfl)
    · cases e
  · split at e
    · cases e
      obtain ⟨e1, _⟩ := vx.str
      obtain ⟨e2, _⟩ := vy.str
      subst e1 e2
      exact op_in_str pins s σ H _ _ v u Q I rx ry ⟨_, _, rfl, rfl, q _ _ (.old (.bl _) rfl)⟩
    · cases e
  · cases e
theorem ops_notin : OpS X (compareOp .NotIn) (cop .notin) := by
  intro pins s σ F H x y v u dx dy d Q I rx ry sub vx vy e q
  simp only [cop] at e
  split at e
  · split at e
    · rename_i ys h
      rw [Bool.and_eq_true] at h
      cases e
      obtain ⟨a, xs, e1, h1, r1, z1⟩ := vy.list sub
      obtain ⟨f1, f2⟩ := vx.flat h.1
      subst e1
      refine op_notIn_seq pins s σ H _ _ v u Q I rx ry ⟨a, xs, rfl, .inl h1.l, f1, flats r1 h.2, ?_⟩
      rw [if_pos rfl, inV_any f2 h.1 r1 h.2]
      exact q _ _ (.old (.bl _) rfl)
    · cases e
  · split at e
    · rename_i ys h
      rw [Bool.and_eq_true] at h
      cases e
      obtain ⟨a, xs, e1, h1, r1, z1⟩ := vy.tuple sub
      obtain ⟨f1, f2⟩ := vx.flat h.1
      subst e1
      refine op_notIn_seq pins s σ H _ _ v u Q I rx ry ⟨a, xs, rfl, .inr h1, f1, flats r1 h.2, ?_⟩
      rw [if_pos rfl, inV_any f2 h.1 r1 h.2]
      exact q _ _ (.old (.bl _) rfl)
    · cases e
  · split at e
    · cases e
      obtain ⟨e1, _⟩ := vx.str
      obtain ⟨e2, _⟩ := vy.str
      subst e1 e2
      exact L2.op_notin_str pins s σ H _ _ v u Q I rx ry ⟨_, _, rfl, rfl, q _ _ (.old (.bl _) rfl)⟩
    · cases e
  · cases e
/-- an item -/
theorem at_of {α : Type} {xs : List α} {i : Int} {j : Nat} {v : α} (h : place xs.length i = some j) (e : xs[j]? = some v) : atI xs i = some v := by
  unfold atI
  rw [← place_eq, h, Option.bind_some, e]
theorem ixs {F H : Hp} {x y : V} {dx dy d : D} {Q : VK} (sub : Sub F H) (vx : Vw X.K F H x dx) (vy : Vw X.K F H y dy) (e : ixD dx dy = some d) (q : ∀ z H', Res X.K F H d z H' → isMut d = false → Q z H') (q2 : ∀ z, Rp X.K F z d → Q z H) : rIx X.K x y H Q := by
  unfold ixD at e
  split at e
  · obtain ⟨j, e1, e2⟩ := bind_some2 e
    obtain ⟨a, xs, e3, h1, r1, z1⟩ := vx.list sub
    cases vy.int
    obtain ⟨w, e4, r⟩ := r1.get e2
    exact .inl ⟨a, xs, _, w, e3, rfl, h1.l, at_of (by rw [r1.length]; exact e1) e4, q2 w r⟩
  · obtain ⟨j, e1, e2⟩ := bind_some2 e
    obtain ⟨a, xs, e3, h1, r1, z1⟩ := vx.tuple sub
    cases vy.int
    obtain ⟨w, e4, r⟩ := r1.get e2
    exact .inr (.inl ⟨a, xs, _, w, e3, rfl, h1, at_of (by rw [r1.length]; exact e1) e4, q2 w r⟩)
  · obtain ⟨j, e1, e2⟩ := bind_some2 e
    obtain ⟨c, e3, e4⟩ := map_some2 e2
    obtain ⟨e5, z5, o5⟩ := vx.str
    cases vy.int
    subst e4
    refine .inr (.inr ⟨_, _, c, e5, rfl, by rw [← cap_line]; exact z5, at_of e1 e3, ?_⟩)
    refine q2 _ (.str (S [c]) (by rw [len_S]; show 1 ≤ cap; decide) (strOk_sub o5 fun b hb => ?_))
    rw [List.mem_singleton] at hb
    subst hb
    exact List.mem_of_getElem? e3
  · cases e
/-- a slice -/
theorem sls {F H : Hp} {x : V} {dx d : D} {lo hi : Option Int} {Q : VK} (sub : Sub F H) (vx : Vw X.K F H x dx) (e : slD dx lo hi = some d) (q : ∀ z H', Res X.K F H d z H' → Q z H') :
    rSlL X.K x lo hi H Q ∨ rSlA X.K x lo hi H Q ∨ rSlS x lo hi H Q := by
  unfold slD at e
  split at e
  · cases e
    obtain ⟨a, xs, e3, h1, r1, z1⟩ := vx.list sub
    refine .inl ⟨a, xs, e3, h1.l, fun p hp => ?_⟩
    rw [cut_V]
    exact q _ _ (.lst hp (r1.cut lo hi) (Nat.le_trans (cut_length _ _ _) z1))
  · rename_i ds
    cases e
    obtain ⟨a, xs, e3, h1, r1, z1⟩ := vx.tuple sub
    have hl := r1.length
    refine .inr (.inl ⟨a, xs, e3, h1, fun hw => ?_, fun hw p hp => ?_⟩)
    · have e4 : cut ds lo hi = ds := by
        unfold cut
        rw [sEnd_eq, sEnd_eq, ← hl, hw.1, hw.2]
        simp [hl]
      cases vx with
      | fz h =>
        refine q _ _ (.old ?_ rfl)
        rw [e4, ← e3]
        exact h
      | ow h => exact h.elim
    · rw [cut_V]
      exact q _ _ (.tup hp (r1.cut lo hi) (Nat.le_trans (cut_length _ _ _) z1))
  · cases e
    obtain ⟨e5, z5, o5⟩ := vx.str
    refine .inr (.inr ⟨_, e5, by rw [← cap_line]; exact z5, ?_⟩)
    have e6 : ∀ z : Str, cutS z lo hi = S (cut (L z) lo hi) := fun z => by
      unfold cutS S cut L
      simp only [sEnd_eq]
      rfl
    rw [e6]
    refine q _ _ (.old (.str _ ?_ (strOk_sub o5 fun b hb => ?_)) rfl)
    · rw [len_S]
      refine Nat.le_trans (cut_length _ _ _) ?_
      rw [← len_L]
      exact z5
    · unfold cut at hb
      exact List.mem_of_mem_drop (List.mem_of_mem_take hb)
  · cases e
end
end Mp

/-! Part 9: expressions. -/
namespace Mp
open PySem PySem.Spec PyProof.Rows L2
section
variable {T : Tb} {X : Cx} {B : Bs} {W : WX} {a b c' : Expr} {pos : Pos} {eva evb evc : Mp.St → R Op}

theorem view_tru {K : PySem.W.Frag} {F H : Hp} {v : V} {d : D} (s : Sub F H) (h : Vw K F H v d) : TruV K v H (truth d) := by
  have hc := cap_line
  cases d with
  | none => cases h.none; exact rfl
  | bool b => cases h.bool; exact rfl
  | int i => cases h.int; exact rfl
  | str x =>
    obtain ⟨e, z, o⟩ := h.str
    subst e
    refine ⟨by rw [← hc]; exact z, ?_⟩
    show (!(L x).isEmpty) = ((x.length : Int) != 0)
    rw [len_L]
    cases L x with
    | nil => rfl
    | cons a l => simp; omega
  | list ds =>
    obtain ⟨a, xs, e, h1, r1, z1⟩ := h.list s
    subst e
    refine .inl ⟨xs, h1.l, ?_⟩
    show (!ds.isEmpty) = !xs.isEmpty
    have := r1.length
    cases ds <;> cases xs <;> first | rfl | simp at this
  | tuple ds =>
    obtain ⟨a, xs, e, h1, r1, z1⟩ := h.tuple s
    subst e
    refine .inr (.inl ⟨xs, h1, ?_⟩)
    show (!ds.isEmpty) = !xs.isEmpty
    have := r1.length
    cases ds <;> cases xs <;> first | rfl | simp at this
  | dict ds =>
    obtain ⟨a, xs, e, h1, r1, z1⟩ := h.dict s
    subst e
    refine .inr (.inr ⟨xs, h1, ?_⟩)
    show (!ds.isEmpty) = !xs.isEmpty
    have := r1.length
    cases ds <;> cases xs <;> first | rfl | simp at this
/-- one operand, then an operation -/
theorem one {α β : Type} {k : Op → Mp.St → R α} {rel : Cf → Cf → β → α → Prop} {Q : β → Hp → Prop} {σ : Sg} {H : Hp} {pins : List (Addr × Obj)} {s : Shared}
    (ha : Eo T X B W a eva) (sh : Sh rel) (I : Inv X pins σ H s) (h : tG T X B W rel (fun t => (eva t).bind fun x t => k x t) σ H Q) {Qf : Value → Shared → Prop}
    (hf : ∀ v s1 x ox (c : Cf), c.σ = σ → Inv X pins σ c.H s1 → RelV x v → Rl T X B c → relO X.K c c x ox → Post T X B W rel c (k ox c.t) Q → Qf v s1) :
    wpAny (model X.prog X.w) X.A (eval a X.env) Qf X.xe s := by
  refine thn (ha.run pins s σ H _ I (tG.bind (rel1 := relO X.K) sh h)) fun v s1 ⟨x, H1, I1, r1, q1⟩ => ?_
  obtain ⟨ox, F1, t1, F, t, R1, e1, o1, p1⟩ := q1
  exact hf v s1 x ox ⟨F1, H1, t1, σ⟩ rfl I1 r1 R1 (relO_mono o1 (Sub.refl _) rfl) p1
theorem ee_kNeg (ha : Eo T X B W a eva) : Ee T X B W (.UnaryOp .USub a pos) (kNeg eva) := by
  refine ⟨fun pins s σ H Q I h => ?_⟩
  refine UnaryOp_ (one ha sh_V I h fun v s1 x ox c hc I1 rx R hx p => ?_)
  subst hc
  obtain ⟨r, e, p⟩ := ofBind p
  obtain ⟨d, ed, e⟩ := bind_some2 e
  cases d <;> first | (cases e; done) | skip
  cases e
  cases (R.rdOp hx ed).int
  exact un_neg pins s1 c.σ c.H _ v Q I1 rx ⟨_, rfl, p.val R (.int _)⟩
theorem ee_kNot (ha : Eo T X B W a eva) : Ee T X B W (.UnaryOp .Not a pos) (kNot eva) := by
  refine ⟨fun pins s σ H Q I h => ?_⟩
  refine UnaryOp_ (one ha sh_V I h fun v s1 x ox c hc I1 rx R hx p => ?_)
  subst hc
  obtain ⟨r, e, p⟩ := ofBind p
  obtain ⟨d, ed, e⟩ := map_some2 e
  subst e
  have tv := view_tru R.sub (R.rdOp hx ed)
  exact not_of (thn (tru_ok pins s1 c.σ c.H x v (fun b H2 => b = truth d ∧ H2 = c.H) I1 rx ⟨_, tv, rfl, rfl⟩) fun b s2 ⟨H2, I2, e1, e2⟩ => ⟨.bl (!b), c.H, by rw [← e2]; exact I2, rfl, by rw [e1]; exact p.val R (.bl _)⟩)
/-- a test by a value's truth -/
theorem et_op (ha : Eo T X B W a eva) (he : ∀ whole, isTrue a X.env whole = (do let v ← whole; standAt a.pos; holding [v] (truthy v))) : Et T X B W a (fun t => (eva t).bind fun x t => Mp.R.of ((rd x t).map truth) t) := by
  refine ⟨fun pins s σ H Q I h => ?_⟩
  refine isTrue_plain (one ha sh_B I h fun v s1 x ox c hc I1 rx R hx p => ?_) (he _)
  subst hc
  obtain ⟨r, e, p⟩ := ofBind p
  obtain ⟨d, ed, e⟩ := map_some2 e
  subst e
  have tv := view_tru R.sub (R.rdOp hx ed)
  exact tru_ok pins s1 c.σ c.H x v Q I1 rx ⟨_, tv, p _ c.F c.H R (Ext.refl _) rfl⟩
theorem et_val {ev : Mp.St → R Rv} (ha : Ee T X B W a ev) (he : ∀ whole, isTrue a X.env whole = (do let v ← whole; standAt a.pos; holding [v] (truthy v))) : Et T X B W a (fun t => trR (ev t)) := by
  refine pt_imp (et_op (eo_val ha) he) fun σ H Q q => ?_
  obtain ⟨F, t, R, p⟩ := q
  refine ⟨F, t, R, ?_⟩
  unfold trR at p
  dsimp only at p ⊢
  cases e : ev t with
  | ok v t' => rw [e] at p; exact p
  | rs x t' => rw [e] at p; exact p
  | bad => rw [e] at p; exact p
theorem et_var {i : Nat} {x : Str} {pos : Pos} (hN : X.N[i]? = some x) (hv : Vis X.env.scope x) (hd : (x == ("__debug__" : Str)) = false) (hcd : (x == ("__classdict__" : Str)) = false) : Et T X B W (.Name x pos) (fun t => Mp.R.of (((t[i]?).bind rdS).map truth) t) := by
  refine pt_imp (et_op (eo_var (T := T) (B := B) (W := W) hN hv hd hcd) fun _ => rfl) fun σ H Q q => ?_
  obtain ⟨F, t, R, p⟩ := q
  refine ⟨F, t, R, ?_⟩
  obtain ⟨b, e, p⟩ := ofBind (c := ⟨F, H, t, σ⟩) p
  obtain ⟨d, ed, e⟩ := map_some2 e
  subst e
  obtain ⟨s, es, er⟩ := bind_some2 ed
  have hs : s ≠ .un := by rintro rfl; cases er
  dsimp only
  rw [opnV_ok es hs]
  show Post T X B W relB ⟨F, H, t, σ⟩ (Mp.R.of ((rd (.i i) t).map truth) t) Q
  have e4 : rd (.i i) t = some d := by
    show (t[i]?).bind rdS = some d
    rw [es]; exact er
  rw [e4]
  exact p
theorem et_not {eva : Mp.St → R Bool} (ha : Et T X B W a eva) : Et T X B W (.UnaryOp .Not a pos) (fun t => (eva t).bind fun b t => .ok (!b) t) := by
  refine pt_imp (pt_not ha) fun σ H Q q => ?_
  obtain ⟨F, t, R, p⟩ := q
  refine ⟨F, t, R, ?_⟩
  refine (p.bind (rel1 := relB) sh_B).imp fun b H1 q => ?_
  obtain ⟨b', F1, t1, R1, x1, e, p1⟩ := q
  have e' : b = b' := e
  subst e'
  exact p1 _ F1 H1 R1 (Ext.refl _) rfl
theorem ew_and1 {eva : Mp.St → R Bool} (ha : Et T X B W a eva) : PW X (.BoolOp .And [a] pos) (tG T X B W relB eva) := pw_and1 ha
theorem pw_imp {e : Expr} {t t' : TT} (h : PW X e t) (k : ∀ σ H Q, t' σ H Q → t σ H Q) : PW X e t' := ⟨fun wh pins s σ H Q I q => h.run wh pins s σ H Q I (k σ H Q q)⟩
theorem ew_and {eva evr : Mp.St → R Bool} {rest : List Expr} (ha : Et T X B W a eva) (hb : PW X (.BoolOp .And (b :: rest) pos) (tG T X B W relB evr)) :
    PW X (.BoolOp .And (a :: b :: rest) pos) (tG T X B W relB fun t => (eva t).bind fun b t => if b = true then evr t else .ok false t) := by
  refine pw_imp (pw_and ha hb) fun σ H Q q => ?_
  obtain ⟨F, t, R, p⟩ := q
  refine ⟨F, t, R, ?_⟩
  refine (p.bind (rel1 := relB) sh_B).imp fun k H1 q => ?_
  obtain ⟨k', F1, t1, R1, x1, e, p1⟩ := q
  have e' : k = k' := e
  subst e'
  cases k with
  | true => rw [if_pos rfl] at p1 ⊢; exact ⟨F1, t1, R1, p1⟩
  | false => rw [if_neg Bool.false_ne_true] at p1 ⊢; exact p1 _ F1 H1 R1 (Ext.refl _) rfl
theorem ew_or1 {eva : Mp.St → R Bool} (ha : Et T X B W a eva) : PW X (.BoolOp .Or [a] pos) (tG T X B W relB eva) := pw_or1 ha
theorem ew_or {eva evr : Mp.St → R Bool} {rest : List Expr} (ha : Et T X B W a eva) (hb : PW X (.BoolOp .Or (b :: rest) pos) (tG T X B W relB evr)) :
    PW X (.BoolOp .Or (a :: b :: rest) pos) (tG T X B W relB fun t => (eva t).bind fun b t => if b = true then .ok true t else evr t) := by
  refine pw_imp (pw_or ha hb) fun σ H Q q => ?_
  obtain ⟨F, t, R, p⟩ := q
  refine ⟨F, t, R, ?_⟩
  refine (p.bind (rel1 := relB) sh_B).imp fun k H1 q => ?_
  obtain ⟨k', F1, t1, R1, x1, e, p1⟩ := q
  have e' : k = k' := e
  subst e'
  cases k with
  | false => rw [if_neg Bool.false_ne_true] at p1 ⊢; exact ⟨F1, t1, R1, p1⟩
  | true => rw [if_pos rfl] at p1 ⊢; exact p1 _ F1 H1 R1 (Ext.refl _) rfl
/-- a value that is shared from now on -/
def relF (K : PySem.W.Frag) : Cf → Cf → V → Rv → Prop := fun _ d v r => Rp K d.F v r.1
theorem sh_F {K : PySem.W.Frag} : Sh (relF K) := fun _ _ _ _ _ _ _ h => h
theorem ef_sh {ev : Mp.St → R Rv} (h : Ee T X B W a ev) : PE X a (tG T X B W (relF X.K) (kSh ev)) := by
  refine pe_imp h fun σ H Q q => ?_
  obtain ⟨F, t, R, p⟩ := q
  refine ⟨F, t, R, ?_⟩
  unfold kSh at p
  cases e : ev t with
  | ok a t' =>
    rw [e] at p
    intro b F' H' R' x r
    obtain ⟨F2, R2, x2, rp⟩ := relV.fz R' r x
    exact p b F2 H' R2 x2 rp
  | rs y t' => rw [e] at p; exact p
  | bad => rw [e] at p; exact p
theorem ee_sh {ev : Mp.St → R Rv} (h : Ee T X B W a ev) : Ee T X B W a (kSh ev) := ee_fz h
theorem ee_and1 {ev : Mp.St → R Rv} {op : BoolOp} (ha : Ee T X B W a ev) : Ee T X B W (.BoolOp op [a] pos) (kSh ev) := pe_one (ee_fz ha)
theorem ee_and {ev evr : Mp.St → R Rv} {rest : List Expr} (ha : Ee T X B W a ev) (hb : Ee T X B W (.BoolOp .And (b :: rest) pos) evr) :
    Ee T X B W (.BoolOp .And (a :: b :: rest) pos) (fun t => (kSh ev t).bind fun v t => if truth v.1 = true then evr t else .ok (v.1, false) t) := by
  refine pe_imp (pe_andT (ef_sh ha) hb) fun σ H Q q => ?_
  obtain ⟨F, t, R, p⟩ := q
  refine ⟨F, t, R, (p.bind (rel1 := relF X.K) sh_V).imp fun k H1 q => ?_⟩
  obtain ⟨r, F1, t1, R1, x1, e, p1⟩ := q
  refine ⟨truth r.1, view_tru R1.sub (.fz e), ?_⟩
  cases hr : truth r.1 with
  | true => rw [hr, if_pos rfl] at p1; exact iteT ⟨F1, t1, R1, p1⟩
  | false => rw [hr, if_neg Bool.false_ne_true] at p1; exact iteF (p1 k F1 H1 R1 (Ext.refl _) (relV_old e))
theorem ee_or {ev evr : Mp.St → R Rv} {rest : List Expr} (ha : Ee T X B W a ev) (hb : Ee T X B W (.BoolOp .Or (b :: rest) pos) evr) :
    Ee T X B W (.BoolOp .Or (a :: b :: rest) pos) (fun t => (kSh ev t).bind fun v t => if truth v.1 = true then .ok (v.1, false) t else evr t) := by
  refine pe_imp (pe_orT (ef_sh ha) hb) fun σ H Q q => ?_
  obtain ⟨F, t, R, p⟩ := q
  refine ⟨F, t, R, (p.bind (rel1 := relF X.K) sh_V).imp fun k H1 q => ?_⟩
  obtain ⟨r, F1, t1, R1, x1, e, p1⟩ := q
  refine ⟨truth r.1, view_tru R1.sub (.fz e), ?_⟩
  cases hr : truth r.1 with
  | false => rw [hr, if_neg Bool.false_ne_true] at p1; exact iteF ⟨F1, t1, R1, p1⟩
  | true => rw [hr, if_pos rfl] at p1; exact iteT (p1 k F1 H1 R1 (Ext.refl _) (relV_old e))
theorem ee_ife {evc : Mp.St → R Bool} {ea eb : Mp.St → R Rv} (hc : Et T X B W c' evc) (ha : Ee T X B W a ea) (hb : Ee T X B W b eb) :
    Ee T X B W (.IfExp c' a b pos) (fun t => (evc t).bind fun k t => if k = true then kSh ea t else kSh eb t) := by
  refine pe_imp (pe_ifExp hc (ee_sh ha) (ee_sh hb)) fun σ H Q q => ?_
  obtain ⟨F, t, R, p⟩ := q
  refine ⟨F, t, R, (p.bind (rel1 := relB) sh_V).imp fun k H1 q => ?_⟩
  obtain ⟨k', F1, t1, R1, x1, e, p1⟩ := q
  have e' : k = k' := e
  subst e'
  cases k with
  | true => rw [if_pos rfl] at p1; exact iteT ⟨F1, t1, R1, p1⟩
  | false => rw [if_neg Bool.false_ne_true] at p1; exact iteF ⟨F1, t1, R1, p1⟩
theorem ee_c {d : D} {e : Expr} {v : V} (h : PE X e (tC v)) (r : ∀ F, Rp X.K F v d) : Ee T X B W e (fun t => .ok (d, false) t) := by
  refine pe_imp h fun σ H Q q => ?_
  obtain ⟨F, t, R, p⟩ := q
  exact p v F H R (Ext.refl _) (relV_old (r F))
theorem ee_bin' {op : Operator} {o : Bop} (ho : OpS X (binaryOp op) (bop o)) (ha : Eo T X B W a eva) (hb : Eo T X B W b evb) : Ee T X B W (.BinOp a op b pos) (kBin o eva evb) := ee_bin ha hb ho
theorem ee_cmp' {op : CmpOp} {o : Cop} (ho : OpS X (compareOp op) (cop o)) (ha : Eo T X B W a eva) (hb : Eo T X B W b evb) (hm : behindInMarks op b = false) : Ee T X B W (.Compare a [op] [b] pos) (kCmp o eva evb) := ee_cmp ha hb ho (fun _ _ _ h => cop_nomut h) hm
theorem et_cmp' {op : CmpOp} {o : Cop} (ho : OpS X (compareOp op) (cop o)) (ha : Eo T X B W a eva) (hb : Eo T X B W b evb) (hm : behindInMarks op b = false) : Et T X B W (.Compare a [op] [b] pos) (kCmpT o eva evb) := et_cmp ha hb ho (fun _ _ _ h => cop_bool h) hm
theorem ee_ix (ha : Eo T X B W a eva) (hb : Eo T X B W b evb) (hs : PlainIx b) : Ee T X B W (.Subscript a b pos) (kIx eva evb) := by
  refine ⟨fun pins s σ H Q I h => ?_⟩
  refine Subscript_ (two ha hb sh_V I h fun v u s2 x y ox oy c hc I2 rx ry R hx hy p => ?_)
  subst hc
  obtain ⟨r, e, p⟩ := ofBind p
  obtain ⟨da, ea, e⟩ := bind_some2 e
  obtain ⟨db, eb, e⟩ := bind_some2 e
  obtain ⟨d, ed, e⟩ := map_some2 e
  subst e
  refine ix_seq a b pins s2 c.σ c.H x y v u Q I2 rx ry (ixs R.sub (R.rdOp hx ea) (R.rdOp hy eb) ed (fun z H' r n => ?_) fun z r => p.val R r) (hs _ _)
  rw [← flag_not n] at p
  exact p.res R r
theorem po_tG {e : Option Expr} {ev : Mp.St → R (Option Int)} : PO X e (tG T X B W relI ev) → PO X e (tG T X B W relI ev) := id
theorem po_no : PO X none (tG T X B W relI fun t => .ok none t) := by
  refine ⟨fun pins s σ H Q I h => po_none.run pins s σ H Q I ?_⟩
  obtain ⟨F, t, R, p⟩ := h
  exact p none F H R (Ext.refl _) rfl
theorem po_so (ha : Eo T X B W a eva) : PO X (some a) (tG T X B W relI fun t => (eva t).bind fun x t => Mp.R.of ((rd x t).bind fun d => match d with
    | .int i => some (some i)
    | _ => none) t) := by
  refine ⟨fun pins s σ H Q I h => (po_some ha).run pins s σ H Q I ?_⟩
  obtain ⟨F, t, R, p⟩ := h
  refine ⟨F, t, R, (p.bind (rel1 := relO X.K) sh_I).imp fun v H1 q => ?_⟩
  obtain ⟨o, F1, t1, R1, x1, e, p1⟩ := q
  obtain ⟨r, e2, p1⟩ := ofBind (c := ⟨F1, H1, t1, σ⟩) p1
  obtain ⟨d, ed, e2⟩ := bind_some2 e2
  cases d <;> first | (cases e2; done) | skip
  cases e2
  cases (R1.rdOp e ed).int
  exact ⟨_, rfl, p1 _ F1 H1 R1 (Ext.refl _) rfl⟩
theorem ee_sl {lo hi : Option Expr} {el eh : Mp.St → R (Option Int)} {p2 : Pos} (ha : Eo T X B W a eva) (hl : PO X lo (tG T X B W relI el)) (hh : PO X hi (tG T X B W relI eh)) : Ee T X B W (.Subscript a (.Slice lo hi none p2) pos) (kSl eva el eh) := by
  refine pe_imp (pe_slice ((sl_list (X := X)).or ((sl_tupA (X := X)).or sl_str)) ha hl hh) fun σ H Q q => ?_
  obtain ⟨F, t, R, p⟩ := q
  refine ⟨F, t, R, (p.bind (rel1 := relO X.K) sh_V).imp fun v H1 q => ?_⟩
  obtain ⟨o, F1, t1, R1, x1, e1, p1⟩ := q
  refine ⟨F1, t1, R1, (p1.bind (rel1 := relI) sh_V).imp fun l H2 q => ?_⟩
  obtain ⟨l', F2, t2, R2, x2, e2, p2⟩ := q
  have e2' : l = l' := e2
  subst e2'
  refine ⟨F2, t2, R2, (p2.bind (rel1 := relI) sh_V).imp fun h H3 q => ?_⟩
  obtain ⟨h', F3, t3, R3, x3, e3, p3⟩ := q
  have e3' : h = h' := e3
  subst e3'
  obtain ⟨r, e4, p3⟩ := ofBind (c := ⟨F3, H3, t3, σ⟩) p3
  obtain ⟨d, ed, e4⟩ := bind_some2 e4
  obtain ⟨d', ed', e4⟩ := map_some2 e4
  subst e4
  have hx : relO X.K ⟨F3, H3, t3, σ⟩ ⟨F3, H3, t3, σ⟩ v o := relO_mono e1 (x2.fsub.trans x3.fsub) rfl
  exact sls R3.sub (R3.rdOp hx ed) ed' fun z H' r => p3.res R3 r
theorem ee_rev {k : Nat} {p1 p2 p3 : Pos} (ha : Eo T X B W a eva) : Ee T X B W (.Subscript a (.Slice none none (some (.UnaryOp .USub (.Constant (.int 1) k p1) p2)) p3) pos) (kRev eva) := by
  refine pe_imp (pe_revL ha) fun σ H Q q => ?_
  obtain ⟨F, t, R, p⟩ := q
  refine ⟨F, t, R, (p.bind (rel1 := relO X.K) sh_V).imp fun v H1 q => ?_⟩
  obtain ⟨o, F1, t1, R1, x1, e1, p1⟩ := q
  obtain ⟨r, e4, p1⟩ := ofBind (c := ⟨F1, H1, t1, σ⟩) p1
  obtain ⟨d, ed, e4⟩ := bind_some2 e4
  obtain ⟨d', ed', e4⟩ := map_some2 e4
  subst e4
  cases d <;> simp only [revD] at ed' <;> first | (cases ed'; done) | skip
  cases ed'
  obtain ⟨l, xs, e5, h1, r1, z1⟩ := (R1.rdOp e1 ed).list R1.sub
  exact ⟨l, xs, e5, h1.l, fun q hq => p1.res R1 (.lst hq r1.reverse (by rw [List.length_reverse]; exact z1))⟩
end
end Mp

/-! Part 10: arguments, displays, built-in calls. -/
namespace Mp
open PySem PySem.Spec PyProof.Rows L2
section
variable {T : Tb} {X : Cx} {B : Bs} {W : WX} {a e : Expr} {es : List Expr} {pos : Pos} {eva : Mp.St → R Op}
/-- no star -/
def unstar : Expr → Bool
  | .Starred .. => false
  | _ => true
theorem star_cons {env : Env} (h : unstar e = true) : starEach (e :: es) env = (false, eval e env) :: starEach es env := by
  cases e <;> first | rfl | (simp [unstar] at h)
theorem star_none {env : Env} : ∀ {es : List Expr}, es.all unstar = true → (backTo pos (starEach es env)).any (·.1) = false
  | [], _ => rfl
  | e :: es, h => by
    rw [List.all_cons, Bool.and_eq_true] at h
    rw [star_cons h.1]
    show (false || (backTo pos (starEach es env)).any (·.1)) = false
    rw [star_none h.2]
    rfl
theorem star_all {env : Env} : ∀ {es : List Expr}, es.all unstar = true → (backTo pos (starEach es env)).all (fun x => !x.1) = true
  | [], _ => rfl
  | e :: es, h => by
    rw [List.all_cons, Bool.and_eq_true] at h
    rw [star_cons h.1]
    show (true && (backTo pos (starEach es env)).all (fun x => !x.1)) = true
    rw [star_all h.2]
    rfl
theorem pl_nil : PA X [] (tG T X B W (relL X.K) fun t => .ok [] t) := by
  refine pa_imp pa_nil fun σ H Q q => ?_
  obtain ⟨F, t, R, p⟩ := q
  exact p [] F H R (Ext.refl _) .nil
theorem pl_cons {ev : Mp.St → R Rv} {evs : Mp.St → R (List D)} (ha : Ee T X B W e ev) (hr : PA X es (tG T X B W (relL X.K) evs)) (hs : unstar e = true) :
    PA X (e :: es) (tG T X B W (relL X.K) fun t => (kSh ev t).bind fun v t => (evs t).bind fun l t => .ok (v.1 :: l) t) := by
  refine pa_imp (pa_cons (ef_sh ha) hr (star_cons hs)) fun σ H Q q => ?_
  obtain ⟨F, t, R, p⟩ := q
  refine ⟨F, t, R, (p.bind (rel1 := relF X.K) sh_L).imp fun v H1 q => ?_⟩
  obtain ⟨r, F1, t1, R1, x1, e1, p1⟩ := q
  refine ⟨F1, t1, R1, (p1.bind (rel1 := relL X.K) sh_L).imp fun vs H2 q => ?_⟩
  obtain ⟨l, F2, t2, R2, x2, e2, p2⟩ := q
  exact p2 (v :: vs) F2 H2 R2 (Ext.refl _) (.cons (Rp.mono x2.fsub e1) e2)
theorem po_nil : PA X [] (tG T X B W (relOs X.K) fun t => .ok [] t) := by
  refine pa_imp pa_nil fun σ H Q q => ?_
  obtain ⟨F, t, R, p⟩ := q
  exact p [] F H R (Ext.refl _) .nil
theorem po_cons {ev : Mp.St → R Op} {evs : Mp.St → R (List Op)} (ha : Eo T X B W e ev) (hr : PA X es (tG T X B W (relOs X.K) evs)) (hs : unstar e = true) :
    PA X (e :: es) (tG T X B W (relOs X.K) fun t => (ev t).bind fun o t => (evs t).bind fun l t => .ok (o :: l) t) := by
  refine pa_imp (pa_cons ha hr (star_cons hs)) fun σ H Q q => ?_
  obtain ⟨F, t, R, p⟩ := q
  refine ⟨F, t, R, (p.bind (rel1 := relO X.K) sh_Os).imp fun v H1 q => ?_⟩
  obtain ⟨r, F1, t1, R1, x1, e1, p1⟩ := q
  refine ⟨F1, t1, R1, (p1.bind (rel1 := relOs X.K) sh_Os).imp fun vs H2 q => ?_⟩
  obtain ⟨l, F2, t2, R2, x2, e2, p2⟩ := q
  exact p2 (v :: vs) F2 H2 R2 (Ext.refl _) (.cons (relO_mono e1 x2.fsub rfl) e2)
theorem ee_tup {k : Nat} {evs : Mp.St → R (List D)} (h : PA X es (tG T X B W (relL X.K) evs)) : Ee T X B W (.Tuple es k pos) (fun t => (evs t).bind fun l t => if l.length ≤ 1000 then .ok (.tuple l, false) t else .bad) := by
  refine pe_imp (pe_tup h) fun σ H Q q => ?_
  obtain ⟨F, t, R, p⟩ := q
  refine ⟨F, t, R, (p.bind (rel1 := relL X.K) sh_V).imp fun vs H1 q => ?_⟩
  obtain ⟨l, F1, t1, R1, x1, e1, p1⟩ := q
  split at p1
  · rename_i hl
    have hle := Rps.length e1
    have hc : l.length ≤ cap := Nat.le_trans hl (by decide)
    refine ⟨by rw [hle, ← cap_line]; exact hc, fun q hq => ?_⟩
    exact p1.res R1 (.tup hq e1 hc)
  · exact p1.elim
theorem ee_lst {evs : Mp.St → R (List D)} (h : PA X es (tG T X B W (relL X.K) evs)) : Ee T X B W (.List es pos) (fun t => (evs t).bind fun l t => if l.length ≤ 1000 then .ok (.list l, true) t else .bad) := by
  refine pe_imp (pe_lst h) fun σ H Q q => ?_
  obtain ⟨F, t, R, p⟩ := q
  refine ⟨F, t, R, (p.bind (rel1 := relL X.K) sh_V).imp fun vs H1 q => ?_⟩
  obtain ⟨l, F1, t1, R1, x1, e1, p1⟩ := q
  split at p1
  · rename_i hl
    have hle := Rps.length e1
    have hc : l.length ≤ cap := Nat.le_trans hl (by decide)
    refine ⟨by rw [hle, ← cap_line]; exact hc, fun q hq => ?_⟩
    exact p1.res R1 (.lst hq e1 hc)
  · exact p1.elim
theorem ee_dic0 : Ee T X B W (.Dict [] [] pos) (fun t => .ok (.dict [], true) t) := by
  refine pe_imp pe_dnewK fun σ H Q q => ?_
  obtain ⟨F, t, R, p⟩ := q
  intro q hq
  exact Post.res (c := ⟨F, H, t, σ⟩) R (.dic hq .nil (Nat.zero_le _)) p
/-- arguments that are read -/
abbrev Vws (K : PySem.W.Frag) (F H : Hp) : List V → List D → Prop := Paired (Vw K F H)
theorem Rl.rdAs {c c0 : Cf} (R : Rl T X B c) : ∀ {vs : List V} {os : List Op} {ds : List D}, relOs X.K c0 c vs os → rdA os c.t = some ds → Vws X.K c.F c.H vs ds
  | _, _, ds, .nil, e => by cases e; exact .nil
  | _, _, ds, .cons h r, e => by
    obtain ⟨d, e1, e2⟩ := bind_some2 (f := fun d => (rdA _ c.t).map fun l => d :: l) e
    obtain ⟨l, e3, e4⟩ := map_some2 e2
    subst e4
    exact .cons (R.rdOp h e1) (R.rdAs r e3)
/-- a call of a known value -/
def CallS (X : Cx) (f : Value) (sem : List D → Option D) : Prop :=
  ∀ (pins : List (Addr × Obj)) (s : Shared) (σ : Sg) (F H : Hp) (xs : List V) (us : List Value) (ds : List D) (d : D) (Q : VK), Inv X pins σ H s → Vals xs us → Sub F H → Vws X.K F H xs ds → sem ds = some d →
    (∀ z H', Res X.K F H d z H' → Q z H') → wpAny (model X.prog X.w) X.A (call f us) (EP X pins σ Q) X.xe s
theorem relOs_self {c c0 : Cf} {vs : List V} {os : List Op} (h : relOs X.K c0 c vs os) : relOs X.K c c vs os := by
  induction h with
  | nil => exact .nil
  | cons h r ih => exact .cons (relO_mono h (Sub.refl _) rfl) ih
theorem bi_end {f : Value} {g : Bf} (hc : CallS X f (biD g)) {pins : List (Addr × Obj)} {s : Shared} {c c0 : Cf} {vs : List V} {us : List Value} {os : List Op} {Q : VK} (I : Inv X pins c.σ c.H s) (r : Vals vs us) (Z : Rl T X B c) (h : relOs X.K c0 c vs os)
    (p : Post T X B W (relV X.K) c (Mp.R.of ((rdA os c.t).bind fun xs => (biD g xs).map flag) c.t) Q) : wpAny (model X.prog X.w) X.A (call f us) (EP X pins c.σ Q) X.xe s := by
  obtain ⟨r', e, p⟩ := ofBind p
  obtain ⟨ds, ed, e⟩ := bind_some2 e
  obtain ⟨d, ed', e⟩ := map_some2 e
  subst e
  exact hc pins s c.σ c.F c.H vs us ds d Q I r Z.sub (Z.rdAs h ed) ed' fun z H' r => p.res Z r
theorem ee_bi {x : Str} {p : Pos} {f : Value} {g : Bf} {evs : Mp.St → R (List Op)} (hc : CallS X f (biD g)) (hf : (∃ id, f = .builtin id) ∨ ∃ ty, f = .type ty) (hg : Gl X x) (hm : X.mg x = none) (hv : bootBuiltins x = some f) (hn : x ≠ "__name__") (hdb : (x == ("__debug__" : Str)) = false)
    (h : PA X (e :: es) (tG T X B W (relOs X.K) evs)) (hst : (e :: es).all unstar = true) : Ee T X B W (.Call (.Name x p) (e :: es) [] pos) (kBi g evs) := by
  rw [List.all_cons, Bool.and_eq_true] at hst
  refine ⟨fun pins s σ H Q I hq => ?_⟩
  refine wpAny_Call_Name_kw (ld_blt I hg hm hv ?_ hn hdb)
  have fin : wpAny (model X.prog X.w) X.A (spliced (backTo pos (starEach (e :: es) X.env))) (fun us s' => wpAny (model X.prog X.w) X.A (call f us) (EP X pins σ Q) X.xe s') X.xe s := by
    refine thn (h.run pos pins s σ H _ I (tG.bind (rel1 := relOs X.K) sh_V hq)) fun us s1 ⟨vs, H1, I1, r1, q1⟩ => ?_
    obtain ⟨os, F1, t1, F, t, R1, x1, o1, p1⟩ := q1
    exact bi_end (c := ⟨F1, H1, t1, σ⟩) hc I1 r1 R1 o1 p1
  rcases hf with ⟨id, rfl⟩ | ⟨ty, rfl⟩
  · exact PyProof.Rows.callWith_builtin1 fin (star_cons hst.1) (star_none hst.2)
  · exact PyProof.Rows.callWith_type1 fin (star_cons hst.1) (star_none hst.2)
theorem vw1 {K : PySem.W.Frag} {F H : Hp} {xs : List V} {d : D} (h : Vws K F H xs [d]) : ∃ x, xs = [x] ∧ Vw K F H x d := by
  cases h with
  | cons h r => cases r; exact ⟨_, rfl, h⟩
theorem vw2 {K : PySem.W.Frag} {F H : Hp} {xs : List V} {d e : D} (h : Vws K F H xs [d, e]) : ∃ x y, xs = [x, y] ∧ Vw K F H x d ∧ Vw K F H y e := by
  cases h with
  | cons h r =>
    obtain ⟨y, e, q⟩ := vw1 r
    exact ⟨_, y, by rw [e], h, q⟩
theorem calls_len : CallS X (.builtin "len") (biD .len) := by
  intro pins s σ F H xs us ds d Q I r sub vw e q
  have e : bLen ds = some d := e
  unfold bLen at e
  split at e <;> first | (cases e; done) | skip
  rename_i x
  obtain ⟨v, rfl, hx⟩ := vw1 vw
  unfold lenD at e
  split at e
  · cases e
    obtain ⟨a, ys, e1, h1, r1, z1⟩ := hx.list sub
    subst e1
    refine call_len pins s σ H _ us Q I r ⟨_, _, rfl, .inl ⟨ys, h1.l, rfl⟩, ?_⟩
    rw [r1.length]
    exact q _ _ (.old (.int _) rfl)
  · cases e
    obtain ⟨a, ys, e1, h1, r1, z1⟩ := hx.tuple sub
    subst e1
    refine call_len pins s σ H _ us Q I r ⟨_, _, rfl, .inr ⟨ys, h1, rfl⟩, ?_⟩
    rw [r1.length]
    exact q _ _ (.old (.int _) rfl)
  · cases e
    obtain ⟨e1, z1, o1⟩ := hx.str
    subst e1
    refine call_len pins s σ H _ us Q I r ⟨_, _, rfl, ⟨by rw [← cap_line]; exact z1, rfl⟩, ?_⟩
    rw [len_L]
    exact q _ _ (.old (.int _) rfl)
  · cases e
    obtain ⟨a, ys, e1, h1, r1, z1⟩ := hx.dict sub
    subst e1
    refine call_lenD pins s σ H _ us Q I r ⟨_, _, rfl, h1, ?_⟩
    rw [r1.length]
    exact q _ _ (.old (.int _) rfl)
  · cases e
theorem calls_abs : CallS X (.builtin "abs") (biD .abs) := by
  intro pins s σ F H xs us ds d Q I r sub vw e q
  have e : bAbs ds = some d := e
  unfold bAbs at e
  split at e <;> first | (cases e; done) | skip
  cases e
  obtain ⟨v, rfl, hx⟩ := vw1 vw
  cases hx.int
  exact call_abs pins s σ H _ us Q I r ⟨_, rfl, q _ _ (.old (.int _) rfl)⟩
theorem calls_int : CallS X (.type "int") (biD .int) := by
  intro pins s σ F H xs us ds d Q I r sub vw e q
  have e : bInt ds = some d := e
  unfold bInt at e
  split at e <;> first | (cases e; done) | skip
  · cases e
    obtain ⟨v, rfl, hx⟩ := vw1 vw
    cases hx.int
    exact call_int1 pins s σ H _ us Q I r (.inl ⟨_, rfl, q _ _ (.old (.int _) rfl)⟩)
  · cases e
    obtain ⟨v, rfl, hx⟩ := vw1 vw
    cases hx.bool
    exact call_int1 pins s σ H _ us Q I r (.inr ⟨_, rfl, q _ _ (.old (.int _) rfl)⟩)
theorem calls_min (hc : X.calm = true) : CallS X (.builtin "min") (biD .min) := by
  intro pins s σ F H xs us ds d Q I r sub vw e q
  have e : bMin ds = some d := e
  unfold bMin at e
  split at e <;> first | (cases e; done) | skip
  cases e
  obtain ⟨v, w, rfl, hx, hy⟩ := vw2 vw
  cases hx.int
  cases hy.int
  exact call_min2 hc pins s σ H _ us Q I r ⟨_, _, rfl, q _ _ (.old (.int _) rfl)⟩
theorem calls_max (hc : X.calm = true) : CallS X (.builtin "max") (biD .max) := by
  intro pins s σ F H xs us ds d Q I r sub vw e q
  have e : bMax ds = some d := e
  unfold bMax at e
  split at e <;> first | (cases e; done) | skip
  cases e
  obtain ⟨v, w, rfl, hx, hy⟩ := vw2 vw
  cases hx.int
  cases hy.int
  exact call_max2 hc pins s σ H _ us Q I r ⟨_, _, rfl, q _ _ (.old (.int _) rfl)⟩
theorem calls_list : CallS X (.type "list") (biD .list) := by
  intro pins s σ F H xs us ds d Q I r sub vw e q
  have e : bList ds = some d := e
  unfold bList at e
  split at e <;> first | (cases e; done) | skip
  · cases e
    obtain ⟨v, rfl, hx⟩ := vw1 vw
    obtain ⟨a, ys, e1, h1, r1, z1⟩ := hx.list sub
    subst e1
    exact call_list_of pins s σ H _ us Q I r ⟨a, ys, rfl, .inl h1.l, fun l hl => q _ _ (.lst hl r1 z1)⟩
  · cases e
    obtain ⟨v, rfl, hx⟩ := vw1 vw
    obtain ⟨a, ys, e1, h1, r1, z1⟩ := hx.tuple sub
    subst e1
    exact call_list_of pins s σ H _ us Q I r ⟨a, ys, rfl, .inr h1, fun l hl => q _ _ (.lst hl r1 z1)⟩
theorem calls_tuple : CallS X (.type "tuple") (biD .tuple) := by
  intro pins s σ F H xs us ds d Q I r sub vw e q
  have e : bTuple ds = some d := e
  unfold bTuple at e
  split at e <;> first | (cases e; done) | skip
  · cases e
    obtain ⟨v, rfl, hx⟩ := vw1 vw
    obtain ⟨a, ys, e1, h1, r1, z1⟩ := hx.list sub
    subst e1
    exact call_tuple_of pins s σ H _ us Q I r ⟨a, ys, rfl, .inl ⟨h1.l, fun l hl => q _ _ (.tup hl r1 z1)⟩⟩
  · cases e
    obtain ⟨v, rfl, hx⟩ := vw1 vw
    obtain ⟨a, ys, e1, h1, r1, z1⟩ := hx.tuple sub
    subst e1
    refine call_tuple_of pins s σ H _ us Q I r ⟨a, ys, rfl, .inr ⟨h1, ?_⟩⟩
    cases hx with
    | fz h => exact q _ _ (.old h rfl)
    | ow h => exact h.elim
theorem rps_bools {K : PySem.W.Frag} {F : Hp} : ∀ {ds : List D} {xs : List V} {bs : List Bool}, Rps K F xs ds → boolsOf ds = some bs → xs = bs.map V.bl
  | [], _, _, h, e => by cases h; cases e; rfl
  | d :: ds, _, _, h, e => by
    cases h with
    | cons h r =>
      cases d <;> first | (cases e; done) | skip
      obtain ⟨l, e1, e2⟩ := map_some2 e
      subst e2
      cases h
      rw [rps_bools r e1] <;> rfl
theorem rps_intsV {K : PySem.W.Frag} {F : Hp} : ∀ {ds : List D} {xs : List V} {bs : List Int}, Rps K F xs ds → intsOf ds = some bs → xs = bs.map V.int
  | [], _, _, h, e => by cases h; cases e; rfl
  | d :: ds, _, _, h, e => by
    cases h with
    | cons h r =>
      cases d <;> first | (cases e; done) | skip
      obtain ⟨l, e1, e2⟩ := map_some2 e
      subst e2
      cases h
      rw [rps_intsV r e1] <;> rfl
theorem rps_strs {K : PySem.W.Frag} {F : Hp} : ∀ {ds : List D} {xs : List V} {bs : List Str}, Rps K F xs ds → strsOf ds = some bs → xs = bs.map V.str ∧ ∀ y ∈ bs, PyData.strOk y = true
  | [], _, _, h, e => by cases h; cases e; exact ⟨rfl, fun y h => by cases h⟩
  | d :: ds, _, _, h, e => by
    cases h with
    | cons h r =>
      cases d <;> first | (cases e; done) | skip
      obtain ⟨l, e1, e2⟩ := map_some2 e
      subst e2
      cases h with
      | str x z o =>
        obtain ⟨e3, e4⟩ := rps_strs r e1
        refine ⟨by rw [e3] <;> rfl, fun y hy => ?_⟩
        rcases List.mem_cons.mp hy with h | h
        · rw [h]; exact o
        · exact e4 y h
theorem calls_str : CallS X (.type "str") (biD .str) := by
  intro pins s σ F H xs us ds d Q I r sub vw e q
  have e : bStr ds = some d := e
  unfold bStr at e
  split at e <;> first | (cases e; done) | skip
  · rename_i i
    split at e
    · rename_i hi
      cases e
      obtain ⟨v, rfl, hx⟩ := vw1 vw
      cases hx.int
      obtain ⟨n, rfl⟩ := Int.eq_ofNat_of_zero_le hi.1
      have hn : n < 10 ^ 100 := by
        have h2 := hi.2
        have e : ((10 : Int) ^ 100) = ((10 ^ 100 : Nat) : Int) := by decide +kernel
        rw [e] at h2
        exact Int.ofNat_lt.mp h2
      have e3 : Str.ofString (toString ((n : Nat) : Int)) = S (numI n) := by
        rw [← S_L (Str.ofString (toString ((n : Nat) : Int)))]
        exact congrArg S (TL.tl_num n)
      refine call_str_int pins s σ H _ us Q I r ⟨_, rfl, ?_, ?_⟩
      · show (n : Nat).log2 < 1920
        by_cases h0 : n = 0
        · subst h0; decide
        · exact (Nat.log2_lt h0).mpr (Nat.lt_trans hn (by decide +kernel))
      · rw [show (toString ((n : Nat) : Int) : Str) = S (numI n) from e3]
        have hl : (S (numI n)).length ≤ cap := by
          rw [len_S]
          exact Nat.le_trans (TL.numL_len (by decide) hn) (by decide)
        have ho : PyData.strOk (S (numI n)) = true := strOk_S fun c hc => by
          have := TL.numL_digits n c hc
          omega
        exact q _ _ (.old (.str _ hl ho) rfl)
    · cases e
  · cases e
    obtain ⟨v, rfl, hx⟩ := vw1 vw
    obtain ⟨e1, z1, o1⟩ := hx.str
    subst e1
    exact SkE.call_str_str pins s σ H _ us Q I r ⟨_, rfl, q _ _ (.old (.str _ z1 o1) rfl)⟩
theorem calls_all (hc : X.calm = true) : CallS X (.builtin "all") (biD .all) := by
  intro pins s σ F H xs us ds d Q I r sub vw e q
  have e : bAll ds = some d := e
  unfold bAll at e
  split at e <;> first | (cases e; done) | skip
  obtain ⟨bs, e1, e2⟩ := map_some2 e
  subst e2
  obtain ⟨v, rfl, hx⟩ := vw1 vw
  obtain ⟨a, ys, e3, h1, r1, z1⟩ := hx.list sub
  subst e3
  rw [rps_bools r1 e1] at h1
  exact cr_all hc pins s σ H _ us Q I r ⟨a, bs, rfl, h1.l, q _ _ (.old (.bl _) rfl)⟩
theorem calls_any (hc : X.calm = true) : CallS X (.builtin "any") (biD .any) := by
  intro pins s σ F H xs us ds d Q I r sub vw e q
  have e : bAny ds = some d := e
  unfold bAny at e
  split at e <;> first | (cases e; done) | skip
  obtain ⟨bs, e1, e2⟩ := map_some2 e
  subst e2
  obtain ⟨v, rfl, hx⟩ := vw1 vw
  obtain ⟨a, ys, e3, h1, r1, z1⟩ := hx.list sub
  subst e3
  rw [rps_bools r1 e1] at h1
  exact cr_any hc pins s σ H _ us Q I r ⟨a, bs, rfl, h1.l, q _ _ (.old (.bl _) rfl)⟩
theorem calls_sum (hc : X.calm = true) : CallS X (.builtin "sum") (biD .sum) := by
  intro pins s σ F H xs us ds d Q I r sub vw e q
  have e : bSum ds = some d := e
  unfold bSum at e
  split at e <;> first | (cases e; done) | skip
  obtain ⟨bs, e1, e2⟩ := map_some2 e
  subst e2
  obtain ⟨v, rfl, hx⟩ := vw1 vw
  obtain ⟨a, ys, e3, h1, r1, z1⟩ := hx.list sub
  subst e3
  rw [rps_intsV r1 e1] at h1
  exact cr_sum hc pins s σ H _ us Q I r ⟨a, bs, rfl, h1.l, q _ _ (.old (.int _) rfl)⟩
/-- a method of texts -/
def MeS (X : Cx) (id : String) (sem : D → List D → Option D) : Prop :=
  ∀ (pins : List (Addr × Obj)) (s : Shared) (σ : Sg) (F H : Hp) (x : V) (xs : List V) (v : Value) (us : List Value) (dx : D) (ds : List D) (d : D) (Q : VK), Inv X pins σ H s → RelV x v → Vals xs us → Sub F H → Vw X.K F H x dx → Vws X.K F H xs ds → sem dx ds = some d →
    (∀ z H', Res X.K F H d z H' → Q z H') → wpAny (model X.prog X.w) X.A (call (.builtin id) (v :: us)) (EP X pins σ Q) X.xe s
theorem mes_start : MeS X "str.startswith" (meD .startswith) := by
  intro pins s σ F H x xs v us dx ds d Q I rx r sub vx vw e q
  have e : mStart dx ds = some d := e
  unfold mStart at e
  split at e <;> first | (cases e; done) | skip
  cases e
  obtain ⟨y, rfl, hy⟩ := vw1 vw
  obtain ⟨e1, _⟩ := vx.str
  obtain ⟨e2, _⟩ := hy.str
  subst e1 e2
  exact mt_startswith pins s σ H _ _ v us Q I rx r ⟨_, _, rfl, rfl, q _ _ (.old (.bl _) rfl)⟩
theorem strip_sub {a b : Str} : ∀ c ∈ L (Txt.stripChars a b), c ∈ L a := by
  intro c hc
  unfold Txt.stripChars Txt.stripBy at hc
  split at hc
  · exact hc
  · have h : ∀ (z : Str) (i j : Nat), c ∈ L (Builtin.Str.strSub z i j) → c ∈ L z := fun z i j h => by
      unfold L Builtin.Str.strSub at h
      unfold L
      rw [Array.toList_extract] at h
      exact List.mem_of_mem_drop (List.mem_of_mem_take h)
    exact h _ _ _ hc
theorem strip_len {a b : Str} : (Txt.stripChars a b).length ≤ a.length := by
  unfold Txt.stripChars Txt.stripBy
  split
  · exact Nat.le_refl _
  · have h : ∀ (z : Str) (i j : Nat), (Builtin.Str.strSub z i j).length ≤ z.length := fun z i j => by
      unfold Builtin.Str.strSub Str.length
      rw [Array.size_extract]
      omega
    exact h _ _ _
theorem mes_strip : MeS X "str.strip" (meD .strip) := by
  intro pins s σ F H x xs v us dx ds d Q I rx r sub vx vw e q
  have e : mStrip dx ds = some d := e
  unfold mStrip at e
  split at e <;> first | (cases e; done) | skip
  cases e
  obtain ⟨y, rfl, hy⟩ := vw1 vw
  obtain ⟨e1, z1, o1⟩ := vx.str
  obtain ⟨e2, _⟩ := hy.str
  subst e1 e2
  refine mt_stripChars pins s σ H _ _ v us Q I rx r ⟨_, _, rfl, rfl, by rw [← cap_line]; exact z1, q _ _ (.old (.str _ (Nat.le_trans strip_len z1) ?_) rfl)⟩
  rw [← S_L (Txt.stripChars _ _)]
  exact strOk_sub o1 strip_sub
theorem mes_find : MeS X "str.find" (meD .find) := by
  intro pins s σ F H x xs v us dx ds d Q I rx r sub vx vw e q
  have e : mFind dx ds = some d := e
  unfold mFind at e
  split at e <;> first | (cases e; done) | skip
  cases e
  obtain ⟨y, w, rfl, hy, hw⟩ := vw2 vw
  obtain ⟨e1, _⟩ := vx.str
  obtain ⟨e2, _⟩ := hy.str
  cases hw.int
  subst e1 e2
  exact mt_find3 pins s σ H _ _ v us Q I rx r ⟨_, _, _, rfl, rfl, q _ _ (.old (.int _) rfl)⟩
theorem joinL_S (a : Str) : ∀ ys : List Str, Txt.join a ys = S (joinL (L a) (ys.map L)) := fun ys => by
  unfold Txt.join
  rw [StrLaws.glued_eq_join]
  induction ys with
  | nil => rfl
  | cons x r ih =>
    cases r with
    | nil => show x = S (L x); simp
    | cons y r =>
      show x ++ a ++ Str.join a (y :: r) = S (L x ++ L a ++ joinL (L a) ((y :: r).map L))
      rw [ih, ← append_S, ← append_S, S_L, S_L]
theorem joinL_mem {a : List Nat} {c : Nat} : ∀ {ys : List (List Nat)}, c ∈ joinL a ys → c ∈ a ∨ ∃ y ∈ ys, c ∈ y
  | [], h => by cases h
  | [x], h => .inr ⟨x, List.mem_cons_self, h⟩
  | x :: y :: r, h => by
    have h : c ∈ x ++ a ++ joinL a (y :: r) := h
    rcases List.mem_append.mp h with h | h
    · rcases List.mem_append.mp h with h | h
      · exact .inr ⟨x, List.mem_cons_self, h⟩
      · exact .inl h
    · rcases joinL_mem h with h | ⟨z, hz, h⟩
      · exact .inl h
      · exact .inr ⟨z, List.mem_cons_of_mem _ hz, h⟩
theorem joinL_len {a : List Nat} : ∀ ys : List (List Nat), (joinL a ys).length ≤ (ys.map (·.length)).sum + ys.length * a.length
  | [] => Nat.zero_le _
  | [x] => by simp [joinL]
  | x :: y :: r => by
    have h := joinL_len (a := a) (y :: r)
    show (x ++ a ++ joinL a (y :: r)).length ≤ _
    simp only [List.length_append, List.map_cons, List.sum_cons, List.length_cons, Nat.succ_mul] at h ⊢
    omega
theorem mes_join : MeS X "str.join" (meD .join) := by
  intro pins s σ F H x xs v us dx ds d Q I rx r sub vx vw e q
  have e : mJoin dx ds = some d := e
  unfold mJoin at e
  split at e <;> first | (cases e; done) | skip
  all_goals
    unfold joinD at e
    obtain ⟨ys, e1, e⟩ := bind_some2 e
    split at e <;> first | (cases e; done) | skip
    rename_i hz
    cases e
    obtain ⟨y, rfl, hy⟩ := vw1 vw
    obtain ⟨e2, z2, o2⟩ := vx.str
    subst e2
    have hl : (ys.map fun y => (L y).length) = ys.map (·.length) := List.map_congr_left fun y _ => (len_L y).symm
    rw [hl, ← len_L] at hz
    have fin : ∀ o : (∀ y ∈ ys, PyData.strOk y = true), Q (.str (Txt.join _ ys)) H := fun o => by
      rw [joinL_S]
      refine q _ _ (.old (.str _ ?_ (strOk_S fun c hc => ?_)) rfl)
      · rw [len_S]
        refine Nat.le_trans (joinL_len _) ?_
        rw [List.map_map, List.length_map, ← len_L]
        have : (ys.map ((·.length) ∘ L)) = ys.map (·.length) := List.map_congr_left fun y _ => (len_L y).symm
        rw [this]; exact hz
      · rcases joinL_mem hc with h | ⟨z, hz', h⟩
        · exact strOk_mem o2 h
        · obtain ⟨y, hy, rfl⟩ := List.mem_map.mp hz'
          exact strOk_mem (o y hy) h
    first
    | (obtain ⟨b, zs, e3, h1, r1, z1⟩ := hy.list sub
       subst e3
       obtain ⟨e4, o4⟩ := rps_strs r1 e1
       rw [e4] at h1
       exact mt_join pins s σ H _ _ v us Q I rx r ⟨_, b, ys, rfl, rfl, .inl h1.l, hz, fin o4⟩)
    | (obtain ⟨b, zs, e3, h1, r1, z1⟩ := hy.tuple sub
       subst e3
       obtain ⟨e4, o4⟩ := rps_strs r1 e1
       rw [e4] at h1
       exact mt_join pins s σ H _ _ v us Q I rx r ⟨_, b, ys, rfl, rfl, .inr h1, hz, fin o4⟩)
theorem strOp_some {x : Op} {t : Mp.St} {a : Str} (h : strOp x t = some a) : rd x t = some (.str a) := by
  unfold strOp at h
  split at h
  · cases h; assumption
  · cases h
theorem ee_me {m : Mf} {id : String} {name : Str} {apos cpos : Pos} {evs : Mp.St → R (List Op)} (slot : Slot "str" name id) (hty : typeOf (.builtin id) = pure (.type "method_descriptor")) (hm : MeS X id (meD m))
    (ho : Eo T X B W a eva) (ha : PA X (e :: es) (tG T X B W (relOs X.K) evs)) (hst : (e :: es).all unstar = true) (hbase : attributeBase a name X.env (eval a X.env) = eval a X.env) (hl : (e :: es).length < 28) (hline : (apos.endLine == cpos.line) = true) :
    Ee T X B W (.Call (.Attribute a name apos) (e :: es) [] cpos) (kMe m eva evs) := by
  have hst2 := hst
  rw [List.all_cons, Bool.and_eq_true] at hst
  refine ⟨fun pins s σ H Q I h => ?_⟩
  refine wpAny_Call_method_late hbase ?_ hline rfl (one ho sh_V I h fun v s1 x ox c hc I1 rx Z hx p => ?_)
  · rw [star_all hst2]
    show (true && true && decide _) = true
    simp only [Bool.true_and, decide_eq_true_eq]
    show (e :: es).length + 0 + 0 < 30
    omega
  · subst hc
    have p' : Post T X B W (relV X.K) c (Mp.R.of (strOp ox c.t) c.t |>.bind fun s t => (evs t).bind fun os t => Mp.R.of ((rdA os t).bind fun xs => (meD m (.str s) xs).map flag) t) Q := p
    cases es1 : strOp ox c.t with
    | none => rw [es1] at p'; exact p'.elim
    | some a0 =>
      rw [es1] at p'
      have p2 : Post T X B W (relV X.K) c ((evs c.t).bind fun os t => Mp.R.of ((rdA os t).bind fun xs => (meD m (.str a0) xs).map flag) t) Q := p'
      have e1 := strOp_some es1
      obtain ⟨ex, zx, okx⟩ := (Z.rdOp hx e1).str
      subst ex
      obtain ⟨t0, rfl⟩ := rx
      obtain ⟨h1, h2⟩ := tyV_is (T := "str") (x := .str a0) I1 ⟨t0, rfl⟩ rfl
      refine ⟨"str", id, PySem.F.plainAttrs_str, slot, hty, h1, h2, ?_⟩
      have hA := ha.run cpos pins s1 c.σ c.H _ I1 (tG.bind (rel1 := relOs X.K) sh_V ⟨c.F, c.t, Z, p2⟩)
      rw [star_cons hst.1] at hA ⊢
      refine Calls.callWith_builtin (by show (false || (backTo cpos (starEach es X.env)).any (·.1)) = false; rw [star_none hst.2]; rfl) (Calls.evalArgs_plain ?_)
      refine thn hA fun us s2 ⟨vs, H2, I2, r2, q2⟩ => ?_
      obtain ⟨os, F2, t2, F3, t3, R2, x2, o2, p3⟩ := q2
      obtain ⟨r', e3, p3⟩ := ofBind (c := ⟨F2, H2, t2, c.σ⟩) p3
      obtain ⟨ds, ed, e3⟩ := bind_some2 e3
      obtain ⟨d, ed', e3⟩ := map_some2 e3
      subst e3
      exact hm pins s2 c.σ F2 H2 (.str a0) vs _ us (.str a0) ds d Q I2 ⟨t0, rfl⟩ r2 R2.sub (.fz (.str _ zx okx)) (R2.rdAs o2 ed) ed' fun z H' r => p3.res R2 r
end
end Mp

/-! Part 11: chains, keys and values of dicts, methods of lists. -/
namespace Mp
open PySem PySem.Spec PyProof.Rows L2
section
variable {T : Tb} {X : Cx} {B : Bs} {W : WX} {a b c' e : Expr} {pos apos cpos : Pos} {eva evb evc : Mp.St → R Op}
/-- two operations: x op y, then y op z -/
theorem cmp_run {f : Value → Value → Sem Value} {sem : D → D → Option D} (ho : OpS X f sem) (hs : ∀ x y d, sem x y = some d → ∃ k, d = .bool k) {pins : List (Addr × Obj)} {s : Shared} {c : Cf} {x y : V} {v u : Value} {ox oy : Op} (I : Inv X pins c.σ c.H s) (rx : RelV x v) (ry : RelV y u)
    (Z : Rl T X B c) (hx : relO X.K c c x ox) (hy : relO X.K c c y oy) {d : D} (e : ((rd ox c.t).bind fun u => (rd oy c.t).bind fun w => sem u w) = some d) :
    ∃ k, d = .bool k ∧ wpAny (model X.prog X.w) X.A (f v u) (EP X pins c.σ fun z H => z = .bl k ∧ H = c.H) X.xe s := by
  obtain ⟨a, ea, e⟩ := bind_some2 e
  obtain ⟨b, eb, e⟩ := bind_some2 e
  obtain ⟨k, rfl⟩ := hs a b d e
  refine ⟨k, rfl, ho pins s c.σ c.F c.H x y v u a b _ _ I rx ry Z.sub (Z.rdOp hx ea) (Z.rdOp hy eb) e fun z H' r => ?_⟩
  cases r with
  | old h n => cases h; exact ⟨rfl, rfl⟩
theorem ee_cmp2 {op op' : CmpOp} {sem sem' : D → D → Option D} (ha : Eo T X B W a eva) (hb : Eo T X B W b evb) (hc : Eo T X B W c' evc) (ho : OpS X (compareOp op) sem) (ho' : OpS X (compareOp op') sem')
    (hs : ∀ x y d, sem x y = some d → ∃ k, d = .bool k) (hs' : ∀ x y d, sem' x y = some d → ∃ k, d = .bool k) (hm : lastMarks [op, op'] [b, c'] = false) :
    Ee T X B W (.Compare a [op, op'] [b, c'] pos) (fun t => (eva t).bind fun x t => (evb t).bind fun y t => (Mp.R.of ((rd x t).bind fun u => (rd y t).bind fun w => sem u w) t).bind fun d t =>
      if truth d = true then (evc t).bind fun z t => Mp.R.of ((rd y t).bind fun u => (rd z t).bind fun w => (sem' u w).map fun d => (d, false)) t else .ok (.bool false, false) t) := by
  refine ⟨fun pins s σ H Q I h => ?_⟩
  refine Compare_chain (thn (ha.run pins s σ H _ I (tG.bind (rel1 := relO X.K) sh_V h)) fun v s1 ⟨x, H1, I1, r1, q1⟩ => chain_link ?_) hm
  obtain ⟨ox, F1, t1, F, t, R1, e1, o1, p1⟩ := q1
  refine thn (hb.run pins s1 σ H1 _ I1 ⟨F1, t1, R1, p1.bind (rel1 := relO X.K) sh_V⟩) fun u s2 ⟨y, H2, I2, r2, q2⟩ => ?_
  obtain ⟨oy, F2, t2, R2, e2, o2, p2⟩ := q2
  cases ed : ((rd ox t2).bind fun u => (rd oy t2).bind fun w => sem u w) with
  | none => dsimp only at p2; rw [ed] at p2; exact p2.elim
  | some d =>
    dsimp only at p2
    rw [ed] at p2
    have o2' : relO X.K ⟨F2, H2, t2, σ⟩ ⟨F2, H2, t2, σ⟩ y oy := relO_mono o2 (Sub.refl _) rfl
    obtain ⟨k, rfl, g⟩ := cmp_run (c := ⟨F2, H2, t2, σ⟩) ho hs I2 r1 r2 R2 (relO_mono o1 e2.fsub rfl) o2' ed
    refine thn g fun d s3 ⟨z, H3, I3, r3, ez, eh⟩ => ?_
    dsimp only at eh
    subst ez eh
    cases r3
    refine wpAny_truthy_bool ?_
    cases k with
    | false =>
      have p3 : Post T X B W (relV X.K) ⟨F2, H3, t2, σ⟩ (.ok (.bool false, false) t2) Q := p2
      exact ite_ff ⟨.bl false, H3, I3, rfl, p3.val R2 (.bl _)⟩
    | true =>
      have p3 : Post T X B W (relV X.K) ⟨F2, H3, t2, σ⟩ ((evc t2).bind fun z t => Mp.R.of ((rd oy t).bind fun u => (rd z t).bind fun w => (sem' u w).map fun d => (d, false)) t) Q := p2
      refine ite_tt (chain_last (thn (hc.run pins s3 σ H3 _ I3 ⟨F2, t2, R2, p3.bind (rel1 := relO X.K) sh_V⟩) fun w' s4 ⟨z', H4, I4, r4, q4⟩ => ?_))
      obtain ⟨oz, F4, t4, R4, e4, o4, p4⟩ := q4
      exact op_end (c := ⟨F4, H4, t4, σ⟩) ho' I4 r2 r4 R4 (relO_mono o2' e4.fsub rfl) (relO_mono o4 (Sub.refl _) rfl) (fun x y d e => by obtain ⟨k, rfl⟩ := hs' x y d e; rfl) p4
theorem et_cmp2 {op op' : CmpOp} {sem sem' : D → D → Option D} (ha : Eo T X B W a eva) (hb : Eo T X B W b evb) (hc : Eo T X B W c' evc) (ho : OpS X (compareOp op) sem) (ho' : OpS X (compareOp op') sem')
    (hs : ∀ x y d, sem x y = some d → ∃ k, d = .bool k) (hs' : ∀ x y d, sem' x y = some d → ∃ k, d = .bool k) (hm : lastMarks [op, op'] [b, c'] = false) :
    Et T X B W (.Compare a [op, op'] [b, c'] pos) (fun t => (eva t).bind fun x t => (evb t).bind fun y t => (Mp.R.of ((rd x t).bind fun u => (rd y t).bind fun w => sem u w) t).bind fun d t =>
      if truth d = true then (evc t).bind fun z t => Mp.R.of ((rd y t).bind fun u => (rd z t).bind fun w => (sem' u w).map truth) t else .ok false t) := by
  refine ⟨fun pins s σ H Q I h => ?_⟩
  refine isTrue_chain (thn (ha.run pins s σ H _ I (tG.bind (rel1 := relO X.K) sh_B h)) fun v s1 ⟨x, H1, I1, r1, q1⟩ => test_link ?_) hm
  obtain ⟨ox, F1, t1, F, t, R1, e1, o1, p1⟩ := q1
  refine thn (hb.run pins s1 σ H1 _ I1 ⟨F1, t1, R1, p1.bind (rel1 := relO X.K) sh_B⟩) fun u s2 ⟨y, H2, I2, r2, q2⟩ => ?_
  obtain ⟨oy, F2, t2, R2, e2, o2, p2⟩ := q2
  cases ed : ((rd ox t2).bind fun u => (rd oy t2).bind fun w => sem u w) with
  | none => dsimp only at p2; rw [ed] at p2; exact p2.elim
  | some d =>
    dsimp only at p2
    rw [ed] at p2
    have o2' : relO X.K ⟨F2, H2, t2, σ⟩ ⟨F2, H2, t2, σ⟩ y oy := relO_mono o2 (Sub.refl _) rfl
    obtain ⟨k, rfl, g⟩ := cmp_run (c := ⟨F2, H2, t2, σ⟩) ho hs I2 r1 r2 R2 (relO_mono o1 e2.fsub rfl) o2' ed
    refine thn g fun d s3 ⟨z, H3, I3, r3, ez, eh⟩ => ?_
    dsimp only at eh
    subst ez eh
    cases r3
    refine wpAny_truthy_bool ?_
    cases k with
    | false =>
      have p3 : Post T X B W relB ⟨F2, H3, t2, σ⟩ (.ok false t2) Q := p2
      exact ite_ff ⟨H3, I3, p3 false F2 H3 R2 (Ext.refl _) rfl⟩
    | true =>
      have p3 : Post T X B W relB ⟨F2, H3, t2, σ⟩ ((evc t2).bind fun z t => Mp.R.of ((rd oy t).bind fun u => (rd z t).bind fun w => (sem' u w).map truth) t) Q := p2
      refine ite_tt (test_last (thn (hc.run pins s3 σ H3 _ I3 ⟨F2, t2, R2, p3.bind (rel1 := relO X.K) sh_B⟩) fun w' s4 ⟨z', H4, I4, r4, q4⟩ => ?_))
      obtain ⟨oz, F4, t4, R4, e4, o4, p4⟩ := q4
      obtain ⟨r, e, p4⟩ := ofBind (c := ⟨F4, H4, t4, σ⟩) p4
      obtain ⟨a', ea, e⟩ := bind_some2 e
      obtain ⟨b', eb, e⟩ := bind_some2 e
      obtain ⟨d, ed2, e⟩ := map_some2 e
      subst e
      obtain ⟨k2, e5, g2⟩ := cmp_run (c := ⟨F4, H4, t4, σ⟩) (ox := oy) (oy := oz) (d := d) ho' hs' I4 r2 r4 R4 (relO_mono o2' e4.fsub rfl) (relO_mono o4 (Sub.refl _) rfl) (by dsimp only at ea eb ⊢; rw [ea, eb]; exact ed2)
      subst e5
      refine thn g2 fun d' s5 ⟨z2, H5, I5, r5, e6, e7⟩ => ?_
      dsimp only at e7
      subst e6 e7
      cases r5
      exact wpAny_truthy_bool ⟨_, I5, p4 k2 F4 _ R4 (Ext.refl _) rfl⟩
/-! ### keys, values -/
theorem paired_get {α β : Type} {r : α → β → Prop} : ∀ {xs : List α} {ys : List β} {i : Nat} {x : α}, Paired r xs ys → xs[i]? = some x → ∃ y, ys[i]? = some y ∧ r x y
  | _, _, i, x, .nil, h => by simp at h
  | _, _, 0, x, .cons a t, h => by simp at h; subst h; exact ⟨_, rfl, a⟩
  | _, _, i + 1, x, .cons a t, h => by
    obtain ⟨y, e, q⟩ := paired_get (i := i) t (by simpa using h)
    exact ⟨y, by simpa using e, q⟩
theorem kV_rp {K : PySem.W.Frag} {F : Hp} {k : Key} (h : keyOk k) : Rp K F (kV k) (kD k) := by
  cases k with
  | inl i => exact .int i
  | inr s => exact .str s h.1 h.2
theorem Rpk.keys {K : PySem.W.Frag} {F : Hp} : ∀ {ds : List (D × D)} {kvs : List (Key × V)}, Rpk K F kvs ds → Rps K F (kvs.map fun kv => kV kv.1) (ds.map (·.1))
  | [], _, h => by cases h; exact .nil
  | d :: ds, _, h => by
    cases h with
    | cons ok h r => exact .cons (kV_rp ok) r.keys
theorem Rpk.vals {K : PySem.W.Frag} {F : Hp} : ∀ {ds : List (D × D)} {kvs : List (Key × V)}, Rpk K F kvs ds → Rps K F (kvs.map (·.2)) (ds.map (·.2))
  | [], _, h => by cases h; exact .nil
  | d :: ds, _, h => by
    cases h with
    | cons ok h r => exact .cons h r.vals
theorem ee_lkeys {p : Pos} (hc : X.calm = true) (hg : Gl X "list") (hm : X.mg "list" = none) (ha : Eo T X B W a eva) (hbase : attributeBase a "keys" X.env (eval a X.env) = eval a X.env) (hline : (apos.endLine == cpos.line) = true) :
    Ee T X B W (.Call (.Name "list" p) [.Call (.Attribute a "keys" apos) [] [] cpos] [] pos) (kKeys eva) := by
  refine ⟨fun pins s σ H Q I h => ?_⟩
  refine Call_ (ld_blt I hg hm boot_list (PyProof.Rows.callWith_type1 (args_cons ?_ rfl) rfl))
  refine wpAny_Call_method (T := "dict") (id := "dict.keys") hbase rfl hline F.plainAttrs_dict F.slot_dict_keys F.type_dict_keys (one ha sh_V I h fun v s1 x ox c hc2 I1 rx Z hx p => ?_)
  subst hc2
  obtain ⟨r', e, p⟩ := ofBind p
  obtain ⟨d, ed, e⟩ := bind_some2 e
  obtain ⟨l, el, e⟩ := map_some2 e
  subst e
  cases d <;> first | (cases el; done) | skip
  rename_i ds
  cases el
  obtain ⟨q0, kvs, ex, hk, rk, zk⟩ := (Z.rdOp hx ed).dict Z.sub
  subst ex
  obtain rfl : v = Value.ref q0 := rx
  obtain ⟨z, lo, vs, kv, hd⟩ := (show ObjOk X.prog X.w c.H s1.heap q0 (.dK kvs) from I1.hok q0 _ hk)
  obtain ⟨ep, hat⟩ := hd.dictAt
  have hl : kvs.length = vs.length := Paired.length kv
  refine ⟨hd.typeIs, hd.mapOf.noDict, ?_⟩
  have I2 : Inv X pins c.σ c.H { s1 with heap := s1.heap.push { cls := .type "dict_keys", data := .fields #[.ref q0] } } := I1.kept (t' := s1.toks) fun b ob q => Heap.get?_push_of_some _ q
  show wpAny _ _ (callWith cpos (.builtin "dict.keys") [.ref q0] [] []) _ X.xe s1
  refine method_meetsIn F.slot_dict_keys F.entry_dict_keys rfl (PySem.evalArgs_none ⟨rfl, hd.typeIs, F.args_dict_keys_1 _, _, PySem.W.kdl_meets_keys (mixKind X.prog X.w) q0 lo, ⟨vs, hd⟩, ?_⟩)
  refine args_nil ?_
  refine PySem.W.kdl_call (PySem.W.kdl_keys (knd := mixKind X.prog X.w) (kvs := vs) (ep := ep) (d := q0)) (I2.ok.hd hc) ⟨⟨_, Heap.get?_push_size _ rfl, rfl, rfl⟩, hat.push _⟩ (by rw [← hl]; exact z) fun h' tk acc' c' hkeep hS hacc => ?_
  refine ⟨.ref _, upd c.H _ (.lst (kvs.map fun kv => kV kv.1)), I2.laid hkeep (Nat.le_refl _) (show ObjOk X.prog X.w _ _ _ (.lst (kvs.map fun kv => kV kv.1)) from ⟨?_, acc'.toList, c', ?_, ?_⟩), rfl, ?_⟩
  · rw [List.length_map]; exact z
  · have el : acc'.toList.length = acc'.size := by simp
    refine vals_of_at (by rw [List.length_map, el, hacc.1, hl]) fun j x w h1 h2 => ?_
    obtain ⟨k, y, hky, hi⟩ := hacc.2 j w (by rw [← Array.getElem?_toList]; exact h2)
    have e1 : (kvs.map (·.1))[j]? = some k := by
      rw [KV.keys kv, List.getElem?_map, hky] <;> rfl
    have e2 : (kvs.map fun kv => kV kv.1)[j]? = some (kV k) := by
      have e3 : (kvs.map fun kv => kV kv.1) = (kvs.map (·.1)).map kV := by rw [List.map_map] <;> rfl
      rw [e3, List.getElem?_map, e1] <;> rfl
    rw [e2] at h1
    cases h1
    exact keyIs_rel hi
  · rw [Array.toArray_toList]; exact hS
  · exact Post.res (c := c) (d := .list (ds.map (·.1))) Z (.lst (I2.hok.fresh (Nat.le_refl _)) rk.keys (by rw [List.length_map]; exact zk)) p
theorem ee_lvals {p : Pos} (hc : X.calm = true) (hg : Gl X "list") (hm : X.mg "list" = none) (ha : Eo T X B W a eva) (hbase : attributeBase a "values" X.env (eval a X.env) = eval a X.env) (hline : (apos.endLine == cpos.line) = true) :
    Ee T X B W (.Call (.Name "list" p) [.Call (.Attribute a "values" apos) [] [] cpos] [] pos) (kVals eva) := by
  refine ⟨fun pins s σ H Q I h => ?_⟩
  refine Call_ (ld_blt I hg hm boot_list (PyProof.Rows.callWith_type1 (args_cons ?_ rfl) rfl))
  refine wpAny_Call_method (T := "dict") (id := "dict.values") hbase rfl hline F.plainAttrs_dict F.slot_dict_values F.type_dict_values (one ha sh_V I h fun v s1 x ox c hc2 I1 rx Z hx p => ?_)
  subst hc2
  obtain ⟨r', e, p⟩ := ofBind p
  obtain ⟨d, ed, e⟩ := bind_some2 e
  obtain ⟨l, el, e⟩ := map_some2 e
  subst e
  cases d <;> first | (cases el; done) | skip
  rename_i ds
  cases el
  obtain ⟨q0, kvs, ex, hk, rk, zk⟩ := (Z.rdOp hx ed).dict Z.sub
  subst ex
  obtain rfl : v = Value.ref q0 := rx
  obtain ⟨z, lo, vs, kv, hd⟩ := (show ObjOk X.prog X.w c.H s1.heap q0 (.dK kvs) from I1.hok q0 _ hk)
  obtain ⟨ep, hat⟩ := hd.dictAt
  have hl : kvs.length = vs.length := Paired.length kv
  refine ⟨hd.typeIs, hd.mapOf.noDict, ?_⟩
  have I2 : Inv X pins c.σ c.H { s1 with heap := s1.heap.push { cls := .type "dict_values", data := .fields #[.ref q0] } } := I1.kept (t' := s1.toks) fun b ob q => Heap.get?_push_of_some _ q
  show wpAny _ _ (callWith cpos (.builtin "dict.values") [.ref q0] [] []) _ X.xe s1
  refine method_meetsIn F.slot_dict_values F.entry_dict_values rfl (PySem.evalArgs_none ⟨rfl, hd.typeIs, F.args_dict_values_1 _, _, meets_dict_values (mixKind X.prog X.w) q0 lo, ⟨vs, hd⟩, ?_⟩)
  refine args_nil ?_
  refine PySem.W.kdl_call (PySem.W.kdl_values (knd := mixKind X.prog X.w) (kvs := vs) (ep := ep) (d := q0)) (I2.ok.hd hc) ⟨⟨_, Heap.get?_push_size _ rfl, rfl, rfl⟩, hat.push _⟩ (by rw [← hl]; exact z) fun h' tk acc' c' hkeep hS hacc => ?_
  refine ⟨.ref _, upd c.H _ (.lst (kvs.map (·.2))), I2.laid hkeep (Nat.le_refl _) (show ObjOk X.prog X.w _ _ _ (.lst (kvs.map (·.2))) from ⟨?_, acc'.toList, c', ?_, ?_⟩), rfl, ?_⟩
  · rw [List.length_map]; exact z
  · have el : acc'.toList.length = acc'.size := by simp
    refine vals_of_at (by rw [List.length_map, el, hacc.1, hl]) fun j x w h1 h2 => ?_
    obtain ⟨k, hky⟩ := hacc.2 j w (by rw [← Array.getElem?_toList]; exact h2)
    rw [List.getElem?_map] at h1
    obtain ⟨kx, hkx, e1⟩ := map_some2 h1
    obtain ⟨y, hy, ry⟩ := paired_get kv hkx
    rw [hky] at hy
    cases hy
    rw [← e1]
    exact ry.2
  · rw [Array.toArray_toList]; exact hS
  · exact Post.res (c := c) (d := .list (ds.map (·.2))) Z (.lst (I2.hok.fresh (Nat.le_refl _)) rk.vals (by rw [List.length_map]; exact zk)) p
/-! ### methods of a list in a slot -/
def onSlot {α : Type} (i : Nat) (k : Mp.St → R α) (o : Op) (t : Mp.St) : R α := match o with
  | .i j => if j = i then k t else .bad
  | .v _ => .bad
theorem opn_slot {i : Nat} {t : Mp.St} {α : Type} (k : Mp.St → R α) (h : ∀ s, t[i]? = some s → s = .un → k t = .bad) (h0 : t[i]? = none → k t = .bad) : k t = (opnV i t).bind (onSlot i k) := by
  cases e : t[i]? with
  | none => rw [h0 e]; unfold opnV; rw [e]; rfl
  | some s =>
    by_cases q : s = .un
    · rw [h s e q]; unfold opnV; rw [e, q]; rfl
    · rw [opnV_ok e q]
      show k t = if i = i then k t else .bad
      rw [if_pos rfl]
theorem post_slot {α β : Type} {rel : Cf → Cf → β → α → Prop} {c : Cf} {x : V} {ox : Op} {i : Nat} {k : Mp.St → R α} {Q : β → Hp → Prop} (hx : relO X.K c c x ox) (p : Post T X B W rel c (onSlot i k ox c.t) Q) : c.σ[i]? = some (some x) ∧ Post T X B W rel c (k c.t) Q := by
  cases ox with
  | v d => exact p.elim
  | i j =>
    by_cases h : j = i
    · subst h
      refine ⟨hx, ?_⟩
      have p' : Post T X B W rel c (if j = j then k c.t else .bad) Q := p
      rw [if_pos rfl] at p'
      exact p'
    · have p' : Post T X B W rel c (if j = i then k c.t else .bad) Q := p
      rw [if_neg h] at p'
      exact p'.elim
theorem own_lst {c : Cf} {i : Nat} {s : Sl} {l : List D} (Z : Rl T X B c) (e : c.t[i]? = some s) (hs : s = .ow (.list l) ∨ s = .bw (.list l)) :
    ∃ q xs, c.σ[i]? = some (some (.ref q)) ∧ c.H q = some (.lst xs) ∧ Rps X.K c.F xs l ∧ l.length ≤ cap ∧ isWr s = true ∧ c.F q = none ∧ (s = .bw (.list l) → q = B i) := by
  obtain ⟨v, ev, q⟩ := Z.val e (by rcases hs with rfl | rfl <;> simp)
  rcases hs with rfl | rfl
  · obtain ⟨a, ea, f, z, xs, h, r⟩ := q
    cases ea
    exact ⟨a, xs, ev, h, r, z, rfl, f, fun h => by cases h⟩
  · obtain ⟨a, ea, eb, f, z, xs, h, r⟩ := q
    cases ea
    exact ⟨a, xs, ev, h, r, z, rfl, f, fun _ => eb⟩
/-- a held list gets other items -/
theorem Rl.relist {c : Cf} {i : Nat} {s s' : Sl} {q : Addr} {xs : List V} {l l' : List D} (Z : Rl T X B c) (e : c.t[i]? = some s) (ev : c.σ[i]? = some (some (.ref q))) (f : c.F q = none) (hb : s = .bw (.list l) → q = B i)
    (hs : (s = .ow (.list l) ∧ s' = .ow (.list l')) ∨ (s = .bw (.list l) ∧ s' = .bw (.list l'))) (r : Rps X.K c.F xs l') (z : l'.length ≤ cap) :
    Rl T X B ⟨c.F, upd c.H q (.lst xs), c.t.set i s', c.σ⟩ ∧ Ext c ⟨c.F, upd c.H q (.lst xs), c.t.set i s', c.σ⟩ := by
  have o : Own X.K c.F (upd c.H q (.lst xs)) q (.list l') := ⟨f, z, xs, upd_same, r⟩
  rcases hs with ⟨rfl, rfl⟩ | ⟨rfl, rfl⟩
  · exact Z.write e ev rfl rfl ⟨q, rfl, o⟩
  · exact Z.write e ev rfl rfl ⟨q, rfl, hb rfl, o⟩
theorem last_get {α : Type} {l : List α} {d : α} (h : l.getLast? = some d) : l[l.length - 1]? = some d := by
  rw [← h, List.getLast?_eq_getElem?]
theorem bm_list (s1 : Shared) {v : Value} {q : Addr} {xs : List V} {σ : Sg} {H : Hp} {pins : List (Addr × Obj)} (I1 : Inv X pins σ H s1) (rx : RelV (.ref q) v) (hH : H q = some (.lst xs)) :
    s1.TypeIs v "list" ∧ ∀ a, v = .ref a → ∃ ob, s1.heap.get? a = some ob ∧ ob.dict = none := tyV_is (T := "list") (x := .ref q) I1 rx (.inl ⟨rfl, xs, .inl (.inl hH)⟩)
theorem kPop_some {i : Nat} {t : Mp.St} (h : kPop i t ≠ .bad) : ∃ l d s s', t[i]? = some s ∧ ((s = .ow (.list l) ∧ s' = .ow (.list l.dropLast)) ∨ (s = .bw (.list l) ∧ s' = .bw (.list l.dropLast))) ∧ l.getLast? = some d ∧ kPop i t = .ok (d, false) (t.set i s') := by
  unfold kPop at h ⊢
  split at h
  · rename_i l e
    split at h
    · rename_i d el
      rw [e]
      exact ⟨l, d, _, _, rfl, .inl ⟨rfl, rfl⟩, el, by simp only [el]⟩
    · exact absurd rfl h
  · rename_i l e
    split at h
    · rename_i d el
      rw [e]
      exact ⟨l, d, _, _, rfl, .inr ⟨rfl, rfl⟩, el, by simp only [el]⟩
    · exact absurd rfl h
  · exact absurd rfl h
theorem ee_pop {i : Nat} {x : Str} {p : Pos} (ho : Eo T X B W (.Name x p) (opnV i)) (hline : (apos.endLine == cpos.line) = true) (hbase : attributeBase (.Name x p) "pop" X.env (eval (.Name x p) X.env) = eval (.Name x p) X.env) :
    Ee T X B W (.Call (.Attribute (.Name x p) "pop" apos) [] [] cpos) (kPop i) := by
  refine ⟨fun pins s σ H Q I h => ?_⟩
  have h' : tG T X B W (relV X.K) (fun t => (opnV i t).bind (onSlot i (kPop i))) σ H Q := by
    obtain ⟨F, t, R, p⟩ := h
    refine ⟨F, t, R, ?_⟩
    rw [opn_slot (i := i) (t := t) (kPop i) (fun s e q => by unfold kPop; rw [e, q]) (fun e => by unfold kPop; rw [e])] at p
    exact p
  refine wpAny_Call_method0_late hbase hline (one ho sh_V I h' fun v s1 x ox c hc I1 rx Z hx p => ?_)
  subst hc
  obtain ⟨ev, p⟩ := post_slot hx p
  have hb : kPop i c.t ≠ .bad := fun e => by rw [e] at p; exact p.elim
  obtain ⟨l, d, sl, s', e, hs, hl, hk⟩ := kPop_some hb
  rw [hk] at p
  have hs0 : sl = .ow (.list l) ∨ sl = .bw (.list l) := by
    rcases hs with ⟨h, _⟩ | ⟨h, _⟩
    · exact .inl h
    · exact .inr h
  obtain ⟨q, xs, ev', hH, r, z, hw, f, hbb⟩ := own_lst Z e hs0
  rw [ev] at ev'
  cases ev'
  obtain ⟨h1, h2⟩ := bm_list s1 I1 rx hH
  obtain ⟨y, hy, ry⟩ := r.get (last_get hl)
  rw [← r.length] at hy
  obtain ⟨Z1, x1⟩ := Z.relist e ev f hbb hs r.dropLast (by rw [List.length_dropLast]; omega)
  exact ⟨"list", "list.pop", F.plainAttrs_list, F.slot_list_pop, F.type_list_pop, h1, h2, Calls.callWith_builtin rfl (PySem.evalArgs_none (mt_pop pins s1 c.σ c.H _ [] v [] Q I1 rx .nil ⟨q, xs, y, rfl, rfl, hH, hy, p y _ _ Z1 x1 (relV_old ry)⟩))⟩
theorem isLs_some {i : Nat} {t : Mp.St} {u : Unit} (h : isLs i t = some u) : ∃ l s, t[i]? = some s ∧ (s = .ow (.list l) ∨ s = .bw (.list l)) := by
  unfold isLs at h
  split at h
  · exact ⟨_, _, by assumption, .inl rfl⟩
  · exact ⟨_, _, by assumption, .inr rfl⟩
  · cases h
theorem appE_some {i : Nat} {v : Rv} {t : Mp.St} (h : appE i v t ≠ .bad) : ∃ l s s', t[i]? = some s ∧ ((s = .ow (.list l) ∧ s' = .ow (.list (l ++ [v.1]))) ∨ (s = .bw (.list l) ∧ s' = .bw (.list (l ++ [v.1])))) ∧ l.length < cap ∧ appE i v t = .ok (.none, false) (t.set i s') := by
  unfold appE at h ⊢
  split at h
  · rename_i l e
    split at h
    · rename_i z
      rw [e]
      exact ⟨l, _, _, rfl, .inl ⟨rfl, rfl⟩, z, by simp only [if_pos z]⟩
    · exact absurd rfl h
  · rename_i l e
    split at h
    · rename_i z
      rw [e]
      exact ⟨l, _, _, rfl, .inr ⟨rfl, rfl⟩, z, by simp only [if_pos z]⟩
    · exact absurd rfl h
  · exact absurd rfl h
theorem extE_some {i : Nat} {v : Rv} {t : Mp.St} (h : extE i v t ≠ .bad) : ∃ l m s s', t[i]? = some s ∧ v.1 = .list m ∧ ((s = .ow (.list l) ∧ s' = .ow (.list (l ++ m))) ∨ (s = .bw (.list l) ∧ s' = .bw (.list (l ++ m)))) ∧ l.length + m.length ≤ cap ∧ extE i v t = .ok (.none, false) (t.set i s') := by
  unfold extE at h ⊢
  split at h
  · rename_i l m e ev
    split at h
    · rename_i z
      rw [e, ev]
      exact ⟨l, m, _, _, rfl, rfl, .inl ⟨rfl, rfl⟩, z, by simp only [if_pos z]⟩
    · exact absurd rfl h
  · rename_i l m e ev
    split at h
    · rename_i z
      rw [e, ev]
      exact ⟨l, m, _, _, rfl, rfl, .inr ⟨rfl, rfl⟩, z, by simp only [if_pos z]⟩
    · exact absurd rfl h
  · exact absurd rfl h
/-- a method with one argument at a list in a slot -/
theorem ee_slotm {i : Nat} {x name : Str} {id : String} {p : Pos} {ev : Mp.St → R Rv} {fin : Rv → Mp.St → R Rv} (slot : Slot "list" name id) (hty : typeOf (.builtin id) = pure (.type "method_descriptor")) (ho : Eo T X B W (.Name x p) (opnV i)) (ha : Ee T X B W e ev) (hst : unstar e = true) (hline : (apos.endLine == cpos.line) = true) (hbase : attributeBase (.Name x p) name X.env (eval (.Name x p) X.env) = eval (.Name x p) X.env)
    (hm : ∀ (pins : List (Addr × Obj)) (s : Shared) (c : Cf) (q : Addr) (y : V) (v u : Value) (r : Rv) (Q : VK), Inv X pins c.σ c.H s → RelV (.ref q) v → RelV y u → Rl T X B c → c.σ[i]? = some (some (.ref q)) → Rp X.K c.F y r.1 → Post T X B W (relV X.K) c (fin r c.t) Q → wpAny (model X.prog X.w) X.A (call (.builtin id) [v, u]) (EP X pins c.σ Q) X.xe s) :
    Ee T X B W (.Call (.Attribute (.Name x p) name apos) [e] [] cpos) (fun t => (Mp.R.of (isLs i t) t).bind fun _ t => (kSh ev t).bind fin) := by
  refine ⟨fun pins s σ H Q I h => ?_⟩
  have h' : tG T X B W (relV X.K) (fun t => (opnV i t).bind (onSlot i fun t => (Mp.R.of (isLs i t) t).bind fun _ t => (kSh ev t).bind fin)) σ H Q := by
    obtain ⟨F, t, R, p⟩ := h
    refine ⟨F, t, R, ?_⟩
    have q := opn_slot (i := i) (t := t) (fun t => (Mp.R.of (isLs i t) t).bind fun _ t => (kSh ev t).bind fin) (fun s e q => by unfold isLs; rw [e, q]; rfl) (fun e => by unfold isLs; rw [e]; rfl)
    dsimp only at p q ⊢
    rw [q] at p
    exact p
  have hst2 : ([e] : List Expr).all unstar = true := by simp [hst]
  refine wpAny_Call_method_late hbase ?_ hline rfl (one ho sh_V I h' fun v s1 x ox c hc I1 rx Z hx p => ?_)
  · rw [star_all hst2]; rfl
  subst hc
  obtain ⟨ev1, p⟩ := post_slot hx p
  cases e1 : isLs i c.t with
  | none => rw [e1] at p; exact p.elim
  | some u =>
    rw [e1] at p
    obtain ⟨l0, sl0, e0, hs0⟩ := isLs_some e1
    obtain ⟨q, xs, ev', hH, r, z, hw, f, hbb⟩ := own_lst Z e0 hs0
    rw [ev1] at ev'
    cases ev'
    obtain ⟨h1, h2⟩ := bm_list s1 I1 rx hH
    refine ⟨"list", id, F.plainAttrs_list, slot, hty, h1, h2, ?_⟩
    rw [star_cons hst]
    refine Calls.callWith_builtin (by rfl) (Calls.evalArgs_plain (Calls.spliced_cons ?_))
    refine thn ((ef_sh ha).run pins s1 c.σ c.H _ I1 ⟨c.F, c.t, Z, Post.bind (rel1 := relF X.K) (f := fin) sh_V p⟩) fun u s2 ⟨y, H2, I2, r2, q2⟩ => Calls.spliced_nil ?_
    obtain ⟨r, F2, t2, R2, x2, o2, p2⟩ := q2
    exact hm pins s2 ⟨F2, H2, t2, c.σ⟩ q y v u r Q I2 rx r2 R2 ev1 o2 p2
theorem ee_app {i : Nat} {x : Str} {p : Pos} {ev : Mp.St → R Rv} (ho : Eo T X B W (.Name x p) (opnV i)) (ha : Ee T X B W e ev) (hst : unstar e = true) (hline : (apos.endLine == cpos.line) = true) (hbase : attributeBase (.Name x p) "append" X.env (eval (.Name x p) X.env) = eval (.Name x p) X.env) :
    Ee T X B W (.Call (.Attribute (.Name x p) "append" apos) [e] [] cpos) (kApp i (kSh ev)) :=
  ee_slotm F.slot_list_append F.type_list_append ho ha hst hline hbase fun pins s c q y v u r Q I rx ry Z ev1 hr p => by
    obtain ⟨l, sl, s', e1, hs, hz, hk⟩ := appE_some (fun e => by rw [e] at p; exact p.elim)
    rw [hk] at p
    have hs0 : sl = .ow (.list l) ∨ sl = .bw (.list l) := by
      rcases hs with ⟨h, _⟩ | ⟨h, _⟩
      · exact .inl h
      · exact .inr h
    obtain ⟨q', xs, ev', hH, r1, z, hw, f, hbb⟩ := own_lst Z e1 hs0
    rw [ev1] at ev'
    cases ev'
    obtain ⟨Z1, x1⟩ := Z.relist e1 ev1 f hbb hs (r1.append (Rps.one hr)) (by simp; omega)
    exact mt_append pins s c.σ c.H (.ref q) [y] v [u] Q I rx (.cons ry .nil) ⟨q, xs, y, rfl, rfl, hH, by rw [r1.length, ← cap_line]; exact hz, p .non _ _ Z1 x1 (relV_old .non)⟩
theorem popiE_some {i : Nat} {v : Rv} {t : Mp.St} (h : popiE i v t ≠ .bad) : ∃ l z j d s s', t[i]? = some s ∧ v.1 = .int z ∧ place l.length z = some j ∧ l[j]? = some d ∧ ((s = .ow (.list l) ∧ s' = .ow (.list (l.eraseIdx j))) ∨ (s = .bw (.list l) ∧ s' = .bw (.list (l.eraseIdx j)))) ∧ popiE i v t = .ok (d, false) (t.set i s') := by
  unfold popiE at h ⊢
  split at h
  · rename_i l z e ev
    split at h
    · rename_i j ej
      split at h
      · rename_i d ed
        rw [e, ev]
        exact ⟨l, z, j, d, _, _, rfl, rfl, ej, ed, .inl ⟨rfl, rfl⟩, by simp only [ej, ed]⟩
      · exact absurd rfl h
    · exact absurd rfl h
  · rename_i l z e ev
    split at h
    · rename_i j ej
      split at h
      · rename_i d ed
        rw [e, ev]
        exact ⟨l, z, j, d, _, _, rfl, rfl, ej, ed, .inr ⟨rfl, rfl⟩, by simp only [ej, ed]⟩
      · exact absurd rfl h
    · exact absurd rfl h
  · exact absurd rfl h
theorem Rps.eraseIdx {K : PySem.W.Frag} {F : Hp} : ∀ {ds : List D} {vs : List V} (j : Nat), Rps K F vs ds → Rps K F (vs.eraseIdx j) (ds.eraseIdx j)
  | [], _, _, h => by cases h; exact .nil
  | d :: ds, _, 0, h => by cases h with | cons h r => exact r
  | d :: ds, _, j + 1, h => by cases h with | cons h r => exact .cons h (Rps.eraseIdx j r)
theorem place_line {n : Nat} {z : Int} {j : Nat} (h : place n z = some j) (hn : n ≤ cap) : -(2 ^ 63) ≤ z ∧ z < 2 ^ 63 := by
  have hc : cap < 2 ^ 63 := by decide
  unfold place at h
  split at h
  · split at h
    · omega
    · cases h
  · split at h
    · omega
    · cases h
theorem place_seq {n : Nat} {z : Int} {j : Nat} (h : place n z = some j) : seqIndex? z n = some j := by
  unfold place at h
  unfold seqIndex?
  by_cases h0 : 0 ≤ z
  · rw [if_pos h0] at h
    have hn : ¬ z < 0 := by omega
    split at h
    · rename_i h1
      cases h
      simp only [hn, if_false]
      rw [if_pos (by simp [h0, h1])]
    · cases h
  · rw [if_neg h0] at h
    have hn : z < 0 := by omega
    split at h
    · rename_i h1
      cases h
      simp only [hn, if_true]
      rw [if_pos (by simp; omega)]
    · cases h
theorem ee_popi {i : Nat} {x : Str} {p : Pos} {ev : Mp.St → R Rv} (ho : Eo T X B W (.Name x p) (opnV i)) (ha : Ee T X B W e ev) (hst : unstar e = true) (hline : (apos.endLine == cpos.line) = true) (hbase : attributeBase (.Name x p) "pop" X.env (eval (.Name x p) X.env) = eval (.Name x p) X.env) :
    Ee T X B W (.Call (.Attribute (.Name x p) "pop" apos) [e] [] cpos) (kPopi i (kSh ev)) :=
  ee_slotm F.slot_list_pop F.type_list_pop ho ha hst hline hbase fun pins s c q y v u r Q I rx ry Z ev1 hr p => by
    obtain ⟨l, z, j, d, sl, s', e1, em, ej, ed, hs, hk⟩ := popiE_some (fun e => by rw [e] at p; exact p.elim)
    rw [hk] at p
    have hs0 : sl = .ow (.list l) ∨ sl = .bw (.list l) := by
      rcases hs with ⟨h, _⟩ | ⟨h, _⟩
      · exact .inl h
      · exact .inr h
    obtain ⟨q', xs, ev', hH, r1, z1, hw, f, hbb⟩ := own_lst Z e1 hs0
    rw [ev1] at ev'
    cases ev'
    rw [em] at hr
    cases hr
    obtain ⟨w, ew, rw'⟩ := r1.get ed
    have hz : l.length ≤ cap := z1
    obtain ⟨b1, b2⟩ := place_line ej hz
    have hle := List.length_eraseIdx_le l j
    obtain ⟨Z1, x1⟩ := Z.relist e1 ev1 f hbb hs (r1.eraseIdx j) (by omega)
    exact mt_popAt pins s c.σ c.H (.ref q) [.int z] v [u] Q I rx (.cons ry .nil) ⟨q, xs, z, j, w, rfl, rfl, hH, b1, b2, by rw [r1.length]; exact place_seq ej, ew, p w _ _ Z1 x1 (relV_old rw')⟩
theorem mt_ext {pins : List (Addr × Obj)} {s : Shared} {σ : Sg} {H : Hp} {l b : Addr} {xs zs : List V} {Q : VK} (I : Inv X pins σ H s) (hH : H l = some (.lst xs)) (hB : SqE X.K H b zs) (hz : xs.length + zs.length ≤ sizeLine) (q : Q .non (upd H l (.lst (xs ++ zs)))) :
    wpAny (model X.prog X.w) X.A (call (.builtin "list.extend") [.ref l, .ref b]) (EP X pins σ Q) X.xe s := by
  obtain ⟨z, its, n, r, hl, e⟩ := I.lstM hH
  obtain ⟨its2, n2, r2, hl2, z2, e2⟩ : ∃ its2 n2, Vals zs its2 ∧ zs.length = its2.length ∧ zs.length ≤ sizeLine ∧ s.heap.get? b = some { cls := .type "list", data := .seq its2.toArray n2 } := by
    obtain ⟨z2, its2, n2, r2, e2⟩ := hB.obj I
    exact ⟨its2, n2, r2, Vals.length r2, z2, e2⟩
  have hsz : its.toArray.size + its2.toArray.size ≤ sizeLine := by rw [List.size_toArray, List.size_toArray]; omega
  have hlong : ¬ (!its.toArray.isEmpty && Builtin.List.listTooLong (its.toArray.size + its2.toArray.size)) = true := by
    rw [notLongL hsz, Bool.and_false]
    exact Bool.false_ne_true
  refine call_meets F.slot_list_extend ⟨_, e, rfl⟩ F.entry_list_extend (F.args_list_extend_2 _ _)
    (AutoSeq1.list_extend_list_list_0 l its.toArray n b its2.toArray n2 hlong (by rw [List.size_toArray]; omega) (by omega)) ⟨e, e2, ?_⟩
  refine ⟨.non, _, I.lset (its' := its ++ its2) hH e (by simp) (r.append r2) ?_, rfl, q⟩
  rw [List.length_append]
  omega
theorem ee_ext {i : Nat} {x : Str} {p : Pos} {ev : Mp.St → R Rv} (ho : Eo T X B W (.Name x p) (opnV i)) (ha : Ee T X B W e ev) (hst : unstar e = true) (hline : (apos.endLine == cpos.line) = true) (hbase : attributeBase (.Name x p) "extend" X.env (eval (.Name x p) X.env) = eval (.Name x p) X.env) :
    Ee T X B W (.Call (.Attribute (.Name x p) "extend" apos) [e] [] cpos) (kExt i (kSh ev)) :=
  ee_slotm F.slot_list_extend F.type_list_extend ho ha hst hline hbase fun pins s c q y v u r Q I rx ry Z ev1 hr p => by
    obtain ⟨l, m, sl, s', e1, em, hs, hz, hk⟩ := extE_some (fun e => by rw [e] at p; exact p.elim)
    rw [hk] at p
    have hs0 : sl = .ow (.list l) ∨ sl = .bw (.list l) := by
      rcases hs with ⟨h, _⟩ | ⟨h, _⟩
      · exact .inl h
      · exact .inr h
    obtain ⟨q', xs, ev', hH, r1, z, hw, f, hbb⟩ := own_lst Z e1 hs0
    rw [ev1] at ev'
    cases ev'
    rw [em] at hr
    cases hr with
    | @lst b ys _ hR rr zz =>
      obtain ⟨Z1, x1⟩ := Z.relist e1 ev1 f hbb hs (r1.append rr) (by simp; omega)
      cases rx
      cases ry
      exact mt_ext I hH (Z.sub.sqE hR) (by rw [r1.length, rr.length, ← cap_line]; exact hz) (p .non _ _ Z1 x1 (relV_old .non))
end
end Mp

/-! Part 12: isinstance, fields of a caught exception. -/
namespace Mp
open PySem PySem.Spec PyProof.Rows L2
/-- an own exception class -/
structure Xk (K : PySem.W.Frag) (C : Addr) : Prop where
  cl : (PySem.W.clsIn K C).isSome = true
  ga : PySem.W.findIn K (.ref C) "__getattribute__" = some (some (.builtin "BaseException.__getattribute__"))
  gg : PySem.W.findIn K (.ref C) "__getattr__" = some none
  sb : PySem.W.subIn K (.ref C) (.type "BaseException") = some true
  hd : PySem.W.hasDictIn K C = true
  ac : PySem.W.findIn K (.ref C) "__class__" = some (some (.builtin "object.__class__"))
  mr : PySem.W.mroIn K C (.type "object") = some true
def okX (P : Pr) (k : Nat) : Prop := (P.sup k).contains k = true
/-- the program's classes -/
structure Gc (P : Pr) (T : Tb) (K : PySem.W.Frag) : Prop where
  hn : PySem.W.specialIn K (.builtin "object.__class__") "__get__" = some (some (.builtin "getset_descriptor.__get__"))
  ht : PySem.W.takesIn K (.builtin "object.__class__") = some true
  x : ∀ k, okX P k → Xk K (T.cl k)
  sub : ∀ k j, okX P k → okX P j → PySem.W.kitOne K (.ref (T.cl k)) (.ref (T.cl j)) = some ((P.sup k).contains j)
  ve : ∀ k, okX P k → PySem.W.kitOne K (.ref (T.cl k)) (.type "ValueError") = some true
  exm : ∀ k j, okX P k → okX P j → PySem.W.exmOne K (.ref (T.cl k)) (.ref (T.cl j)) = some ((P.sup k).contains j)
  exv : ∀ k, okX P k → PySem.W.exmOne K (.ref (T.cl k)) (.type "ValueError") = some true
  fld : ∀ k f, okX P k → (P.fld k).contains f = true → PySem.W.findIn K (.ref (T.cl k)) (T.fld f) = some none
def clN : Cl → String
  | .own _ => ""
  | .VE => "ValueError"
  | .int => "int"
  | .str => "str"
  | .bool => "bool"
  | .tuple => "tuple"
  | .list => "list"
  | .dict => "dict"
def clV (T : Tb) : Cl → V
  | .own k => .ref (T.cl k)
  | c => .ty (clN c)
def clW (T : Tb) : Cl → Value
  | .own k => .ref (T.cl k)
  | c => .type (clN c)
theorem clsV {T : Tb} (c : Cl) : ClsV (clV T c) (clW T c) := by
  cases c with
  | own k => exact .own _
  | _ => exact .ty _
theorem clRel {T : Tb} (c : Cl) : RelV (clV T c) (clW T c) := by
  cases c <;> rfl
def tyD : D → String
  | .none => "NoneType"
  | .bool _ => "bool"
  | .int _ => "int"
  | .str _ => "str"
  | .list _ => "list"
  | .tuple _ => "tuple"
  | .dict _ => "dict"
theorem kit_tbl (d : D) (c : Cl) (h : isB c = true) : kitB (tyD d) (clN c) = some (isCl d c) := by
  have q : ∀ c ∈ [Cl.int, .str, .bool, .tuple, .list, .dict], ∀ d0 ∈ [PyData.none, .bool false, .int 0, .str (S []), .list [], .tuple [], .dict []], kitB (tyD d0) (clN c) = some (isCl d0 c) := by decide +kernel
  have hc : c ∈ [Cl.int, .str, .bool, .tuple, .list, .dict] := by cases c <;> first | (cases h; done) | simp
  have r := q c hc
  cases d with
  | none => exact r .none (by simp)
  | bool b => have z := r (.bool false) (by simp); cases c <;> exact z
  | int b => have z := r (.int 0) (by simp); cases c <;> exact z
  | str b => have z := r (.str (S [])) (by simp); cases c <;> exact z
  | list b => have z := r (.list []) (by simp); cases c <;> exact z
  | tuple b => have z := r (.tuple []) (by simp); cases c <;> exact z
  | dict b => have z := r (.dict []) (by simp); cases c <;> exact z
theorem kit_data {K : PySem.W.Frag} {T : Tb} {d : D} : ∀ {cs : List Cl}, cs.all isB = true → PySem.W.kitAny K (.type (tyD d)) (cs.map (clW T)) = some (cs.any (isCl d))
  | [], _ => rfl
  | c :: cs, h => by
    rw [List.all_cons, Bool.and_eq_true] at h
    have e : PySem.W.kitOne K (.type (tyD d)) (clW T c) = some (isCl d c) := by
      have q := kit_ty (K := K) (kit_tbl d c h.1)
      cases c with
      | own k => cases h.1
      | _ => exact q
    have ih := kit_data (K := K) (T := T) (d := d) h.2
    rw [List.map_cons, List.any_cons]
    refine kitAny_cons e (fun z => ?_) fun z => ?_
    · rw [z, Bool.false_or]; exact ih
    · rw [z, Bool.true_or]
section
variable {P : Pr} {T : Tb} {X : Cx} {B : Bs} {W : WX} {a c' e : Expr} {pos apos cpos : Pos} {eva : Mp.St → R Op}
theorem kit_exc {K : PySem.W.Frag} {k : Nat} (G : Gc P T K) (hk : okX P k) : ∀ {cs : List Cl}, cs.all (isX P) = true → PySem.W.kitAny K (.ref (T.cl k)) (cs.map (clW T)) = some (cs.any (isExc P k))
  | [], _ => rfl
  | c :: cs, h => by
    rw [List.all_cons, Bool.and_eq_true] at h
    have e : PySem.W.kitOne K (.ref (T.cl k)) (clW T c) = some (isExc P k c) := by
      cases c with
      | own j => exact G.sub k j hk h.1
      | VE => exact G.ve k hk
      | _ => cases h.1
    have ih := kit_exc (K := K) G hk h.2
    rw [List.map_cons, List.any_cons]
    refine kitAny_cons e (fun z => ?_) fun z => ?_
    · rw [z, Bool.false_or]; exact ih
    · rw [z, Bool.true_or]
theorem kitAny_one {K : PySem.W.Frag} {t c : Value} {b : Bool} (h : PySem.W.kitAny K t [c] = some b) : PySem.W.kitOne K t c = some b := by
  unfold PySem.W.kitAny at h
  split at h
  · rename_i e; rw [e]; exact h
  · rename_i e; rw [e]; exact h
  · cases h
theorem Vw.ty {K : PySem.W.Frag} {F H : Hp} {v : V} {d : D} (s : Sub F H) (h : Vw K F H v d) : TyX K H v (.type (tyD d)) := by
  cases d with
  | none => cases h.none; exact .base .non
  | bool b => cases h.bool; exact .base (.bl b)
  | int i => cases h.int; exact .base (.int i)
  | str x => obtain ⟨e, _⟩ := h.str; subst e; exact .base (.str x)
  | list ds =>
    obtain ⟨p, xs, e, hr, _⟩ := h.list s
    subst e
    rcases hr with (hr | ⟨o, hr⟩) | ⟨its, n, hk, _⟩
    · exact .base (.lst hr)
    · exact .base (.frz hr)
    · exact .kList hk rfl
  | tuple ds =>
    obtain ⟨p, xs, e, hr, _⟩ := h.tuple s
    subst e
    rcases hr with hr | hr
    · rcases hr with hr | ⟨o, hr⟩
      · exact .base (.tup hr)
      · exact .fTuple hr
    · obtain ⟨o, hk, hc⟩ : ∃ o, K.lookup p = some o ∧ o.cls = .type "tuple" := by
        obtain ⟨o, its, n, hk, hc, _⟩ := hr
        exact ⟨o, hk, hc⟩
      exact .kTuple hk hc
  | dict ds =>
    obtain ⟨p, xs, e, hr, _⟩ := h.dict s
    subst e
    exact .base (.dK hr)
/-- what isinstance asks of an operand -/
theorem isi_kit {pins : List (Addr × Obj)} {s : Shared} {c : Cf} {x : V} {v : Value} {ox : Op} {cs : List Cl} {d : D} (G : Gc P T X.K) (I : Inv X pins c.σ c.H s) (Z : Rl T X B c) (rx : RelV x v) (hx : relO X.K c c x ox)
    (e : isiO P cs c.t ox = some d) :
    ∃ b t P', d = .bool b ∧ PySem.W.KitX X.K v t P' ∧ P' s.heap ∧ v ≠ .builtin "__main__.__loader__#opaque" ∧ PySem.W.kitAny X.K t (cs.map (clW T)) = some b := by
  have data : ∀ d0, Vw X.K c.F c.H x d0 → isClD cs d0 = some d → ∃ b t P', d = .bool b ∧ PySem.W.KitX X.K v t P' ∧ P' s.heap ∧ v ≠ .builtin "__main__.__loader__#opaque" ∧ PySem.W.kitAny X.K t (cs.map (clW T)) = some b := fun d0 w h => by
    unfold isClD at h
    split at h
    · rename_i hb
      cases h
      obtain ⟨P', Z', p', n'⟩ := kit_of I rx (w.ty Z.sub)
      exact ⟨_, _, P', rfl, Z', p', n', kit_data hb⟩
    · cases h
  cases ox with
  | v d0 => exact data d0 (.fz hx) e
  | i i =>
    obtain ⟨sl, es, e'⟩ := bind_some2 e
    clear e
    have e := e'
    clear e'
    by_cases hu : ∃ y, sl = .ex y
    · obtain ⟨y, rfl⟩ := hu
      obtain ⟨u, ev, q⟩ := Z.val es (by simp)
      have hx' : c.σ[i]? = some (some x) := hx
      rw [hx'] at ev
      cases ev
      obtain ⟨p, ep, hc, oe, dd, fs, h1, h2, h3, h4, h5⟩ := q
      cases ep
      cases (show v = Value.ref p from rx)
      unfold isClS at e
      dsimp only at e
      split at e
      · rename_i hb
        cases e
        obtain ⟨ha, _⟩ := I.pin (p, oe) (List.mem_append_left _ h1)
        obtain ⟨vs, hd⟩ := h3
        have hxd : ObjOk X.prog X.w c.H s.heap dd (.xd fs) := I.hok dd _ (Z.sub _ _ h4)
        obtain ⟨mA, hns, hr⟩ := hxd
        obtain ⟨od, ho, hl⟩ := lookIn_ns hns
        have J : PySem.W.InstAt s.heap p oe (T.cl y.c) (some od) := ⟨ha, h2.1, by unfold PySem.W.notCls; rw [hd] <;> rfl, by rw [h2.2]; exact ho⟩
        have xk := G.x _ hb.2
        exact ⟨_, _, _, rfl, PySem.W.kitx_exc xk.cl xk.ga xk.gg xk.sb xk.ac G.hn G.ht xk.mr, J, (fun z => nomatch z), kit_exc G hb.2 hb.1⟩
      · cases e
    · have e2 : (rdS sl).bind (isClD cs) = some d := by
        cases sl with
        | ex y => exact absurd ⟨y, rfl⟩ hu
        | _ => exact e
      obtain ⟨d0, ed, e3⟩ := bind_some2 e2
      exact data d0 (Z.rdOp (o := .i i) hx (show (c.t[i]?).bind rdS = some d0 by rw [es]; exact ed)) e3
theorem ee_isi1 {p : Pos} {cl : Cl} (G : Gc P T X.K) (hg : Gl X "isinstance") (hm : X.mg "isinstance" = none) (ha : Eo T X B W a eva) (hc : PE X c' (tC (clV T cl))) (h1 : unstar a = true) (h2 : unstar c' = true) :
    Ee T X B W (.Call (.Name "isinstance" p) [a, c'] [] pos) (kIsi P eva [cl]) := by
  refine ⟨fun pins s σ H Q I h => ?_⟩
  refine wpAny_Call_Name_kw (ld_blt I hg hm (show bootBuiltins "isinstance" = some (.builtin "isinstance") by decide +kernel) (callWith_builtin1 (args_cons (one ha sh_V I h fun v s1 x ox c hc2 I1 rx Z hx p => ?_) (star_cons h1)) (star_cons h1) (star_none (by simp [h2]))) (by decide +kernel) (by decide +kernel))
  subst hc2
  obtain ⟨r', e, p⟩ := ofBind p
  obtain ⟨d, ed, e⟩ := map_some2 e
  subst e
  refine args_cons (thn (hc.run pins s1 c.σ c.H (fun z H2 => z = clV T cl ∧ H2 = c.H) I1 ⟨rfl, rfl⟩) fun u s2 ⟨z, H2, I2, r2, ez, eh⟩ => args_nil ?_) (star_cons h2)
  subst ez eh
  obtain ⟨b, t, P', eb, Z', p', n', ka⟩ := isi_kit G I2 Z rx hx ed
  have eu := (clsV (T := T) cl).eq r2
  subst eu eb
  exact PySem.W.kia_one Z' I2.kIn p' (kitAny_one ka) n' fun tk => ⟨.bl b, c.H, I2.tok tk, rfl, p.val Z (.bl b)⟩
/-- names of classes in a row -/
theorem pa_cls : ∀ {es : List Expr} {cs : List Cl}, Paired (fun e cl => PE X e (tC (clV T cl))) es cs → es.all unstar = true → PA X es (fun _ H Q => Q (cs.map (clV T)) H)
  | _, _, .nil, _ => pa_nil
  | _, _, .cons h r, hs => by
    rw [List.all_cons, Bool.and_eq_true] at hs
    exact pa_imp (pa_cons h (pa_cls r hs.2) (star_cons hs.1)) fun σ H Q q => q
theorem cls_vals : ∀ (cs : List Cl), Paired ClsV (cs.map (clV T)) (cs.map (clW T))
  | [] => .nil
  | c :: cs => .cons (clsV c) (cls_vals cs)
theorem ee_isiT {p pos2 : Pos} {k : Nat} {es : List Expr} {cs : List Cl} (G : Gc P T X.K) (hg : Gl X "isinstance") (hm : X.mg "isinstance" = none) (ha : Eo T X B W a eva) (hc : Paired (fun e cl => PE X e (tC (clV T cl))) es cs) (h1 : unstar a = true) (h2 : es.all unstar = true) (hl : cs.length ≤ 1000) :
    Ee T X B W (.Call (.Name "isinstance" p) [a, .Tuple es k pos2] [] pos) (kIsi P eva cs) := by
  have h2' : unstar (.Tuple es k pos2) = true := rfl
  refine ⟨fun pins s σ H Q I h => ?_⟩
  refine wpAny_Call_Name_kw (ld_blt I hg hm (show bootBuiltins "isinstance" = some (.builtin "isinstance") by decide +kernel) (callWith_builtin1 (args_cons (one ha sh_V I h fun v s1 x ox c hc2 I1 rx Z hx p => ?_) (star_cons h1)) (star_cons h1) (star_none (by simp [h2']))) (by decide +kernel) (by decide +kernel))
  subst hc2
  obtain ⟨r', e, p⟩ := ofBind p
  obtain ⟨d, ed, e⟩ := map_some2 e
  subst e
  refine args_cons (thn ((pe_tup (pa_cls hc h2)).run pins s1 c.σ c.H (fun z H2 => ∃ q, z = .ref q ∧ c.H q = none ∧ H2 = upd c.H q (.tup (cs.map (clV T)))) I1 ⟨by rw [List.length_map, ← cap_line]; exact Nat.le_trans hl (by decide), fun q hq => ⟨q, rfl, hq, rfl⟩⟩) fun u s2 ⟨z, H2, I2, r2, tp, ez, hq, eh⟩ => args_nil ?_) (star_cons h2')
  subst ez eh
  cases (show u = Value.ref tp from r2)
  obtain ⟨Z1, x1⟩ := Z.new (o := .tup (cs.map (clV T))) hq
  obtain ⟨b, t, P', eb, Z', p', n', ka⟩ := isi_kit (c := ⟨c.F, upd c.H tp (.tup (cs.map (clV T))), c.t, c.σ⟩) G I2 Z1 rx (relO_mono hx (Sub.refl _) rfl) ed
  subst eb
  obtain ⟨_, its, rv, o, g1, g2, n, g3⟩ := (show ObjOk X.prog X.w _ s2.heap tp (.tup (cs.map (clV T))) from I2.hok tp _ upd_same)
  have e3 := ClsV.all (cls_vals cs) rv
  subst e3
  obtain ⟨oc, od, dt, sl⟩ := o
  simp only at g2 g3
  subst g2 g3
  exact PySem.W.kia_tup Z' I2.kIn p' g1 ka n' fun tk => ⟨.bl b, _, I2.tok tk, rfl, p (.bl b) c.F _ Z1 x1 (relV_old (.bl b))⟩
/-- a field of a caught exception -/
theorem ee_fld {i f : Nat} {n : Str} (G : Gc P T X.K) (ho : Eo T X B W e (opnV i)) (hn : T.fld f = n) (hb : attributeBase e n X.env (eval e X.env) = eval e X.env) : Ee T X B W (.Attribute e n pos) (kFld P i f) := by
  subst hn
  refine ⟨fun pins s σ H Q I h => ?_⟩
  have h' : tG T X B W (relV X.K) (fun t => (opnV i t).bind (onSlot i (kFld P i f))) σ H Q := by
    obtain ⟨F, t, R, p⟩ := h
    refine ⟨F, t, R, ?_⟩
    rw [opn_slot (i := i) (t := t) (kFld P i f) (fun s e q => by unfold kFld; rw [e, q]; rfl) (fun e => by unfold kFld; rw [e]; rfl)] at p
    exact p
  refine attr_of hb (one ho sh_V I h' fun v s1 x ox c hc I1 rx Z hx p => ?_)
  subst hc
  obtain ⟨ev, p⟩ := post_slot hx p
  obtain ⟨r', e, p⟩ := ofBind p
  obtain ⟨d, ed, e⟩ := map_some2 e
  subst e
  obtain ⟨sl, es, ed⟩ := bind_some2 ed
  cases sl <;> first | (cases ed; done) | skip
  rename_i y
  unfold fldD at ed
  dsimp only at ed
  split at ed
  · rename_i hb
    obtain ⟨u, ev', q⟩ := Z.val es (by simp)
    rw [ev] at ev'
    cases ev'
    obtain ⟨p0, ep, hc, oe, dd, fs, h1, h2, h3, h4, h5⟩ := q
    cases ep
    cases (show v = Value.ref p0 from rx)
    obtain ⟨w, ew, rw'⟩ := h5 f d ed
    obtain ⟨ha, _⟩ := I1.pin (p0, oe) (List.mem_append_left _ h1)
    obtain ⟨vs, hd⟩ := h3
    have hxd : ObjOk X.prog X.w c.H s1.heap dd (.xd fs) := I1.hok dd _ (Z.sub _ _ h4)
    obtain ⟨mA, hns, hr⟩ := hxd
    obtain ⟨od, ho, hl⟩ := lookIn_ns hns
    obtain ⟨u, hu, ru⟩ := RelO.some_of (v := w) (o := mA (T.fld f)) (by rw [← ew]; exact hr _)
    have J : PySem.W.InstAt s1.heap p0 oe (T.cl y.c) (some od) := ⟨ha, h2.1, by unfold PySem.W.notCls; rw [hd] <;> rfl, by rw [h2.2]; exact ho⟩
    have xk := G.x _ hb.2
    exact HandSPX.exc_get I1.kIn J xk.ga xk.gg xk.sb (PySem.W.findObj_own xk.hd (G.fld _ _ hb.2 hb.1) rfl (by rw [hl, hu])) (handed_of ru) ⟨w, c.H, I1.tok _, ru, p.val Z rw'⟩
  · cases ed
end
end Mp

/-! Part 13: calls of the program's own defs. -/
namespace Mp
open PySem PySem.Spec PyProof.Rows L2

def ArgR (K : PySem.W.Frag) (F H : Hp) (v : V) : Sl → Prop
  | .fz d => Rp K F v d
  | .bw d => ∃ a, v = .ref a ∧ Own K F H a d
  | _ => False
/-- a callee's arguments -/
structure Args (K : PySem.W.Frag) (F H : Hp) (vs : List V) (t : Mp.St) : Prop where
  sub : Sub F H
  len : vs.length = t.length
  at_ : ∀ (i : Nat) (s : Sl) (v : V), t[i]? = some s → vs[i]? = some v → ArgR K F H v s
  dis : ∀ (i j : Nat) (a : Addr) (d d' : D), t[i]? = some (.bw d) → t[j]? = some (.bw d') → vs[i]? = some (.ref a) → vs[j]? = some (.ref a) → i = j
def WrA (vs : List V) (t : Mp.St) (a : Addr) : Prop := ∃ (i : Nat) (d : D), t[i]? = some (.bw d) ∧ vs[i]? = some (.ref a)
/-- how a call leaves the heap -/
structure FinR (K : PySem.W.Frag) (F H : Hp) (vs : List V) (t : Mp.St) (F' H' : Hp) (fin : Mp.St) : Prop where
  fsub : Sub F F'
  sub : Sub F' H'
  keep : ∀ a o, H a = some o → ¬ WrA vs t a → H' a = some o
  fnew : ∀ a o, F' a = some o → F a = some o ∨ H a = none ∨ WrA vs t a
  bw : ∀ (i : Nat) (a : Addr) (d : D), fin[i]? = some (.bw d) → vs[i]? = some (.ref a) → Own K F' H' a d
  bf : ∀ (i : Nat) (a : Addr) (d : D), fin[i]? = some (.bf d) → vs[i]? = some (.ref a) → Rp K F' (.ref a) d
def RvA (K : PySem.W.Frag) (H : Hp) (vs : List V) (t : Mp.St) (F' H' : Hp) (fin : Mp.St) (v : V) (r : Rv) : Prop :=
  if r.2 = true then ∃ a, v = .ref a ∧ Own K F' H' a r.1 ∧ (H a = none ∨ WrA vs t a) ∧ ∀ (i : Nat) (d : D), fin[i]? = some (.bw d) → vs[i]? ≠ some (.ref a) else Rp K F' v r.1
/-- what is wanted behind a call -/
def PostC (T : Tb) (K : PySem.W.Frag) (F H : Hp) (vs : List V) (t : Mp.St) (c : Mp.CR) (Q : VK) (E : XK) : Prop := match c with
  | .ok r fin => ∀ y F' H', FinR K F H vs t F' H' fin → RvA K H vs t F' H' fin y r → Q y H'
  | .rs x fin => ∀ cls dd F' H', FinR K F H vs t F' H' fin → ExR T K F' x cls dd → E cls (some dd) H'
  | .bad => False
def SpC (T : Tb) (K : PySem.W.Frag) (np : Nat) (c : Mp.St → Mp.CR) : Sp := fun vs H Q E => vs.length = np ∧ ∃ F t, Args K F H vs t ∧ PostC T K F H vs t (c t) Q E

/-- arguments that were handed on -/
inductive Psd (K : PySem.W.Frag) (F : Hp) (t : Mp.St) (σ : Sg) : List Nat → List V → List Sl → List (Option Nat) → Prop
  | nil {ls : List Nat} : Psd K F t σ ls [] [] []
  | fz {ls : List Nat} {v : V} {d : D} {vs : List V} {ss : List Sl} {ll : List (Option Nat)} (h : Rp K F v d) (r : Psd K F t σ ls vs ss ll) : Psd K F t σ ls (v :: vs) (.fz d :: ss) (none :: ll)
  | ln {ls : List Nat} {k : Nat} {a : Addr} {d : D} {vs : List V} {ss : List Sl} {ll : List (Option Nat)} (hk : k ∉ ls) (e : σ[k]? = some (some (.ref a))) (et : t[k]? = some (.ow d) ∨ t[k]? = some (.bw d)) (r : Psd K F t σ (k :: ls) vs ss ll) :
      Psd K F t σ ls (.ref a :: vs) (.bw d :: ss) (some k :: ll)
section
variable {T : Tb} {X : Cx} {B : Bs} {W : WX} {K : PySem.W.Frag} {F H : Hp} {t : Mp.St} {σ : Sg}
theorem Psd.length : ∀ {ls : List Nat} {vs : List V} {ss : List Sl} {ll : List (Option Nat)}, Psd K F t σ ls vs ss ll → vs.length = ss.length
  | _, _, _, _, .nil => rfl
  | _, _, _, _, .fz _ r => by simp [r.length]
  | _, _, _, _, .ln _ _ _ r => by simp [r.length]
/-- an argument -/
theorem Psd.get : ∀ {ls : List Nat} {vs : List V} {ss : List Sl} {ll : List (Option Nat)} {i : Nat} {s : Sl} {v : V}, Psd K F t σ ls vs ss ll → ss[i]? = some s → vs[i]? = some v →
    (∃ d, s = .fz d ∧ Rp K F v d ∧ ll[i]? = some none) ∨ ∃ d k a, s = .bw d ∧ v = .ref a ∧ σ[k]? = some (some (.ref a)) ∧ (t[k]? = some (.ow d) ∨ t[k]? = some (.bw d)) ∧ ll[i]? = some (some k) ∧ k ∉ ls
  | _, _, _, _, i, _, _, .nil, h, _ => by simp at h
  | _, _, _, _, 0, _, _, .fz h r, e1, e2 => by
    simp at e1 e2
    subst e1 e2
    exact .inl ⟨_, rfl, h, rfl⟩
  | _, _, _, _, i + 1, _, _, .fz h r, e1, e2 => by
    rcases r.get (i := i) (by simpa using e1) (by simpa using e2) with ⟨d, a, b, c⟩ | ⟨d, k, a, h1, h2, h3, h4, h5, h6⟩
    · exact .inl ⟨d, a, b, by simpa using c⟩
    · exact .inr ⟨d, k, a, h1, h2, h3, h4, by simpa using h5, h6⟩
  | _, _, _, _, 0, _, _, .ln hk e et r, e1, e2 => by
    simp at e1 e2
    subst e1 e2
    exact .inr ⟨_, _, _, rfl, rfl, e, et, rfl, hk⟩
  | _, _, _, _, i + 1, _, _, .ln hk e et r, e1, e2 => by
    rcases r.get (i := i) (by simpa using e1) (by simpa using e2) with ⟨d, a, b, c⟩ | ⟨d, k, a, h1, h2, h3, h4, h5, h6⟩
    · exact .inl ⟨d, a, b, by simpa using c⟩
    · exact .inr ⟨d, k, a, h1, h2, h3, h4, by simpa using h5, fun z => h6 (List.mem_cons_of_mem _ z)⟩
theorem Psd.lent : ∀ {ls : List Nat} {vs : List V} {ss : List Sl} {ll : List (Option Nat)} {i k : Nat}, Psd K F t σ ls vs ss ll → ll[i]? = some (some k) → ∃ d a, ss[i]? = some (.bw d) ∧ vs[i]? = some (.ref a) ∧ σ[k]? = some (some (.ref a)) ∧ (t[k]? = some (.ow d) ∨ t[k]? = some (.bw d)) ∧ k ∉ ls
  | _, _, _, _, i, _, .nil, h => by simp at h
  | _, _, _, _, 0, _, .fz h r, e => by simp at e
  | _, _, _, _, i + 1, _, .fz h r, e => by
    obtain ⟨d, a, h1, h2, h3⟩ := r.lent (i := i) (by simpa using e)
    exact ⟨d, a, by simpa using h1, by simpa using h2, h3⟩
  | _, _, _, _, 0, _, .ln hk e et r, e1 => by
    simp at e1
    subst e1
    exact ⟨_, _, rfl, rfl, e, et, hk⟩
  | _, _, _, _, i + 1, _, .ln hk e et r, e1 => by
    obtain ⟨d, a, h1, h2, h3, h4, h5⟩ := r.lent (i := i) (by simpa using e1)
    exact ⟨d, a, by simpa using h1, by simpa using h2, h3, h4, fun z => h5 (List.mem_cons_of_mem _ z)⟩
theorem Psd.inj : ∀ {ls : List Nat} {vs : List V} {ss : List Sl} {ll : List (Option Nat)} {i j k : Nat}, Psd K F t σ ls vs ss ll → ll[i]? = some (some k) → ll[j]? = some (some k) → i = j
  | _, _, _, _, i, _, _, .nil, h, _ => by simp at h
  | _, _, _, _, 0, _, _, .fz h r, e, _ => by simp at e
  | _, _, _, _, _, 0, _, .fz h r, _, e => by simp at e
  | _, _, _, _, i + 1, j + 1, _, .fz h r, e1, e2 => by rw [r.inj (i := i) (j := j) (by simpa using e1) (by simpa using e2)]
  | _, _, _, _, 0, 0, _, .ln hk e et r, e1, e2 => rfl
  | _, _, _, _, 0, j + 1, _, .ln hk e et r, e1, e2 => by
    simp at e1
    subst e1
    obtain ⟨_, _, _, _, _, _, h⟩ := r.lent (i := j) (by simpa using e2)
    exact absurd List.mem_cons_self h
  | _, _, _, _, i + 1, 0, _, .ln hk e et r, e1, e2 => by
    simp at e2
    subst e2
    obtain ⟨_, _, _, _, _, _, h⟩ := r.lent (i := i) (by simpa using e1)
    exact absurd List.mem_cons_self h
  | _, _, _, _, i + 1, j + 1, _, .ln hk e et r, e1, e2 => by rw [r.inj (i := i) (j := j) (by simpa using e1) (by simpa using e2)]
/-- lent slots stay as they are -/
theorem pass_keep : ∀ {os : List Op} {ks : List Bool} {ls : List Nat} {t : Mp.St} {r : Mp.St × List (Option Nat) × Mp.St} {k : Nat}, passA ks os ls t = some r → k ∈ ls → r.2.2[k]? = t[k]?
  | [], ks, ls, t, r, k, e, h => by unfold passA at e; cases e; rfl
  | o :: os, ks, ls, t, r, k, e, h => by
    unfold passA at e
    split at e
    · cases e
    · rename_i hl
      obtain ⟨p, e1, e⟩ := bind_some2 e
      obtain ⟨q, e2, e⟩ := map_some2 e
      subst e
      have ih := pass_keep (k := k) e2 (List.mem_append_right _ h)
      show q.2.2[k]? = t[k]?
      rw [ih]
      cases o with
      | v d => unfold pass1 at e1; cases e1; rfl
      | i j =>
        have hj : j ≠ k := fun z => hl (by subst z; simpa [lentO] using h)
        unfold pass1 at e1
        dsimp only at e1
        split at e1
        · cases e1; rfl
        · cases e1; rfl
        · split at e1 <;> cases e1
          · rfl
          · exact List.getElem?_set_ne hj
        · split at e1 <;> cases e1
          · rfl
          · exact List.getElem?_set_ne hj
        · cases e1
theorem sh_os2 {c c1 : Cf} {vs : List V} {os : List Op} {K : PySem.W.Frag} {F1 : Hp} {t1 : Mp.St} (h : relOs K c1 c vs os) (s : Sub c.F F1) : relOs K ⟨F1, c.H, t1, c.σ⟩ ⟨F1, c.H, t1, c.σ⟩ vs os := by
  induction h with
  | nil => exact .nil
  | cons h r ih => exact .cons (relO_mono h s rfl) ih
theorem pass_ok : ∀ {os : List Op} {ks : List Bool} {ls : List Nat} {c : Cf} {vs : List V} {r : Mp.St × List (Option Nat) × Mp.St}, Rl T X B c → relOs X.K c c vs os → passA ks os ls c.t = some r →
    ∃ F1, Rl T X B ⟨F1, c.H, r.2.2, c.σ⟩ ∧ Ext c ⟨F1, c.H, r.2.2, c.σ⟩ ∧ Psd X.K F1 r.2.2 c.σ ls vs r.1 r.2.1
  | [], ks, ls, c, vs, r, R, h, e => by
    unfold passA at e
    cases e
    cases h
    exact ⟨c.F, R, Ext.refl _, .nil⟩
  | o :: os, ks, ls, c, vs, r, R, h, e => by
    unfold passA at e
    split at e
    · cases e
    · rename_i hl
      obtain ⟨p, e1, e⟩ := bind_some2 e
      obtain ⟨q, e2, e⟩ := map_some2 e
      subst e
      cases h with
      | @cons v _ vs _ hv hr =>
        -- a frozen argument, or a lent one
        have fzc : ∀ (F1 : Hp) (d : D) (t1 : Mp.St), p = (.fz d, none, t1) → Rl T X B ⟨F1, c.H, t1, c.σ⟩ → Ext c ⟨F1, c.H, t1, c.σ⟩ → Rp X.K F1 v d → ∃ F1, Rl T X B ⟨F1, c.H, q.2.2, c.σ⟩ ∧ Ext c ⟨F1, c.H, q.2.2, c.σ⟩ ∧ Psd X.K F1 q.2.2 c.σ ls (v :: vs) (p.1 :: q.1) (p.2.1 :: q.2.1) := fun F1 d t1 ep R1 x1 rp => by
          subst ep
          obtain ⟨F2, R2, x2, ps⟩ := pass_ok (c := ⟨F1, c.H, t1, c.σ⟩) (vs := vs) R1 (sh_os2 hr x1.fsub) e2
          exact ⟨F2, R2, x1.trans x2, .fz (rp.mono x2.fsub) ps⟩
        cases o with
        | v d =>
          unfold pass1 at e1
          cases e1
          exact fzc c.F d c.t rfl R (Ext.refl _) hv
        | i k =>
          have hv' : c.σ[k]? = some (some v) := hv
          have hk : k ∉ ls := fun z => hl (by simpa [lentO] using z)
          unfold pass1 at e1
          dsimp only at e1
          split at e1
          · rename_i d ek
            cases e1
            obtain ⟨u, eu, q⟩ := R.val ek (by simp)
            rw [hv'] at eu; cases eu
            obtain ⟨u, eu, rp⟩ := q
            cases eu
            exact fzc c.F d c.t rfl R (Ext.refl _) rp
          · rename_i d ek
            cases e1
            obtain ⟨u, eu, q⟩ := R.val ek (by simp)
            rw [hv'] at eu; cases eu
            obtain ⟨a, eu, _, rp⟩ := q
            cases eu
            exact fzc c.F d c.t rfl R (Ext.refl _) rp
          · rename_i d ek
            split at e1
            · cases e1
              obtain ⟨u, eu, q0⟩ := R.val ek (by simp)
              rw [hv'] at eu; cases eu
              obtain ⟨a, eu, ow⟩ := q0
              cases eu
              obtain ⟨F2, R2, x2, ps⟩ := pass_ok (c := c) (vs := vs) R hr e2
              refine ⟨F2, R2, x2, .ln hk hv' (.inl ?_) ps⟩
              rw [pass_keep (k := k) e2 (by simp)]
              exact ek
            · cases e1
              obtain ⟨u, F1, eu, R1, x1, rp⟩ := R.fzSlot (s' := .fz d) ek rfl
              rw [hv'] at eu; cases eu
              exact fzc F1 d _ rfl R1 x1 rp
          · rename_i d ek
            split at e1
            · cases e1
              obtain ⟨u, eu, q0⟩ := R.val ek (by simp)
              rw [hv'] at eu; cases eu
              obtain ⟨a, eu, _, ow⟩ := q0
              cases eu
              obtain ⟨F2, R2, x2, ps⟩ := pass_ok (c := c) (vs := vs) R hr e2
              refine ⟨F2, R2, x2, .ln hk hv' (.inr ?_) ps⟩
              rw [pass_keep (k := k) e2 (by simp)]
              exact ek
            · cases e1
              obtain ⟨u, F1, eu, R1, x1, rp⟩ := R.fzSlot (s' := .bf d) ek rfl
              rw [hv'] at eu; cases eu
              exact fzc F1 d _ rfl R1 x1 rp
          · cases e1
/-- what a slot is behind a call -/
inductive BackK : Option Sl → Option Sl → Sl → Prop
  | oo {d0 d : D} : BackK (some (.ow d0)) (some (.bw d)) (.ow d)
  | of {d0 d : D} : BackK (some (.ow d0)) (some (.bf d)) (.fz d)
  | bb {d0 d : D} : BackK (some (.bw d0)) (some (.bw d)) (.bw d)
  | bf {d0 d : D} : BackK (some (.bw d0)) (some (.bf d)) (.bf d)
theorem back_one {k : Nat} {s : Sl} {t t' : Mp.St} (h : back1 (some k) s t = some t') : ∃ u, BackK t[k]? (some s) u ∧ t' = t.set k u ∧ k < t.length := by
  unfold back1 at h
  dsimp only at h
  split at h
  · rename_i e; cases h; rw [e]; exact ⟨_, .oo, rfl, (List.getElem?_eq_some_iff.mp e).1⟩
  · rename_i e; cases h; rw [e]; exact ⟨_, .of, rfl, (List.getElem?_eq_some_iff.mp e).1⟩
  · rename_i e; cases h; rw [e]; exact ⟨_, .bb, rfl, (List.getElem?_eq_some_iff.mp e).1⟩
  · rename_i e; cases h; rw [e]; exact ⟨_, .bf, rfl, (List.getElem?_eq_some_iff.mp e).1⟩
  · cases h
theorem BackK.again {a b c : Option Sl} {u v : Sl} (h : BackK a b u) (h2 : BackK (some u) c v) : BackK a c v := by
  cases h <;> cases h2 <;> constructor
theorem back_get : ∀ {ls : List (Option Nat)} {fin t t2 : Mp.St} {j : Nat} {s : Sl}, backA ls fin t = some t2 → t2[j]? = some s →
    (t[j]? = some s ∧ ∀ i : Nat, ls[i]? ≠ some (some j)) ∨ ∃ i : Nat, ls[i]? = some (some j) ∧ BackK t[j]? fin[i]? s
  | [], fin, t, t2, j, s, e, h => by
    unfold backA at e
    cases e
    exact .inl ⟨h, fun i z => by simp at z⟩
  | _ :: _, [], t, t2, j, s, e, h => by unfold backA at e; cases e
  | l :: ls, s0 :: fin, t, t2, j, s, e, h => by
    unfold backA at e
    obtain ⟨t', e1, e2⟩ := bind_some2 e
    have ih := back_get (j := j) (s := s) e2 h
    cases l with
    | none =>
      unfold back1 at e1
      cases e1
      rcases ih with ⟨h1, h2⟩ | ⟨i, h1, h2⟩
      · refine .inl ⟨h1, fun i => ?_⟩
        cases i with
        | zero => simp
        | succ i => simpa using h2 i
      · exact .inr ⟨i + 1, by simpa using h1, by simpa using h2⟩
    | some k =>
      obtain ⟨u, hu, et, hk⟩ := back_one e1
      subst et
      by_cases hj : k = j
      · subst hj
        rw [List.getElem?_set_self hk] at ih
        rcases ih with ⟨h1, h2⟩ | ⟨i, h1, h2⟩
        · cases h1
          exact .inr ⟨0, rfl, hu⟩
        · exact .inr ⟨i + 1, by simpa using h1, by simpa using hu.again h2⟩
      · rw [List.getElem?_set_ne hj] at ih
        rcases ih with ⟨h1, h2⟩ | ⟨i, h1, h2⟩
        · refine .inl ⟨h1, fun i => ?_⟩
          cases i with
          | zero => simp; exact fun z => hj z
          | succ i => simpa using h2 i
        · exact .inr ⟨i + 1, by simpa using h1, by simpa using h2⟩
theorem back_len : ∀ {ls : List (Option Nat)} {fin t t2 : Mp.St}, backA ls fin t = some t2 → t2.length = t.length
  | [], fin, t, t2, e => by unfold backA at e; cases e; rfl
  | _ :: _, [], t, t2, e => by unfold backA at e; cases e
  | l :: ls, s0 :: fin, t, t2, e => by
    unfold backA at e
    obtain ⟨t', e1, e2⟩ := bind_some2 e
    rw [back_len e2]
    cases l with
    | none => unfold back1 at e1; cases e1; rfl
    | some k =>
      obtain ⟨u, hu, et, hk⟩ := back_one e1
      subst et
      simp
/-- the arguments at the callee's start -/
theorem Psd.args {c : Cf} {vs : List V} {ss : List Sl} {ll : List (Option Nat)} (R : Rl T X B c) (p : Psd X.K c.F c.t c.σ [] vs ss ll) : Args X.K c.F c.H vs ss where
  sub := R.sub
  len := p.length
  at_ := fun i s v e1 e2 => by
    rcases p.get e1 e2 with ⟨d, rfl, rp, _⟩ | ⟨d, k, a, rfl, rfl, e, et, _⟩
    · exact rp
    · refine ⟨a, rfl, ?_⟩
      rcases et with et | et
      · obtain ⟨u, eu, q⟩ := R.val et (by simp)
        rw [e] at eu; cases eu
        obtain ⟨b, eb, o⟩ := q
        cases eb; exact o
      · obtain ⟨u, eu, q⟩ := R.val et (by simp)
        rw [e] at eu; cases eu
        obtain ⟨b, eb, _, o⟩ := q
        cases eb; exact o
  dis := fun i j a d d' e1 e2 v1 v2 => by
    rcases p.get e1 v1 with ⟨_, h, _⟩ | ⟨d1, k, a1, h1, h2, h3, h4, h5, _⟩
    · cases h
    · rcases p.get e2 v2 with ⟨_, h, _⟩ | ⟨d2, k', a2, g1, g2, g3, g4, g5, _⟩
      · cases h
      · cases h2
        cases g2
        have hd1 : c.hd k a := by rcases h4 with h4 | h4 <;> exact ⟨_, h4, rfl, h3⟩
        have hd2 : c.hd k' a := by rcases g4 with h4 | h4 <;> exact ⟨_, h4, rfl, g3⟩
        have := R.dis k k' a hd1 hd2
        subst this
        exact p.inj h5 g5
/-- the state behind a call -/
theorem Rl.back {c : Cf} {vs : List V} {ss fin t2 : List Sl} {ll : List (Option Nat)} {F' H' : Hp} (R : Rl T X B c) (p : Psd X.K c.F c.t c.σ [] vs ss ll) (f : FinR X.K c.F c.H vs ss F' H' fin) (e : backA ll fin c.t = some t2) :
    Rl T X B ⟨F', H', t2, c.σ⟩ ∧ Ext c ⟨F', H', t2, c.σ⟩ := by
  have lt : ∀ {i k : Nat}, ll[i]? = some (some k) → ∃ a, vs[i]? = some (.ref a) ∧ c.σ[k]? = some (some (.ref a)) ∧ c.wr k a ∧ ∃ d, ss[i]? = some (.bw d) := fun h => by
    obtain ⟨d, a, h1, h2, h3, h4, _⟩ := p.lent h
    exact ⟨a, h2, h3, (by rcases h4 with h4 | h4 <;> exact ⟨_, h4, rfl, h3⟩), d, h1⟩
  have wrA : ∀ {a : Addr}, WrA vs ss a → ∃ i k, ll[i]? = some (some k) ∧ c.wr k a := fun ⟨i, d, h1, h2⟩ => by
    rcases p.get h1 h2 with ⟨_, h, _⟩ | ⟨d1, k, a1, g1, g2, g3, g4, g5, _⟩
    · cases h
    · cases g2
      exact ⟨i, k, g5, by rcases g4 with h4 | h4 <;> exact ⟨_, h4, rfl, g3⟩⟩
  have WrW : ∀ {a : Addr}, WrA vs ss a → c.Wr a := fun h => let ⟨_, k, _, w⟩ := wrA h; ⟨k, w⟩
  -- a held slot that is not lent keeps its thing
  have un : ∀ {j : Nat} {a : Addr}, c.hd j a → (∀ i : Nat, ll[i]? ≠ some (some j)) → F' a = none ∧ ∀ o, c.H a = some o → H' a = some o := fun {j a} hd hn => by
    have nw : ¬ WrA vs ss a := fun w => by
      obtain ⟨i, k, e, hk⟩ := wrA w
      have := R.dis k j a (Cf.wr_hd hk) hd
      subst this
      exact hn i e
    obtain ⟨fn, o, eo⟩ := R.held hd
    refine ⟨?_, fun o eo => f.keep a o eo nw⟩
    cases q : F' a with
    | none => rfl
    | some u =>
      rcases f.fnew a u q with z | z | z
      · rw [fn] at z; cases z
      · rw [eo] at z; cases z
      · exact absurd z nw
  -- held behind: held before
  have hdb : ∀ {j : Nat} {a : Addr}, Cf.hd ⟨F', H', t2, c.σ⟩ j a → c.hd j a := fun {j a} ⟨s, es, hs, ev⟩ => by
    rcases back_get e es with ⟨h1, _⟩ | ⟨i, h1, h2⟩
    · exact ⟨s, h1, hs, ev⟩
    · obtain ⟨a', _, ev', w, _⟩ := lt h1
      rw [show c.σ[j]? = some (some (.ref a)) from ev] at ev'
      cases ev'
      exact Cf.wr_hd w
  refine ⟨⟨f.sub, ?_, fun j s es => ?_, fun i j a h1 h2 => R.dis i j a (hdb h1) (hdb h2)⟩, ⟨f.fsub, fun a o h n => f.keep a o h fun w => n (WrW w), fun a o h => ?_, fun a ⟨j, s, es, hs, ev⟩ => .inr ?_, fun a ⟨j, h⟩ => .inl ⟨j, hdb h⟩⟩⟩
  · show t2.length = _
    rw [back_len e]; exact R.len
  · rcases back_get e es with ⟨h1, h2⟩ | ⟨i, h1, h2⟩
    · have q := R.at_ j s h1
      have l := R.lt h1
      refine q.keep f.fsub (fun a hs eo _ => (un ⟨s, h1, hs, get_of l eo⟩ h2).1) (fun a u hs eo eu => (un ⟨s, h1, hs, get_of l eo⟩ h2).2 u eu)
    · obtain ⟨a, ea, ev, w, d1, _⟩ := lt h1
      show SlR T X B F' H' j ((c.σ[j]?).getD none) s
      rw [ev]
      have hB : ∀ d0, c.t[j]? = some (.bw d0) → a = B j := fun d0 q => by
        obtain ⟨u, eu, z⟩ := R.val q (by simp)
        rw [ev] at eu; cases eu
        obtain ⟨b, eb, hb, _⟩ := z
        cases eb; exact hb
      generalize hx : c.t[j]? = x at h2
      generalize hy : fin[i]? = y at h2
      cases h2 with
      | oo => exact ⟨a, rfl, f.bw i a _ hy ea⟩
      | of => exact ⟨_, rfl, f.bf i a _ hy ea⟩
      | bb => exact ⟨a, rfl, hB _ hx, f.bw i a _ hy ea⟩
      | bf => exact ⟨a, rfl, hB _ hx, f.bf i a _ hy ea⟩
  · rcases f.fnew a o h with z | z | z
    · exact .inl z
    · exact .inr (.inl z)
    · exact .inr (.inr (WrW z))
  · rcases back_get e es with ⟨h1, _⟩ | ⟨i, h1, h2⟩
    · exact ⟨j, s, h1, hs, ev⟩
    · obtain ⟨a', _, ev', w, _⟩ := lt h1
      rw [show c.σ[j]? = some (some (.ref a)) from ev] at ev'
      cases ev'
      exact ⟨j, w⟩
/-- a call -/
theorem call_post {c : Cf} {vs : List V} {os : List Op} {f : Df} {g : Mp.St → Mp.CR} {Q : VK} (R : Rl T X B c) (h : relOs X.K c c vs os)
    (p : Post T X B W (relV X.K) c ((Mp.R.of (passA f.keep os [] c.t) c.t).bind fun p _ => kFin p.2.1 p.2.2 (g p.1)) Q) :
    ∃ F t, Args X.K F c.H vs t ∧ PostC T X.K F c.H vs t (g t) Q (WE W c.σ) := by
  cases e : passA f.keep os [] c.t with
  | none => rw [e] at p; exact p.elim
  | some r =>
    rw [e] at p
    obtain ⟨F1, R1, x1, ps⟩ := pass_ok R h e
    refine ⟨F1, r.1, ps.args R1, ?_⟩
    have p' : Post T X B W (relV X.K) ⟨F1, c.H, r.2.2, c.σ⟩ (kFin r.2.1 r.2.2 (g r.1)) Q := Post.shift (c := c) sh_V x1 rfl p
    cases eg : g r.1 with
    | bad => rw [eg] at p'; exact p'.elim
    | ok v fin =>
      rw [eg] at p'
      intro y F' H' fr rv
      cases eb : backA r.2.1 fin r.2.2 with
      | none => unfold kFin at p'; dsimp only at p'; rw [eb] at p'; exact p'.elim
      | some t2 =>
        unfold kFin at p'
        dsimp only at p'
        rw [eb] at p'
        obtain ⟨R2, x2⟩ := R1.back ps fr eb
        refine p' y F' H' R2 x2 ?_
        unfold RvA at rv
        unfold relV
        split at rv
        · rename_i hv
          rw [if_pos hv]
          obtain ⟨a, ea, ow, nw, ni⟩ := rv
          refine ⟨a, ea, ow, fun ⟨j, s, es, hs, ev⟩ => ?_, ?_⟩
          · rcases back_get eb es with ⟨h1, h2⟩ | ⟨i, h1, h2⟩
            · have hd : Cf.hd ⟨F1, c.H, r.2.2, c.σ⟩ j a := ⟨s, h1, hs, ev⟩
              rcases nw with nw | ⟨i, d, g1, g2⟩
              · exact R1.notHd nw ⟨j, hd⟩
              · rcases ps.get g1 g2 with ⟨_, h, _⟩ | ⟨d1, k, a1, q1, q2, q3, q4, q5, _⟩
                · cases h
                · cases q2
                  have := R1.dis k j a (by rcases q4 with h4 | h4 <;> exact ⟨_, h4, rfl, q3⟩) hd
                  subst this
                  exact h2 i q5
            · obtain ⟨d, a', g1, g2, g3, g4, _⟩ := ps.lent h1
              rw [show c.σ[j]? = some (some (.ref a)) from ev] at g3
              cases g3
              generalize hx : r.2.2[j]? = x at h2
              generalize hy : fin[i]? = y0 at h2
              cases h2 with
              | oo => exact ni i _ hy g2
              | of => cases hs
              | bb => exact ni i _ hy g2
              | bf => cases hs
          · rcases nw with nw | ⟨i, d, g1, g2⟩
            · exact .inl nw
            · rcases ps.get g1 g2 with ⟨_, h, _⟩ | ⟨d1, k, a1, q1, q2, q3, q4, q5, _⟩
              · cases h
              · cases q2
                exact .inr ⟨k, by rcases q4 with h4 | h4 <;> exact ⟨_, h4, rfl, q3⟩⟩
        · rename_i hv
          rw [if_neg hv]
          exact rv
    | rs x fin =>
      rw [eg] at p'
      intro cls dd F' H' fr ex
      cases eb : backA r.2.1 fin r.2.2 with
      | none => unfold kFin at p'; dsimp only at p'; rw [eb] at p'; exact p'.elim
      | some t2 =>
        unfold kFin at p'
        dsimp only at p'
        rw [eb] at p'
        obtain ⟨R2, x2⟩ := R1.back ps fr eb
        exact p' cls dd F' H' R2 x2 ex
end
end Mp

set_option maxHeartbeats 1000000
/-! Part 14: enumerate over zip: the zip's own tuple may be out. -/
namespace Mp
open PySem PySem.Spec PyProof.Rows L2
/-- a zip, whatever its first two fields are -/
abbrev IsZipF (h : Heap) (z TI TO : Addr) (f0 f1 : Value) : Prop :=
  h.get? z = some { cls := .type "zip", dict := none, data := .fields #[f0, f1, .bool false, .ref TI, .ref TO], slots := #[] }
section
variable {prog : Program} {w : World} {A : Around} {E : Value → Shared → Prop} {s : Shared} {z TI TO i1 i2 : Addr} {fp1 fp2 : List Addr} {n1 n2 i : Nat} {P1 P2 : Nat → Value → Prop} {St1 St2 : Nat → Heap → Prop} {a1 a2 f0 f1 : Value}
/-- its tuple is free: no one has it -/
theorem zf_none {Q : Bool → Shared → Prop} (hz : IsZipF s.heap z TI TO .none f1) (h : Q true s) : wpAny (model prog w) A (Builtin.SmallTypes.ownedTupleIsFree (.ref z)) Q E s := by
  unfold Builtin.SmallTypes.ownedTupleIsFree
  exact wpAny_bind (wpAny_field hz rfl (x := .none) rfl (wpAny_pure h))
theorem zf_dead {T : Addr} {Q : Bool → Shared → Prop} (hz : IsZipF s.heap z TI TO (rawInt T) f1) (hT : s.heap.get? T = none) (h : Q true s) : wpAny (model prog w) A (Builtin.SmallTypes.ownedTupleIsFree (.ref z)) Q E s := by
  unfold Builtin.SmallTypes.ownedTupleIsFree
  refine wpAny_bind (wpAny_field hz rfl (x := rawInt T) rfl ?_)
  show wpAny _ _ (loadIfAlive ((T : Int).toNat) >>= _) _ _ _
  rw [Int.toNat_natCast]
  have al : ∀ {Q : Option Obj → Shared → Prop}, Q none s → wpAny (model prog w) A (loadIfAlive T) Q E s := fun {Q} q => by
    have h' : Q (s.heap.get? T) s := by rw [hT]; exact q
    exact fun _ _ _ => h'
  refine wpAny_bind (al ?_)
  simp only [Option.isNone_none, if_true]
  exact wpAny_pure h
/-- an item, the tuple free -/
theorem zf_item {Q : Value → Shared → Prop} (hfr : ∀ (Q : Bool → Shared → Prop) (E : Value → Shared → Prop), Q true s → wpAny (model prog w) A (Builtin.SmallTypes.ownedTupleIsFree (.ref z)) Q E s) (S : ZipSep2 z TI TO i1 i2 fp1 fp2) (D1 : Draws prog w A i1 fp1 n1 P1 St1) (D2 : Draws prog w A i2 fp2 n2 P2 St2)
    (hz : IsZipF s.heap z TI TO f0 f1) (hTI : IsTupOf2 s.heap TI (.ref i1) (.ref i2)) (hTO : IsTupOf2 s.heap TO a1 a2) (st1 : St1 i s.heap) (st2 : St2 i s.heap) (hlt1 : i < n1) (hlt2 : i < n2)
    (hQ : ∀ x1 x2 h' tk, P1 i x1 → P2 i x2 → IsZipF h' z TI TO (rawInt s.heap.objs.size) (.bool false) → IsTupOf2 h' TO x1 x2 → St1 (i + 1) h' → St2 (i + 1) h' → IsTupOf2 h' s.heap.objs.size x1 x2 → h'.objs.size = s.heap.objs.size + 1 →
      (∀ c o, c ≠ z → c ≠ TO → c ≠ i1 → c ≠ i2 → s.heap.get? c = some o → h'.get? c = some o) → Q (.ref s.heap.objs.size) { s with heap := h', toks := tk }) :
    wpAny (model prog w) A (Builtin.«zip.__next__» ⟨[.ref z], []⟩) (fun fin s' => ∃ v, fin = .done (.ret v) ∧ Q v s') E s := by
  obtain ⟨hp, g, d, tk0, os⟩ := s
  show wpAny _ _ (field (.ref z) 2 >>= _) _ _ _
  refine wpAny_bind (wpAny_field hz rfl (x := .bool false) rfl ?_)
  show wpAny _ _ (field (.ref z) 3 >>= _) _ _ _
  refine wpAny_bind (wpAny_field hz rfl (x := .ref TI) rfl ?_)
  refine wpAny_bind (wpAny_seqItems hTI rfl ?_)
  show wpAny _ _ (Builtin.SmallTypes.ownedTupleIsFree (.ref z) >>= _) _ _ _
  refine wpAny_bind (hfr _ _ ?_)
  simp only [if_true]
  refine wpAny_bind (wpAny_rule ?_)
  refine wpAny_bind (wpAny_field hz rfl (x := .ref TO) rfl ?_)
  refine wpAny_bind (wpAny_setField_rec hz (by simp) fun g0 hz0 hs0 => ?_)
  replace hz0 : IsZipF g0 z TI TO .ellipsis f1 := hz0
  replace hs0 : Heap.SameBut z hp g0 := hs0
  refine wpAny_bind ?_
  simp only [List.zipIdx_cons, List.zipIdx_nil, List.forIn_cons, List.forIn_nil]
  refine wpAny_bind (wpAny_bind (wpAny_onRaise ?_))
  show wpAny _ _ (Builtin.SmallTypes.nextOf (.ref i1) >>= _) _ _ ⟨g0, g, d, tk0, os⟩
  refine wpAny_bind (D1.item i _ _ _ hlt1 (D1.over st1 hs0 S.zf1) fun x1 p1 tk1 hx1 sn1 hp1 => wpAny_pure ?_)
  replace hp1 : Heap.SameBut i1 g0 p1 := hp1
  have hU1 : IsTupOf2 p1 TO a1 a2 := hp1.extBut _ _ S.Ti1 (hs0.extBut _ _ S.TOz hTO)
  refine wpAny_bind (wpAny_seqItems (s := ⟨p1, g, d, tk1, os⟩) hU1 rfl ?_)
  refine wpAny_bind (updateSeq_IsTupOf2 (s := ⟨p1, g, d, tk1, os⟩) hU1 fun g1 hT1 hs1 => ?_)
  replace hT1 : IsTupOf2 g1 TO x1 a2 := hT1
  replace hs1 : Heap.SameBut TO p1 g1 := hs1
  refine wpAny_bind (wpAny_letGo (wpAny_pure ?_))
  refine wpAny_bind (wpAny_bind (wpAny_onRaise ?_))
  show wpAny _ _ (Builtin.SmallTypes.nextOf (.ref i2) >>= _) _ _ ⟨g1, g, d, tk1, os⟩
  refine wpAny_bind (D2.item i _ _ _ hlt2 (D2.over (D2.over (D2.over st2 hs0 S.zf2) hp1 S.sep1_2) hs1 S.Tf2) fun x2 p2 tk2 hx2 sn2 hp2 => wpAny_pure ?_)
  replace hp2 : Heap.SameBut i2 g1 p2 := hp2
  have hU2 : IsTupOf2 p2 TO x1 a2 := hp2.extBut _ _ S.Ti2 hT1
  refine wpAny_bind (wpAny_seqItems (s := ⟨p2, g, d, tk2, os⟩) hU2 rfl ?_)
  refine wpAny_bind (updateSeq_IsTupOf2 (s := ⟨p2, g, d, tk2, os⟩) hU2 fun g2 hT2 hs2 => ?_)
  replace hT2 : IsTupOf2 g2 TO x1 x2 := hT2
  replace hs2 : Heap.SameBut TO p2 g2 := hs2
  refine wpAny_bind (wpAny_letGo (wpAny_pure (wpAny_pure ?_)))
  refine wpAny_bind (wpAny_seqItems (s := ⟨g2, g, d, tk2, os⟩) hT2 rfl ?_)
  refine wpAny_bind (wpAny_newTuple ?_)
  have hsz : g2.objs.size = hp.objs.size := by rw [hs2.1, hp2.1, hs1.1, hp1.1, hs0.1]
  have hzz : IsZipF g2 z TI TO .ellipsis f1 := (hs2.extBut _ _ S.TOz.symm (hp2.extBut _ _ S.zi2 (hs1.extBut _ _ S.TOz.symm (hp1.extBut _ _ S.zi1 hz0))))
  have hkk : ∀ c o, c ≠ z → c ≠ TO → c ≠ i1 → c ≠ i2 → hp.get? c = some o → g2.get? c = some o := fun c o cz cT c1 c2 e =>
    (hs2.extBut _ _ cT (hp2.extBut _ _ c2 (hs1.extBut _ _ cT (hp1.extBut _ _ c1 (hs0.extBut _ _ cz e)))))
  have hj1 : St1 (i + 1) g2 := (D1.over (D1.over (D1.over sn1 hs1 S.Tf1) hp2 S.sep2_1) hs2 S.Tf1)
  have hj2 : St2 (i + 1) g2 := (D2.over sn2 hs2 S.Tf2)
  have hzlt : z < g2.objs.size := Heap.lt_size hzz
  show wpAny _ _ (Builtin.SmallTypes.ownedTupleHandOut (.ref z) (.ref g2.objs.size) >>= _) _ _ ⟨g2.push { cls := .type "tuple", data := .seq #[x1, x2] }, g, d, tk2, os⟩
  refine wpAny_bind ?_
  unfold Builtin.SmallTypes.ownedTupleHandOut
  have hz₆ : IsZipF (g2.push { cls := .type "tuple", data := .seq #[x1, x2] }) z TI TO .ellipsis f1 := Heap.get?_push_of_some _ hzz
  refine wpAny_bind (wpAny_setField_rec hz₆ (by simp) fun h₇ hz₇ hs₇ => ?_)
  replace hz₇ : IsZipF h₇ z TI TO (rawInt g2.objs.size) f1 := hz₇
  refine wpAny_setField_rec hz₇ (by simp) fun h₈ hz₈ hs₈ => ?_
  replace hz₈ : IsZipF h₈ z TI TO (rawInt g2.objs.size) (.bool false) := hz₈
  replace hs₇ : Heap.SameBut z (g2.push { cls := .type "tuple", data := .seq #[x1, x2] }) h₇ := hs₇
  replace hs₈ : Heap.SameBut z h₇ h₈ := hs₈
  have up : ∀ c o, c ≠ z → g2.get? c = some o → h₈.get? c = some o := fun c o c1 e => hs₈.extBut _ _ c1 (hs₇.extBut _ _ c1 (Heap.get?_push_of_some _ e))
  have hT₈ : IsTupOf2 h₈ g2.objs.size x1 x2 := hs₈.extBut _ _ (Nat.ne_of_gt hzlt) (hs₇.extBut _ _ (Nat.ne_of_gt hzlt) (Heap.get?_push_size _ rfl))
  have hz8 : h₈.objs.size = g2.objs.size + 1 := by rw [hs₈.1, hs₇.1, Heap.size_push]
  rw [hsz] at hz₈ hT₈ hz8
  refine wpAny_pure ⟨_, rfl, ?_⟩
  show Q (.ref g2.objs.size) ⟨h₈, g, d, tk2, os⟩
  rw [hsz]
  exact hQ x1 x2 h₈ tk2 hx1 hx2 hz₈ (up _ _ S.TOz hT2) (D1.frame _ _ _ hj1 fun b hb o e => up b o (fun q => S.zf1 (q ▸ hb)) e) (D2.frame _ _ _ hj2 fun b hb o e => up b o (fun q => S.zf2 (q ▸ hb)) e) hT₈ hz8 fun c o cz cT c1 c2 e => up c o cz (hkk c o cz cT c1 c2 e)
theorem zf_end {Q : Fin → Shared → Prop} (hfr : ∀ (Q : Bool → Shared → Prop) (E : Value → Shared → Prop), Q true s → wpAny (model prog w) A (Builtin.SmallTypes.ownedTupleIsFree (.ref z)) Q E s) (S : ZipSep2 z TI TO i1 i2 fp1 fp2) (D1 : Draws prog w A i1 fp1 n1 P1 St1) (D2 : Draws prog w A i2 fp2 n2 P2 St2)
    (hz : IsZipF s.heap z TI TO f0 f1) (hTI : IsTupOf2 s.heap TI (.ref i1) (.ref i2)) (hTO : IsTupOf2 s.heap TO a1 a2) (st1 : St1 i s.heap) (st2 : St2 i s.heap) (hle1 : i ≤ n1) (hle2 : i ≤ n2) (hend : i = n1 ∨ i = n2)
    (hE : ∀ h' tk e, (∀ c o, c ≠ z → c ≠ TO → c ≠ i1 → c ≠ i2 → s.heap.get? c = some o → h'.get? c = some o) → (∃ o, h'.get? e = some o ∧ o.cls = .type "StopIteration") → E (.ref e) { s with heap := h', toks := tk }) :
    wpAny (model prog w) A (Builtin.«zip.__next__» ⟨[.ref z], []⟩) Q E s := by
  obtain ⟨hp, g, d, tk0, os⟩ := s
  show wpAny _ _ (field (.ref z) 2 >>= _) _ _ _
  refine wpAny_bind (wpAny_field hz rfl (x := .bool false) rfl ?_)
  show wpAny _ _ (field (.ref z) 3 >>= _) _ _ _
  refine wpAny_bind (wpAny_field hz rfl (x := .ref TI) rfl ?_)
  refine wpAny_bind (wpAny_seqItems hTI rfl ?_)
  show wpAny _ _ (Builtin.SmallTypes.ownedTupleIsFree (.ref z) >>= _) _ _ _
  refine wpAny_bind (hfr _ _ ?_)
  simp only [if_true]
  refine wpAny_bind (wpAny_rule ?_)
  refine wpAny_bind (wpAny_field hz rfl (x := .ref TO) rfl ?_)
  refine wpAny_bind (wpAny_setField_rec hz (by simp) fun g0 hz0 hs0 => ?_)
  replace hz0 : IsZipF g0 z TI TO .ellipsis f1 := hz0
  replace hs0 : Heap.SameBut z hp g0 := hs0
  refine wpAny_bind ?_
  simp only [List.zipIdx_cons, List.zipIdx_nil, List.forIn_cons, List.forIn_nil]
  refine wpAny_bind (wpAny_bind (wpAny_onRaise ?_))
  show wpAny _ _ (Builtin.SmallTypes.nextOf (.ref i1) >>= _) _ _ ⟨g0, g, d, tk0, os⟩
  by_cases hlt1 : i < n1
  · refine wpAny_bind (D1.item i _ _ _ hlt1 (D1.over st1 hs0 S.zf1) fun x1 p1 tk1 hx1 sn1 hp1 => wpAny_pure ?_)
    replace hp1 : Heap.SameBut i1 g0 p1 := hp1
    have hU1 : IsTupOf2 p1 TO a1 a2 := hp1.extBut _ _ S.Ti1 (hs0.extBut _ _ S.TOz hTO)
    refine wpAny_bind (wpAny_seqItems (s := ⟨p1, g, d, tk1, os⟩) hU1 rfl ?_)
    refine wpAny_bind (updateSeq_IsTupOf2 (s := ⟨p1, g, d, tk1, os⟩) hU1 fun g1 hT1 hs1 => ?_)
    replace hT1 : IsTupOf2 g1 TO x1 a2 := hT1
    replace hs1 : Heap.SameBut TO p1 g1 := hs1
    refine wpAny_bind (wpAny_letGo (wpAny_pure ?_))
    have hi2 : i = n2 := by omega
    refine wpAny_bind (wpAny_bind (wpAny_onRaise ?_))
    show wpAny _ _ (Builtin.SmallTypes.nextOf (.ref i2) >>= _) _ _ ⟨g1, g, d, tk1, os⟩
    refine wpAny_bind (D2.done ⟨g1, g, d, tk1, os⟩ _ _ (by rw [← hi2]; exact (D2.over (D2.over (D2.over st2 hs0 S.zf2) hp1 S.sep1_2) hs1 S.Tf2)) fun q e hq he => ?_)
    replace hq : Heap.ExtBut i2 g1 q := hq
    obtain ⟨oe, hoe, hce⟩ := he
    replace hoe : q.get? e = some oe := hoe
    have hzq : IsZipF q z TI TO .ellipsis f1 := hq _ _ S.zi2 (hs1.extBut _ _ S.TOz.symm (hp1.extBut _ _ S.zi1 hz0))
    have hez : e ≠ z := fun x => by subst x; rw [hzq] at hoe; cases hoe; simp at hce
    refine wpAny_setField_rec (s := ⟨q, g, d, tk1, os⟩) hzq (by simp) fun q' _ hq' => ?_
    replace hq' : Heap.SameBut z q q' := hq'
    exact hE q' tk1 e (fun c o cz cT c1 c2 x => hq'.extBut _ _ cz (hq _ _ c2 (hs1.extBut _ _ cT (hp1.extBut _ _ c1 (hs0.extBut _ _ cz x))))) ⟨oe, hq'.extBut _ _ hez hoe, hce⟩
  · have hi1 : i = n1 := by omega
    refine wpAny_bind (D1.done ⟨g0, g, d, tk0, os⟩ _ _ (by rw [← hi1]; exact (D1.over st1 hs0 S.zf1)) fun q e hq he => ?_)
    replace hq : Heap.ExtBut i1 g0 q := hq
    obtain ⟨oe, hoe, hce⟩ := he
    replace hoe : q.get? e = some oe := hoe
    have hzq : IsZipF q z TI TO .ellipsis f1 := hq _ _ S.zi1 hz0
    have hez : e ≠ z := fun x => by subst x; rw [hzq] at hoe; cases hoe; simp at hce
    refine wpAny_setField_rec (s := ⟨q, g, d, tk0, os⟩) hzq (by simp) fun q' _ hq' => ?_
    replace hq' : Heap.SameBut z q q' := hq'
    exact hE q' tk0 e (fun c o cz cT c1 c2 x => hq'.extBut _ _ cz (hq _ _ c1 (hs0.extBut _ _ cz x))) ⟨oe, hq'.extBut _ _ hez hoe, hce⟩
/-- an item, the tuple T still out -/
theorem zh_item {T : Addr} {f : Bool} {oT : Obj} {Q : Value → Shared → Prop} (S : ZipSep2 z TI TO i1 i2 fp1 fp2) (D1 : Draws prog w A i1 fp1 n1 P1 St1) (D2 : Draws prog w A i2 fp2 n2 P2 St2)
    (hz : IsZipHeld s.heap z TI TO T f) (hT : s.heap.get? T = some oT) (hTI : IsTupOf2 s.heap TI (.ref i1) (.ref i2)) (hTO : IsTupOf2 s.heap TO a1 a2) (st1 : St1 i s.heap) (st2 : St2 i s.heap) (hlt1 : i < n1) (hlt2 : i < n2)
    (hQ : ∀ x1 x2 h' tk, P1 i x1 → P2 i x2 → IsZipHeld h' z TI TO T true → IsTupOf2 h' TO a1 a2 → St1 (i + 1) h' → St2 (i + 1) h' → IsTupOf2 h' s.heap.objs.size x1 x2 → h'.objs.size = s.heap.objs.size + 1 →
      (∀ c o, c ≠ z → c ≠ TO → c ≠ i1 → c ≠ i2 → s.heap.get? c = some o → h'.get? c = some o) → Q (.ref s.heap.objs.size) { s with heap := h', toks := tk }) :
    wpAny (model prog w) A (Builtin.«zip.__next__» ⟨[.ref z], []⟩) (fun fin s' => ∃ v, fin = .done (.ret v) ∧ Q v s') E s := by
  obtain ⟨hp, g, d, tk0, os⟩ := s
  show wpAny _ _ (field (.ref z) 2 >>= _) _ _ _
  refine wpAny_bind (wpAny_field hz rfl (x := .bool false) rfl ?_)
  show wpAny _ _ (field (.ref z) 3 >>= _) _ _ _
  refine wpAny_bind (wpAny_field hz rfl (x := .ref TI) rfl ?_)
  refine wpAny_bind (wpAny_seqItems hTI rfl ?_)
  show wpAny _ _ (Builtin.SmallTypes.ownedTupleIsFree (.ref z) >>= _) _ _ _
  refine wpAny_bind (wpAny_tupleHeld_zip hz hT fun g0 hz0 hs0 => ?_)
  replace hs0 : Heap.SameBut z hp g0 := hs0
  simp only [Bool.false_eq_true, if_false]
  refine wpAny_bind ?_
  rw [← Array.forIn_toList]
  simp only [List.forIn_cons, List.forIn_nil]
  refine wpAny_bind (wpAny_bind (wpAny_holding ?_))
  show wpAny _ _ (Builtin.SmallTypes.nextOf (.ref i1) >>= _) _ _ ⟨g0, g, d, tk0, os⟩
  refine wpAny_bind (D1.item i _ _ _ hlt1 (D1.over st1 hs0 S.zf1) fun x1 p1 tk1 hx1 sn1 hp1 => wpAny_pure ?_)
  replace hp1 : Heap.SameBut i1 g0 p1 := hp1
  refine wpAny_pure ?_
  refine wpAny_bind (wpAny_bind (wpAny_holding ?_))
  show wpAny _ _ (Builtin.SmallTypes.nextOf (.ref i2) >>= _) _ _ ⟨p1, g, d, tk1, os⟩
  refine wpAny_bind (D2.item i _ _ _ hlt2 (D2.over (D2.over st2 hs0 S.zf2) hp1 S.sep1_2) fun x2 p2 tk2 hx2 sn2 hp2 => wpAny_pure ?_)
  replace hp2 : Heap.SameBut i2 p1 p2 := hp2
  refine wpAny_pure (wpAny_pure ?_)
  show wpAny _ _ (newTuple [x1, x2] >>= _) _ _ _
  refine wpAny_bind (wpAny_newTuple ?_)
  have hsz : p2.objs.size = hp.objs.size := by rw [hp2.1, hp1.1, hs0.1]
  have hzz : IsZipHeld p2 z TI TO T true := (hp2.extBut _ _ S.zi2 (hp1.extBut _ _ S.zi1 hz0))
  have hkk : ∀ c o, c ≠ z → c ≠ i1 → c ≠ i2 → hp.get? c = some o → p2.get? c = some o := fun c o cz c1 c2 e => hp2.extBut _ _ c2 (hp1.extBut _ _ c1 (hs0.extBut _ _ cz e))
  have hj1 : St1 (i + 1) p2 := D1.over sn1 hp2 S.sep2_1
  refine wpAny_pure ⟨_, rfl, ?_⟩
  show Q (.ref p2.objs.size) ⟨p2.push { cls := .type "tuple", data := .seq #[x1, x2] }, g, d, tk2, os⟩
  have hT8 : IsTupOf2 (p2.push { cls := .type "tuple", data := .seq #[x1, x2] }) p2.objs.size x1 x2 := Heap.get?_push_size _ rfl
  have hz8 : (p2.push { cls := .type "tuple", data := .seq #[x1, x2] }).objs.size = p2.objs.size + 1 := Heap.size_push ..
  rw [hsz] at hT8 hz8 ⊢
  exact hQ x1 x2 _ tk2 hx1 hx2 (Heap.get?_push_of_some _ hzz) (Heap.get?_push_of_some _ (hkk _ _ S.TOz S.Ti1 S.Ti2 hTO)) (D1.frame _ _ _ hj1 fun b hb o e => Heap.get?_push_of_some _ e) (D2.frame _ _ _ sn2 fun b hb o e => Heap.get?_push_of_some _ e) hT8 hz8 fun c o cz cT c1 c2 e => Heap.get?_push_of_some _ (hkk c o cz c1 c2 e)
theorem zh_end {T : Addr} {f : Bool} {oT : Obj} {Q : Fin → Shared → Prop} (S : ZipSep2 z TI TO i1 i2 fp1 fp2) (D1 : Draws prog w A i1 fp1 n1 P1 St1) (D2 : Draws prog w A i2 fp2 n2 P2 St2)
    (hz : IsZipHeld s.heap z TI TO T f) (hT : s.heap.get? T = some oT) (hTI : IsTupOf2 s.heap TI (.ref i1) (.ref i2)) (st1 : St1 i s.heap) (st2 : St2 i s.heap) (hle1 : i ≤ n1) (hle2 : i ≤ n2) (hend : i = n1 ∨ i = n2)
    (hE : ∀ h' tk e, (∀ c o, c ≠ z → c ≠ TO → c ≠ i1 → c ≠ i2 → s.heap.get? c = some o → h'.get? c = some o) → (∃ o, h'.get? e = some o ∧ o.cls = .type "StopIteration") → E (.ref e) { s with heap := h', toks := tk }) :
    wpAny (model prog w) A (Builtin.«zip.__next__» ⟨[.ref z], []⟩) Q E s := by
  obtain ⟨hp, g, d, tk0, os⟩ := s
  show wpAny _ _ (field (.ref z) 2 >>= _) _ _ _
  refine wpAny_bind (wpAny_field hz rfl (x := .bool false) rfl ?_)
  show wpAny _ _ (field (.ref z) 3 >>= _) _ _ _
  refine wpAny_bind (wpAny_field hz rfl (x := .ref TI) rfl ?_)
  refine wpAny_bind (wpAny_seqItems hTI rfl ?_)
  show wpAny _ _ (Builtin.SmallTypes.ownedTupleIsFree (.ref z) >>= _) _ _ _
  refine wpAny_bind (wpAny_tupleHeld_zip hz hT fun g0 hz0 hs0 => ?_)
  replace hs0 : Heap.SameBut z hp g0 := hs0
  simp only [Bool.false_eq_true, if_false]
  refine wpAny_bind ?_
  rw [← Array.forIn_toList]
  simp only [List.forIn_cons, List.forIn_nil]
  refine wpAny_bind (wpAny_bind (wpAny_holding ?_))
  show wpAny _ _ (Builtin.SmallTypes.nextOf (.ref i1) >>= _) _ _ ⟨g0, g, d, tk0, os⟩
  by_cases hlt1 : i < n1
  · refine wpAny_bind (D1.item i _ _ _ hlt1 (D1.over st1 hs0 S.zf1) fun x1 p1 tk1 hx1 sn1 hp1 => wpAny_pure ?_)
    replace hp1 : Heap.SameBut i1 g0 p1 := hp1
    refine wpAny_pure ?_
    have hi2 : i = n2 := by omega
    refine wpAny_bind (wpAny_bind (wpAny_holding ?_))
    show wpAny _ _ (Builtin.SmallTypes.nextOf (.ref i2) >>= _) _ _ ⟨p1, g, d, tk1, os⟩
    refine wpAny_bind (D2.done ⟨p1, g, d, tk1, os⟩ _ _ (by rw [← hi2]; exact (D2.over (D2.over st2 hs0 S.zf2) hp1 S.sep1_2)) fun q e hq he => ?_)
    replace hq : Heap.ExtBut i2 p1 q := hq
    exact hE q tk1 e (fun c o cz cT c1 c2 x => hq _ _ c2 (hp1.extBut _ _ c1 (hs0.extBut _ _ cz x))) he
  · have hi1 : i = n1 := by omega
    refine wpAny_bind (D1.done ⟨g0, g, d, tk0, os⟩ _ _ (by rw [← hi1]; exact (D1.over st1 hs0 S.zf1)) fun q e hq he => ?_)
    replace hq : Heap.ExtBut i1 g0 q := hq
    exact hE q tk0 e (fun c o cz cT c1 c2 x => hq _ _ c1 (hs0.extBut _ _ cz x)) he
end
end Mp

set_option maxHeartbeats 1000000
/-! Part 15: sources of items, turns of zip and enumerate. -/
namespace Mp
open PySem PySem.Spec PyProof.Rows L2
section
variable {prog : Program} {w : World} {A : Around} {E : Value → Shared → Prop} {s : Shared} {z TI TO i1 i2 : Addr} {fp1 fp2 : List Addr} {n1 n2 i : Nat} {P1 P2 : Nat → Value → Prop} {St1 St2 : Nat → Heap → Prop}
/-- a zip between two turns, its tuple perhaps out -/
def ZSt (h : Heap) (z TI TO : Addr) : Prop := ∃ f0 f1, IsZipF h z TI TO f0 f1 ∧ (f0 = .none ∨ ∃ (T : Addr) (f : Bool), f0 = rawInt T ∧ f1 = .bool f)
theorem ZSt.get {h h' : Heap} (x : ZSt h z TI TO) (k : ∀ o, h.get? z = some o → h'.get? z = some o) : ZSt h' z TI TO := let ⟨f0, f1, e, q⟩ := x; ⟨f0, f1, k _ e, q⟩
theorem zn_next {Q : Value → Shared → Prop} (hh : A.handled = none) (S : ZipSep2 z TI TO i1 i2 fp1 fp2) (D1 : ∀ A : Around, A.handled = none → Draws prog w A i1 fp1 n1 P1 St1) (D2 : ∀ A : Around, A.handled = none → Draws prog w A i2 fp2 n2 P2 St2)
    (hz : ZSt s.heap z TI TO) (hTI : IsTupOf2 s.heap TI (.ref i1) (.ref i2)) (hTO : ∃ a b, IsTupOf2 s.heap TO a b) (st1 : St1 i s.heap) (st2 : St2 i s.heap) (hlt1 : i < n1) (hlt2 : i < n2)
    (hQ : ∀ x1 x2 h' tk, P1 i x1 → P2 i x2 → ZSt h' z TI TO → (∃ a b, IsTupOf2 h' TO a b) → St1 (i + 1) h' → St2 (i + 1) h' → IsTupOf2 h' s.heap.objs.size x1 x2 → h'.objs.size = s.heap.objs.size + 1 →
      (∀ c o, c ≠ z → c ≠ TO → c ≠ i1 → c ≠ i2 → s.heap.get? c = some o → h'.get? c = some o) → Q (.ref s.heap.objs.size) { s with heap := h', toks := tk }) :
    wpAny (model prog w) A (Builtin.SmallTypes.nextOf (.ref z)) Q E s := by
  obtain ⟨f0, f1, hz, hf⟩ := hz
  obtain ⟨a, b, hTO⟩ := hTO
  have hT : s.TypeIs (.ref z) "zip" := ⟨_, hz, rfl⟩
  unfold Builtin.SmallTypes.nextOf
  have free : (∀ (A : Around) (Q : Bool → Shared → Prop) (E : Value → Shared → Prop), Q true s → wpAny (model prog w) A (Builtin.SmallTypes.ownedTupleIsFree (.ref z)) Q E s) → wpAny (model prog w) A (do
      match ← callSpecial? (.ref z) "__next__" with
      | some v => pure v
      | none => rule "iternext.gone"; raiseError "TypeError" s!"'{← typeNameOf (.ref z)}' object is not iterable") Q E s := fun hfr =>
    wpAny_bind (wpAny_callSpecial?_slot (name := Str.ofString "__next__") hT F.slot_zip_next (wpAny_call_entry F.slot_zip_next hT F.entry_zip_next
      (zf_item (hfr _) S (D1 _ hh) (D2 _ hh) hz hTI hTO st1 st2 hlt1 hlt2 fun x1 x2 h' tk y1 y2 b1 b2 d1 d2 b5 b6 b7 => wpAny_pure (hQ x1 x2 h' tk y1 y2 ⟨_, _, b1, .inr ⟨_, false, rfl, rfl⟩⟩ ⟨_, _, b2⟩ d1 d2 b5 b6 b7)) (F.args_zip_next_1 _)))
  rcases hf with rfl | ⟨T, f, rfl, rfl⟩
  · exact free fun A Q E h => zf_none hz h
  · cases hTT : s.heap.get? T with
    | none => exact free fun A Q E h => zf_dead hz hTT h
    | some oT =>
      exact wpAny_bind (wpAny_callSpecial?_slot (name := Str.ofString "__next__") hT F.slot_zip_next (wpAny_call_entry F.slot_zip_next hT F.entry_zip_next
        (zh_item S (D1 _ hh) (D2 _ hh) hz hTT hTI hTO st1 st2 hlt1 hlt2 fun x1 x2 h' tk y1 y2 b1 b2 d1 d2 b5 b6 b7 => wpAny_pure (hQ x1 x2 h' tk y1 y2 ⟨_, _, b1, .inr ⟨T, true, rfl, rfl⟩⟩ ⟨_, _, b2⟩ d1 d2 b5 b6 b7)) (F.args_zip_next_1 _)))
theorem zn_end {Q : Value → Shared → Prop} (hh : A.handled = none) (S : ZipSep2 z TI TO i1 i2 fp1 fp2) (D1 : ∀ A : Around, A.handled = none → Draws prog w A i1 fp1 n1 P1 St1) (D2 : ∀ A : Around, A.handled = none → Draws prog w A i2 fp2 n2 P2 St2)
    (hz : ZSt s.heap z TI TO) (hTI : IsTupOf2 s.heap TI (.ref i1) (.ref i2)) (hTO : ∃ a b, IsTupOf2 s.heap TO a b) (st1 : St1 i s.heap) (st2 : St2 i s.heap) (hle1 : i ≤ n1) (hle2 : i ≤ n2) (hend : i = n1 ∨ i = n2)
    (hE : ∀ h' tk e, (∀ c o, c ≠ z → c ≠ TO → c ≠ i1 → c ≠ i2 → s.heap.get? c = some o → h'.get? c = some o) → (∃ o, h'.get? e = some o ∧ o.cls = .type "StopIteration") → E (.ref e) { s with heap := h', toks := tk }) :
    wpAny (model prog w) A (Builtin.SmallTypes.nextOf (.ref z)) Q E s := by
  obtain ⟨f0, f1, hz, hf⟩ := hz
  obtain ⟨a, b, hTO⟩ := hTO
  have hT : s.TypeIs (.ref z) "zip" := ⟨_, hz, rfl⟩
  unfold Builtin.SmallTypes.nextOf
  have free : (∀ (A : Around) (Q : Bool → Shared → Prop) (E : Value → Shared → Prop), Q true s → wpAny (model prog w) A (Builtin.SmallTypes.ownedTupleIsFree (.ref z)) Q E s) → wpAny (model prog w) A (do
      match ← callSpecial? (.ref z) "__next__" with
      | some v => pure v
      | none => rule "iternext.gone"; raiseError "TypeError" s!"'{← typeNameOf (.ref z)}' object is not iterable") Q E s := fun hfr =>
    wpAny_bind (wpAny_callSpecial?_slot (name := Str.ofString "__next__") hT F.slot_zip_next (wpAny_call_entry F.slot_zip_next hT F.entry_zip_next
      (zf_end (hfr _) S (D1 _ hh) (D2 _ hh) hz hTI hTO st1 st2 hle1 hle2 hend hE) (F.args_zip_next_1 _)))
  rcases hf with rfl | ⟨T, f, rfl, rfl⟩
  · exact free fun A Q E h => zf_none hz h
  · cases hTT : s.heap.get? T with
    | none => exact free fun A Q E h => zf_dead hz hTT h
    | some oT =>
      exact wpAny_bind (wpAny_callSpecial?_slot (name := Str.ofString "__next__") hT F.slot_zip_next (wpAny_call_entry F.slot_zip_next hT F.entry_zip_next
        (zh_end S (D1 _ hh) (D2 _ hh) hz hTT hTI st1 st2 hle1 hle2 hend hE) (F.args_zip_next_1 _)))
/-- enumerate over any iterator -/
theorem en_next {e it : Addr} {c : Int} {old : Value} {Pin : Value → Heap → Nat → Prop} {Q : Option Value → Shared → Prop} (he : IsEnum s.heap e it c old)
    (hin : ∀ (Q' : Value → Shared → Prop) (E : Value → Shared → Prop), (∀ x h₁ tk, Pin x h₁ tk → Q' x { s with heap := h₁, toks := tk }) → wpAny (model prog w) A.in1 (Builtin.SmallTypes.nextOf (.ref it)) Q' E s)
    (hpe : ∀ x h₁ tk, Pin x h₁ tk → IsEnum h₁ e it c old)
    (hQ : ∀ x h₁ tk h', Pin x h₁ tk → IsEnumOut h' e it (c + 1) x h₁.objs.size → h'.get? h₁.objs.size = some { cls := .type "tuple", data := .seq #[.int c tk, x] } → h'.objs.size = h₁.objs.size + 1 →
      (∀ b o, b ≠ e → h₁.get? b = some o → h'.get? b = some o) → Q (some (.ref h₁.objs.size)) { s with heap := h', toks := tk + 1 }) :
    wpAny (model prog w) A (pyNext (.ref e)) Q E s := by
  have hT : s.TypeIs (.ref e) "enumerate" := ⟨_, he, rfl⟩
  unfold pyNext
  refine wpAny_bind (wpAny_attempt (wpAny_callSpecial?_slot (name := Str.ofString "__next__") hT F.slot_enumerate_next
    (wpAny_call_entry F.slot_enumerate_next hT F.entry_enumerate_next ?_ (F.args_enumerate_next_1 _))))
  obtain ⟨hp, g, d, tk₀, os⟩ := s
  show wpAny _ _ (field (.ref e) 2 >>= _) _ _ _
  refine wpAny_bind (wpAny_field he rfl (x := .ref it) rfl ?_)
  refine wpAny_bind (hin _ _ fun x h₁ tk hPx => ?_)
  have he₁ : IsEnum h₁ e it c old := hpe x h₁ tk hPx
  show wpAny _ _ (field (.ref e) 3 >>= _) _ _ ⟨h₁, g, d, tk, os⟩
  refine wpAny_bind (wpAny_field he₁ rfl (x := rawInt c) rfl ?_)
  show wpAny _ _ (field (.ref e) 4 >>= _) _ _ ⟨h₁, g, d, tk, os⟩
  refine wpAny_bind (wpAny_field he₁ rfl (x := .none) rfl ?_)
  show wpAny _ _ (mkInt c >>= _) _ _ ⟨h₁, g, d, tk, os⟩
  refine wpAny_bind (wpAny_mkInt ?_)
  show wpAny _ _ (setField (.ref e) 3 (rawInt (c + 1)) >>= _) _ _ ⟨h₁, g, d, tk + 1, os⟩
  refine wpAny_bind (wpAny_setField_rec he₁ (by simp) fun h₂ he₂ hs₂ => ?_)
  replace hs₂ : Heap.SameBut e h₁ h₂ := hs₂
  replace he₂ : IsEnum h₂ e it (c + 1) old := he₂
  show wpAny _ _ (setField (.ref e) 4 .none >>= _) _ _ ⟨h₂, g, d, tk + 1, os⟩
  refine wpAny_bind (wpAny_setField_rec he₂ (by simp) fun h₃ he₃ hs₃ => ?_)
  replace hs₃ : Heap.SameBut e h₂ h₃ := hs₃
  replace he₃ : IsEnum h₃ e it (c + 1) old := he₃
  show wpAny _ _ (newTuple [.int c tk, x] >>= _) _ _ ⟨h₃, g, d, tk + 1, os⟩
  refine wpAny_bind (wpAny_newTuple ?_)
  have he₄ : IsEnum (h₃.push { cls := .type "tuple", data := .seq #[.int c tk, x] }) e it (c + 1) old := Heap.get?_push_of_some _ he₃
  generalize hh₄ : h₃.push { cls := .type "tuple", data := .seq #[.int c tk, x] } = h₄ at he₄
  have hsz : h₃.objs.size = h₁.objs.size := by rw [hs₃.1, hs₂.1]
  have hel : e < h₁.objs.size := Heap.lt_size he₁
  have ht₄ : h₄.get? h₁.objs.size = some { cls := .type "tuple", data := .seq #[.int c tk, x] } := by rw [← hh₄, ← hsz]; exact Heap.get?_push_size _ rfl
  have hz₄ : h₄.objs.size = h₁.objs.size + 1 := by rw [← hh₄, Heap.size_push, hsz]
  have hk₄ : ∀ b o, b ≠ e → h₁.get? b = some o → h₄.get? b = some o := fun b o hbe hb => by
    rw [← hh₄]; exact Heap.get?_push_of_some _ (hs₃.extBut b o hbe (hs₂.extBut b o hbe hb))
  show wpAny _ _ (Builtin.SmallTypes.ownedTupleIsFree (.ref e) >>= _) _ _ ⟨h₄, g, d, tk + 1, os⟩
  rw [hsz]
  clear hh₄ he₃ hs₃ he₂ hs₂ hsz h₃ h₂
  refine wpAny_bind ?_
  unfold Builtin.SmallTypes.ownedTupleIsFree
  refine wpAny_bind (wpAny_field he₄ rfl (x := .none) rfl (wpAny_pure ?_))
  simp only [if_true]
  refine wpAny_bind (wpAny_rule ?_)
  refine wpAny_bind (wpAny_field he₄ rfl (x := old) rfl ?_)
  refine wpAny_bind (wpAny_setField_rec he₄ (by simp) fun h₅ he₅ hs₅ => ?_)
  replace hs₅ : Heap.SameBut e h₄ h₅ := hs₅
  replace he₅ : IsEnum h₅ e it (c + 1) x := he₅
  show wpAny _ _ (Builtin.SmallTypes.ownedTupleHandOut (.ref e) (.ref h₁.objs.size) >>= _) _ _ ⟨h₅, g, d, tk + 1, os⟩
  refine wpAny_bind ?_
  unfold Builtin.SmallTypes.ownedTupleHandOut
  refine wpAny_bind (wpAny_setField_rec he₅ (by simp) fun h₆ he₆ hs₆ => ?_)
  replace hs₆ : Heap.SameBut e h₅ h₆ := hs₆
  replace he₆ : IsEnumOut h₆ e it (c + 1) x h₁.objs.size := he₆
  refine wpAny_setField_rec he₆ (by simp) fun h₇ he₇ hs₇ => ?_
  replace hs₇ : Heap.SameBut e h₆ h₇ := hs₇
  replace he₇ : IsEnumOut h₇ e it (c + 1) x h₁.objs.size := he₇
  refine wpAny_bind (wpAny_letGo (wpAny_pure ⟨_, rfl, wpAny_pure (hQ x h₁ tk h₇ hPx he₇ ?_ ?_ ?_)⟩))
  · exact hs₇.extBut _ _ (Nat.ne_of_gt hel) (hs₆.extBut _ _ (Nat.ne_of_gt hel) (hs₅.extBut _ _ (Nat.ne_of_gt hel) ht₄))
  · rw [hs₇.1, hs₆.1, hs₅.1, hz₄]
  · exact fun b o hbe hb => hs₇.extBut b o hbe (hs₆.extBut b o hbe (hs₅.extBut b o hbe (hk₄ b o hbe hb)))
theorem en_end {e it : Addr} {c : Int} {old : Value} {Q : Option Value → Shared → Prop} {ch : List Addr} (he : IsEnum s.heap e it c old)
    (hin : ∀ (Q' : Value → Shared → Prop) (E : Value → Shared → Prop), (∀ h' tk x, (∀ b o, b ∉ ch → s.heap.get? b = some o → h'.get? b = some o) → (∃ o, h'.get? x = some o ∧ o.cls = .type "StopIteration") → E (.ref x) { s with heap := h', toks := tk }) → wpAny (model prog w) A.in1 (Builtin.SmallTypes.nextOf (.ref it)) Q' E s)
    (hQ : ∀ h' tk, (∀ b o, b ∉ ch → s.heap.get? b = some o → h'.get? b = some o) → Q none { s with heap := h', toks := tk }) : wpAny (model prog w) A (pyNext (.ref e)) Q E s := by
  have hT : s.TypeIs (.ref e) "enumerate" := ⟨_, he, rfl⟩
  unfold pyNext
  refine wpAny_bind (wpAny_attempt (wpAny_callSpecial?_slot (name := Str.ofString "__next__") hT F.slot_enumerate_next
    (wpAny_call_entry F.slot_enumerate_next hT F.entry_enumerate_next ?_ (F.args_enumerate_next_1 _))))
  show wpAny _ _ (field (.ref e) 2 >>= _) _ _ _
  refine wpAny_bind (wpAny_field he rfl (x := .ref it) rfl ?_)
  refine wpAny_bind (hin _ _ fun h' tk x he' hx' => ?_)
  obtain ⟨o, ho, hc⟩ := hx'
  refine wpAny_bind (wpAny_isInstance (T := "StopIteration") (b := true) ⟨o, ho, hc⟩ isSubtype_stop ?_)
  exact wpAny_pure (hQ h' tk he')
end
end Mp

set_option maxHeartbeats 1000000
/-! Part 16: turns over sources: zip, enumerate, enumerate of zip. -/
namespace Mp
open PySem PySem.Spec PyProof.Rows L2
/-- what an iterator draws from, the heap told by G -/
structure Src (prog : Program) (w : World) (K : PySem.W.Frag) (it : Addr) (l : List Addr) (cell : Nat → Heap → Prop) (G : Hp → Prop) (xs : List V) : Prop where
  live : ∀ i h, cell i h → ∃ o, h.get? it = some o ∧ ∀ v, o.data ≠ .cell v
  keep : ∀ i h h', cell i h → (∀ o, h.get? it = some o → h'.get? it = some o) → cell i h'
  draw : ∀ (X : Cx), X.prog = prog → X.w = w → X.K = K → ∀ (pins : List (Addr × Obj)) (σ : Sg) (H : Hp) (s : Shared), Inv X pins σ H s → G H → ∃ (P : Nat → Value → Prop) (St : Nat → Heap → Prop),
    (∀ A : Around, A.handled = none → Draws prog w A it (it :: l) xs.length P St) ∧ (∀ i, cell i s.heap → St i s.heap) ∧ (∀ i h, St i h → cell i h) ∧ ∀ i v, P i v → ∃ x, xs[i]? = some x ∧ RelV x v
section
variable {prog : Program} {w : World} {K : PySem.W.Frag}
theorem src_list {it a : Addr} {xs : List V} (hne : a ≠ it) : Src prog w K it [a] (fun i h => h.IsListIter it a i) (fun H => SqL K H a xs) xs where
  live := fun i h ⟨o, e, c, d⟩ => ⟨o, e, fun v z => by rw [d] at z; cases z⟩
  keep := fun i h h' st k => st.at fun o e => k o e
  draw := fun X hP hw hK pins σ H s I hq => by
    subst hP hw hK
    obtain ⟨its, rv, p, hz⟩ := I.list hq
    have e : xs.length = its.toArray.size := by rw [rv.length]; simp
    refine ⟨fun i v => its.toArray[i]? = some v, fun i h => h.IsListIter it a i ∧ h.IsList a its.toArray, fun A hA => ?_, fun i st => ⟨st, p.isList⟩, fun i h st => st.1, fun i v hv => ?_⟩
    · rw [e]; exact Draws.list hA it a hne its.toArray
    · have hv' : its[i]? = some v := by simpa using hv
      obtain ⟨x, hx, rx⟩ := vals_getR rv hv'
      exact ⟨x, hx, rx⟩
where
  vals_getR : ∀ {xs : List V} {us : List Value} {i : Nat} {v : Value}, Vals xs us → us[i]? = some v → ∃ x, xs[i]? = some x ∧ RelV x v
    | _, _, i, _, .nil, h => by simp at h
    | _, _, 0, _, .cons a t, h => by simp at h; subst h; exact ⟨_, rfl, a⟩
    | _, _, i + 1, _, .cons a t, h => by
      obtain ⟨x, e, q⟩ := vals_getR (i := i) t (by simpa using h)
      exact ⟨x, by simpa using e, q⟩
theorem src_tup {it a : Addr} {xs : List V} (hne : a ≠ it) : Src prog w K it [a] (fun i h => h.IsTupleIter it a i) (fun H => SqT K H a xs) xs where
  live := fun i h ⟨o, e, c, d⟩ => ⟨o, e, fun v z => by rw [d] at z; cases z⟩
  keep := fun i h h' st k => st.at fun o e => k o e
  draw := fun X hP hw hK pins σ H s I hq => by
    subst hP hw hK
    obtain ⟨its, rv, p, hz⟩ := I.tuple hq
    have e : xs.length = its.toArray.size := by rw [rv.length]; simp
    refine ⟨fun i v => its.toArray[i]? = some v, fun i h => h.IsTupleIter it a i ∧ h.IsTuple a its.toArray, fun A hA => ?_, fun i st => ⟨st, p⟩, fun i h st => st.1, fun i v hv => ?_⟩
    · rw [e]; exact Draws.tuple hA it a hne its.toArray
    · have hv' : its[i]? = some v := by simpa using hv
      obtain ⟨x, hx, rx⟩ := src_list.vals_getR rv hv'
      exact ⟨x, hx, rx⟩
def chars (z : Str) : List V := (L z).map fun c => .str ⟨#[c]⟩
theorem src_str {it : Addr} {z : Str} {t : Tok} : Src prog w K it [] (fun i h => h.IsStrIter it (strIterType z) z t i) (fun _ => True) (chars z) where
  live := fun i h ⟨o, e, c, d⟩ => ⟨o, e, fun v z => by rw [d] at z; cases z⟩
  keep := fun i h h' st k => let ⟨o, ho, r⟩ := st; ⟨o, k o ho, r⟩
  draw := fun X hP hw hK pins σ H s I hq => by
    subst hP hw hK
    have e : (chars z).length = z.cps.size := by simp [chars, L]
    refine ⟨fun i v => ∃ c u, z.cps[i]? = some c ∧ v = .str ⟨#[c]⟩ u, fun i h => h.IsStrIter it (strIterType z) z t i, fun A hA => ?_, fun i st => st, fun i h st => st, fun i v ⟨c, u, hc, hv⟩ => ?_⟩
    · rw [e]; exact Draws.text hA it z t
    · subst hv
      refine ⟨.str ⟨#[c]⟩, ?_, u, rfl⟩
      unfold chars L
      rw [List.getElem?_map, Array.getElem?_toList, hc] <;> rfl
/-- pairs of two lists of values -/
def Itp (n : Nat) (G : Hp → Prop) (xs ys : List V) : L2.It :=
  ⟨fun i H => i < n ∧ G H, fun i H v H' => ∃ T x y, v = .ref T ∧ H T = none ∧ H' = upd H T (.tup [x, y]) ∧ xs[i]? = some x ∧ ys[i]? = some y, fun i H => i = n ∧ G H⟩
def Ien (n : Nat) (G : Hp → Prop) (xs : List V) : L2.It :=
  ⟨fun i H => i < n ∧ G H, fun i H v H' => ∃ T x, v = .ref T ∧ H T = none ∧ H' = upd H T (.tup [.int (i : Nat), x]) ∧ xs[i]? = some x, fun i H => i = n ∧ G H⟩
def Ienz (n : Nat) (G : Hp → Prop) (xs ys : List V) : L2.It :=
  ⟨fun i H => i < n ∧ G H, fun i H v H' => ∃ T T2 x y, v = .ref T ∧ H T2 = none ∧ upd H T2 (.tup [x, y]) T = none ∧ H' = upd (upd H T2 (.tup [x, y])) T (.tup [.int (i : Nat), .ref T2]) ∧ xs[i]? = some x ∧ ys[i]? = some y, fun i H => i = n ∧ G H⟩
theorem turn_pair {elts : List Expr} {kk : Nat} {tpos : Pos} {z TI TO i1 i2 : Addr} {l1 l2 : List Addr} {cell1 cell2 : Nat → Heap → Prop} {G1 G2 : Hp → Prop} {xs ys : List V} (S : ZipSep2 z TI TO i1 i2 (i1 :: l1) (i2 :: l2)) (S1 : Src prog w K i1 l1 cell1 G1 xs) (S2 : Src prog w K i2 l2 cell2 G2 ys) :
    Turn prog w K (.Tuple elts kk tpos) (Itp (min xs.length ys.length) (fun H => G1 H ∧ G2 H) xs ys) [z, TI, TO, i1, i2] z
      (fun i h => IsZip h z TI TO .none ∧ IsTupOf2 h TI (.ref i1) (.ref i2) ∧ (∃ a b, IsTupOf2 h TO a b) ∧ cell1 i h ∧ cell2 i h) where
  mem := by simp
  obj := fun i h st c hc => by
    obtain ⟨hz, hTI, ⟨x, y, hTO⟩, h1, h2⟩ := st
    have e' : c = z ∨ c = TI ∨ c = TO ∨ c = i1 ∨ c = i2 := by simpa using hc
    rcases e' with q | q | q | q | q
    · rw [q]; exact ⟨_, hz, fun v q => nomatch q⟩
    · rw [q]; exact ⟨_, hTI, fun v q => nomatch q⟩
    · rw [q]; exact ⟨_, hTO, fun v q => nomatch q⟩
    · rw [q]; exact S1.live i h h1
    · rw [q]; exact S2.live i h h2
  keep := fun i h h' st k => by
    obtain ⟨hz, hTI, ⟨x, y, hTO⟩, h1, h2⟩ := st
    exact ⟨k z (by simp) _ hz, k TI (by simp) _ hTI, ⟨x, y, k TO (by simp) _ hTO⟩, S1.keep _ _ _ h1 fun o q => k i1 (by simp) o q, S2.keep _ _ _ h2 fun o q => k i2 (by simp) o q⟩
  item := by
    intro X hP hw hK hc i pins s σ H E I hf st hg
    obtain ⟨P1, St1, D1, c1, d1, r1⟩ := S1.draw X hP hw hK pins σ H s I hg.2.1
    obtain ⟨P2, St2, D2, c2, d2, r2⟩ := S2.draw X hP hw hK pins σ H s I hg.2.2
    subst hP hw hK
    obtain ⟨hz, hTI, hTO, h1, h2⟩ := st
    have hh : X.A.in1.handled = none := I.ok.hd hc
    have W := WalksT.zipD2 (prog := X.prog) (w := X.w) (A := X.A) S (D1 _ hh) (D2 _ hh)
    have live5 : ∀ b ∈ [z, TI, TO, i1, i2], b < s.heap.objs.size := fun b hb => by
      obtain ⟨a0, b0, hTO⟩ := hTO
      have e' : b = z ∨ b = TI ∨ b = TO ∨ b = i1 ∨ b = i2 := by simpa using hb
      rcases e' with q | q | q | q | q
      · rw [q]; exact Heap.lt_size hz
      · rw [q]; exact Heap.lt_size hTI
      · rw [q]; exact Heap.lt_size hTO
      · rw [q]; obtain ⟨_, e, _⟩ := S1.live i _ h1; exact Heap.lt_size e
      · rw [q]; obtain ⟨_, e, _⟩ := S2.live i _ h2; exact Heap.lt_size e
    refine W.item i s _ _ hg.1 ⟨hz, hTI, hTO, c1 i h1, c2 i h2⟩ fun T vals h' tk hPt hT hTup hm hk => ⟨.ref T, rfl, ?_⟩
    refine W.go elts kk tpos i T { s with heap := h', toks := tk } _ _ hm fun h'' st'' hk'' => ?_
    obtain ⟨u1, u2, p1, p2, ev⟩ := hPt
    subst ev
    obtain ⟨x, hx, rx⟩ := r1 i u1 p1
    obtain ⟨y, hy, ry⟩ := r2 i u2 p2
    have hT2 : h''.IsTuple T #[u1, u2] := hTup.at fun o e => hk'' T o (W.apart i T h' hm) e
    obtain ⟨oT, g1, g2, g3⟩ := hT2
    have new : ObjOk X.prog X.w (upd H T (.tup [x, y])) h'' T (.tup [x, y]) := ⟨by show 2 ≤ sizeLine; decide, [u1, u2], .cons rx (.cons ry .nil), ⟨oT, g1, g2, g3⟩⟩
    have sub : ∀ b, b ∉ [z, TI, TO, i1, i2] → b ∉ [z, TO, i1, i2] := fun b hb q => hb (by simp at q ⊢; rcases q with q | q | q | q <;> simp [q])
    have I1 : Inv X pins σ (upd H T (.tup [x, y])) { s with heap := h'', toks := tk } :=
      I.turnedNew (ch := [z, TI, TO, i1, i2]) (fun c o hb q => hk'' c o (sub c hb) (hk c o (sub c hb) q)) hf hT new
    refine ⟨.ref T, _, I1, rfl, ⟨T, x, y, rfl, I.hok.fresh hT, rfl, hx, hy⟩, ⟨st''.1, st''.2.1, st''.2.2.1, d1 _ _ st''.2.2.2.1, d2 _ _ st''.2.2.2.2⟩, fun b hb => ?_⟩
    rw [upd_ne (Nat.ne_of_lt (Nat.lt_of_lt_of_le (live5 b hb) hT))]
    exact (hf b hb).1
  done := by
    intro X hP hw hK hc i pins s σ H E I hf st hg
    obtain ⟨ei, g1, g2⟩ := hg
    obtain ⟨P1, St1, D1, c1, d1, r1⟩ := S1.draw X hP hw hK pins σ H s I g1
    obtain ⟨P2, St2, D2, c2, d2, r2⟩ := S2.draw X hP hw hK pins σ H s I g2
    subst hP hw hK ei
    obtain ⟨hz, hTI, hTO, h1, h2⟩ := st
    have hh : X.A.in1.handled = none := I.ok.hd hc
    have W := WalksT.zipD2 (prog := X.prog) (w := X.w) (A := X.A) S (D1 _ hh) (D2 _ hh)
    have sub : ∀ b, b ∉ [z, TI, TO, i1, i2] → b ∉ [z, TO, i1, i2] := fun b hb q => hb (by simp at q ⊢; rcases q with q | q | q | q <;> simp [q])
    exact W.done s _ _ ⟨hz, hTI, hTO, c1 _ h1, c2 _ h2⟩ fun h' tk hk => ⟨rfl, I.turnedL (ch := [z, TI, TO, i1, i2]) (fun c o hb q => hk c o (sub c hb) q) hf⟩
  self := fun A i s Q E st h => wpAny_pyIter_zip st.1 h
theorem turn_enumS {elts : List Expr} {kk : Nat} {tpos : Pos} {e it : Addr} {l : List Addr} {cell : Nat → Heap → Prop} {G : Hp → Prop} {xs : List V} (hei : e ≠ it) (hel : e ∉ l) (S : Src prog w K it l cell G xs) :
    Turn prog w K (.Tuple elts kk tpos) (Ien xs.length G xs) [e, it] e (fun i h => (∃ old, IsEnum h e it (0 + (i : Int)) old) ∧ cell i h) where
  mem := by simp
  obj := fun i h st c hc => by
    obtain ⟨⟨old, he⟩, h1⟩ := st
    have e' : c = e ∨ c = it := by simpa using hc
    rcases e' with q | q
    · rw [q]; exact ⟨_, he, fun v q => nomatch q⟩
    · rw [q]; exact S.live i h h1
  keep := fun i h h' st k => by
    obtain ⟨⟨old, he⟩, h1⟩ := st
    exact ⟨⟨old, k e (by simp) _ he⟩, S.keep _ _ _ h1 fun o q => k it (by simp) o q⟩
  item := by
    intro X hP hw hK hc i pins s σ H E I hf st hg
    obtain ⟨P1, St1, D1, c1, d1, r1⟩ := S.draw X hP hw hK pins σ H s I hg.2
    subst hP hw hK
    obtain ⟨⟨old, he⟩, h1⟩ := st
    have hh : X.A.in1.handled = none := I.ok.hd hc
    have W := WalksT.enumFrom (prog := X.prog) (w := X.w) (A := X.A) 0 (D1 _ hh) e hei (by simp; exact ⟨hei, hel⟩) (by simp)
    have live5 : ∀ b ∈ [e, it], b < s.heap.objs.size := fun b hb => by
      have e' : b = e ∨ b = it := by simpa using hb
      rcases e' with q | q
      · rw [q]; exact Heap.lt_size he
      · rw [q]; obtain ⟨_, e, _⟩ := S.live i _ h1; exact Heap.lt_size e
    refine W.item i s _ _ hg.1 ⟨⟨old, he⟩, c1 i h1⟩ fun T vals h' tk hPt hT hTup hm hk => ⟨.ref T, rfl, ?_⟩
    refine W.go elts kk tpos i T { s with heap := h', toks := tk } _ _ hm fun h'' st'' hk'' => ?_
    obtain ⟨t, u1, p1, ev⟩ := hPt
    subst ev
    obtain ⟨x, hx, rx⟩ := r1 i u1 p1
    have hT2 : h''.IsTuple T #[.int (0 + (i : Int)) t, u1] := hTup.at fun o e => hk'' T o (W.apart i T h' hm) e
    obtain ⟨oT, g1, g2, g3⟩ := hT2
    have new : ObjOk X.prog X.w (upd H T (.tup [.int (i : Nat), x])) h'' T (.tup [.int (i : Nat), x]) := ⟨by show 2 ≤ sizeLine; decide, [.int (0 + (i : Int)) t, u1], .cons ⟨t, by rw [Int.zero_add]⟩ (.cons rx .nil), ⟨oT, g1, g2, g3⟩⟩
    have I1 : Inv X pins σ (upd H T (.tup [.int (i : Nat), x])) { s with heap := h'', toks := tk } :=
      I.turnedNew (ch := [e, it]) (fun c o hb q => hk'' c o hb (hk c o hb q)) hf hT new
    refine ⟨.ref T, _, I1, rfl, ⟨T, x, rfl, I.hok.fresh hT, rfl, hx⟩, ⟨st''.1, d1 _ _ st''.2⟩, fun b hb => ?_⟩
    rw [upd_ne (Nat.ne_of_lt (Nat.lt_of_lt_of_le (live5 b hb) hT))]
    exact (hf b hb).1
  done := by
    intro X hP hw hK hc i pins s σ H E I hf st hg
    obtain ⟨ei, g1⟩ := hg
    obtain ⟨P1, St1, D1, c1, d1, r1⟩ := S.draw X hP hw hK pins σ H s I g1
    subst hP hw hK ei
    obtain ⟨⟨old, he⟩, h1⟩ := st
    have hh : X.A.in1.handled = none := I.ok.hd hc
    have W := WalksT.enumFrom (prog := X.prog) (w := X.w) (A := X.A) 0 (D1 _ hh) e hei (by simp; exact ⟨hei, hel⟩) (by simp)
    exact W.done s _ _ ⟨⟨old, he⟩, c1 _ h1⟩ fun h' tk hk => ⟨rfl, I.turnedL (ch := [e, it]) (fun c o hb q => hk c o hb q) hf⟩
  self := fun A i s Q E st h => let ⟨⟨_, he⟩, _⟩ := st; wpAny_pyIter_enum he h
/-- what is between the draw of the zip and the end of enumerate's turn -/
structure PinZ (h : Heap) (h₁ : Heap) (z TI TO i1 i2 : Addr) (P1 P2 : Nat → Value → Prop) (St1 St2 : Nat → Heap → Prop) (i : Nat) (x : Value) : Prop where
  ev : x = .ref h.objs.size
  zs : ZSt h₁ z TI TO
  to : ∃ a b, IsTupOf2 h₁ TO a b
  s1 : St1 (i + 1) h₁
  s2 : St2 (i + 1) h₁
  tu : ∃ u1 u2, P1 i u1 ∧ P2 i u2 ∧ IsTupOf2 h₁ h.objs.size u1 u2
  sz : h₁.objs.size = h.objs.size + 1
  keep : ∀ c o, c ≠ z → c ≠ TO → c ≠ i1 → c ≠ i2 → h.get? c = some o → h₁.get? c = some o
theorem turn_enz {elts : List Expr} {kk : Nat} {tpos : Pos} {e z TI TO i1 i2 : Addr} {l1 l2 : List Addr} {cell1 cell2 : Nat → Heap → Prop} {G1 G2 : Hp → Prop} {xs ys : List V} (S : ZipSep2 z TI TO i1 i2 (i1 :: l1) (i2 :: l2)) (he6 : e ∉ z :: TI :: TO :: (i1 :: l1) ++ (i2 :: l2)) (S1 : Src prog w K i1 l1 cell1 G1 xs) (S2 : Src prog w K i2 l2 cell2 G2 ys) :
    Turn prog w K (.Tuple elts kk tpos) (Ienz (min xs.length ys.length) (fun H => G1 H ∧ G2 H) xs ys) [e, z, TI, TO, i1, i2] e
      (fun i h => (∃ old, IsEnum h e z (i : Int) old) ∧ ZSt h z TI TO ∧ IsTupOf2 h TI (.ref i1) (.ref i2) ∧ (∃ a b, IsTupOf2 h TO a b) ∧ cell1 i h ∧ cell2 i h) where
  mem := by simp
  obj := fun i h st c hc => by
    obtain ⟨⟨old, he⟩, ⟨f0, f1, hz, _⟩, hTI, ⟨x, y, hTO⟩, h1, h2⟩ := st
    have e' : c = e ∨ c = z ∨ c = TI ∨ c = TO ∨ c = i1 ∨ c = i2 := by simpa using hc
    rcases e' with q | q | q | q | q | q
    · rw [q]; exact ⟨_, he, fun v q => nomatch q⟩
    · rw [q]; exact ⟨_, hz, fun v q => nomatch q⟩
    · rw [q]; exact ⟨_, hTI, fun v q => nomatch q⟩
    · rw [q]; exact ⟨_, hTO, fun v q => nomatch q⟩
    · rw [q]; exact S1.live i h h1
    · rw [q]; exact S2.live i h h2
  keep := fun i h h' st k => by
    obtain ⟨⟨old, he⟩, hz, hTI, ⟨x, y, hTO⟩, h1, h2⟩ := st
    exact ⟨⟨old, k e (by simp) _ he⟩, hz.get fun o q => k z (by simp) o q, k TI (by simp) _ hTI, ⟨x, y, k TO (by simp) _ hTO⟩, S1.keep _ _ _ h1 fun o q => k i1 (by simp) o q, S2.keep _ _ _ h2 fun o q => k i2 (by simp) o q⟩
  item := by
    intro X hP hw hK hc i pins s σ H E I hf st hg
    obtain ⟨P1, St1, D1, c1, d1, r1⟩ := S1.draw X hP hw hK pins σ H s I hg.2.1
    obtain ⟨P2, St2, D2, c2, d2, r2⟩ := S2.draw X hP hw hK pins σ H s I hg.2.2
    subst hP hw hK
    obtain ⟨⟨old, he⟩, hz, hTI, hTO, h1, h2⟩ := st
    have hh : X.A.in1.handled = none := I.ok.hd hc
    have ne : e ≠ z ∧ e ≠ TI ∧ e ≠ TO ∧ e ≠ i1 ∧ e ∉ l1 ∧ e ≠ i2 ∧ e ∉ l2 := by simpa using he6
    have live5 : ∀ b ∈ [e, z, TI, TO, i1, i2], b < s.heap.objs.size := fun b hb => by
      obtain ⟨a0, b0, hTO⟩ := hTO
      obtain ⟨f0, f1, hz, _⟩ := hz
      have e' : b = e ∨ b = z ∨ b = TI ∨ b = TO ∨ b = i1 ∨ b = i2 := by simpa using hb
      rcases e' with q | q | q | q | q | q
      · rw [q]; exact Heap.lt_size he
      · rw [q]; exact Heap.lt_size hz
      · rw [q]; exact Heap.lt_size hTI
      · rw [q]; exact Heap.lt_size hTO
      · rw [q]; obtain ⟨_, e, _⟩ := S1.live i _ h1; exact Heap.lt_size e
      · rw [q]; obtain ⟨_, e, _⟩ := S2.live i _ h2; exact Heap.lt_size e
    have lt1 : i < xs.length := Nat.lt_of_lt_of_le hg.1 (Nat.min_le_left _ _)
    have lt2 : i < ys.length := Nat.lt_of_lt_of_le hg.1 (Nat.min_le_right _ _)
    refine en_next (Pin := fun x h₁ _ => PinZ s.heap h₁ z TI TO i1 i2 P1 P2 St1 St2 i x) he (fun Q' E hq => zn_next hh S D1 D2 hz hTI hTO (c1 i h1) (c2 i h2) lt1 lt2 fun x1 x2 h' tk p1 p2 a1 a2 a3 a4 a5 a6 a7 => hq _ h' tk ⟨rfl, a1, a2, a3, a4, ⟨x1, x2, p1, p2, a5⟩, a6, a7⟩)
      (fun x h₁ tk p => p.keep _ _ ne.1 ne.2.2.1 ne.2.2.2.1 ne.2.2.2.2.2.1 he) fun x h₁ tk h' p ho hT hsz hk => ?_
    refine ⟨_, rfl, wpAny_letOwnedTupleGo_enum (s := { s with heap := h', toks := tk + 1 }) ho fun h'' he' sb => ?_⟩
    obtain ⟨ev, zs, to, s1, s2, ⟨u1, u2, p1, p2, tu⟩, sz, kp⟩ := p
    subst ev
    obtain ⟨x, hx, rx⟩ := r1 i u1 p1
    obtain ⟨y, hy, ry⟩ := r2 i u2 p2
    have new1 : ObjOk X.prog X.w (upd H s.heap.objs.size (.tup [x, y])) h₁ s.heap.objs.size (.tup [x, y]) := ⟨by show 2 ≤ sizeLine; decide, [u1, u2], .cons rx (.cons ry .nil), ⟨_, tu, rfl, _, rfl⟩⟩
    have I1 : Inv X pins σ (upd H s.heap.objs.size (.tup [x, y])) { s with heap := h₁, toks := tk } :=
      I.turnedNew (ch := [e, z, TI, TO, i1, i2]) (fun c o hb q => kp c o (fun z => hb (by simp [z])) (fun z => hb (by simp [z])) (fun z => hb (by simp [z])) (fun z => hb (by simp [z])) q) hf (Nat.le_refl _) new1
    have hf1 : ∀ b ∈ [e, z, TI, TO, i1, i2], FpOk X pins (upd H s.heap.objs.size (.tup [x, y])) b := fun b hb => ⟨by rw [upd_ne (Nat.ne_of_lt (live5 b hb))]; exact (hf b hb).1, (hf b hb).2⟩
    have helt : e < h₁.objs.size := by rw [sz]; exact Nat.lt_succ_of_lt (live5 e (by simp))
    have hT2 : h''.get? h₁.objs.size = some { cls := .type "tuple", data := .seq #[.int (i : Int) tk, .ref s.heap.objs.size] } := (sb.2 _ (Nat.ne_of_gt helt)).trans hT
    have new2 : ObjOk X.prog X.w (upd (upd H s.heap.objs.size (.tup [x, y])) h₁.objs.size (.tup [.int (i : Nat), .ref s.heap.objs.size])) h'' h₁.objs.size (.tup [.int (i : Nat), .ref s.heap.objs.size]) :=
      ⟨by show 2 ≤ sizeLine; decide, [.int (i : Int) tk, .ref s.heap.objs.size], .cons ⟨tk, rfl⟩ (.cons rfl .nil), ⟨_, hT2, rfl, _, rfl⟩⟩
    have kk2 : ∀ c o, c ≠ e → h₁.get? c = some o → h''.get? c = some o := fun c o hb q => (sb.2 c hb).trans (hk c o hb q)
    have I2 : Inv X pins σ (upd (upd H s.heap.objs.size (.tup [x, y])) h₁.objs.size (.tup [.int (i : Nat), .ref s.heap.objs.size])) { s with heap := h'', toks := tk + 1 } :=
      I1.turnedNew (ch := [e, z, TI, TO, i1, i2]) (fun c o hb q => kk2 c o (fun z => hb (by simp [z])) q) hf1 (Nat.le_refl _) new2
    have ei : ((i + 1 : Nat) : Int) = (i : Int) + 1 := by omega
    have kTI := kp _ _ S.TIz S.TITO S.TIi1 S.TIi2 hTI
    obtain ⟨a0, b0, to⟩ := to
    refine ⟨.ref h₁.objs.size, _, I2, rfl, ⟨h₁.objs.size, s.heap.objs.size, x, y, rfl, I.hok.fresh (Nat.le_refl _), I1.hok.fresh (Nat.le_refl _), rfl, hx, hy⟩,
      ⟨⟨_, by rw [ei]; exact he'⟩, zs.get fun o q => kk2 _ o ne.1.symm q, kk2 _ _ ne.2.1.symm kTI, ⟨a0, b0, kk2 _ _ ne.2.2.1.symm to⟩, S1.keep _ _ _ (d1 _ _ s1) fun o q => kk2 _ o ne.2.2.2.1.symm q, S2.keep _ _ _ (d2 _ _ s2) fun o q => kk2 _ o ne.2.2.2.2.2.1.symm q⟩, fun b hb => ?_⟩
    rw [upd_ne (Nat.ne_of_lt (by rw [sz]; exact Nat.lt_succ_of_lt (live5 b hb))), upd_ne (Nat.ne_of_lt (live5 b hb))]
    exact (hf b hb).1
  done := by
    intro X hP hw hK hc i pins s σ H E I hf st hg
    obtain ⟨ei, g1, g2⟩ := hg
    obtain ⟨P1, St1, D1, c1, d1, r1⟩ := S1.draw X hP hw hK pins σ H s I g1
    obtain ⟨P2, St2, D2, c2, d2, r2⟩ := S2.draw X hP hw hK pins σ H s I g2
    subst hP hw hK ei
    obtain ⟨⟨old, he⟩, hz, hTI, hTO, h1, h2⟩ := st
    have hh : X.A.in1.handled = none := I.ok.hd hc
    refine en_end (ch := [z, TO, i1, i2]) he (fun Q' E hq => zn_end hh S D1 D2 hz hTI hTO (c1 _ h1) (c2 _ h2) (Nat.min_le_left _ _) (Nat.min_le_right _ _) (by omega) fun h' tk x k q => hq h' tk x (fun c o hb e => k c o (fun z => hb (by simp [z])) (fun z => hb (by simp [z])) (fun z => hb (by simp [z])) (fun z => hb (by simp [z])) e) q) fun h' tk hk => ?_
    exact ⟨rfl, I.turnedL (ch := [e, z, TI, TO, i1, i2]) (fun c o hb q => hk c o (fun z => hb (by simp at z ⊢; rcases z with q | q | q | q <;> simp [q])) q) hf⟩
  self := fun A i s Q E st h => let ⟨⟨_, he⟩, _⟩ := st; wpAny_pyIter_enum he h
end
end Mp

set_option maxHeartbeats 1000000
/-! Part 17: enumerate begins. -/
namespace Mp
open PySem PySem.Spec PyProof.Rows L2
theorem en_newB {v : Value} {o : Obj} {H : Heap → Prop} (B : Begins v o H) :
    Meets (Builtin.«enumerate.__new__» ⟨[.type "enumerate", v], []⟩) (fun _ R s => H s.heap ∧
      R (.ok (.ret (.ref (s.heap.push o).objs.size))) { s with heap := (s.heap.push o).push { cls := .type "enumerate", data := .fields #[.none, .bool false, .ref s.heap.objs.size, rawInt 0, .none, .none] } }) :=
  .of_wp fun prog w A R s h => by
    obtain ⟨hp, g, d, tk, os⟩ := s; obtain ⟨h1, h⟩ := h
    have hsub := sub_enumerate
    have q1 : ∀ {A' : Around} {E : Value → Shared → Prop} {Q : Value → Shared → Prop}, Q (.ref hp.objs.size) ⟨hp.push o, g, d, tk, os⟩ → wpAny (model prog w) A' (pyIter v) Q E ⟨hp, g, d, tk, os⟩ :=
      fun q => B.iter prog w _ _ ⟨hp, g, d, tk, os⟩ _ h1 q
    wp_walk using q1
    refine wpAny_stack_any fun st => wpAny_pure ?_
    split
    · rename_i c _ _ _ _ _
      cases (c == Value.type "enumerate")
      · wp_walk using q1
        exact ⟨_, rfl, h⟩
      · wp_walk using q1
        exact ⟨_, rfl, h⟩
    · wp_walk using q1
      exact ⟨_, rfl, h⟩
theorem en_newZ {z TI TO : Addr} {f0 : Value} :
    Meets (Builtin.«enumerate.__new__» ⟨[.type "enumerate", .ref z], []⟩) (fun _ R s => IsZip s.heap z TI TO f0 ∧
      R (.ok (.ret (.ref s.heap.objs.size))) { s with heap := s.heap.push { cls := .type "enumerate", data := .fields #[.none, .bool false, .ref z, rawInt 0, .none, .none] } }) :=
  .of_wp fun prog w A R s h => by
    obtain ⟨hp, g, d, tk, os⟩ := s; obtain ⟨h1, h⟩ := h
    have hsub := sub_enumerate
    have q1 : ∀ {A' : Around} {E : Value → Shared → Prop} {Q : Value → Shared → Prop}, Q (.ref z) ⟨hp, g, d, tk, os⟩ → wpAny (model prog w) A' (pyIter (.ref z)) Q E ⟨hp, g, d, tk, os⟩ :=
      fun q => wpAny_pyIter_zip (s := ⟨hp, g, d, tk, os⟩) h1 q
    wp_walk using q1
    refine wpAny_stack_any fun st => wpAny_pure ?_
    split
    · rename_i c _ _ _ _ _
      cases (c == Value.type "enumerate")
      · wp_walk using q1
        exact ⟨_, rfl, h⟩
      · wp_walk using q1
        exact ⟨_, rfl, h⟩
    · wp_walk using q1
      exact ⟨_, rfl, h⟩
section
variable {prog : Program} {w : World} {A : Around} {E : Value → Shared → Prop} {s : Shared}
theorem en_beginsB {v : Value} {o : Obj} {H : Heap → Prop} {Q : Value → Shared → Prop} (B : Begins v o H) (h1 : H s.heap)
    (h : ∀ h', IsEnum h' (s.heap.objs.size + 1) s.heap.objs.size 0 .none → h'.get? s.heap.objs.size = some o → h'.objs.size = s.heap.objs.size + 2 →
      (∀ b o, s.heap.get? b = some o → h'.get? b = some o) → Q (.ref (s.heap.objs.size + 1)) { s with heap := h' }) :
    wpAny (model prog w) A (call (.type "enumerate") [v]) Q E s := by
  refine callType_new F.called_enumerate (by decide) (F.typeCall_enumerate_1 _) (F.newCall_enumerate_1 _) (fun obj => F.args_object_init_2 obj _) F.entry_enumerate_new (en_newB B) ⟨h1, ?_⟩
  have hz : (s.heap.push o).objs.size = s.heap.objs.size + 1 := Heap.size_push ..
  show _ ∧ _
  rw [hz]
  have he : IsEnum ((s.heap.push o).push { cls := .type "enumerate", data := .fields #[.none, .bool false, .ref s.heap.objs.size, rawInt 0, .none, .none] }) (s.heap.objs.size + 1) s.heap.objs.size 0 .none := by
    have := Heap.get?_push_size (s.heap.push o) (o := { cls := .type "enumerate", data := .fields #[.none, .bool false, .ref s.heap.objs.size, rawInt 0, .none, .none] }) rfl
    rw [hz] at this; exact this
  refine ⟨⟨_, he, rfl⟩, h _ he (Heap.get?_push_of_some _ (Heap.get?_push_size _ B.free)) (by rw [Heap.size_push, hz]) fun b o x => Heap.get?_push_of_some _ (Heap.get?_push_of_some _ x)⟩
theorem en_beginsZ {z TI TO : Addr} {f0 : Value} {Q : Value → Shared → Prop} (h1 : IsZip s.heap z TI TO f0)
    (h : ∀ h', IsEnum h' s.heap.objs.size z 0 .none → h'.objs.size = s.heap.objs.size + 1 →
      (∀ b o, s.heap.get? b = some o → h'.get? b = some o) → Q (.ref s.heap.objs.size) { s with heap := h' }) :
    wpAny (model prog w) A (call (.type "enumerate") [.ref z]) Q E s := by
  refine callType_new F.called_enumerate (by decide) (F.typeCall_enumerate_1 _) (F.newCall_enumerate_1 _) (fun obj => F.args_object_init_2 obj _) F.entry_enumerate_new (en_newZ (TI := TI) (TO := TO) (f0 := f0)) ⟨h1, ?_⟩
  have he : IsEnum (s.heap.push { cls := .type "enumerate", data := .fields #[.none, .bool false, .ref z, rawInt 0, .none, .none] }) s.heap.objs.size z 0 .none := Heap.get?_push_size _ rfl
  show _ ∧ _
  refine ⟨⟨_, he, rfl⟩, h _ he (Heap.size_push ..) fun b o x => Heap.get?_push_of_some _ x⟩
end
end Mp

set_option maxHeartbeats 1000000
/-! Part 18: iterables. -/
namespace Mp
open PySem PySem.Spec PyProof.Rows L2
section
variable {T : Tb} {X : Cx} {B : Bs} {W : WX} {a b e : Expr} {es : List Expr} {pos apos cpos : Pos} {eva evb : Mp.St → R Op}
/-- what a turn hands out: the i-th of ds -/
def Yd (T : Tb) (X : Cx) (B' : Bs) (c1 : Cf) (ds : List D) : Nat → Hp → V → Hp → Prop := fun i H x H' =>
  ∀ F t σ, Rl T X B' ⟨F, H, t, σ⟩ → Sub c1.F F → ∃ F', Rl T X B' ⟨F', H', t, σ⟩ ∧ Ext ⟨F, H, t, σ⟩ ⟨F', H', t, σ⟩ ∧ ∃ d, ds[i]? = some d ∧ Rp X.K F' x d
/-- one state after another; where nothing is lent, what no one changes is enough -/
def XtW (l : Option Nat) (c d : Cf) : Prop := Sub c.F d.F ∧ (l = none ∨ Ext c d)
theorem XtW.of {l : Option Nat} {c d : Cf} (x : Ext c d) : XtW l c d := ⟨x.fsub, .inr x⟩
theorem XtW.free {c d : Cf} (x : Sub c.F d.F) : XtW none c d := ⟨x, .inl rfl⟩
/-- an iterator over the items of w, in a state that has lent what w tells -/
def IterOk (T : Tb) (X : Cx) (d : Cf) (J : L2.It) (w : List D × Option Nat) : Prop :=
  ∀ (B' : Bs) (c1 : Cf), c1.F = d.F → c1.H = d.H → c1.σ = d.σ → lend w.2 d.t = some c1.t → Rl T X B' c1 → ∃ G : Hp → Prop, Walk J w.1.length G (Yd T X B' c1 w.1) ∧ ∀ c, XtW w.2 c1 c → Rl T X B' c → G c.H
def relIt (T : Tb) (X : Cx) : Cf → Cf → L2.It → List D × Option Nat → Prop := fun _ d J w => IterOk T X d J w
theorem sh_It : Sh (relIt T X) := fun _ _ _ _ _ _ _ h => h
abbrev Ei (T : Tb) (X : Cx) (B : Bs) (W : WX) (tg py : Expr) (ev : Mp.St → R (List D × Option Nat)) : Prop := PI X tg py (tG T X B W (relIt T X) ev)
theorem pi_imp {tg e : Expr} {t t' : TI} (h : PI X tg e t) (k : ∀ σ H Q, t' σ H Q → t σ H Q) : PI X tg e t' := ⟨fun pins s σ H Q I q => h.run pins s σ H Q I (k σ H Q q)⟩
/-- an operand that is walked -/
theorem walk_op {c : Cf} {x : V} {ox : Op} {w : List D × Option Nat} (R : Rl T X B c) (hx : relO X.K c c x ox) (e : walkOp ox c.t = some w) :
    ∃ d, sqD d = some w.1 ∧ Vw X.K c.F c.H x d ∧ ((w.2 = none ∧ Rp X.K c.F x d) ∨ ∃ k, w.2 = some k ∧ c.σ[k]? = some (some x) ∧ (c.t[k]? = some (.ow d) ∨ c.t[k]? = some (.bw d) ∨ ∃ b, c.t[k]? = some (.ln b d))) := by
  cases ox with
  | v d =>
    unfold walkOp at e
    obtain ⟨l, e1, e2⟩ := map_some2 e
    subst e2
    exact ⟨d, e1, .fz hx, .inl ⟨rfl, hx⟩⟩
  | i k =>
    have hk : c.σ[k]? = some (some x) := hx
    unfold walkOp at e
    dsimp only at e
    split at e
    · rename_i d ek
      obtain ⟨l, e1, e2⟩ := map_some2 e
      subst e2
      obtain ⟨u, eu, q⟩ := R.val ek (by simp)
      rw [hk] at eu; cases eu
      obtain ⟨u, eu, q⟩ := q
      cases eu
      exact ⟨d, e1, .fz q, .inl ⟨rfl, q⟩⟩
    · rename_i d ek
      obtain ⟨l, e1, e2⟩ := map_some2 e
      subst e2
      obtain ⟨u, eu, q⟩ := R.val ek (by simp)
      rw [hk] at eu; cases eu
      obtain ⟨u, eu, _, q⟩ := q
      cases eu
      exact ⟨d, e1, .fz q, .inl ⟨rfl, q⟩⟩
    · rename_i d ek
      obtain ⟨l, e1, e2⟩ := map_some2 e
      subst e2
      obtain ⟨u, eu, q⟩ := R.val ek (by simp)
      rw [hk] at eu; cases eu
      obtain ⟨u, eu, q⟩ := q
      cases eu
      exact ⟨d, e1, .ow q, .inr ⟨k, rfl, hk, .inl ek⟩⟩
    · rename_i d ek
      obtain ⟨l, e1, e2⟩ := map_some2 e
      subst e2
      obtain ⟨u, eu, q⟩ := R.val ek (by simp)
      rw [hk] at eu; cases eu
      obtain ⟨u, eu, _, q⟩ := q
      cases eu
      exact ⟨d, e1, .ow q, .inr ⟨k, rfl, hk, .inr (.inl ek)⟩⟩
    · rename_i b d ek
      obtain ⟨l, e1, e2⟩ := map_some2 e
      subst e2
      obtain ⟨u, eu, q⟩ := R.val ek (by simp)
      rw [hk] at eu; cases eu
      obtain ⟨u, eu, _, q⟩ := q
      cases eu
      exact ⟨d, e1, .ow q, .inr ⟨k, rfl, hk, .inr (.inr ⟨b, ek⟩)⟩⟩
    · cases e
/-- a lent list stays -/
theorem lent_stay {c1 : Cf} {k : Nat} {bb : Bool} {d : D} {B' : Bs} (Z : Rl T X B' c1) (e : c1.t[k]? = some (.ln bb d)) {x : Addr} (ev : c1.σ[k]? = some (some (.ref x))) : ∀ c, Ext c1 c → ∀ o, c1.H x = some o → c.H x = some o := fun c xt o ho => by
  refine xt.keep x o ho fun ⟨j, s, es, hs, ej⟩ => ?_
  have := Z.dis j k x ⟨s, es, isHd_of_wr hs, ej⟩ ⟨_, e, rfl, ev⟩
  subst this
  rw [e] at es
  cases es
  cases hs
/-- the state in which the slot is lent -/
theorem lend_slot {t t1 : Mp.St} {k : Nat} {d : D} (h : lend (some k) t = some t1) (hd : t[k]? = some (.ow d) ∨ t[k]? = some (.bw d) ∨ ∃ b, t[k]? = some (.ln b d)) : ∃ bb, t1[k]? = some (.ln bb d) := by
  unfold lend at h
  dsimp only at h
  have lt : k < t.length := by rcases hd with hd | hd | ⟨_, hd⟩ <;> exact (List.getElem?_eq_some_iff.mp hd).1
  rcases hd with hd | hd | ⟨b, hd⟩
  · rw [hd] at h
    cases h
    exact ⟨false, List.getElem?_set_self lt⟩
  · rw [hd] at h
    cases h
    exact ⟨true, List.getElem?_set_self lt⟩
  · rw [hd] at h
    cases h
    exact ⟨b, hd⟩
/-- what a source tells: the items, that it stands -/
def SrcG (T : Tb) (X : Cx) (c : Cf) (w : List D × Option Nat) (G : Hp → Prop) (xs : List V) : Prop :=
  Rps X.K c.F xs w.1 ∧ ∀ B' c1, c1.F = c.F → c1.H = c.H → c1.σ = c.σ → lend w.2 c.t = some c1.t → Rl T X B' c1 → ∀ c2, XtW w.2 c1 c2 → Rl T X B' c2 → G c2.H
theorem rps_chars {K : PySem.W.Frag} {F : Hp} {z : Str} (o : PyData.strOk z = true) : Rps K F (chars z) ((L z).map fun c => .str (S [c])) := by
  have h : ∀ l : List Nat, (∀ c ∈ l, c ∈ L z) → Rps K F (l.map fun c => .str ⟨#[c]⟩) (l.map fun c => .str (S [c])) := by
    intro l
    induction l with
    | nil => intro _; exact .nil
    | cons c l ih =>
      intro hc
      refine .cons ?_ (ih fun y hy => hc y (List.mem_cons_of_mem _ hy))
      show Rp K F (.str (S [c])) (.str (S [c]))
      refine .str _ ?_ (strOk_sub o fun y hy => ?_)
      · rw [len_S, List.length_singleton]; decide
      · have : y = c := by simpa using hy
        rw [this]; exact hc c List.mem_cons_self
  exact h _ fun _ h => h
/-- the source of an operand -/
theorem src_kind {c : Cf} {x : V} {ox : Op} {w : List D × Option Nat} {v : Value} {pins : List (Addr × Obj)} {s : Shared} (R : Rl T X B c) (I : Inv X pins c.σ c.H s) (hx : relO X.K c c x ox) (e : walkOp ox c.t = some w) :
    (∃ z, x = .str z ∧ SrcG T X c w (fun _ => True) (chars z)) ∨ (∃ q xs, x = .ref q ∧ SqL X.K c.H q xs ∧ SrcG T X c w (fun H => SqL X.K H q xs) xs) ∨ (∃ q xs, x = .ref q ∧ SqT X.K c.H q xs ∧ SrcG T X c w (fun H => SqT X.K H q xs) xs) := by
  obtain ⟨d, ed, vw, hw⟩ := walk_op R hx e
  obtain ⟨wl, wo⟩ := w
  dsimp only at ed hw
  cases d <;> first | (cases ed; done) | skip
  · rename_i z
    cases ed
    obtain ⟨ex, hz, ho⟩ := vw.str
    exact .inl ⟨z, ex, rps_chars ho, fun _ _ _ _ _ _ _ _ _ _ => trivial⟩
  · rename_i ds
    cases ed
    obtain ⟨q, xs, ex, hr, rr, zz⟩ := vw.list R.sub
    subst ex
    refine .inr (.inl ⟨q, xs, rfl, hr.l, rr, fun B' c1 e1 e2 e3 el Z c2 x2 Z2 => ?_⟩)
    rcases hw with ⟨e0, hf⟩ | ⟨k, ek, ev, hs⟩
    · cases hf with
      | @lst _ ys _ hR rr' _ =>
        have e5 : ys = xs := I.list_inj (R.sub.sqE hR).l hr.l
        rw [← e5]
        exact (Z2.sub.sqE (x2.1.sqE (by rw [e1]; exact hR))).l
    · dsimp only at el
      rw [ek] at el
      obtain ⟨bb, et⟩ := lend_slot el hs
      have ev1 : c1.σ[k]? = some (some (.ref q)) := by rw [e3]; exact ev
      have own : ∃ ys, c.H q = some (.lst ys) := by
        rcases hs with hs | hs | ⟨_, hs⟩
        · obtain ⟨u, eu, z⟩ := R.val hs (by simp)
          rw [ev] at eu; cases eu
          obtain ⟨b, eb, _, _, ys, h, _⟩ := z
          cases eb; exact ⟨ys, h⟩
        · obtain ⟨u, eu, z⟩ := R.val hs (by simp)
          rw [ev] at eu; cases eu
          obtain ⟨b, eb, _, _, _, ys, h, _⟩ := z
          cases eb; exact ⟨ys, h⟩
        · obtain ⟨u, eu, z⟩ := R.val hs (by simp)
          rw [ev] at eu; cases eu
          obtain ⟨b, eb, _, _, _, ys, h, _⟩ := z
          cases eb; exact ⟨ys, h⟩
      obtain ⟨ys, hy⟩ := own
      have e5 : ys = xs := I.list_inj (.inl (.inl hy)) hr.l
      subst e5
      exact .inl (.inl (lent_stay Z et ev1 c2 (x2.2.resolve_left (by rw [ek]; intro z; cases z)) _ (by rw [e2]; exact hy)))
  · rename_i ds
    cases ed
    obtain ⟨q, xs, ex, hr, rr, zz⟩ := vw.tuple R.sub
    subst ex
    have hf : SqT X.K c.F q xs := by
      cases vw with
      | fz hf =>
        cases hf with
        | @tup _ ys _ hR rr' _ =>
          have e5 : ys = xs := I.tuple_inj (R.sub.sqT hR) hr
          rw [← e5]; exact hR
      | ow ow => exact ow.elim
    refine .inr (.inr ⟨q, xs, rfl, hr, rr, fun B' c1 e1 e2 e3 el Z c2 x2 Z2 => ?_⟩)
    exact Z2.sub.sqT (x2.1.sqT (by rw [e1]; exact hf))
theorem src_of {c : Cf} {x : V} {ox : Op} {v : Value} {w : List D × Option Nat} {pins : List (Addr × Obj)} {s : Shared} (R : Rl T X B c) (I : Inv X pins c.σ c.H s) (hx : relO X.K c c x ox) (rx : RelV x v) (e : walkOp ox c.t = some w) :
    ∃ (l : List Addr) (cell : Addr → Nat → Heap → Prop) (G : Hp → Prop) (xs : List V) (o : Obj) (Hc : Heap → Prop), Begins v o Hc ∧ Hc s.heap ∧ (∀ b ∈ l, b < s.heap.objs.size) ∧
      (∀ it, it ∉ l → Src X.prog X.w X.K it l (cell it) G xs) ∧ (∀ it (h : Heap), h.get? it = some o → cell it 0 h) ∧ SrcG T X c w G xs := by
  rcases src_kind (v := v) R I hx e with ⟨z, ex, g⟩ | ⟨q, xs, ex, hr, g⟩ | ⟨q, xs, ex, hr, g⟩
  · subst ex
    obtain ⟨t, rfl⟩ := rx
    exact ⟨[], fun it i h => h.IsStrIter it (strIterType z) z t i, fun _ => True, chars z, _, _, begins_text z t, trivial, fun b hb => by simp at hb, fun it _ => src_str, fun it h e => ⟨_, e, rfl, rfl⟩, g⟩
  · subst ex
    obtain rfl : v = Value.ref q := rx
    obtain ⟨its, rv, p, hz⟩ := I.list hr
    refine ⟨[q], fun it i h => h.IsListIter it q i, fun H => SqL X.K H q xs, xs, _, _, begins_list q its.toArray, p.isList, fun b hb => ?_, fun it hit => src_list fun z => hit (by simp [z]), fun it h e => ⟨_, e, rfl, rfl⟩, g⟩
    have : b = q := by simpa using hb
    rw [this]; exact p.lt
  · subst ex
    obtain rfl : v = Value.ref q := rx
    obtain ⟨its, rv, p, hz⟩ := I.tuple hr
    refine ⟨[q], fun it i h => h.IsTupleIter it q i, fun H => SqT X.K H q xs, xs, _, _, begins_tuple q its.toArray, p, fun b hb => ?_, fun it hit => src_tup fun z => hit (by simp [z]), fun it h e => ⟨_, e, rfl, rfl⟩, g⟩
    have : b = q := by simpa using hb
    obtain ⟨o, ho, _⟩ := p
    rw [this]; exact Heap.lt_size ho
theorem yd_at {c1 : Cf} {B' : Bs} {xs : List V} {ds : List D} (r : Rps X.K c1.F xs ds) {i : Nat} {H : Hp} {x : V} {H' : Hp} (y : YAt xs i H x H') : Yd T X B' c1 ds i H x H' := by
  obtain ⟨eh, ex⟩ := y
  subst eh
  intro F t σ R sub
  obtain ⟨d, ed, rd⟩ := r.getV ex
  exact ⟨F, R, Ext.refl _, d, ed, rd.mono sub⟩
/-- an iterator whose turns are known -/
theorem it_ok {c : Cf} {w : List D × Option Nat} {J : L2.It} {G G' : Hp → Prop} {n : Nat} {Y : Nat → Hp → V → Hp → Prop} {xs : List V} (g : SrcG T X c w G xs) (wk : Walk J n G' Y) (en : n = xs.length) (hy : ∀ i H x H', Y i H x H' → YAt xs i H x H') (hg : ∀ H, G H → G' H) : IterOk T X c J w := fun B' c1 e1 e2 e3 el Z1 => by
  subst en
  have el2 := g.1.length
  refine ⟨G', ?_, fun c2 x2 Z2 => hg _ (g.2 B' c1 e1 e2 e3 el Z1 c2 x2 Z2)⟩
  rw [← el2]
  exact wk.mono (fun _ h => h) fun i H x H' _ _ y => yd_at (by rw [e1]; exact g.1) (hy i H x H' y)
/-- over a list, a tuple, a text -/
theorem ei_of {tg : Expr} (ha : Eo T X B W a eva) : Ei T X B W tg a (fun t => (eva t).bind fun x t => Mp.R.of (walkOp x t) t) := by
  refine ⟨fun pins s σ H Q I h => ?_⟩
  refine one ha sh_It I h fun v s1 x ox c hc I1 rx Z hx p => ?_
  subst hc
  obtain ⟨w, ew, p⟩ := ofBind p
  rcases src_kind (v := v) Z I1 hx ew with ⟨z, ex, g⟩ | ⟨q, xs, ex, hr, g⟩ | ⟨q, xs, ex, hr, g⟩
  · subst ex
    obtain ⟨t, rfl⟩ := rx
    have q := p (Its z) c.F c.H Z (Ext.refl _) (it_ok g (walk_str (z := z)) (by simp [chars, L]) (fun i H v H' ⟨e1, c, e2, e3⟩ => ⟨e1, by
      subst e3
      unfold chars L
      rw [List.getElem?_map, Array.getElem?_toList, e2] <;> rfl⟩) fun _ _ => trivial)
    cases ha : z.cps.all (· < 128)
    · exact wpAny_pyIter_wide ha (pi_one (tk := s1.toks) I1 _ (turn_str _ z t "str_iterator" (.inr rfl)) ⟨_, Heap.get?_push_size _ rfl, rfl, rfl⟩ q)
    · exact wpAny_pyIter_ascii ha (pi_one (tk := s1.toks) I1 _ (turn_str _ z t "str_ascii_iterator" (.inl rfl)) ⟨_, Heap.get?_push_size _ rfl, rfl, rfl⟩ q)
  · subst ex
    obtain rfl : v = Value.ref q := rx
    obtain ⟨its, rv, p', hz⟩ := I1.list hr
    have q := p (Itl X.K q) c.F c.H Z (Ext.refl _) (it_ok g (walk_list (xs := xs)) rfl (fun _ _ _ _ y => y) fun _ h => h)
    exact wpAny_pyIter_list p'.isList (pi_one (tk := s1.toks) I1 _ (turn_list _ _) ⟨_, Heap.get?_push_size _ rfl, rfl, rfl⟩ q)
  · subst ex
    obtain rfl : v = Value.ref q := rx
    obtain ⟨its, rv, p', hz⟩ := I1.tuple hr
    have q := p (Itt X.K q) c.F c.H Z (Ext.refl _) (it_ok g (walk_tup (xs := xs)) rfl (fun _ _ _ _ y => y) fun _ h => h)
    exact wpAny_pyIter_tuple (show s1.heap.IsTuple _ its.toArray from p') (pi_one (tk := s1.toks) I1 _ (turn_tuple _ _) ⟨_, Heap.get?_push_size _ rfl, rfl, rfl⟩ q)
/-! ### range -/
theorem rng_ok {c : Cf} {J : L2.It} {ds : List D} {n : Nat} {f : Nat → V} (wk : Walk J n (fun _ => True) (YFn f)) (el : ds.length = n) (h : ∀ i, i < n → ∃ d, ds[i]? = some d ∧ Rp X.K c.F (f i) d) : IterOk T X c J (ds, none) := fun B' c1 e1 e2 e3 _ Z1 => by
  subst el
  refine ⟨fun _ => True, wk.mono (fun _ h => h) fun i H x H' hi _ y => ?_, fun _ _ _ => trivial⟩
  obtain ⟨eh, ex⟩ := y
  subst eh ex
  obtain ⟨d, ed, rd⟩ := h i hi
  exact fun F t σ R sub => ⟨F, R, Ext.refl _, d, ed, (rd.mono (by rw [← e1]; exact sub))⟩
theorem rangeD_get {lo hi : Int} {i : Nat} (h : i < (hi - lo).toNat) : (rangeD lo hi)[i]? = some (.int (lo + i)) := by
  unfold rangeD
  rw [List.getElem?_map, List.getElem?_range h] <;> rfl
theorem small_of {i : Int} (h : small i = true) : -(2 ^ 62) ≤ i ∧ i < 2 ^ 62 := by
  unfold small at h
  rw [Bool.and_eq_true, decide_eq_true_eq, decide_eq_true_eq] at h
  exact h
theorem vws_ints {K : PySem.W.Frag} {F H : Hp} {v : V} {i : Int} (h : Vw K F H v (.int i)) : v = .int i := h.int
variable {p : Pos} {evs : Mp.St → R (List Op)} {tg : Expr}
theorem vw3 {K : PySem.W.Frag} {F H : Hp} {xs : List V} {d e f : D} (h : Vws K F H xs [d, e, f]) : ∃ x y z, xs = [x, y, z] ∧ Vw K F H x d ∧ Vw K F H y e ∧ Vw K F H z f := by
  cases h with
  | cons h r =>
    obtain ⟨y, z, e, q⟩ := vw2 r
    exact ⟨_, y, z, by rw [e], h, q⟩
theorem vws_nil {K : PySem.W.Frag} {F H : Hp} {ds : List D} (h : Vws K F H [] ds) : ds = [] := by cases h; rfl
theorem vws_cons {K : PySem.W.Frag} {F H : Hp} {x : V} {xs : List V} {ds : List D} (h : Vws K F H (x :: xs) ds) : ∃ d ds', ds = d :: ds' ∧ Vw K F H x d ∧ Vws K F H xs ds' := by
  cases h with
  | cons h r => exact ⟨_, _, rfl, h, r⟩
theorem rng_end {c : Cf} {vs : List V} {os : List Op} {Q : L2.It → Hp → Prop} (Z : Rl T X B c) (h : relOs X.K c c vs os) (p : Post T X B W (relIt T X) c (rngE os c.t) Q) : ∃ ds l, Vws X.K c.F c.H vs ds ∧ rngD ds = some l ∧ ∀ J, IterOk T X c J (l, none) → Q J c.H := by
  obtain ⟨w, ew, p⟩ := ofBind p
  obtain ⟨ds, ed, ew⟩ := bind_some2 ew
  obtain ⟨l, el, ew⟩ := map_some2 ew
  subst ew
  exact ⟨ds, l, Z.rdAs h ed, el, fun J hJ => p J c.F c.H Z (Ext.refl _) hJ⟩
theorem rng_it {c : Cf} {lo hi : Int} : IterOk T X c (Itr lo (hi - lo).toNat) (rangeD lo hi, none) :=
  rng_ok walk_range (by simp [rangeD]) fun i hi => ⟨_, rangeD_get hi, .int _⟩
theorem ei_rng1 (hg : Gl X "range") (hm : X.mg "range" = none) (ha : Eo T X B W a eva) (h1 : unstar a = true) :
    Ei T X B W tg (.Call (.Name "range" p) [a] [] pos) (fun t => (eva t).bind fun x t => rngE [x] t) := by
  refine ⟨fun pins s σ H Q I h => ?_⟩
  refine Call_ (ld_blt I hg hm boot_range (PyProof.Rows.callWith_type1 (args_cons (one ha sh_It I h fun v s1 x ox c hc I1 rx Z hx p => args_nil ?_) (star_cons h1)) (star_cons h1) rfl))
  subst hc
  obtain ⟨ds, l, vw, er, q⟩ := rng_end Z (.cons hx .nil) p
  obtain ⟨d, ds, rfl, hv, r⟩ := vws_cons vw
  cases vws_nil r
  unfold rngD at er
  split at er <;> first | (cases er; done) | (exfalso; rename_i e; simp at e; done) | skip
  · rename_i j e
    cases e
    cases hv.int
    split at er
    · rename_i hs
      cases er
      obtain ⟨b1, b2⟩ := small_of hs
      obtain ⟨t, rfl⟩ := rx
      refine call_range_1 (range_it I1 (by omega) (by omega) b1 b2 ?_)
      have := q _ (rng_it (c := c) (lo := 0) (hi := j))
      simpa using this
    · cases er
theorem ei_rng2 (hg : Gl X "range") (hm : X.mg "range" = none) (ha : Eo T X B W a eva) (hb : Eo T X B W b evb) (h1 : unstar a = true) (h2 : unstar b = true) :
    Ei T X B W tg (.Call (.Name "range" p) [a, b] [] pos) (fun t => (eva t).bind fun x t => (evb t).bind fun y t => rngE [x, y] t) := by
  refine ⟨fun pins s σ H Q I h => ?_⟩
  refine Call_ (ld_blt I hg hm boot_range (PyProof.Rows.callWith_type1 (args_cons (thn (two ha hb sh_It I h (f := fun v u => call (.type "range") [v, u]) fun v u s1 x y ox oy c hc I1 rx ry Z hx hy p => ?_) fun v s1 h1' => args_cons (thn h1' fun u s2 h2' => args_nil h2') (star_cons h2)) (star_cons h1)) (star_cons h1) (star_none (by simp [h2]))))
  subst hc
  obtain ⟨ds, l, vw, er, q⟩ := rng_end Z (.cons hx (.cons hy .nil)) p
  obtain ⟨d, ds, rfl, hv, r⟩ := vws_cons vw
  obtain ⟨d2, ds, rfl, hv2, r⟩ := vws_cons r
  cases vws_nil r
  unfold rngD at er
  split at er <;> first | (cases er; done) | (exfalso; rename_i e; simp at e; done) | skip
  · rename_i i j e
    cases e
    cases hv.int
    cases hv2.int
    split at er
    · rename_i hs
      cases er
      rw [Bool.and_eq_true] at hs
      obtain ⟨b1, b2⟩ := small_of hs.1
      obtain ⟨b3, b4⟩ := small_of hs.2
      obtain ⟨t, rfl⟩ := rx
      obtain ⟨t', rfl⟩ := ry
      exact call_range_2 (range_it I1 b1 b2 b3 b4 (q _ rng_it))
    · cases er
theorem ei_rng3 {c' : Expr} {evc : Mp.St → R Op} (hg : Gl X "range") (hm : X.mg "range" = none) (ha : Eo T X B W a eva) (hb : Eo T X B W b evb) (hc' : Eo T X B W c' evc) (h1 : unstar a = true) (h2 : unstar b = true) (h3 : unstar c' = true) :
    Ei T X B W tg (.Call (.Name "range" p) [a, b, c'] [] pos) (fun t => (eva t).bind fun x t => (evb t).bind fun y t => (evc t).bind fun z t => rngE [x, y, z] t) := by
  refine ⟨fun pins s σ H Q I h => ?_⟩
  refine Call_ (ld_blt I hg hm boot_range (PyProof.Rows.callWith_type1 (args_cons (thn (ha.run pins s σ H _ I (tG.bind (rel1 := relO X.K) sh_It h)) fun v s1 ⟨x, H1, I1, r1, q1⟩ => ?_) (star_cons h1)) (star_cons h1) (star_none (by simp [h2, h3]))))
  obtain ⟨ox, F1, t1, F, t, R1, e1, o1, p1⟩ := q1
  refine args_cons (thn (hb.run pins s1 σ H1 _ I1 ⟨F1, t1, R1, p1.bind (rel1 := relO X.K) sh_It⟩) fun u s2 ⟨y, H2, I2, r2, q2⟩ => ?_) (star_cons h2)
  obtain ⟨oy, F2, t2, R2, e2, o2, p2⟩ := q2
  refine args_cons (thn (hc'.run pins s2 σ H2 _ I2 ⟨F2, t2, R2, p2.bind (rel1 := relO X.K) sh_It⟩) fun w s3 ⟨z, H3, I3, r3, q3⟩ => args_nil ?_) (star_cons h3)
  obtain ⟨oz, F3, t3, R3, e3, o3, p3⟩ := q3
  obtain ⟨ds, l, vw, er, q⟩ := rng_end (c := ⟨F3, H3, t3, σ⟩) R3 (.cons (relO_mono o1 (e2.fsub.trans e3.fsub) rfl) (.cons (relO_mono o2 e3.fsub rfl) (.cons (relO_mono o3 (Sub.refl _) rfl) .nil))) p3
  obtain ⟨d, ds, rfl, hv, r⟩ := vws_cons vw
  obtain ⟨d2, ds, rfl, hv2, r⟩ := vws_cons r
  obtain ⟨d3, ds, rfl, hv3, r⟩ := vws_cons r
  cases vws_nil r
  unfold rngD at er
  split at er <;> first | (cases er; done) | (exfalso; rename_i e; simp at e; done) | skip
  · rename_i i j e
    cases e
    cases hv.int
    cases hv2.int
    cases hv3.int
    split at er
    · rename_i hs
      cases er
      rw [Bool.and_eq_true] at hs
      obtain ⟨b1, b2⟩ := small_of hs.1
      obtain ⟨b3, b4⟩ := small_of hs.2
      obtain ⟨t, rfl⟩ := r1
      obtain ⟨t', rfl⟩ := r2
      obtain ⟨t'', rfl⟩ := r3
      obtain ⟨c0, c1, c2, c3⟩ := RgC.neg b1 b2 b3 b4
      refine call_range_3 c0 ?_ (.inl (PyProof.noPylong_small c1))
      refine wpAny_pyIter_range (IsRange.new ..) c2 ?_
      have I2 : Inv X pins σ H3 { s3 with heap := s3.heap.push { cls := .type "range", data := .fields #[.int i t, .int j t', .int (-1) t''] } } := I3.kept (t' := s3.toks) fun b o e => Heap.get?_push_of_some _ e
      refine pi_one (tk := s3.toks) I2 _ (turn_rangeC _ i (-1) (i - j).toNat) ?_ (q _ (rng_ok walk_rangeC (by simp) fun k hk => ⟨.int (i - k), ?_, ?_⟩))
      · have e1 : i + ((0 : Nat) : Int) * (-1) = i := by simp
        have e2 : (((i - j).toNat : Nat) : Int) - ((0 : Nat) : Int) = Builtin.Range.rangeSize i j (-1) := by rw [c3]; simp
        show IsRangeIter _ _ (i + ((0 : Nat) : Int) * (-1)) ((((i - j).toNat : Nat) : Int) - ((0 : Nat) : Int)) (-1)
        rw [e1, e2]
        exact Heap.get?_push_size _ rfl
      · rw [List.getElem?_map, List.getElem?_range hk] <;> rfl
      · have : i + (k : Nat) * (-1) = i - k := by omega
        rw [this]; exact .int _
    · cases er
/-! ### zip, enumerate -/
theorem new_tup2 {c : Cf} {B' : Bs} (R : Rl T X B' c) {q : Addr} {x y : V} {d e : D} (hq : c.H q = none) (hx : Rp X.K c.F x d) (hy : Rp X.K c.F y e) :
    ∃ F', Rl T X B' ⟨F', upd c.H q (.tup [x, y]), c.t, c.σ⟩ ∧ Ext c ⟨F', upd c.H q (.tup [x, y]), c.t, c.σ⟩ ∧ Rp X.K F' (.ref q) (.tuple [d, e]) := by
  obtain ⟨F', R', x', r⟩ := (Res.tup (ds := [d, e]) hq (.cons hx (.cons hy .nil)) (by simp; decide)).fin R
  refine ⟨F', R', x', ?_⟩
  unfold relV flag at r
  rw [if_neg (by simp [isMut])] at r
  exact r
theorem zipD_get {a b : List D} {i : Nat} {x y : D} (h1 : a[i]? = some x) (h2 : b[i]? = some y) : (zipD a b)[i]? = some (.tuple [x, y]) := by
  unfold zipD
  rw [List.getElem?_map]
  have : (a.zip b)[i]? = some (x, y) := by
    rw [List.getElem?_zip_eq_some]
    exact ⟨h1, h2⟩
  rw [this] <;> rfl
theorem enumD_get {a : List D} {i : Nat} {x : D} (h1 : a[i]? = some x) : (enumD a)[i]? = some (.tuple [.int i, x]) := by
  unfold enumD
  rw [List.getElem?_mapIdx, h1] <;> rfl
theorem itp_ok {c : Cf} {w1 w2 : List D} {G1 G2 : Hp → Prop} {xs ys : List V} (g1 : SrcG T X c (w1, none) G1 xs) (g2 : SrcG T X c (w2, none) G2 ys) : IterOk T X c (Itp (min xs.length ys.length) (fun H => G1 H ∧ G2 H) xs ys) (zipD w1 w2, none) := fun B' c1 e1 e2 e3 el Z1 => by
  have l1 := g1.1.length
  have l2 := g2.1.length
  have en : (zipD w1 w2).length = min xs.length ys.length := by simp [zipD] at l1 l2 ⊢; omega
  refine ⟨fun H => G1 H ∧ G2 H, ?_, fun c2 x2 Z2 => ⟨g1.2 B' c1 e1 e2 e3 el Z1 c2 x2 Z2, g2.2 B' c1 e1 e2 e3 el Z1 c2 x2 Z2⟩⟩
  rw [en]
  refine ⟨fun i H hi g => ⟨hi, g⟩, fun H g => ⟨rfl, g⟩, fun i H x H' hi g y => ?_⟩
  obtain ⟨q, x1, y1, ex, hq, eh, hx, hy⟩ := y
  subst ex eh
  intro F t σ R sub
  obtain ⟨d, ed, rd⟩ := g1.1.getV hx
  obtain ⟨e, ee, re⟩ := g2.1.getV hy
  obtain ⟨F', R', x', r⟩ := new_tup2 (c := ⟨F, H, t, σ⟩) R hq (rd.mono (by rw [← e1]; exact sub)) (re.mono (by rw [← e1]; exact sub))
  exact ⟨F', R', x', _, zipD_get ed ee, r⟩
theorem ien_ok {c : Cf} {w : List D × Option Nat} {G : Hp → Prop} {xs : List V} (g : SrcG T X c w G xs) : IterOk T X c (Ien xs.length G xs) (enumD w.1, w.2) := fun B' c1 e1 e2 e3 el Z1 => by
  have l1 := g.1.length
  have en : (enumD w.1).length = xs.length := by simp [enumD]; omega
  refine ⟨G, ?_, fun c2 x2 Z2 => g.2 B' c1 e1 e2 e3 el Z1 c2 x2 Z2⟩
  dsimp only
  rw [en]
  refine ⟨fun i H hi g => ⟨hi, g⟩, fun H g => ⟨rfl, g⟩, fun i H x H' hi _ y => ?_⟩
  obtain ⟨q, x1, ex, hq, eh, hx⟩ := y
  subst ex eh
  intro F t σ R sub
  obtain ⟨d, ed, rd⟩ := g.1.getV hx
  obtain ⟨F', R', x', r⟩ := new_tup2 (c := ⟨F, H, t, σ⟩) R hq (.int (i : Nat)) (rd.mono (by rw [← e1]; exact sub))
  exact ⟨F', R', x', _, enumD_get ed, r⟩
theorem ienz_ok {c : Cf} {w1 w2 : List D} {G1 G2 : Hp → Prop} {xs ys : List V} (g1 : SrcG T X c (w1, none) G1 xs) (g2 : SrcG T X c (w2, none) G2 ys) : IterOk T X c (Ienz (min xs.length ys.length) (fun H => G1 H ∧ G2 H) xs ys) (enumD (zipD w1 w2), none) := fun B' c1 e1 e2 e3 el Z1 => by
  have l1 := g1.1.length
  have l2 := g2.1.length
  have en : (enumD (zipD w1 w2)).length = min xs.length ys.length := by simp [zipD, enumD] at l1 l2 ⊢; omega
  refine ⟨fun H => G1 H ∧ G2 H, ?_, fun c2 x2 Z2 => ⟨g1.2 B' c1 e1 e2 e3 el Z1 c2 x2 Z2, g2.2 B' c1 e1 e2 e3 el Z1 c2 x2 Z2⟩⟩
  rw [en]
  refine ⟨fun i H hi g => ⟨hi, g⟩, fun H g => ⟨rfl, g⟩, fun i H x H' hi g y => ?_⟩
  obtain ⟨q, q2, x1, y1, ex, hq2, hq, eh, hx, hy⟩ := y
  subst ex eh
  intro F t σ R sub
  obtain ⟨d, ed, rd⟩ := g1.1.getV hx
  obtain ⟨e, ee, re⟩ := g2.1.getV hy
  obtain ⟨F', R', x', r⟩ := new_tup2 (c := ⟨F, H, t, σ⟩) R hq2 (rd.mono (by rw [← e1]; exact sub)) (re.mono (by rw [← e1]; exact sub))
  obtain ⟨F'', R'', x'', r'⟩ := new_tup2 (c := ⟨F', _, t, σ⟩) R' hq (.int (i : Nat)) r
  exact ⟨F'', R'', x'.trans x'', _, enumD_get (zipD_get ed ee), r'⟩
theorem ei_enum {elts : List Expr} {kk : Nat} {tpos : Pos} (hg : Gl X "enumerate") (hm : X.mg "enumerate" = none) (ha : Eo T X B W a eva) (h1 : unstar a = true) :
    Ei T X B W (.Tuple elts kk tpos) (.Call (.Name "enumerate" p) [a] [] pos) (fun t => (eva t).bind fun x t => Mp.R.of ((walkOp x t).map fun w => (enumD w.1, w.2)) t) := by
  refine ⟨fun pins s σ H Q I h => ?_⟩
  refine Call_ (ld_blt I hg hm boot_enumerate (PyProof.Rows.callWith_type1 (args_cons (one ha sh_It I h fun v s1 x ox c hc I1 rx Z hx p => args_nil ?_) (star_cons h1)) (star_cons h1) rfl))
  subst hc
  obtain ⟨w', ew0, p⟩ := ofBind p
  obtain ⟨w, ew, e2⟩ := map_some2 ew0
  subst e2
  obtain ⟨l, cell, G, xs, o, Hc, Bg, hHc, hl, hS, hcell, hG⟩ := src_of Z I1 hx rx ew
  have q := p _ c.F c.H Z (Ext.refl _) (ien_ok hG)
  refine en_beginsB Bg hHc fun h' he hit hsz hk => wpAny_pyIter_enum he ?_
  have I2 : Inv X pins c.σ c.H { s1 with heap := h' } := I1.kept (t' := s1.toks) hk
  have nl : ∀ j : Nat, s1.heap.objs.size + j ∉ l := fun j z => absurd (hl _ z) (Nat.not_lt.mpr (Nat.le_add_right _ _))
  refine ⟨s1.heap.objs.size + 1, [s1.heap.objs.size + 1, s1.heap.objs.size], _, _, c.H, rfl, I2, turn_enumS (Nat.succ_ne_self _) (nl 1) (hS s1.heap.objs.size (nl 0)), ⟨⟨.none, he⟩, hcell _ _ hit⟩, fun b hb => ?_, q⟩
  have e' : b = s1.heap.objs.size + 1 ∨ b = s1.heap.objs.size := by simpa using hb
  have hle : s1.heap.objs.size ≤ b := by
    rcases e' with z | z
    · rw [z]; exact Nat.le_add_right _ _
    · rw [z]; exact Nat.le_refl _
  exact I1.fpOk hle (I1.hok.fresh hle)
theorem zip_end {c : Cf} {ox oy : Op} {Q : L2.It → Hp → Prop} {f : List D → List D} (p : Post T X B W (relIt T X) c (zipE f ox oy c.t) Q) : ∃ u w, walkOp ox c.t = some (u, none) ∧ walkOp oy c.t = some (w, none) ∧ Post T X B W (relIt T X) c (.ok (f (zipD u w), none) c.t) Q := by
  obtain ⟨w', ew, p⟩ := ofBind p
  obtain ⟨u, eu, ew⟩ := bind_some2 ew
  obtain ⟨w, ew2, ew⟩ := bind_some2 ew
  split at ew
  · rename_i h
    cases ew
    obtain ⟨u1, u2⟩ := u
    obtain ⟨w1, w2⟩ := w
    obtain ⟨e1, e2⟩ := h
    dsimp only at e1 e2
    subst e1 e2
    exact ⟨u1, w1, eu, ew2, p⟩
  · cases ew
theorem fresh5 {pins : List (Addr × Obj)} {σ : Sg} {H : Hp} {s : Shared} (I : Inv X pins σ H s) {l : List Addr} (h : ∀ b ∈ l, s.heap.objs.size ≤ b) : ∀ b ∈ l, FpOk X pins H b := fun b hb => I.fpOk (h b hb) (I.hok.fresh (h b hb))
theorem ei_zip {elts : List Expr} {kk : Nat} {tpos : Pos} (hg : Gl X "zip") (hm : X.mg "zip" = none) (ha : Eo T X B W a eva) (hb : Eo T X B W b evb) (h1 : unstar a = true) (h2 : unstar b = true) :
    Ei T X B W (.Tuple elts kk tpos) (.Call (.Name "zip" p) [a, b] [] pos) (fun t => (eva t).bind fun x t => (evb t).bind fun y t => zipE id x y t) := by
  refine ⟨fun pins s σ H Q I h => ?_⟩
  refine Call_ (ld_blt I hg hm PyProof.Rows.boot_zip (PyProof.Rows.callWith_type1 (args_cons (thn (two ha hb sh_It I h (f := fun v u => call (.type "zip") [v, u]) fun v u s1 x y ox oy c hc I1 rx ry Z hx hy p => ?_) fun v s1 h1' => args_cons (thn h1' fun u s2 h2' => args_nil h2') (star_cons h2)) (star_cons h1)) (star_cons h1) (star_none (by simp [h2]))))
  subst hc
  obtain ⟨u1, w1, eu, ew, p⟩ := zip_end p
  obtain ⟨l1, cell1, G1, xs, o1, H1, Bg1, hH1, hl1, hS1, hcell1, hG1⟩ := src_of Z I1 hx rx eu
  obtain ⟨l2, cell2, G2, ys, o2, H2, Bg2, hH2, hl2, hS2, hcell2, hG2⟩ := src_of Z I1 hy ry ew
  have q := p _ c.F c.H Z (Ext.refl _) (itp_ok hG1 hG2)
  refine zip_begins2 Bg1 Bg2 hH1 hH2 fun h' hz hTI hTO g1 g2 hsz hk => wpAny_pyIter_zip hz ?_
  have I2 : Inv X pins c.σ c.H { s1 with heap := h' } := I1.kept (t' := s1.toks) hk
  have nl1 : ∀ j : Nat, s1.heap.objs.size + j ∉ l1 := fun j z => absurd (hl1 _ z) (Nat.not_lt.mpr (Nat.le_add_right _ _))
  have nl2 : ∀ j : Nat, s1.heap.objs.size + j ∉ l2 := fun j z => absurd (hl2 _ z) (Nat.not_lt.mpr (Nat.le_add_right _ _))
  refine ⟨s1.heap.objs.size + 4, [s1.heap.objs.size + 4, s1.heap.objs.size + 2, s1.heap.objs.size + 3, s1.heap.objs.size, s1.heap.objs.size + 1], _, _, c.H, rfl, I2, turn_pair (zip_sep2 hl1 hl2) (hS1 s1.heap.objs.size (nl1 0)) (hS2 (s1.heap.objs.size + 1) (nl2 1)), ⟨hz, hTI, ⟨_, _, hTO⟩, hcell1 _ _ g1, hcell2 _ _ g2⟩, fresh5 I1 fun b hb => ?_, q⟩
  have e' : b = s1.heap.objs.size + 4 ∨ b = s1.heap.objs.size + 2 ∨ b = s1.heap.objs.size + 3 ∨ b = s1.heap.objs.size ∨ b = s1.heap.objs.size + 1 := by simpa using hb
  rcases e' with z | z | z | z | z <;> rw [z]
  · exact Nat.le_add_right _ _
  · exact Nat.le_add_right _ _
  · exact Nat.le_add_right _ _
  · exact Nat.le_refl _
  · exact Nat.le_add_right _ _
theorem ei_enz {elts : List Expr} {kk : Nat} {tpos p2 pos2 : Pos} (hg0 : Gl X "enumerate") (hm0 : X.mg "enumerate" = none) (hg : Gl X "zip") (hm : X.mg "zip" = none) (ha : Eo T X B W a eva) (hb : Eo T X B W b evb) (h1 : unstar a = true) (h2 : unstar b = true) :
    Ei T X B W (.Tuple elts kk tpos) (.Call (.Name "enumerate" p2) [.Call (.Name "zip" p) [a, b] [] pos] [] pos2) (fun t => (eva t).bind fun x t => (evb t).bind fun y t => zipE enumD x y t) := by
  refine ⟨fun pins s σ H Q I h => ?_⟩
  refine Call_ (ld_blt I hg0 hm0 boot_enumerate (PyProof.Rows.callWith_type1 (args_cons ?_ rfl) rfl rfl))
  refine Call_ (ld_blt I hg hm PyProof.Rows.boot_zip (PyProof.Rows.callWith_type1 (args_cons (thn (two ha hb sh_It I h (f := fun v u => call (.type "zip") [v, u]) fun v u s1 x y ox oy c hc I1 rx ry Z hx hy p => ?_) fun v s1 h1' => args_cons (thn h1' fun u s2 h2' => args_nil h2') (star_cons h2)) (star_cons h1)) (star_cons h1) (star_none (by simp [h2]))))
  subst hc
  obtain ⟨u1, w1, eu, ew, p⟩ := zip_end p
  obtain ⟨l1, cell1, G1, xs, o1, H1, Bg1, hH1, hl1, hS1, hcell1, hG1⟩ := src_of Z I1 hx rx eu
  obtain ⟨l2, cell2, G2, ys, o2, H2, Bg2, hH2, hl2, hS2, hcell2, hG2⟩ := src_of Z I1 hy ry ew
  have q := p _ c.F c.H Z (Ext.refl _) (ienz_ok hG1 hG2)
  refine zip_begins2 Bg1 Bg2 hH1 hH2 fun h' hz hTI hTO g1 g2 hsz hk => args_nil ?_
  refine en_beginsZ (s := { s1 with heap := h' }) hz fun h2' he hsz2 hk2 => wpAny_pyIter_enum he ?_
  have I2 : Inv X pins c.σ c.H { s1 with heap := h2' } := I1.kept (t' := s1.toks) fun b o e => hk2 b o (hk b o e)
  have nl1 : ∀ j : Nat, s1.heap.objs.size + j ∉ l1 := fun j z => absurd (hl1 _ z) (Nat.not_lt.mpr (Nat.le_add_right _ _))
  have nl2 : ∀ j : Nat, s1.heap.objs.size + j ∉ l2 := fun j z => absurd (hl2 _ z) (Nat.not_lt.mpr (Nat.le_add_right _ _))
  have n5 : (Shared.heap { s1 with heap := h' }).objs.size = s1.heap.objs.size + 5 := hsz
  rw [n5] at he ⊢
  refine ⟨s1.heap.objs.size + 5, [s1.heap.objs.size + 5, s1.heap.objs.size + 4, s1.heap.objs.size + 2, s1.heap.objs.size + 3, s1.heap.objs.size, s1.heap.objs.size + 1], _, _, c.H, rfl, I2, turn_enz (zip_sep2 hl1 hl2) (fun hm => ?_) (hS1 s1.heap.objs.size (nl1 0)) (hS2 (s1.heap.objs.size + 1) (nl2 1)),
    ⟨⟨.none, he⟩, ⟨_, _, hk2 _ _ hz, .inl rfl⟩, hk2 _ _ hTI, ⟨_, _, hk2 _ _ hTO⟩, hcell1 _ _ (hk2 _ _ g1), hcell2 _ _ (hk2 _ _ g2)⟩, fresh5 I1 fun b hb => ?_, q⟩
  · simp only [List.mem_append, List.mem_cons] at hm
    have a1 := nl1 5
    have a2 := nl2 5
    rcases hm with (z | z | z | z | z) | z | z
    · exact absurd z (by show ¬ (s1.heap.objs.size + 5 : Nat) = s1.heap.objs.size + 4; omega)
    · exact absurd z (by show ¬ (s1.heap.objs.size + 5 : Nat) = s1.heap.objs.size + 2; omega)
    · exact absurd z (by show ¬ (s1.heap.objs.size + 5 : Nat) = s1.heap.objs.size + 3; omega)
    · exact absurd z (by show ¬ (s1.heap.objs.size + 5 : Nat) = s1.heap.objs.size; omega)
    · exact a1 z
    · exact absurd z (by show ¬ (s1.heap.objs.size + 5 : Nat) = s1.heap.objs.size + 1; omega)
    · exact a2 z
  · have e' : b = s1.heap.objs.size + 5 ∨ b = s1.heap.objs.size + 4 ∨ b = s1.heap.objs.size + 2 ∨ b = s1.heap.objs.size + 3 ∨ b = s1.heap.objs.size ∨ b = s1.heap.objs.size + 1 := by simpa using hb
    rcases e' with z | z | z | z | z | z <;> rw [z]
    · exact Nat.le_add_right _ _
    · exact Nat.le_add_right _ _
    · exact Nat.le_add_right _ _
    · exact Nat.le_add_right _ _
    · exact Nat.le_refl _
    · exact Nat.le_add_right _ _
end
end Mp

set_option maxHeartbeats 1000000
/-! Part 19: statements. -/
namespace Mp
open PySem PySem.Spec PyProof.Rows L2
/-- what is wanted behind a statement -/
def PostS (T : Tb) (X : Cx) (B : Bs) (W : WX) (c : Cf) (f : Fl) (D : Ends) : Prop := match f with
  | .nx t' => ∀ F' H' σ', Rl T X B ⟨F', H', t', σ'⟩ → Ext c ⟨F', H', t', σ'⟩ → D.nx σ' H'
  | .rt r t' => ∀ y F' H' σ', Rl T X B ⟨F', H', t', σ'⟩ → Ext c ⟨F', H', t', σ'⟩ → relV X.K c ⟨F', H', t', σ'⟩ y r → D.rt y H'
  | .bk t' => ∀ F' H' σ', Rl T X B ⟨F', H', t', σ'⟩ → Ext c ⟨F', H', t', σ'⟩ → D.bk σ' H'
  | .ct t' => ∀ F' H' σ', Rl T X B ⟨F', H', t', σ'⟩ → Ext c ⟨F', H', t', σ'⟩ → D.ct σ' H'
  | .rs x t' => ∀ cls dd F' H' σ', Rl T X B ⟨F', H', t', σ'⟩ → Ext c ⟨F', H', t', σ'⟩ → ExR T X.K F' x cls dd → W cls (some dd) σ' H'
  | .bad => False
def tS (T : Tb) (X : Cx) (B : Bs) (W : WX) (ev : Mp.St → Fl) : TS := fun D σ H => ∃ F t, Rl T X B ⟨F, H, t, σ⟩ ∧ PostS T X B W ⟨F, H, t, σ⟩ (ev t) D
abbrev Es1 (T : Tb) (X : Cx) (B : Bs) (W : WX) (s : Stmt) (ev : Mp.St → Fl) : Prop := PS X s (tS T X B W ev)
abbrev Ess (T : Tb) (X : Cx) (B : Bs) (W : WX) (s : List Stmt) (ev : Mp.St → Fl) : Prop := PSs X s (tS T X B W ev)
theorem relV_shift {K : PySem.W.Frag} {c c1 d : Cf} {v : V} {r : Rv} (e : Ext c c1) (h : relV K c1 d v r) : relV K c d v r := by
  unfold relV at h ⊢
  by_cases q : r.2 = true
  · rw [if_pos q] at h ⊢
    obtain ⟨p, e1, o, n, w⟩ := h
    exact ⟨p, e1, o, n, e.new w⟩
  · rw [if_neg q] at h ⊢; exact h
section
variable {T : Tb} {X : Cx} {B : Bs} {W : WX} {c c1 : Cf} {D : Ends} {α β : Type}
theorem PostS.shift {f : Fl} (e : Ext c c1) (h : PostS T X B W c f D) : PostS T X B W c1 f D := by
  cases f with
  | nx t' => exact fun F' H' σ' R x => h F' H' σ' R (e.trans x)
  | rt r t' => exact fun y F' H' σ' R x q => h y F' H' σ' R (e.trans x) (relV_shift e q)
  | bk t' => exact fun F' H' σ' R x => h F' H' σ' R (e.trans x)
  | ct t' => exact fun F' H' σ' R x => h F' H' σ' R (e.trans x)
  | rs x t' => exact fun cls dd F' H' σ' R x q => h cls dd F' H' σ' R (e.trans x) q
  | bad => exact h
/-- an evaluation, then what follows -/
theorem PostS.fl {rel : Cf → Cf → β → α → Prop} {r : R α} {k : α → Mp.St → Fl} (h : PostS T X B W c (r.fl k) D) :
    Post T X B W rel c r (fun b H1 => ∃ a F1 t1, Rl T X B ⟨F1, H1, t1, c.σ⟩ ∧ Ext c ⟨F1, H1, t1, c.σ⟩ ∧ rel c ⟨F1, H1, t1, c.σ⟩ b a ∧ PostS T X B W ⟨F1, H1, t1, c.σ⟩ (k a t1) D) := by
  cases r with
  | ok a t' => exact fun b F' H' R x q => ⟨a, F', t', R, x, q, h.shift x⟩
  | rs y t' => exact fun cls dd F' H' R x q => h cls dd F' H' c.σ R x q
  | bad => exact h
theorem PostS.fl0 {rel : Cf → Cf → β → α → Prop} {r : R α} {k : α → Mp.St → Fl} (h : PostS T X B W c (r.fl k) D) :
    Post T X B W rel c r (fun b H1 => ∃ a F1 t1, Rl T X B ⟨F1, H1, t1, c.σ⟩ ∧ Ext c ⟨F1, H1, t1, c.σ⟩ ∧ rel c ⟨F1, H1, t1, c.σ⟩ b a ∧ PostS T X B W c (k a t1) D) := by
  cases r with
  | ok a t' => exact fun b F' H' R x q => ⟨a, F', t', R, x, q, h⟩
  | rs y t' => exact fun cls dd F' H' R x q => h cls dd F' H' c.σ R x q
  | bad => exact h
theorem tS.fl {rel : Cf → Cf → β → α → Prop} {ev : Mp.St → R α} {k : α → Mp.St → Fl} {σ : Sg} {H : Hp} (h : tS T X B W (fun t => (ev t).fl k) D σ H) :
    tG T X B W rel ev σ H (fun b H1 => ∃ a F1 t1 F t, Rl T X B ⟨F1, H1, t1, σ⟩ ∧ Ext ⟨F, H, t, σ⟩ ⟨F1, H1, t1, σ⟩ ∧ rel ⟨F, H, t, σ⟩ ⟨F1, H1, t1, σ⟩ b a ∧ PostS T X B W ⟨F1, H1, t1, σ⟩ (k a t1) D) := by
  obtain ⟨F, t, R, p⟩ := h
  exact ⟨F, t, R, (PostS.fl (rel := rel) p).imp fun b H1 ⟨a, F1, t1, x⟩ => ⟨a, F1, t1, F, t, x⟩⟩
theorem ps_imp {s : Stmt} {t t' : TS} (h : PS X s t) (k : ∀ D σ H, t' D σ H → t D σ H) : PS X s t' := ⟨fun pins s σ H D I q => h.run pins s σ H D I (k D σ H q)⟩
theorem pss_imp {s : List Stmt} {t t' : TS} (h : PSs X s t) (k : ∀ D σ H, t' D σ H → t D σ H) : PSs X s t' := ⟨fun pins s σ H D I q => h.run pins s σ H D I (k D σ H q)⟩
/-! ### blocks -/
variable {st : Stmt} {rest : List Stmt} {ev ev' : Mp.St → Fl} {e : Expr} {pos : Pos}
theorem ss_nil : Ess T X B W [] Fl.nx := pss_imp pss_nil fun D σ H ⟨F, t, R, p⟩ => p F H σ R (Ext.refl _)
theorem ss_cons (h1 : Es1 T X B W st ev) (h2 : Ess T X B W rest ev') : Ess T X B W (st :: rest) (fun t => (ev t).seq ev') := by
  refine pss_imp (pss_cons h1 h2) fun D σ H ⟨F, t, R, p⟩ => ⟨F, t, R, ?_⟩
  dsimp only at p
  cases e : ev t with
  | nx t' =>
    rw [e] at p
    exact fun F' H' σ' R' x => ⟨F', t', R', PostS.shift (c := ⟨F, H, t, σ⟩) x p⟩
  | rt r t' => rw [e] at p; exact p
  | bk t' => rw [e] at p; exact p
  | ct t' => rw [e] at p; exact p
  | rs r t' => rw [e] at p; exact p
  | bad => rw [e] at p; exact p
theorem ss_bad : Es1 T X B W st (fun _ => .bad) := ps_imp ps_never fun D σ H ⟨F, t, R, p⟩ => p
theorem ss_pass : Es1 T X B W (.Pass pos) Fl.nx := ps_imp ps_pass fun D σ H ⟨F, t, R, p⟩ => p F H σ R (Ext.refl _)
theorem ss_brk : Es1 T X B W (.Break pos) Fl.bk := ps_imp ps_break fun D σ H ⟨F, t, R, p⟩ => p F H σ R (Ext.refl _)
theorem ss_cnt : Es1 T X B W (.Continue pos) Fl.ct := ps_imp ps_continue fun D σ H ⟨F, t, R, p⟩ => p F H σ R (Ext.refl _)
theorem ss_ret0 : Es1 T X B W (.Return none pos) (fun t => .rt (.none, false) t) := ps_imp ps_retN fun D σ H ⟨F, t, R, p⟩ => p .non F H σ R (Ext.refl _) (relV_old .non)
theorem ss_expr {ev : Mp.St → R Rv} (h : Ee T X B W e ev) (hs : swapsWith e none pos.line X.env = pure false) : Es1 T X B W (.Expr e pos) (fun t => (ev t).fl fun _ t => .nx t) := by
  refine ps_imp (ps_expr h hs) fun D σ H q => ?_
  obtain ⟨F, t, R, p⟩ := tS.fl (rel := relV X.K) q
  exact ⟨F, t, R, p.imp fun v H1 ⟨a, F1, t1, F0, t0, R1, x1, r1, p1⟩ => p1 F1 H1 σ R1 (Ext.refl _)⟩
theorem ss_ret {ev : Mp.St → R Rv} (h : Ee T X B W e ev) : Es1 T X B W (.Return (some e) pos) (fun t => (ev t).fl fun v t => .rt v t) := by
  refine ps_imp (ps_ret h) fun D σ H q => ?_
  obtain ⟨F, t, R, p⟩ := q
  refine ⟨F, t, R, ?_⟩
  dsimp only at p
  cases e : ev t with
  | ok a t' => rw [e] at p; exact fun b F' H' R' x r => p b F' H' σ R' x r
  | rs y t' => rw [e] at p; exact fun cls dd F' H' R' x r => p cls dd F' H' σ R' x r
  | bad => rw [e] at p; exact p
/-- a local list that the frame owns goes out -/
theorem ss_retv {i : Nat} {x : Str} {p : Pos} {ev : Mp.St → R Rv} (hN : X.N[i]? = some x) (hv : Vis X.env.scope x) (hd : (x == ("__debug__" : Str)) = false) (hcd : (x == ("__classdict__" : Str)) = false) (h : Ee T X B W (.Name x p) ev) : Es1 T X B W (.Return (some (.Name x p)) pos) (fun t => retE 0 (.var i) ev t) := by
  refine ⟨fun pins s σ H D I q => ?_⟩
  obtain ⟨F, t, R, q⟩ := id q
  dsimp only at q
  have other : (∀ d, t[i]? ≠ some (.ow d)) → wpAny (model X.prog X.w) X.A (exec (.Return (some (.Name x p)) pos) X.env) (SP X pins D) X.xe s := fun hn => by
    refine (ss_ret (pos := pos) h).run pins s σ H D I ⟨F, t, R, ?_⟩
    have e : retE 0 (.var i) ev t = (ev t).fl fun v t => .rt v t := by
      unfold retE
      dsimp only
      split
      · rename_i d e; exact absurd e (hn d)
      · rfl
    dsimp only
    rw [← e]; exact q
  cases e : t[i]? with
  | none => exact other fun d z => by rw [e] at z; cases z
  | some sl =>
    by_cases hsl : ∃ d, sl = .ow d
    · obtain ⟨d, rfl⟩ := hsl
      have er : retE 0 (.var i) ev t = .rt (d, true) (t.set i .un) := by unfold retE; dsimp only; rw [e]
      rw [er] at q
      obtain ⟨v, ev1, z⟩ := R.val e (by simp)
      obtain ⟨a, ea, ow⟩ := z
      cases ea
      refine (ps_ret (pos := pos) (pe_var (pos := p) hN hv hd hcd)).run pins s σ H D I ⟨.ref a, ev1, ?_⟩
      obtain ⟨R1, x1⟩ := R.drop i (o := none)
      refine q (.ref a) F H σ R1 x1 (relV_new ow (fun ⟨j, s', es, hs, ej⟩ => ?_) (.inr ⟨i, _, e, rfl, ev1⟩))
      by_cases hj : j = i
      · subst hj
        dsimp only at es
        rw [List.getElem?_set_self (List.getElem?_eq_some_iff.mp e).1] at es
        cases es; cases hs
      · dsimp only at es
        rw [List.getElem?_set_ne (Ne.symm hj)] at es
        exact hj (R.dis j i a ⟨s', es, hs, ej⟩ ⟨_, e, rfl, ev1⟩)
    · exact other fun d z => hsl ⟨d, by rw [e] at z; cases z; rfl⟩
theorem ss_if {cd : Expr} {a b : List Stmt} {ec : Mp.St → R Bool} {ea eb : Mp.St → Fl} (hc : Et T X B W cd ec) (ha : Ess T X B W a ea) (hb : Ess T X B W b eb) :
    Es1 T X B W (.If cd a b pos) (fun t => (ec t).fl fun k t => if k = true then ea t else eb t) := by
  refine ps_imp (ps_if hc ha hb) fun D σ H q => ?_
  obtain ⟨F, t, R, p⟩ := tS.fl (rel := relB) q
  refine ⟨F, t, R, p.imp fun k H1 ⟨k', F1, t1, F0, t0, R1, x1, r1, p1⟩ => ?_⟩
  have e : k = k' := r1
  subst e
  cases k with
  | true => exact ⟨F1, t1, R1, p1⟩
  | false => exact ⟨F1, t1, R1, p1⟩
/-! ### while -/
theorem ss_whl {cd : Expr} {body : List Stmt} {ec : Mp.St → R Bool} {eb : Mp.St → Fl} (hp : PassesOwn (model X.prog X.w) X.A X.env X.xe) (hc : Et T X B W cd ec) (hb : Ess T X B W body eb) :
    Es1 T X B W (.While cd body [] pos) (fun t => whlLoop ec eb wfuel t) := by
  refine ps_imp (ps_while hp hc hb) fun D σ H q => ?_
  obtain ⟨F, t, R, p⟩ := q
  refine ⟨fun m σ' H' => ∃ F' t', Rl T X B ⟨F', H', t', σ'⟩ ∧ Ext ⟨F, H, t, σ⟩ ⟨F', H', t', σ'⟩ ∧ PostS T X B W ⟨F, H, t, σ⟩ (whlLoop ec eb m t') D, ⟨wfuel, F, t, R, Ext.refl _, p⟩, ?_⟩
  rintro m σ1 H1 ⟨F1, t1, R1, x1, p1⟩
  cases m with
  | zero => exact p1.elim
  | succ n =>
    refine ⟨F1, t1, R1, ?_⟩
    unfold whlLoop at p1
    cases et : ec t1 with
    | bad => rw [et] at p1; exact p1.elim
    | rs y t2 => rw [et] at p1; exact fun cls dd F' H' R' x' e => p1 cls dd F' H' _ R' (x1.trans x') e
    | ok k t2 =>
      rw [et] at p1
      intro k' F2 H2 R2 x2 ek
      have ek' : k' = k := ek
      subst ek'
      cases k' with
      | false =>
        rw [Mp.R.fl_ok, if_neg Bool.false_ne_true] at p1
        exact p1 F2 H2 σ1 R2 (x1.trans x2)
      | true =>
        rw [Mp.R.fl_ok, if_pos rfl] at p1
        refine ⟨fun σ' H' => ∃ F' t', Rl T X B ⟨F', H', t', σ'⟩ ∧ Ext ⟨F, H, t, σ⟩ ⟨F', H', t', σ'⟩ ∧ PostS T X B W ⟨F, H, t, σ⟩ (whlLoop ec eb n t') D, fun σ' H' h => ⟨n, Nat.lt_succ_self n, h⟩, F2, t2, R2, ?_⟩
        have x12 := x1.trans x2
        cases eb2 : eb t2 with
        | bad => rw [eb2] at p1; exact p1.elim
        | nx t3 => rw [eb2] at p1; exact fun F' H' σ' R' x' => ⟨F', t3, R', x12.trans x', p1⟩
        | ct t3 => rw [eb2] at p1; exact fun F' H' σ' R' x' => ⟨F', t3, R', x12.trans x', p1⟩
        | bk t3 => rw [eb2] at p1; exact fun F' H' σ' R' x' => p1 F' H' σ' R' (x12.trans x')
        | rt r t3 => rw [eb2] at p1; exact fun y F' H' σ' R' x' q => p1 y F' H' σ' R' (x12.trans x') (relV_shift x12 q)
        | rs y t3 => rw [eb2] at p1; exact fun cls dd F' H' σ' R' x' q => p1 cls dd F' H' σ' R' (x12.trans x') q
/-! ### lending -/
/-- a list lent, and back -/
structure Lnt (T : Tb) (X : Cx) (B B' : Bs) (l : Option Nat) (c : Cf) (t1 : Mp.St) : Prop where
  r1 : Rl T X B' ⟨c.F, c.H, t1, c.σ⟩
  x1 : Ext c ⟨c.F, c.H, t1, c.σ⟩
  back : ∀ F' H' t' σ' t'', Rl T X B' ⟨F', H', t', σ'⟩ → Ext ⟨c.F, c.H, t1, c.σ⟩ ⟨F', H', t', σ'⟩ → unlend l c.t t' = some t'' → Rl T X B ⟨F', H', t'', σ'⟩ ∧ Ext c ⟨F', H', t'', σ'⟩ ∧ ∀ a, Cf.Hd ⟨F', H', t'', σ'⟩ a → Cf.Hd ⟨F', H', t', σ'⟩ a
theorem lend_ok {l : Option Nat} {t1 : Mp.St} (R : Rl T X B c) (h : lend l c.t = some t1) : ∃ B', Lnt T X B B' l c t1 := by
  cases l with
  | none =>
    unfold lend at h
    cases h
    exact ⟨B, R, Ext.refl _, fun F' H' t' σ' t'' R' x' e => by
      unfold unlend at e
      cases e
      exact ⟨R', x', fun a h => h⟩⟩
  | some k =>
    have key : ∀ (s s0 : Sl) (d : D) (a : Addr), c.t[k]? = some s0 → c.σ[k]? = some (some (.ref a)) → Own X.K c.F c.H a d → t1 = c.t.set k s → (s0 = .ow d ∧ s = .ln false d ∨ s0 = .bw d ∧ s = .ln true d ∧ a = B k) → ∃ B', Lnt T X B B' (some k) c t1 := fun s s0 d a e0 ev ow et hs => by
      subst et
      have hk : k < c.t.length := (List.getElem?_eq_some_iff.mp e0).1
      have h0 : isWr s0 = true := by rcases hs with ⟨rfl, _⟩ | ⟨rfl, _⟩ <;> rfl
      have hd0 : c.hd k a := ⟨s0, e0, isHd_of_wr h0, ev⟩
      have hs1 : isHd s = true ∧ isWr s = false := by rcases hs with ⟨_, rfl⟩ | ⟨_, rfl, _⟩ <;> exact ⟨rfl, rfl⟩
      have gs : (c.t.set k s)[k]? = some s := List.getElem?_set_self hk
      have gn : ∀ j, j ≠ k → (c.t.set k s)[j]? = c.t[j]? := fun j hj => List.getElem?_set_ne (Ne.symm hj)
      have hdiff : ∀ j b, Cf.hd ⟨c.F, c.H, c.t.set k s, c.σ⟩ j b ↔ c.hd j b := fun j b => by
        by_cases hj : j = k
        · subst hj
          constructor
          · rintro ⟨s', es, hs', ej⟩
            exact ⟨s0, e0, isHd_of_wr h0, ej⟩
          · rintro ⟨s', es, hs', ej⟩
            exact ⟨s, gs, hs1.1, ej⟩
        · exact hd_set hj fun _ _ => rfl
      refine ⟨fun j => if j = k then a else B j, ⟨R.sub, by simpa using R.len, fun j s' es => ?_, fun i j b h1 h2 => R.dis i j b ((hdiff i b).mp h1) ((hdiff j b).mp h2)⟩, ⟨Sub.refl _, fun _ _ q _ => q, fun _ _ q => .inl q, fun b ⟨j, q⟩ => ?_, fun b ⟨j, q⟩ => .inl ⟨j, (hdiff j b).mp q⟩⟩, fun F' H' t' σ' t'' R' x' e => ?_⟩
      · by_cases hj : j = k
        · subst hj
          dsimp only at es
          rw [gs] at es
          cases es
          show SlR T X _ c.F c.H j ((c.σ[j]?).getD none) s
          rw [ev]
          rcases hs with ⟨_, rfl⟩ | ⟨_, rfl, _⟩
          · exact ⟨a, rfl, by simp, ow⟩
          · exact ⟨a, rfl, by simp, ow⟩
        · dsimp only at es
          rw [gn j hj] at es
          have q := R.at_ j s' es
          show SlR T X _ c.F c.H j ((c.σ[j]?).getD none) s'
          cases s' with
          | un => trivial
          | fz d => exact q
          | ow d => exact q
          | bw d => obtain ⟨b, eb, hb, o⟩ := q; exact ⟨b, eb, (by show b = if j = k then a else B j; rw [if_neg hj]; exact hb), o⟩
          | bf d => obtain ⟨b, eb, hb, o⟩ := q; exact ⟨b, eb, (by show b = if j = k then a else B j; rw [if_neg hj]; exact hb), o⟩
          | ln bb d => obtain ⟨b, eb, hb, o⟩ := q; exact ⟨b, eb, (by show b = if j = k then a else B j; rw [if_neg hj]; exact hb), o⟩
          | ex y => exact q
      · by_cases hj : j = k
        · subst hj
          obtain ⟨s', es, hs', ej⟩ := q
          dsimp only at es
          rw [gs] at es
          cases es
          rw [hs1.2] at hs'; cases hs'
        · exact .inr ⟨j, (wr_set hj fun _ _ => rfl).mp q⟩
      · -- back
        have et' : ∃ s2, t'' = t'.set k s2 ∧ t'[k]? = some s ∧ (s2 = .ow d ∧ s = .ln false d ∨ s2 = .bw d ∧ s = .ln true d ∧ a = B k) := by
          unfold unlend at e
          dsimp only at e
          rw [e0] at e
          rcases hs with ⟨rfl, rfl⟩ | ⟨rfl, rfl, hb⟩
          · dsimp only at e
            split at e
            · rename_i q; cases e; exact ⟨_, rfl, q, .inl ⟨rfl, rfl⟩⟩
            · cases e
          · dsimp only at e
            split at e
            · rename_i q; cases e; exact ⟨_, rfl, q, .inr ⟨rfl, rfl, hb⟩⟩
            · cases e
        obtain ⟨s2, et2, ek, hs2⟩ := et'
        subst et2
        have hk' : k < t'.length := (List.getElem?_eq_some_iff.mp ek).1
        have gs' : (t'.set k s2)[k]? = some s2 := List.getElem?_set_self hk'
        have gn' : ∀ j, j ≠ k → (t'.set k s2)[j]? = t'[j]? := fun j hj => List.getElem?_set_ne (Ne.symm hj)
        obtain ⟨v, ev', q'⟩ := R'.val ek (by rcases hs2 with ⟨_, rfl⟩ | ⟨_, rfl, _⟩ <;> simp)
        have ea : v = .ref a ∧ Own X.K F' H' a d := by
          rcases hs2 with ⟨_, rfl⟩ | ⟨_, rfl, _⟩
          · obtain ⟨b, eb, hb, o⟩ := q'
            have hb' : b = if k = k then a else B k := hb
            rw [if_pos rfl] at hb'
            cases eb; subst hb'; exact ⟨rfl, o⟩
          · obtain ⟨b, eb, hb, o⟩ := q'
            have hb' : b = if k = k then a else B k := hb
            rw [if_pos rfl] at hb'
            cases eb; subst hb'; exact ⟨rfl, o⟩
        obtain ⟨rfl, ow'⟩ := ea
        have hs2h : isHd s2 = true := by rcases hs2 with ⟨rfl, _⟩ | ⟨rfl, _⟩ <;> rfl
        have hdiff' : ∀ j b, Cf.hd ⟨F', H', t'.set k s2, σ'⟩ j b ↔ Cf.hd ⟨F', H', t', σ'⟩ j b := fun j b => by
          by_cases hj : j = k
          · subst hj
            constructor
            · rintro ⟨s', es, hs', ej⟩
              exact ⟨s, ek, hs1.1, ej⟩
            · rintro ⟨s', es, hs', ej⟩
              exact ⟨s2, gs', hs2h, ej⟩
          · exact hd_set (c := ⟨F', H', t', σ'⟩) hj fun _ _ => rfl
        have wrb : ∀ b, Cf.Wr ⟨c.F, c.H, c.t.set k s, c.σ⟩ b → c.Wr b := fun b ⟨j, q⟩ => by
          by_cases hj : j = k
          · subst hj
            obtain ⟨s', es, hs', ej⟩ := q
            dsimp only at es
            rw [gs] at es
            cases es
            rw [hs1.2] at hs'; cases hs'
          · exact ⟨j, (wr_set hj fun _ _ => rfl).mp q⟩
        have newb : ∀ b, Cf.New ⟨c.F, c.H, c.t.set k s, c.σ⟩ b → c.New b := fun b q => by
          rcases q with q | q
          · exact .inl q
          · exact .inr (wrb b q)
        refine ⟨⟨R'.sub, by simpa using R'.len, fun j s' es => ?_, fun i j b h1 h2 => R'.dis i j b ((hdiff' i b).mp h1) ((hdiff' j b).mp h2)⟩,
          ⟨x'.fsub, fun b o q n => x'.keep b o q fun w => n (wrb b w), fun b o q => ?_, fun b ⟨j, q⟩ => ?_, fun b ⟨j, q⟩ => ?_⟩, fun b ⟨j, q⟩ => ⟨j, (hdiff' j b).mp q⟩⟩
        · by_cases hj : j = k
          · subst hj
            dsimp only at es
            rw [gs'] at es
            cases es
            show SlR T X B F' H' j ((σ'[j]?).getD none) s2
            rw [ev']
            rcases hs2 with ⟨rfl, _⟩ | ⟨rfl, _, hb⟩
            · exact ⟨a, rfl, ow'⟩
            · exact ⟨a, rfl, hb, ow'⟩
          · dsimp only at es
            rw [gn' j hj] at es
            have q := R'.at_ j s' es
            show SlR T X B F' H' j ((σ'[j]?).getD none) s'
            cases s' with
            | un => trivial
            | fz d => exact q
            | ow d => exact q
            | bw d => obtain ⟨b, eb, hb, o⟩ := q; exact ⟨b, eb, (by have hb' : b = if j = k then a else B j := hb; rw [if_neg hj] at hb'; exact hb'), o⟩
            | bf d => obtain ⟨b, eb, hb, o⟩ := q; exact ⟨b, eb, (by have hb' : b = if j = k then a else B j := hb; rw [if_neg hj] at hb'; exact hb'), o⟩
            | ln bb d => obtain ⟨b, eb, hb, o⟩ := q; exact ⟨b, eb, (by have hb' : b = if j = k then a else B j := hb; rw [if_neg hj] at hb'; exact hb'), o⟩
            | ex y => exact q
        · rcases x'.fnew b o q with z | z
          · exact .inl z
          · exact .inr (newb b z)
        · by_cases hj : j = k
          · subst hj
            obtain ⟨s', es, hs', ej⟩ := q
            rw [show σ'[j]? = some (some (.ref b)) from ej] at ev'
            cases ev'
            exact .inr ⟨j, s0, e0, h0, ev⟩
          · have q' := (wr_set (c := ⟨F', H', t', σ'⟩) hj fun _ _ => rfl).mp q
            exact newb b (x'.wr b ⟨j, q'⟩)
        · rcases x'.hd b ⟨j, (hdiff' j b).mp q⟩ with ⟨j', z⟩ | z
          · exact .inl ⟨j', (hdiff j' b).mp z⟩
          · exact .inr z
    unfold lend at h
    dsimp only at h
    split at h
    · rename_i d e0
      cases h
      obtain ⟨v, ev, q⟩ := R.val e0 (by simp)
      obtain ⟨a, ea, ow⟩ := q
      cases ea
      exact key _ _ d a e0 ev ow rfl (.inl ⟨rfl, rfl⟩)
    · rename_i d e0
      cases h
      obtain ⟨v, ev, q⟩ := R.val e0 (by simp)
      obtain ⟨a, ea, hb, ow⟩ := q
      cases ea
      exact key _ _ d a e0 ev ow rfl (.inr ⟨rfl, rfl, hb⟩)
    · rename_i b d e0
      cases h
      exact ⟨B, R, Ext.refl _, fun F' H' t' σ' t'' R' x' e => by
        unfold unlend at e
        dsimp only at e
        rw [e0] at e
        dsimp only at e
        split at e
        · cases e; exact ⟨R', x', fun a h => h⟩
        · cases e⟩
    · cases h
/-- behind a loop -/
theorem PostS.unlend {B' : Bs} {l : Option Nat} {t1 : Mp.St} {f : Fl} (L : Lnt T X B B' l c t1) (h : PostS T X B W c (unlendF l c.t f) D) : PostS T X B' W ⟨c.F, c.H, t1, c.σ⟩ f D := by
  cases f with
  | nx t' =>
    intro F' H' σ' R' x'
    unfold unlendF at h
    dsimp only at h
    cases e : Mp.unlend l c.t t' with
    | none => rw [e] at h; exact h.elim
    | some t'' =>
      rw [e] at h
      obtain ⟨R2, x2, _⟩ := L.back F' H' t' σ' t'' R' x' e
      exact h F' H' σ' R2 x2
  | rt r t' =>
    intro y F' H' σ' R' x' q
    unfold unlendF at h
    dsimp only at h
    cases e : Mp.unlend l c.t t' with
    | none => rw [e] at h; exact h.elim
    | some t'' =>
      rw [e] at h
      obtain ⟨R2, x2, hh⟩ := L.back F' H' t' σ' t'' R' x' e
      refine h y F' H' σ' R2 x2 ?_
      have q2 := relV_shift L.x1 q
      unfold relV at q2 ⊢
      by_cases z : r.2 = true
      · rw [if_pos z] at q2 ⊢
        obtain ⟨p, e1, o, n, w⟩ := q2
        exact ⟨p, e1, o, fun y => n (hh p y), w⟩
      · rw [if_neg z] at q2 ⊢; exact q2
  | rs y t' =>
    intro cls dd F' H' σ' R' x' q
    unfold unlendF at h
    dsimp only at h
    cases e : Mp.unlend l c.t t' with
    | none => rw [e] at h; exact h.elim
    | some t'' =>
      rw [e] at h
      obtain ⟨R2, x2, hh⟩ := L.back F' H' t' σ' t'' R' x' e
      exact h cls dd F' H' σ' R2 x2 q
  | bk t' => exact h.elim
  | ct t' => exact h.elim
  | bad => exact h.elim
end
end Mp

set_option maxHeartbeats 1000000
/-! Part 20: targets, assignments, for. -/
namespace Mp
open PySem PySem.Spec PyProof.Rows L2
mutual
/-- the slots of a target -/
def tgIx : Tg → List Nat
  | .nm i => [i]
  | .tp ts => tgIxs ts
def tgIxs : List Tg → List Nat
  | [] => []
  | g :: gs => tgIx g ++ tgIxs gs
end
section
variable {T : Tb} {X : Cx} {B : Bs} {W : WX} {c : Cf} {pos : Pos}
/-- what a target does -/
def gG (T : Tb) (X : Cx) (B : Bs) (g : Tg) : TG := fun v σ H Q => ∃ F t d t', Rl T X B ⟨F, H, t, σ⟩ ∧ Rp X.K F v d ∧ asgT g d t = some t' ∧
  ∀ σ', Rl T X B ⟨F, H, t', σ'⟩ → Ext ⟨F, H, t, σ⟩ ⟨F, H, t', σ'⟩ → (∀ j, j ∉ tgIx g → σ'[j]? = σ[j]?) → σ'.length = σ.length → Q σ' H
def gGs (T : Tb) (X : Cx) (B : Bs) (gs : List Tg) : TGs := fun vs σ H Q => ∃ F t ds t', Rl T X B ⟨F, H, t, σ⟩ ∧ Rps X.K F vs ds ∧ asgTs gs ds t = some t' ∧
  ∀ σ', Rl T X B ⟨F, H, t', σ'⟩ → Ext ⟨F, H, t, σ⟩ ⟨F, H, t', σ'⟩ → (∀ j, j ∉ tgIxs gs → σ'[j]? = σ[j]?) → σ'.length = σ.length → Q σ' H
theorem pg_imp {tg : Expr} {t t' : TG} (h : PG X tg t) (k : ∀ v σ H Q, t' v σ H Q → t v σ H Q) : PG X tg t' := ⟨fun pins s σ H v u Q I r q => h.run pins s σ H v u Q I r (k v σ H Q q)⟩
theorem pgs_imp {tg : List Expr} {t t' : TGs} (h : PGs X tg t) (k : ∀ v σ H Q, t' v σ H Q → t v σ H Q) : PGs X tg t' := ⟨fun pins s σ H v u Q I r q => h.run pins s σ H v u Q I r (k v σ H Q q)⟩
theorem gg_name {i : Nat} {x : Str} (hN : X.N.Nodup) (hi : X.N[i]? = some x) (hx : Loc X.env.scope x) (hf : X.fn x = true ∨ X.env.scope.names.lookup x = some .local) : PG X (.Name x pos) (gG T X B (.nm i)) := by
  refine pg_imp (pg_name hN hi hx hf) fun v σ H Q q => ?_
  obtain ⟨F, t, d, t', R, rp, e, k⟩ := q
  have hs : ∃ s, t[i]? = some s ∧ t' = t.set i (.fz d) := by
    unfold asgT at e
    split at e <;> first | (cases e; done) | skip
    all_goals (rename_i z; cases e; exact ⟨_, z, rfl⟩)
  obtain ⟨s, es, et⟩ := hs
  subst et
  have hi2 : i < σ.length := R.lt (c := ⟨F, H, t, σ⟩) es
  obtain ⟨R1, x1⟩ := R.bind (c := ⟨F, H, t, σ⟩) (i := i) (s' := .fz d) (v := v) hi2 ⟨v, rfl, rp⟩ (fun a _ z => by cases z)
  exact k _ R1 x1 (fun j hj => List.getElem?_set_ne (fun z => hj (by simp [tgIx, z]))) (by simp)
theorem gg_nil : PGs X [] (gGs T X B []) := by
  refine pgs_imp pgs_nil fun vs σ H Q q => ?_
  obtain ⟨F, t, ds, t', R, rp, e, k⟩ := q
  cases ds with
  | nil => cases rp; unfold asgTs at e; cases e; exact ⟨rfl, k σ R (Ext.refl _) (fun _ _ => rfl) rfl⟩
  | cons d ds => unfold asgTs at e; cases e
theorem asgEach {e : Expr} {es : List Expr} {env : Env} (h : unstar e = true) : assignEach (e :: es) env = (false, assign e env) :: assignEach es env := by
  cases e <;> first | rfl | (simp [unstar] at h)
theorem gg_cons {e : Expr} {es : List Expr} {g : Tg} {gs : List Tg} (h1 : PG X e (gG T X B g)) (h2 : PGs X es (gGs T X B gs)) (hu : unstar e = true) : PGs X (e :: es) (gGs T X B (g :: gs)) := by
  refine pgs_imp (pgs_cons h1 h2 (by rw [asgEach hu]; rfl)) fun vs σ H Q q => ?_
  obtain ⟨F, t, ds, t', R, rp, e, k⟩ := q
  cases ds with
  | nil => unfold asgTs at e; cases e
  | cons d ds =>
    cases rp with
    | @cons v vs _ _ hv rr =>
      unfold asgTs at e
      obtain ⟨t1, e1, e2⟩ := bind_some2 e
      refine ⟨v, vs, rfl, F, t, d, t1, R, hv, e1, fun σ1 R1 x1 o1 l1 => ⟨F, t1, ds, t', R1, rr, e2, fun σ2 R2 x2 o2 l2 => k σ2 R2 (x1.trans x2) (fun j hj => ?_) (l2.trans l1)⟩⟩
      simp only [tgIxs, List.mem_append, not_or] at hj
      rw [o2 j hj.2, o1 j hj.1]
theorem asg_len : ∀ {gs : List Tg} {ds : List D} {t t' : Mp.St}, asgTs gs ds t = some t' → ds.length = gs.length
  | [], [], _, _, _ => rfl
  | [], _ :: _, _, _, e => by unfold asgTs at e; cases e
  | _ :: _, [], _, _, e => by unfold asgTs at e; cases e
  | g :: gs, d :: ds, t, t', e => by
    unfold asgTs at e
    obtain ⟨t1, e1, e2⟩ := bind_some2 e
    simp [asg_len e2]
theorem asgEach_len {env : Env} : ∀ {es : List Expr}, es.all unstar = true → (assignEach es env).length = es.length ∧ (assignEach es env).findIdx? (·.1) = none
  | [], _ => ⟨rfl, rfl⟩
  | e :: es, h => by
    rw [List.all_cons, Bool.and_eq_true] at h
    obtain ⟨h1, h2⟩ := asgEach_len (env := env) h.2
    rw [asgEach h.1]
    refine ⟨by simp [h1], ?_⟩
    rw [List.findIdx?_cons]
    simp [h2]
theorem gg_tup {es : List Expr} {k : Nat} {gs : List Tg} (hc : X.calm = true) (h : PGs X es (gGs T X B gs)) (hu : es.all unstar = true) (hl : gs.length = es.length) : PG X (.Tuple es k pos) (gG T X B (.tp gs)) := by
  refine pg_imp (pg_tup (n := es.length) hc h (asgEach_len hu).1 (asgEach_len hu).2) fun v σ H Q q => ?_
  obtain ⟨F, t, d, t', R, rp, e, k⟩ := q
  cases d <;> first | (unfold asgT at e; cases e; done) | skip
  rename_i ds
  unfold asgT at e
  cases rp with
  | @tup a xs _ hq rr zz => exact ⟨a, xs, rfl, R.sub.sqT hq, by rw [rr.length, asg_len e, hl], F, t, ds, t', R, rr, e, k⟩
/-! ### name = value -/
theorem bind_rv {c0 c1 : Cf} {i : Nat} {v : V} {r : Rv} (x : Ext c0 c1) (R : Rl T X B c1) (hi : i < c1.σ.length) (h : relV X.K c0 c1 v r) :
    Rl T X B ⟨c1.F, c1.H, c1.t.set i (if r.2 then .ow r.1 else .fz r.1), c1.σ.set i (some v)⟩ ∧ Ext c0 ⟨c1.F, c1.H, c1.t.set i (if r.2 then .ow r.1 else .fz r.1), c1.σ.set i (some v)⟩ := by
  unfold relV at h
  by_cases z : r.2 = true
  · rw [if_pos z] at h
    obtain ⟨q, eq, ow, nh, nw⟩ := h
    subst eq
    simp only [z, if_true]
    have ho : ∀ j, j ≠ i → (c1.σ.set i (some (.ref q)))[j]? = c1.σ[j]? := fun j hj => List.getElem?_set_ne (Ne.symm hj)
    have hs : (c1.σ.set i (some (V.ref q)))[i]? = some (some (.ref q)) := List.getElem?_set_self hi
    refine ⟨R.put (by simp) ho (Sub.refl _) R.sub (fun j b hj q => ⟨(R.held q).1, rfl⟩) (by rw [hs]; exact ⟨q, rfl, ow⟩) (fun b _ eb j hj hd => ?_),
      ⟨x.fsub, x.keep, x.fnew, fun b ⟨j, hw⟩ => ?_, fun b ⟨j, hh⟩ => ?_⟩⟩
    · rw [hs] at eb; cases eb
      exact nh ⟨j, hd⟩
    · by_cases hj : j = i
      · subst hj
        obtain ⟨_, eb⟩ := wr_at hw
        rw [hs] at eb; cases eb
        exact nw
      · exact x.wr b ⟨j, (wr_set hj ho).mp hw⟩
    · by_cases hj : j = i
      · subst hj
        obtain ⟨_, eb⟩ := hd_at hh
        rw [hs] at eb; cases eb
        rcases nw with nw | nw
        · exact .inr nw
        · exact .inl (Cf.Wr_Hd nw)
      · exact x.hd b ⟨j, (hd_set hj ho).mp hh⟩
  · rw [if_neg z] at h
    have z' : r.2 = false := by simpa using z
    simp only [z', Bool.false_eq_true, if_false]
    obtain ⟨R2, x2⟩ := R.bind (i := i) (s' := .fz r.1) (v := v) hi ⟨v, rfl, h⟩ (fun _ _ z => by cases z)
    exact ⟨R2, x.trans x2⟩
theorem asgN_some {i : Nat} {a : Rv} {t1 t2 : Mp.St} (e : asgN i a t1 = some t2) : ∃ s, t1[i]? = some s ∧ t2 = t1.set i (if a.2 then .ow a.1 else .fz a.1) := by
  unfold asgN at e
  split at e <;> first | (cases e; done) | skip
  all_goals (rename_i z; cases e; exact ⟨_, z, rfl⟩)
/-- what a name's binding does with a value that has come -/
theorem asgN_post {i : Nat} {v : V} {H1 : Hp} {D : Ends} (q : ∃ a F1 t1, Rl T X B ⟨F1, H1, t1, c.σ⟩ ∧ Ext c ⟨F1, H1, t1, c.σ⟩ ∧ relV X.K c ⟨F1, H1, t1, c.σ⟩ v a ∧ PostS T X B W c (nxO (asgN i a t1)) D) : gName i v c.σ H1 D.nx := by
  obtain ⟨a, F1, t1, R1, x1, r1, p1⟩ := q
  cases e : asgN i a t1 with
  | none => rw [e] at p1; exact p1.elim
  | some t2 =>
    rw [e] at p1
    obtain ⟨s, es, et⟩ := asgN_some e
    subst et
    obtain ⟨R2, x2⟩ := bind_rv (i := i) x1 R1 (R1.lt (c := ⟨F1, H1, t1, c.σ⟩) es) r1
    exact p1 F1 H1 _ R2 x2
theorem ss_set {i : Nat} {x : Str} {e : Expr} {ev : Mp.St → R Rv} {pos' : Pos} (hN : X.N.Nodup) (hi : X.N[i]? = some x) (hx : Loc X.env.scope x) (hf : X.fn x = true ∨ X.env.scope.names.lookup x = some .local) (he : Ee T X B W e ev) (hs : swapsWith e (some (.Name x pos')) pos.line X.env = pure false) :
    Es1 T X B W (.Assign [.Name x pos'] e pos) (fun t => (ev t).fl fun v t => nxO (asgN i v t)) := by
  refine ps_imp (ps_set hN hi hx he hs hf) fun D σ H q => ?_
  obtain ⟨F, t, R, p⟩ := q
  exact ⟨F, t, R, (PostS.fl0 (rel := relV X.K) p).imp fun v H1 q => asgN_post (c := ⟨F, H, t, σ⟩) q⟩
theorem ip_augD {op : Bop} {o : Operator} (h : (op = .add ∧ o = .Add) ∨ (op = .sub ∧ o = .Sub)) {pins : List (Addr × Obj)} {s : Shared} {σ : Sg} {F H : Hp} {x y : V} {v u : Value} {dx dy d : D} {Q : VK} (I : Inv X pins σ H s) (rx : RelV x v) (ry : RelV y u) (vx : Vw X.K F H x dx) (vy : Vw X.K F H y dy) (e : augD op dx dy = some d) (q : ∀ z, Rp X.K F z d → Q z H) :
    wpAny (model X.prog X.w) X.A (inplaceOp o v u) (EP X pins σ Q) X.xe s := by
  unfold augD at e
  split at e
  · cases e
    cases vx.int
    cases vy.int
    rcases h with ⟨h1, rfl⟩ | ⟨h1, _⟩
    · exact ip_add pins s σ H _ _ v u Q I rx ry ⟨_, _, rfl, rfl, q _ (.int _)⟩
    · cases h1
  · cases e
    cases vx.int
    cases vy.int
    rcases h with ⟨h1, _⟩ | ⟨h1, rfl⟩
    · cases h1
    · exact ip_sub pins s σ H _ _ v u Q I rx ry ⟨_, _, rfl, rfl, q _ (.int _)⟩
  · cases e
theorem augD_int {op : Bop} {x y d : D} (h : augD op x y = some d) : ∃ a b : Int, x = .int a ∧ y = .int b ∧ ∃ c : Int, d = .int c := by
  unfold augD at h
  split at h
  · cases h; exact ⟨_, _, rfl, rfl, _, rfl⟩
  · cases h; exact ⟨_, _, rfl, rfl, _, rfl⟩
  · cases h
/-- x op= value -/
theorem ss_aug {i : Nat} {x : Str} {e : Expr} {ev : Mp.St → R Rv} {op : Bop} {o : Operator} {pos' : Pos} (hop : (op = .add ∧ o = .Add) ∨ (op = .sub ∧ o = .Sub)) (hN : X.N.Nodup) (hi : X.N[i]? = some x) (hx : Loc X.env.scope x) (hf : X.fn x = true ∨ X.env.scope.names.lookup x = some .local) (he : Ee T X B W e ev) :
    Es1 T X B W (.AugAssign (.Name x pos') o e pos) (augF i op ev) := by
  refine ps_imp (ps_aug hN hi hx (ef_sh he) (op := o) (ti := fun x y H Q => ∃ dx dy d F, Vw X.K F H x dx ∧ Vw X.K F H y dy ∧ augD op dx dy = some d ∧ ∀ z, Rp X.K F z d → Q z H) (fun pins s σ H x y v u Q I rx ry ⟨dx, dy, d, F, vx, vy, e, q⟩ => ip_augD hop I rx ry vx vy e q) hf) fun D σ H q => ?_
  obtain ⟨F, t, R, q⟩ := q
  have q : PostS T X B W ⟨F, H, t, σ⟩ ((Mp.R.of ((t[i]?).bind rdS) t).fl fun x t => (kSh ev t).fl fun v t => (Mp.R.of (augD op x v.1) t).fl fun d t => nxO (asgN i (d, false) t)) D := q
  cases es : (t[i]?).bind rdS with
  | none => rw [es] at q; exact q.elim
  | some dx =>
    rw [es] at q
    have q : PostS T X B W ⟨F, H, t, σ⟩ ((kSh ev t).fl fun v t => (Mp.R.of (augD op dx v.1) t).fl fun d t => nxO (asgN i (d, false) t)) D := q
    obtain ⟨s, e0, e1⟩ := Option.bind_eq_some_iff.mp es
    obtain ⟨x, ex, _⟩ := R.val (c := ⟨F, H, t, σ⟩) e0 (by rintro rfl; cases e1)
    have vx := R.rdOp (c := ⟨F, H, t, σ⟩) (c0 := ⟨F, H, t, σ⟩) (v := x) (o := .i i) (d := dx) ex es
    refine ⟨x, ex, F, t, R, (PostS.fl (rel := relF X.K) q).imp fun v H1 ⟨a, F1, t1, R1, x1, r1, p1⟩ => ?_⟩
    have r1' : Rp X.K F1 v a.1 := r1
    cases ea : augD op dx a.1 with
    | none => rw [ea] at p1; exact p1.elim
    | some d =>
      rw [ea] at p1
      have p1 : PostS T X B W ⟨F1, H1, t1, σ⟩ (nxO (asgN i (d, false) t1)) D := p1
      obtain ⟨k1, k2, h1, h2, k3, h3⟩ := augD_int ea
      subst h1; subst h3
      cases vx.int
      refine ⟨_, _, _, F1, .fz (.int k1), .fz r1', ea, fun z rz => ?_⟩
      cases en : asgN i (.int k3, false) t1 with
      | none => rw [en] at p1; exact p1.elim
      | some t2 =>
        rw [en] at p1
        obtain ⟨s, es, et⟩ := asgN_some en
        subst et
        obtain ⟨R2, x2⟩ := bind_rv (c0 := ⟨F1, H1, t1, σ⟩) (c1 := ⟨F1, H1, t1, σ⟩) (i := i) (Ext.refl _) R1 (R1.lt (c := ⟨F1, H1, t1, σ⟩) es) (relV_old rz)
        exact p1 F1 H1 _ R2 x2
/-! a, b = x, y -/
def setsG : List Nat → List V → Sg → Sg
  | i :: is, v :: vs, σ => setsG is vs (σ.set i (some v))
  | _, _, σ => σ
theorem parA_post {F H : Hp} : ∀ {is : List Nat} {ds : List D} {vs : List V} {t t' : Mp.St} {σ : Sg}, parA is ds t = some t' → Rps X.K F vs ds → Rl T X B ⟨F, H, t, σ⟩ → Rl T X B ⟨F, H, t', setsG is vs σ⟩ ∧ Ext ⟨F, H, t, σ⟩ ⟨F, H, t', setsG is vs σ⟩
  | [], [], vs, t, t', σ, h, r, R => by
    cases r
    cases h
    exact ⟨R, Ext.refl _⟩
  | i :: is, d :: ds, vs, t, t', σ, h, r, R => by
    cases r with
    | cons rv r =>
      rename_i v vs
      unfold parA at h
      obtain ⟨t1, e1, e2⟩ := Option.bind_eq_some_iff.mp h
      obtain ⟨s, es, et⟩ := asgN_some e1
      subst et
      obtain ⟨R2, x2⟩ := bind_rv (c0 := ⟨F, H, t, σ⟩) (c1 := ⟨F, H, t, σ⟩) (i := i) (Ext.refl _) R (R.lt (c := ⟨F, H, t, σ⟩) es) (relV_old rv)
      obtain ⟨R3, x3⟩ := parA_post e2 r R2
      exact ⟨R3, x2.trans x3⟩
  | [], _ :: _, _, _, _, _, h, _, _ => by cases h
  | _ :: _, [], _, _, _, _, h, _, _ => by cases h
theorem parA_len : ∀ {is : List Nat} {ds : List D} {t t' : Mp.St}, parA is ds t = some t' → ds.length = is.length
  | [], [], _, _, _ => rfl
  | i :: is, d :: ds, t, t', h => by
    unfold parA at h
    obtain ⟨t1, e1, e2⟩ := Option.bind_eq_some_iff.mp h
    rw [List.length_cons, List.length_cons, parA_len e2]
  | [], _ :: _, _, _, h => by cases h
  | _ :: _, [], _, _, h => by cases h
theorem ss_par2 {i j : Nat} {x y : Str} {a b : Expr} {evs : Mp.St → R (List D)} {px py pt : Pos} {kt k2 pt2} (hc : X.calm = true) (hN : X.N.Nodup) (hi : X.N[i]? = some x) (hj : X.N[j]? = some y) (hij : i ≠ j)
    (hx : X.env.scope.names.lookup x = some .local) (hy : X.env.scope.names.lookup y = some .local) (ha : PA X [a, b] (tG T X B W (relL X.K) evs))
    (hw : swappedStores [.Tuple [.Name x px, .Name y py] kt pt] (.Tuple [a, b] k2 pt2) X.env = pure (some [x, y]))
    (hs : swapsWithSole [.Tuple [.Name x px, .Name y py] kt pt] (.Tuple [a, b] k2 pt2) pos.line X.env = pure false) :
    Es1 T X B W (.Assign [.Tuple [.Name x px, .Name y py] kt pt] (.Tuple [a, b] k2 pt2) pos) (parF [i, j] evs) := by
  refine ps_imp (ps_par hc hN hi hj hij hx hy ha hw hs) fun D σ H q => ?_
  obtain ⟨F, t, R, p⟩ := tS.fl (rel := relL X.K) q
  refine ⟨F, t, R, p.imp fun vs H1 ⟨ds, F1, t1, F0, t0, R1, x1, r1, p1⟩ => ?_⟩
  have r1' : Rps X.K F1 vs ds := r1
  cases e : parA [i, j] ds t1 with
  | none => rw [e] at p1; exact p1.elim
  | some t2 =>
    rw [e] at p1
    have hl := parA_len e
    obtain ⟨R2, x2⟩ := parA_post (H := H1) e r1' R1
    have hv := r1'.length
    match vs, hv with
    | [v, w], _ => exact ⟨v, w, rfl, p1 F1 H1 _ R2 x2⟩
    | [], hv => exact absurd (hv.trans hl) (by simp)
    | [_], hv => exact absurd (hv.trans hl) (by simp)
    | _ :: _ :: _ :: _, hv => exact absurd (hv.trans hl) (by simp)
theorem ss_par3 {i j l : Nat} {x y z : Str} {a b c : Expr} {evs : Mp.St → R (List D)} {px py pz pt : Pos} {kt k2 pt2} (hc : X.calm = true) (hN : X.N.Nodup) (hi : X.N[i]? = some x) (hj : X.N[j]? = some y) (hl : X.N[l]? = some z) (hij : i ≠ j) (hil : i ≠ l) (hjl : j ≠ l)
    (hx : X.env.scope.names.lookup x = some .local) (hy : X.env.scope.names.lookup y = some .local) (hz : X.env.scope.names.lookup z = some .local) (ha : PA X [a, b, c] (tG T X B W (relL X.K) evs))
    (hw : swappedStores [.Tuple [.Name x px, .Name y py, .Name z pz] kt pt] (.Tuple [a, b, c] k2 pt2) X.env = pure (some [x, y, z]))
    (hs : swapsWithSole [.Tuple [.Name x px, .Name y py, .Name z pz] kt pt] (.Tuple [a, b, c] k2 pt2) pos.line X.env = pure false) :
    Es1 T X B W (.Assign [.Tuple [.Name x px, .Name y py, .Name z pz] kt pt] (.Tuple [a, b, c] k2 pt2) pos) (parF [i, j, l] evs) := by
  refine ps_imp (ps_par3 hc hN hi hj hl hij hil hjl hx hy hz ha hw hs) fun D σ H q => ?_
  obtain ⟨F, t, R, p⟩ := tS.fl (rel := relL X.K) q
  refine ⟨F, t, R, p.imp fun vs H1 ⟨ds, F1, t1, F0, t0, R1, x1, r1, p1⟩ => ?_⟩
  have r1' : Rps X.K F1 vs ds := r1
  cases e : parA [i, j, l] ds t1 with
  | none => rw [e] at p1; exact p1.elim
  | some t2 =>
    rw [e] at p1
    have hl := parA_len e
    obtain ⟨R2, x2⟩ := parA_post (H := H1) e r1' R1
    have hv := r1'.length
    match vs, hv with
    | [v, w, u], _ => exact ⟨v, w, u, rfl, p1 F1 H1 _ R2 x2⟩
    | [], hv => exact absurd (hv.trans hl) (by simp)
    | [_], hv => exact absurd (hv.trans hl) (by simp)
    | [_, _], hv => exact absurd (hv.trans hl) (by simp)
    | _ :: _ :: _ :: _ :: _, hv => exact absurd (hv.trans hl) (by simp)
/-- a, (b, c) = value -/
theorem ss_asg {tg e : Expr} {g : Tg} {ev : Mp.St → R Rv} (he : Ee T X B W e ev) (hg : PG X tg (gG T X B g)) (hu : unstar tg = true) (hs : swapsWithSole [tg] e pos.line X.env = pure false) (hw : swappedStores [tg] e X.env = pure none) :
    Es1 T X B W (.Assign [tg] e pos) (fun t => (kSh ev t).fl fun v t => nxO (asgT g v.1 t)) := by
  refine ps_imp (ps_asg (ef_sh he) hg hs hw (by rw [asgEach hu]; rfl)) fun D σ H q => ?_
  obtain ⟨F, t, R, p⟩ := tS.fl (rel := relF X.K) q
  refine ⟨F, t, R, p.imp fun v H1 ⟨a, F1, t1, F0, t0, R1, x1, r1, p1⟩ => ?_⟩
  cases e : asgT g a.1 t1 with
  | none => rw [e] at p1; exact p1.elim
  | some t2 =>
    rw [e] at p1
    exact ⟨F1, t1, a.1, t2, R1, r1, e, fun σ' R2 x2 _ _ => p1 F1 H1 σ' R2 x2⟩
theorem setE_some {i : Nat} {v : D} {y : Op} {t : Mp.St} (h : setE i v y t ≠ .bad) : ∃ l z j s s', t[i]? = some s ∧ rd y t = some (.int z) ∧ place l.length z = some j ∧ ((s = .ow (.list l) ∧ s' = .ow (.list (l.set j v))) ∨ (s = .bw (.list l) ∧ s' = .bw (.list (l.set j v)))) ∧ setE i v y t = .nx (t.set i s') := by
  unfold setE at h ⊢
  split at h
  · rename_i l z e1 e2
    split at h
    · rename_i j ej
      rw [e1, e2]
      exact ⟨l, z, j, _, _, rfl, rfl, ej, .inl ⟨rfl, rfl⟩, by simp only [ej]⟩
    · exact absurd rfl h
  · rename_i l z e1 e2
    split at h
    · rename_i j ej
      rw [e1, e2]
      exact ⟨l, z, j, _, _, rfl, rfl, ej, .inr ⟨rfl, rfl⟩, by simp only [ej]⟩
    · exact absurd rfl h
  · exact absurd rfl h
theorem ss_setI {i : Nat} {x : Str} {p tpos : Pos} {b e : Expr} {ev : Mp.St → R Rv} {evb : Mp.St → R Op} (hN : X.N[i]? = some x) (hv : Vis X.env.scope x) (hd : (x == ("__debug__" : Str)) = false) (hcd : (x == ("__classdict__" : Str)) = false) (he : Ee T X B W e ev) (hb : Eo T X B W b evb)
    (hs : swapsWithSole [.Subscript (.Name x p) b tpos] e pos.line X.env = pure false) (hw : swappedStores [.Subscript (.Name x p) b tpos] e X.env = pure none)
    (ha : ∀ v, assign (.Subscript (.Name x p) b tpos) X.env v = (do
      let ov ← holding [v] (eval (.Name x p) X.env)
      let iv ← holding [v, ov] (eval b X.env)
      standAt tpos
      holding [v, ov, iv] (setItem ov iv v)
      release [v, ov, iv] [])) :
    Es1 T X B W (.Assign [.Subscript (.Name x p) b tpos] e pos) (setF i ev evb) := by
  refine ps_imp (ps_asg (ef_sh he) (pg_sub (pe_var (pos := p) hN hv hd hcd) hb set_list ha) hs hw (by rw [asgEach rfl]; rfl)) fun D σ H q => ?_
  obtain ⟨F, t, R, q⟩ := tS.fl (rel := relF X.K) q
  refine ⟨F, t, R, q.imp fun v H1 ⟨a, F1, t1, F0, t0, R1, x1, r1, p1⟩ => ?_⟩
  have r1' : Rp X.K F1 v a.1 := r1
  cases el : isLs i t1 with
  | none => rw [el] at p1; exact p1.elim
  | some un =>
    rw [el] at p1
    obtain ⟨l0, s0, es0, hs0⟩ := isLs_some el
    obtain ⟨u, eu, _⟩ := R1.val (c := ⟨F1, H1, t1, σ⟩) es0 (by rcases hs0 with rfl | rfl <;> simp)
    refine ⟨u, eu, F1, t1, R1, (PostS.fl (rel := relO X.K) p1).imp fun y H2 ⟨oy, F2, t2, R2, x2, o2, p2⟩ => ?_⟩
    obtain ⟨l, z, j, s, s', es, ey, ej, hs2, ee⟩ := setE_some (fun e => by rw [e] at p2; exact p2.elim)
    rw [ee] at p2
    have hs0 : s = .ow (.list l) ∨ s = .bw (.list l) := by
      rcases hs2 with ⟨h, _⟩ | ⟨h, _⟩
      · exact .inl h
      · exact .inr h
    obtain ⟨q, xs, ev', hH, r, zz, hw, f, hbb⟩ := own_lst (c := ⟨F2, H2, t2, σ⟩) R2 es hs0
    have o2' : relO X.K ⟨F2, H2, t2, σ⟩ ⟨F2, H2, t2, σ⟩ y oy := relO_mono o2 (Sub.refl _) rfl
    have hy := (R2.rdOp (c := ⟨F2, H2, t2, σ⟩) o2' ey).int
    rw [show σ[i]? = some (some (.ref q)) from ev'] at eu
    cases eu
    obtain ⟨Z1, x3⟩ := Rl.relist (c := ⟨F2, H2, t2, σ⟩) (xs := xs.set j v) (l' := l.set j a.1) R2 es ev' f hbb hs2 (r.set (r1'.mono x2.fsub) j) (by simpa using zz)
    exact ⟨q, xs, z, j, rfl, hy, hH, by rw [r.length]; exact ej, p2 F2 _ σ Z1 x3⟩
/-! ### for -/
theorem forLoop_post {turn : D → Mp.St → Fl} {x : D} {xs : List D} {t : Mp.St} {D' : Ends} (h : PostS T X B W c (forLoop turn (x :: xs) t) D') :
    PostS T X B W c (turn x t) ⟨fun σ' H' => ∃ F' t', Rl T X B ⟨F', H', t', σ'⟩ ∧ Ext c ⟨F', H', t', σ'⟩ ∧ PostS T X B W c (forLoop turn xs t') D', D'.rt, D'.nx,
      fun σ' H' => ∃ F' t', Rl T X B ⟨F', H', t', σ'⟩ ∧ Ext c ⟨F', H', t', σ'⟩ ∧ PostS T X B W c (forLoop turn xs t') D'⟩ := by
  unfold forLoop at h
  cases e : turn x t with
  | nx t' => rw [e] at h; exact fun F' H' σ' R x => ⟨F', t', R, x, h⟩
  | ct t' => rw [e] at h; exact fun F' H' σ' R x => ⟨F', t', R, x, h⟩
  | bk t' => rw [e] at h; exact fun F' H' σ' R x => h F' H' σ' R x
  | rt r t' => rw [e] at h; exact h
  | rs r t' => rw [e] at h; exact h
  | bad => rw [e] at h; exact h
theorem drop_cons {α : Type} {l : List α} {i : Nat} {d : α} (h : l[i]? = some d) : l.drop i = d :: l.drop (i + 1) := by
  obtain ⟨hi, e⟩ := List.getElem?_eq_some_iff.mp h
  rw [← e, List.drop_eq_getElem_cons hi]
theorem ss_for {tg iter : Expr} {body : List Stmt} {g : Tg} {it : Mp.St → R (List D × Option Nat)} {eb : Mp.St → Fl} (hp : PassesOwn (model X.prog X.w) X.A X.env X.xe) (hc : X.calm = true) (hi : Ei T X B W tg iter it) (hg : ∀ B', PG X tg (gG T X B' g)) (hb : ∀ B', Ess T X B' W body eb)
    (hs : ∀ x, foldedSetIterable iter X.env x = pure x) : Es1 T X B W (.For tg iter body [] pos) (forE g it eb) := by
  have hg' : PG X tg (fun v σ H Q => ∃ B', gG T X B' g v σ H Q) := ⟨fun pins s σ H v u Q I r ⟨B', q⟩ => (hg B').run pins s σ H v u Q I r q⟩
  have hb' : PSs X body (fun D σ H => ∃ B', tS T X B' W eb D σ H) := ⟨fun pins s σ H D I ⟨B', q⟩ => (hb B').run pins s σ H D I q⟩
  refine ps_imp (ps_for hp hc hi hg' hb' hs) fun D σ H q => ?_
  obtain ⟨F, t, R, p⟩ := tS.fl (rel := relIt T X) q
  refine ⟨F, t, R, p.imp fun J H1 ⟨w, F1, t1, F0, t0, R1, x1, r1, p1⟩ => ?_⟩
  cases el : lend w.2 t1 with
  | none => rw [el] at p1; exact p1.elim
  | some t2 =>
    rw [el] at p1
    obtain ⟨B', L⟩ := lend_ok (c := ⟨F1, H1, t1, σ⟩) R1 el
    have p2 := PostS.unlend (c := ⟨F1, H1, t1, σ⟩) L p1
    obtain ⟨G, wk, hG⟩ := r1 B' ⟨F1, H1, t2, σ⟩ rfl rfl rfl el L.r1
    refine for_it (g := fun v σ H Q => ∃ B', gG T X B' g v σ H Q) (tb := fun D σ H => ∃ B', tS T X B' W eb D σ H) (D := D) (σ := σ) (H := H1) wk (fun i σ' H' => ∃ F' t', Rl T X B' ⟨F', H', t', σ'⟩ ∧ Ext ⟨F1, H1, t2, σ⟩ ⟨F', H', t', σ'⟩ ∧ PostS T X B' W ⟨F1, H1, t2, σ⟩ (forLoop (forT g eb) (w.1.drop i) t') D)
      ⟨F1, t2, L.r1, Ext.refl _, p2⟩ (fun i σ' H' _ ⟨F', t', R', x', _⟩ => hG ⟨F', H', t', σ'⟩ (.of x') R') (fun i x σ' H' H'' hi ⟨F', t', R', x', p'⟩ y => ?_) (fun σ' H' ⟨F', t', R', x', p'⟩ => ?_)
    · obtain ⟨F2, R2, x2, d, ed, rd⟩ := y F' t' σ' R' x'.fsub
      rw [drop_cons ed] at p'
      have p3 := forLoop_post p'
      unfold forT at p3
      cases ea : asgT g d t' with
      | none => rw [ea] at p3; exact p3.elim
      | some t3 =>
        rw [ea] at p3
        refine ⟨B', F2, t', d, t3, R2, rd, ea, fun σ2 R3 x3 _ _ => ⟨B', F2, t3, R3, ?_⟩⟩
        exact PostS.shift ((x'.trans x2).trans x3) p3
    · rw [List.drop_length] at p'
      exact p' F' H' σ' R' x'
end
end Mp

set_option maxHeartbeats 1000000
/-! Part 21: constants, calls, raise, __init__ of an exception. -/
namespace Mp
open PySem PySem.Spec PyProof.Rows L2
/-- a constant of the module -/
def GlOk (K : PySem.W.Frag) (mg : Str → Option Value) (n : Str) (d : D) : Prop := ∃ v u, mg n = some u ∧ RelV v u ∧ ∀ F, Rp K F v d
section
variable {P : Pr} {T : Tb} {X : Cx} {B : Bs} {W : WX} {c : Cf} {pos p : Pos} {e : Expr} {es : List Expr} {x : Str}
theorem ee_c0 {v : V} {d : D} {t : TE} (h : PE X e t) (k : ∀ σ H Q, (∀ H', H' = H → Q v H') → t σ H Q) (r : ∀ F, Rp X.K F v d) : Ee T X B W e (fun t => .ok (d, false) t) := by
  refine pe_imp h fun σ H Q q => ?_
  obtain ⟨F, t, R, p⟩ := q
  exact k σ H Q fun H' eh => by subst eh; exact p v F _ R (Ext.refl _) (relV_old (r F))
theorem ee_g {k : Nat} {d : D} (hg : Gl X x) (hd : (x == ("__debug__" : Str)) = false) (h : GlOk X.K X.mg x d) (hk : P.gl k = some d) : Ee T X B W (.Name x pos) (fun t => Mp.R.of ((P.gl k).map fun d => (d, false)) t) := by
  obtain ⟨v, u, hm, r, rp⟩ := h
  rw [hk]
  exact ee_c0 (pe_glob hg hm r hd) (fun σ H Q k => k H rfl) rp
/-! ### a call -/
theorem callN_len {n k : Nat} {f : Df} {t : Mp.St} (hf : P.df k = some f) (h : callN P n k t ≠ .bad) : t.length = f.np := by
  cases n with
  | zero => exact absurd rfl h
  | succ n =>
    unfold callN at h
    rw [hf] at h
    dsimp only at h
    split at h
    · assumption
    · exact absurd rfl h
theorem kCall_post {n k : Nat} {f : Df} {vs : List V} {os : List Op} {Q : VK} (hf : P.df k = some f) (R : Rl T X B c) (h : relOs X.K c c vs os)
    (p : Post T X B W (relV X.K) c ((Mp.R.of ((P.df k).bind fun f => passA f.keep os [] c.t) c.t).bind fun p _ => kFin p.2.1 p.2.2 (callN P n k p.1)) Q) : SpC T X.K f.np (callN P n k) vs c.H Q (WE W c.σ) := by
  rw [hf, Option.bind_some] at p
  obtain ⟨F, t, A, q⟩ := call_post (g := callN P n k) R h p
  refine ⟨?_, F, t, A, q⟩
  rw [A.len]
  exact callN_len hf fun e => by rw [e] at q; exact q.elim
theorem call_fin {m n k : Nat} {f : Df} {fd : FuncData} {ps : List Str} {pins : List (Addr × Obj)} {σ : Sg} {H : Hp} {Q : VK} {us : List Value} {s1 : Shared} (hf : P.df k = some f) (F : FnOk X.prog X.w X.K X.mg X.base (L2.CX X.prog X.w) m (T.fn k) fd ps (SpC T X.K f.np (callN P n k))) (hr : Room m X.A) (tk : Takes X W) (hb : Binds X.K fd ps [])
    (h : ∃ vs H1, Inv X pins σ H1 s1 ∧ Vals vs us ∧ ∃ a F1 t1 F t, Rl T X B ⟨F1, H1, t1, σ⟩ ∧ Ext ⟨F, H, t, σ⟩ ⟨F1, H1, t1, σ⟩ ∧ relOs X.K ⟨F, H, t, σ⟩ ⟨F1, H1, t1, σ⟩ vs a ∧ Post T X B W (relV X.K) ⟨F1, H1, t1, σ⟩ ((Mp.R.of ((P.df k).bind fun f => passA f.keep a [] t1) t1).bind fun p _ => kFin p.2.1 p.2.2 (callN P n k p.1)) Q) :
    wpAny (model X.prog X.w) X.A (call (.ref (T.fn k)) us) (EP X pins σ Q) X.xe s1 := by
  obtain ⟨vs, H1, I1, r, os, F1, t1, F0, t0, R1, x1, o1, p1⟩ := h
  exact run_fnS (E := WE W) F hr hb (passAt tk σ) I1 r (kCall_post (c := ⟨F1, H1, t1, σ⟩) hf R1 (relOs_self o1) p1)
theorem ee_call {m n k : Nat} {f : Df} {fd : FuncData} {ps : List Str} {evs : Mp.St → R (List Op)} (hf : P.df k = some f) (F : FnOk X.prog X.w X.K X.mg X.base (L2.CX X.prog X.w) m (T.fn k) fd ps (SpC T X.K f.np (callN P n k))) (hr : Room m X.A) (tk : Takes X W)
    (hg : Gl X x) (hm : X.mg x = some (.ref (T.fn k))) (hk : PySem.W.keepIn X.K (.ref (T.fn k)) = true) (hb : Binds X.K fd ps []) (hdb : (x == ("__debug__" : Str)) = false) (ha : PA X (e :: es) (tG T X B W (relOs X.K) evs)) (hst : (e :: es).all unstar = true) :
    Ee T X B W (.Call (.Name x p) (e :: es) [] pos) (kCall (P.df k) (callN P n k) evs) := by
  refine ⟨fun pins s σ H Q I h => ?_⟩
  refine wpAny_Call_Name_kw (ld_glob I hg hm ?_ hdb)
  have ha' := ha.run pos pins s σ H _ I (tG.bind (rel1 := relOs X.K) sh_V h)
  rw [List.all_cons, Bool.and_eq_true] at hst
  exact PySem.W.callWith_K (h₀ := X.base) I.ok.mod.kin hk (thn ha' fun us s1 q => ⟨let ⟨_, _, I1, _⟩ := q; I1.kIn, call_fin (P := P) (T := T) (B := B) (W := W) hf F hr tk hb q⟩) (star_cons hst.1) (star_none hst.2)
theorem ee_call0 {m n k : Nat} {f : Df} {fd : FuncData} {ps : List Str} (hf : P.df k = some f) (F : FnOk X.prog X.w X.K X.mg X.base (L2.CX X.prog X.w) m (T.fn k) fd ps (SpC T X.K f.np (callN P n k))) (hr : Room m X.A) (tk : Takes X W)
    (hg : Gl X x) (hm : X.mg x = some (.ref (T.fn k))) (hk : PySem.W.keepIn X.K (.ref (T.fn k)) = true) (hb : Binds X.K fd ps []) (hdb : (x == ("__debug__" : Str)) = false) :
    Ee T X B W (.Call (.Name x p) [] [] pos) (kCall (P.df k) (callN P n k) (fun t => .ok [] t)) := by
  refine ⟨fun pins s σ H Q I h => ?_⟩
  refine wpAny_Call_Name_kw (ld_glob I hg hm ?_ hdb)
  obtain ⟨F1, t1, R1, p1⟩ := h
  exact PySem.W.callWith_K0 I.kIn hk (call_fin (P := P) (T := T) (B := B) (W := W) (us := []) hf F hr tk hb ⟨[], H, I, .nil, [], F1, t1, F1, t1, R1, Ext.refl _, .nil, p1⟩)
/-! ### raise -/
/-- what an own exception's __init__ does: each field gets its argument -/
def SpI (C : Addr) (ns : List Str) : Sp := fun vs H Q E => ∃ a ys, vs = .ref a :: ys ∧ ys.length = ns.length ∧ H a = some (exo a C none) ∧
  ∀ d fs, H d = none → d ≠ a → (∀ (i : Nat) n y, ns[i]? = some n → ys[i]? = some y → fs.lookup n = some y) → Q .non (upd (upd H d (exd d fs)) a (exo a C (some d)))
theorem lookup_zip : ∀ {ns : List Nat} {ds : List D} {k : Nat} {d : D}, (ns.zip ds).lookup k = some d → ∃ i : Nat, ns[i]? = some k ∧ ds[i]? = some d
  | [], _, _, _, h => by simp at h
  | _ :: _, [], _, _, h => by simp at h
  | n :: ns, d0 :: ds, k, d, h => by
    rw [List.zip_cons_cons, List.lookup_cons] at h
    by_cases e : (k == n) = true
    · rw [e] at h
      cases h
      exact ⟨0, by simp at e; simp [e], rfl⟩
    · have e' : (k == n) = false := by simpa using e
      rw [e'] at h
      obtain ⟨i, h1, h2⟩ := lookup_zip h
      exact ⟨i + 1, by simpa using h1, by simpa using h2⟩
/-- a new object that no one changes -/
theorem Rl.newF {c : Cf} (R : Rl T X B c) {p : Addr} {o : HO} (hp : c.H p = none) : Rl T X B ⟨upd c.F p o, upd c.H p o, c.t, c.σ⟩ ∧ Ext c ⟨upd c.F p o, upd c.H p o, c.t, c.σ⟩ := by
  have f := R.FnoH hp
  have sub : Sub (upd c.F p o) (upd c.H p o) := fun b u q => by
    by_cases hb : b = p
    · subst hb; rw [upd_same] at q ⊢; exact q
    · rw [upd_ne hb] at q ⊢; exact R.sub b u q
  refine ⟨R.same (Sub.upd f) sub fun j b q => ?_, ⟨Sub.upd f, fun b u q _ => Sub.upd hp b u q, fun b u q => ?_, fun b q => .inr q, fun b q => .inl q⟩⟩
  · have nb : b ≠ p := fun z => R.notHd hp ⟨j, by rw [← z]; exact q⟩
    rw [upd_ne nb, upd_ne nb]
    exact ⟨(R.held q).1, rfl⟩
  · by_cases hb : b = p
    · subst hb; exact .inr (.inl hp)
    · rw [show (⟨upd c.F p o, upd c.H p o, c.t, c.σ⟩ : Cf).F = upd c.F p o from rfl, upd_ne hb] at q; exact .inl q
theorem upd_del' {H1 : Hp} {a d : Addr} {o o2 o3 u : HO} (hda : d ≠ a) (h : H1 a = none) : upd (del (upd (upd (upd H1 a o) d o2) a o3) a) d u = upd H1 d u := by
  funext b
  by_cases hb : b = d
  · rw [hb, upd_same, upd_same]
  · rw [upd_ne hb, upd_ne hb]
    by_cases hba : b = a
    · rw [hba, del_same, h]
    · rw [del_ne hba, upd_ne hba, upd_ne hb, upd_ne hba]
theorem ss_raise {k fk n : Nat} {fI : Addr} {fd : FuncData} {ps : List Str} {evs : Mp.St → R (List D)} {pos2 : Pos} (hc : X.calm = true) (tk : Takes X W) (O : OexC X.K (T.cl k)) (iC : PySem.W.findIn X.K (.ref (T.cl k)) "__init__" = some (some (.ref fI))) (tI : PySem.W.typeIn X.K (.ref fI) = some (.type "function"))
    (F : FnOk X.prog X.w X.K X.mg X.base (L2.CX X.prog X.w) n fI fd ps (SpI (T.cl k) ((P.fld k).map T.fld))) (hr : Room (n + 1) X.A) (hb : Binds X.K fd ps []) (hg : Gl X x) (hm : X.mg x = some (.ref (T.cl k))) (ha : PA X (e :: es) (tG T X B W (relL X.K) evs)) (hlen : (P.fld k).length ≤ 100)
    (hdb : (x == ("__debug__" : Str)) = false) (hst : (e :: es).all unstar = true) : Es1 T X B W (.Raise (some (.Call (.Name x p) (e :: es) [] pos)) none pos2) (raiseF P k evs) := by
  rw [List.all_cons, Bool.and_eq_true] at hst
  have mk := pmk_oex (x := x) (p := p) (pos := pos) O iC tI F hr hb .nil (fun pins σ H s e s' I c => passAt (W := fun _ _ _ _ => False) takes_none5 σ pins H s e s' I c) hg hm ha hdb (star_cons hst.1) (star_none hst.2)
  refine ps_imp (ps_raise hc tk mk) fun D σ H q => ?_
  obtain ⟨F0, t0, R0, q⟩ := tS.fl (rel := relL X.K) q
  refine ⟨F0, t0, R0, q.imp fun vs H1 ⟨ds, F1, t1, F2, t2, R1, x1, r1, p1⟩ => ?_⟩
  have r1' : Rps X.K F1 vs ds := r1
  cases em : mkEx (P.fld k) k ds with
  | none => rw [em] at p1; exact p1.elim
  | some y =>
    rw [em] at p1
    unfold mkEx at em
    split at em
    · rename_i hl
      cases em
      have hvl : vs.length = (P.fld k).length := by rw [r1'.length, hl]
      refine ⟨by omega, fun a ha0 => ⟨a, vs, by rw [List.append_nil], by rw [hvl, List.length_map], upd_same, fun d fs hd hda hfs => ⟨rfl, d, fs, upd_same, by rw [upd_ne hda, upd_same], ?_, ?_⟩⟩⟩
      · rw [upd_ne hda] at hd; exact hd
      · have hd1 : H1 d = none := by rw [upd_ne hda] at hd; exact hd
        rw [upd_del' hda ha0]
        obtain ⟨R3, x3⟩ := Rl.newF (c := ⟨F1, H1, t1, σ⟩) (o := .xd fs) R1 hd1
        refine p1 _ _ _ _ _ R3 x3 ⟨rfl, fs, upd_same, fun f d0 hlk => ?_⟩
        obtain ⟨i, h1, h2⟩ := lookup_zip hlk
        obtain ⟨v, hv, rv⟩ := r1'.get h2
        exact ⟨v, hfs i (T.fld f) v (by rw [List.getElem?_map, h1]; rfl) hv, rv.mono x3.fsub⟩
    · cases em
end
/-! ### the __init__ of an own exception -/
section
variable {K : PySem.W.Frag} {X : Cx} {C : Addr}
/-- a store self.f = p -/
structure StI (X : Cx) (C : Addr) (st : Stmt) (f : Str) (i : Nat) : Prop where
  ex : ∃ (s y : Str) (p p1 p2 pos : Pos), st = .Assign [.Attribute (.Name s p) f p1] (.Name y p2) pos ∧ X.N[0]? = some s ∧ X.N[i]? = some y ∧ Vis X.env.scope s ∧ Vis X.env.scope y ∧ (s == ("__debug__" : Str)) = false ∧ (s == ("__classdict__" : Str)) = false ∧ (y == ("__debug__" : Str)) = false ∧ (y == ("__classdict__" : Str)) = false ∧ PySem.W.findIn X.K (.ref C) f = some none
inductive StsI (X : Cx) (C : Addr) : List Stmt → List (Str × Nat) → Prop
  | nil : StsI X C [] []
  | cons {st : Stmt} {f : Str} {i : Nat} {r : List Stmt} {l : List (Str × Nat)} (h : StI X C st f i) (t : StsI X C r l) : StsI X C (st :: r) ((f, i) :: l)
/-- the fields behind the stores -/
def fldsI (σ : Sg) : List (Str × Nat) → List (Str × V) → List (Str × V)
  | [], fs => fs
  | (f, i) :: l, fs => fldsI σ l ((f, ((σ[i]?).bind id).getD .non) :: fs)
theorem fldsI_cons {σ : Sg} {f : Str} {i : Nat} {l : List (Str × Nat)} {fs : List (Str × V)} {y : V} (e : σ[i]? = some (some y)) : fldsI σ ((f, i) :: l) fs = fldsI σ l ((f, y) :: fs) := by
  show fldsI σ l ((f, ((σ[i]?).bind id).getD .non) :: fs) = _
  rw [e] <;> rfl
theorem sti_run {st : Stmt} {f : Str} {i : Nat} (O : OexC X.K C) (h : StI X C st f i) : PS X st (fun D σ H => ∃ a y, σ[0]? = some (some (.ref a)) ∧ σ[i]? = some (some y) ∧
    ((H a = some (exo a C none) ∧ ∀ dx, H dx = none → dx ≠ a → D.nx σ (upd (upd H dx (exd dx [(f, y)])) a (exo a C (some dx)))) ∨
    ∃ (dx : Addr) (fs : List (Str × V)), H a = some (exo a C (some dx)) ∧ H dx = some (exd dx fs) ∧ fs.length ≤ 900 ∧ D.nx σ (upd H dx (exd dx ((f, y) :: fs))))) := by
  obtain ⟨s, y0, p, p1, p2, pos, rfl, n0, ni, v0, vi, d1, d2, d3, d4, hf⟩ := h.ex
  refine ps_imp (ps_ost (f := f) (pe_var (pos := p) n0 v0 d1 d2) (pe_var (pos := p2) ni vi d3 d4)) fun D σ H ⟨a, y, e0, ei, q⟩ => ?_
  exact ⟨y, ei, .ref a, e0, a, C, rfl, O, hf, q⟩
theorem stsi_old (O : OexC X.K C) : ∀ {body : List Stmt} {l : List (Str × Nat)}, StsI X C body l → PSs X body (fun D σ H => ∃ a dx fs, σ[0]? = some (some (.ref a)) ∧ (∀ q ∈ l, ∃ y, σ[q.2]? = some (some y)) ∧ H a = some (exo a C (some dx)) ∧ H dx = some (exd dx fs) ∧ dx ≠ a ∧ fs.length + l.length ≤ 900 ∧
    D.nx σ (upd H dx (exd dx (fldsI σ l fs))))
  | _, _, .nil => pss_imp pss_nil fun D σ H ⟨a, dx, fs, e0, _, ea, ed, hda, _, q⟩ => by
    have e : upd H dx (exd dx (fldsI σ [] fs)) = H := by
      funext b
      by_cases hb : b = dx
      · subst hb; rw [upd_same, ed]; rfl
      · rw [upd_ne hb]
    rw [e] at q
    exact q
  | _, _, .cons (f := f) (i := i) (l := l) h t => by
    refine pss_imp (pss_cons (sti_run O h) (stsi_old O t)) fun D σ H ⟨a, dx, fs, e0, hv, ea, ed, hda, hl, q⟩ => ?_
    obtain ⟨y, ey⟩ := hv (f, i) List.mem_cons_self
    dsimp only at ey
    simp only [List.length_cons] at hl
    refine ⟨a, y, e0, ey, .inr ⟨dx, fs, ea, ed, by omega, a, dx, (f, y) :: fs, e0, fun q hq => hv q (List.mem_cons_of_mem _ hq), by rw [upd_ne (Ne.symm hda)]; exact ea, upd_same, hda, by simp only [List.length_cons]; omega, ?_⟩⟩
    have e : upd (upd H dx (exd dx ((f, y) :: fs))) dx (exd dx (fldsI σ l ((f, y) :: fs))) = upd H dx (exd dx (fldsI σ ((f, i) :: l) fs)) := by
      funext b
      by_cases hb : b = dx
      · subst hb
        rw [upd_same, upd_same, fldsI_cons ey]
      · rw [upd_ne hb, upd_ne hb, upd_ne hb]
    rw [e]
    exact q
theorem stsi_new (O : OexC X.K C) {body : List Stmt} {l : List (Str × Nat)} (h : StsI X C body l) (hl : l ≠ []) : PSs X body (fun D σ H => ∃ a, σ[0]? = some (some (.ref a)) ∧ (∀ q ∈ l, ∃ y, σ[q.2]? = some (some y)) ∧ H a = some (exo a C none) ∧ l.length ≤ 100 ∧
    ∀ d, H d = none → d ≠ a → D.nx σ (upd (upd H d (exd d (fldsI σ l []))) a (exo a C (some d)))) := by
  cases h with
  | nil => exact absurd rfl hl
  | @cons st f i r l h t =>
    refine pss_imp (pss_cons (sti_run O h) (stsi_old O t)) fun D σ H ⟨a, e0, hv, ea, hz, q⟩ => ?_
    obtain ⟨y, ey⟩ := hv (f, i) List.mem_cons_self
    dsimp only at ey
    simp only [List.length_cons] at hz
    refine ⟨a, y, e0, ey, .inl ⟨ea, fun d hd hda => ⟨a, d, [(f, y)], e0, fun q hq => hv q (List.mem_cons_of_mem _ hq), upd_same, by rw [upd_ne hda, upd_same], hda, by simp only [List.length_cons, List.length_nil]; omega, ?_⟩⟩⟩
    have e : upd (upd (upd H d (exd d [(f, y)])) a (exo a C (some d))) d (exd d (fldsI σ l [(f, y)])) = upd (upd H d (exd d (fldsI σ ((f, i) :: l) []))) a (exo a C (some d)) := by
      funext b
      by_cases hb : b = d
      · subst hb
        rw [upd_same, upd_ne hda, upd_same, fldsI_cons ey]
      · rw [upd_ne hb]
        by_cases hba : b = a
        · subst hba; rw [upd_same, upd_same]
        · rw [upd_ne hba, upd_ne hba, upd_ne hb, upd_ne hb]
    rw [e]
    exact q d hd hda
theorem fldsI_get {σ : Sg} : ∀ {l : List (Str × Nat)} {fs : List (Str × V)} {n : Str} {i : Nat} {y : V}, (l.map (·.1)).Nodup → (n, i) ∈ l → σ[i]? = some (some y) → (∀ m ∈ l.map (·.1), True) → (fldsI σ l fs).lookup n = some y
  | [], _, _, _, _, _, h, _, _ => by simp at h
  | (f, j) :: l, fs, n, i, y, nd, h, e, _ => by
    rw [List.map_cons, List.nodup_cons] at nd
    rcases List.mem_cons.mp h with z | z
    · cases z
      unfold fldsI
      rw [e]
      exact keep nd.1
    · show (fldsI σ l ((f, ((σ[j]?).bind id).getD .non) :: fs)).lookup n = some y
      exact fldsI_get nd.2 z e fun _ _ => trivial
where
  keep : ∀ {l : List (Str × Nat)} {fs : List (Str × V)} {n : Str} {y : V}, n ∉ l.map (·.1) → (fldsI σ l ((n, y) :: fs)).lookup n = some y
    | l, fs, n, y, h => keep2 (l := l) h (by simp)
  keep2 : ∀ {l : List (Str × Nat)} {fs : List (Str × V)} {n : Str} {y : V}, n ∉ l.map (·.1) → fs.lookup n = some y → (fldsI σ l fs).lookup n = some y
    | [], _, _, _, _, h => h
    | (f, j) :: l, fs, n, y, hn, h => by
      rw [List.map_cons, List.mem_cons, not_or] at hn
      unfold fldsI
      refine keep2 hn.2 ?_
      rw [List.lookup_cons, beq_eq_false_iff_ne.mpr hn.1]
      exact h
end
end Mp

set_option maxHeartbeats 1000000
/-! Part 22: comprehensions. -/
namespace Mp
open PySem PySem.Spec PyProof.Rows L2
section
variable {T : Tb} {X X' : Cx} {B : Bs} {W W' : WX} {c : Cf} {pos : Pos} {α β : Type}
/-- a state is told alike in another context over the same written part -/
theorem Rl.cx (hK : X'.K = X.K) (hc : X.calm = true) (R : Rl T X B c) : Rl T X' B c where
  sub := R.sub
  len := R.len
  at_ := fun i s e => by
    have q := R.at_ i s e
    cases s with
    | un => trivial
    | fz d => obtain ⟨v, e, r⟩ := q; exact ⟨v, e, by rw [hK]; exact r⟩
    | ow d => obtain ⟨v, e, r⟩ := q; exact ⟨v, e, by rw [hK]; exact r⟩
    | bw d => obtain ⟨v, e, b, r⟩ := q; exact ⟨v, e, b, by rw [hK]; exact r⟩
    | bf d => obtain ⟨v, e, b, r⟩ := q; exact ⟨v, e, b, by rw [hK]; exact r⟩
    | ln bb d => obtain ⟨v, e, b, r⟩ := q; exact ⟨v, e, b, by rw [hK]; exact r⟩
    | ex x => obtain ⟨v, e, hx, _⟩ := q; rw [hc] at hx; cases hx
  dis := R.dis
/-- what no exception leaves -/
abbrev Wno : WX := fun _ _ _ _ => False
theorem tG.cx {rel : Cf → Cf → β → α → Prop} {ev : Mp.St → R α} (hK : X'.K = X.K) (hc : X.calm = true) (hc' : X'.calm = true) {σ : Sg} {H : Hp} {Q : β → Hp → Prop} (h : tG T X B Wno rel ev σ H Q) : tG T X' B Wno rel ev σ H Q := by
  obtain ⟨F, t, R, p⟩ := h
  refine ⟨F, t, R.cx hK hc, ?_⟩
  cases e : ev t with
  | ok a t' => rw [e] at p; exact fun b F' H' R' x r => p b F' H' (R'.cx hK.symm hc') x r
  | rs y t' => rw [e] at p; exact fun cls dd F' H' R' x r => p cls dd F' H' (R'.cx hK.symm hc') x (by unfold ExR at r ⊢; rw [hK] at r; exact r)
  | bad => rw [e] at p; exact p
theorem gG.cx {g : Tg} (hK : X'.K = X.K) (hc : X.calm = true) (hc' : X'.calm = true) {v : V} {σ : Sg} {H : Hp} {Q : Sg → Hp → Prop} (h : gG T X B g v σ H Q) : gG T X' B g v σ H Q := by
  obtain ⟨F, t, d, t', R, rp, e, k⟩ := h
  exact ⟨F, t, d, t', R.cx hK hc, by rw [hK]; exact rp, e, fun σ' R' => k σ' (R'.cx hK.symm hc')⟩
/-! ### slots wiped, slots given back -/
theorem wipe_ok (R : Rl T X B c) : ∀ vs : List Nat, Rl T X B ⟨c.F, c.H, wipeS c.t vs, wipe c.σ vs⟩ ∧ Ext c ⟨c.F, c.H, wipeS c.t vs, wipe c.σ vs⟩
  | [] => ⟨R, Ext.refl _⟩
  | v :: vs => by
    obtain ⟨R1, x1⟩ := wipe_ok R vs
    obtain ⟨R2, x2⟩ := R1.dropV v (o := none)
    exact ⟨R2, x1.trans x2⟩
theorem wipeS_get {t : Mp.St} {j : Nat} : ∀ {vs : List Nat}, j ∉ vs → (wipeS t vs)[j]? = t[j]?
  | [], _ => rfl
  | v :: vs, h => by
    rw [List.mem_cons, not_or] at h
    show ((wipeS t vs).set v .un)[j]? = _
    rw [List.getElem?_set_ne (Ne.symm h.1), wipeS_get h.2]
theorem wipe_get {σ : Sg} {j : Nat} : ∀ {vs : List Nat}, j ∉ vs → (wipe σ vs)[j]? = σ[j]?
  | [], _ => rfl
  | v :: vs, h => by
    rw [List.mem_cons, not_or] at h
    show ((wipe σ vs).set v none)[j]? = _
    rw [List.getElem?_set_ne (Ne.symm h.1), wipe_get h.2]
theorem wipeS_in {t : Mp.St} {j : Nat} {s : Sl} : ∀ {vs : List Nat}, j ∈ vs → (wipeS t vs)[j]? = some s → s = .un
  | v :: vs, h, e => by
    have e' : ((wipeS t vs).set v .un)[j]? = some s := e
    by_cases hj : v = j
    · subst hj
      by_cases hl : v < (wipeS t vs).length
      · rw [List.getElem?_set_self hl] at e'; cases e'; rfl
      · rw [List.getElem?_eq_none (by simpa using hl)] at e'; cases e'
    · rw [List.getElem?_set_ne hj] at e'
      rcases List.mem_cons.mp h with z | z
      · exact absurd z.symm hj
      · exact wipeS_in z e'
theorem wipeS_len {t : Mp.St} : ∀ {vs : List Nat}, (wipeS t vs).length = t.length
  | [] => rfl
  | v :: vs => by show ((wipeS t vs).set v .un).length = _; rw [List.length_set, wipeS_len]
theorem restS_get {t t0 : Mp.St} {j : Nat} : ∀ {vs : List Nat}, j ∉ vs → (restS t t0 vs)[j]? = t[j]?
  | [], _ => rfl
  | v :: vs, h => by
    rw [List.mem_cons, not_or] at h
    show ((restS t t0 vs).set v _)[j]? = _
    rw [List.getElem?_set_ne (Ne.symm h.1), restS_get h.2]
theorem restS_len {t t0 : Mp.St} : ∀ {vs : List Nat}, (restS t t0 vs).length = t.length
  | [] => rfl
  | v :: vs => by show ((restS t t0 vs).set v _).length = _; rw [List.length_set, restS_len]
theorem restS_in {t t0 : Mp.St} {j : Nat} : ∀ {vs : List Nat}, j ∈ vs → j < t.length → (restS t t0 vs)[j]? = some (t0.getD j .un)
  | v :: vs, h, hl => by
    show ((restS t t0 vs).set v (t0.getD v .un))[j]? = _
    by_cases hj : v = j
    · subst hj
      rw [List.getElem?_set_self (by rw [restS_len]; exact hl)]
    · rw [List.getElem?_set_ne hj]
      rcases List.mem_cons.mp h with z | z
      · exact absurd z.symm hj
      · exact restS_in z hl
theorem wipe_eq {σ σ2 : Sg} {vs : List Nat} (h : ∀ j, j ∉ vs → σ2[j]? = (wipe σ vs)[j]?) (hl : σ2.length = (wipe σ vs).length) : wipe σ2 vs = wipe σ vs := by
  apply List.ext_getElem?
  intro j
  by_cases hj : j ∈ vs
  · have key : ∀ {σ : Sg} {vs : List Nat}, j ∈ vs → j < σ.length → (wipe σ vs)[j]? = some none := fun {σ vs} => by
      induction vs with
      | nil => intro h; simp at h
      | cons v vs ih =>
        intro h hl
        show ((wipe σ vs).set v none)[j]? = _
        by_cases hv : v = j
        · subst hv; rw [List.getElem?_set_self (by rw [wipe_length]; exact hl)]
        · rw [List.getElem?_set_ne hv]
          rcases List.mem_cons.mp h with z | z
          · exact absurd z.symm hv
          · exact ih z hl
    have l2 : σ2.length = σ.length := by rw [hl, wipe_length]
    by_cases hlt : j < σ.length
    · rw [key hj hlt, key hj (by omega)]
    · rw [List.getElem?_eq_none (by rw [wipe_length]; omega), List.getElem?_eq_none (by rw [wipe_length]; omega)]
  · rw [wipe_get hj, h j hj]
/-- the slots get back what they held -/
theorem rest_ok {c1 c' : Cf} {vs : List Nat} (R1 : Rl T X B c1) (hc : X.calm = true) (R' : Rl T X B c') (eσ : c'.σ = wipe c1.σ vs) (x : Ext ⟨c1.F, c1.H, wipeS c1.t vs, wipe c1.σ vs⟩ c') (hw : ∀ j ∈ vs, ∀ s, c'.t[j]? = some s → s = .un) :
    Rl T X B ⟨c'.F, c'.H, restS c'.t c1.t vs, c1.σ⟩ ∧ Ext c1 ⟨c'.F, c'.H, restS c'.t c1.t vs, c1.σ⟩ ∧ ∀ a, Cf.Hd ⟨c'.F, c'.H, restS c'.t c1.t vs, c1.σ⟩ a → c'.Hd a ∨ c1.Hd a := by
  have len1 : c'.t.length = c1.t.length := by rw [R'.len, eσ, wipe_length, R1.len]
  -- a slot of the new state
  have at1 : ∀ j s, (restS c'.t c1.t vs)[j]? = some s → (j ∉ vs ∧ c'.t[j]? = some s ∧ c'.σ[j]? = c1.σ[j]?) ∨ (j ∈ vs ∧ c1.t[j]? = some s) := fun j s e => by
    by_cases hj : j ∈ vs
    · have hlt : j < c'.t.length := by
        have := (List.getElem?_eq_some_iff.mp e).1
        rwa [restS_len] at this
      rw [restS_in hj hlt] at e
      cases e
      refine .inr ⟨hj, ?_⟩
      have hlt1 : j < c1.t.length := by omega
      rw [List.getD_eq_getElem?_getD, List.getElem?_eq_getElem hlt1] <;> rfl
    · rw [restS_get hj] at e
      exact .inl ⟨hj, e, by rw [eσ, wipe_get hj]⟩
  have hdc : ∀ j a, Cf.hd ⟨c'.F, c'.H, restS c'.t c1.t vs, c1.σ⟩ j a → (j ∉ vs ∧ c'.hd j a) ∨ (j ∈ vs ∧ c1.hd j a) := fun j a ⟨s, es, hs, ej⟩ => by
    rcases at1 j s es with ⟨h1, h2, h3⟩ | ⟨h1, h2⟩
    · exact .inl ⟨h1, s, h2, hs, by rw [h3]; exact ej⟩
    · exact .inr ⟨h1, s, h2, hs, ej⟩
  have wrc : ∀ j a, Cf.wr ⟨c'.F, c'.H, restS c'.t c1.t vs, c1.σ⟩ j a → (j ∉ vs ∧ c'.wr j a) ∨ (j ∈ vs ∧ c1.wr j a) := fun j a ⟨s, es, hs, ej⟩ => by
    rcases at1 j s es with ⟨h1, h2, h3⟩ | ⟨h1, h2⟩
    · exact .inl ⟨h1, s, h2, hs, by rw [h3]; exact ej⟩
    · exact .inr ⟨h1, s, h2, hs, ej⟩
  -- the wiped state holds less
  have wp : ∀ j a, Cf.hd ⟨c1.F, c1.H, wipeS c1.t vs, wipe c1.σ vs⟩ j a → j ∉ vs ∧ c1.hd j a := fun j a ⟨s, es, hs, ej⟩ => by
    by_cases hj : j ∈ vs
    · rw [wipeS_in hj es] at hs; cases hs
    · exact ⟨hj, s, by rw [← wipeS_get hj]; exact es, hs, by rw [← wipe_get hj]; exact ej⟩
  have wpW : ∀ a, Cf.Wr ⟨c1.F, c1.H, wipeS c1.t vs, wipe c1.σ vs⟩ a → c1.Wr a := fun a ⟨j, s, es, hs, ej⟩ => by
    by_cases hj : j ∈ vs
    · rw [wipeS_in hj es] at hs; cases hs
    · exact ⟨j, s, by rw [← wipeS_get hj]; exact es, hs, by rw [← wipe_get hj]; exact ej⟩
  have wpN : ∀ a, Cf.New ⟨c1.F, c1.H, wipeS c1.t vs, wipe c1.σ vs⟩ a → c1.New a := fun a q => by
    rcases q with q | q
    · exact .inl q
    · exact .inr (wpW a q)
  -- what a wiped slot held stays
  have stay : ∀ j a, j ∈ vs → c1.hd j a → c'.F a = none ∧ ∀ o, c1.H a = some o → c'.H a = some o := fun j a hj h => by
    obtain ⟨fn, o, eo⟩ := R1.held h
    have nW : ¬ Cf.Wr ⟨c1.F, c1.H, wipeS c1.t vs, wipe c1.σ vs⟩ a := fun ⟨m, w⟩ => by
      obtain ⟨hm, q⟩ := wp m a (Cf.wr_hd w)
      have := R1.dis m j a q h
      subst this
      exact hm hj
    refine ⟨?_, fun o eo => x.keep a o eo nW⟩
    cases q : c'.F a with
    | none => rfl
    | some u =>
      rcases x.fnew a u q with z | z | z
      · rw [show (⟨c1.F, c1.H, wipeS c1.t vs, wipe c1.σ vs⟩ : Cf).F = c1.F from rfl, fn] at z; cases z
      · rw [show (⟨c1.F, c1.H, wipeS c1.t vs, wipe c1.σ vs⟩ : Cf).H = c1.H from rfl, eo] at z; cases z
      · exact absurd z nW
  have hd2 : ∀ j a, c'.hd j a → c1.H a = none ∨ ∃ m, m ∉ vs ∧ c1.hd m a := fun j a h => by
    rcases x.hd a ⟨j, h⟩ with ⟨m, z⟩ | z
    · exact .inr ⟨m, wp m a z⟩
    · exact .inl z
  have mix : ∀ j k a, j ∉ vs → c'.hd j a → k ∈ vs → c1.hd k a → False := fun j k a hj h1 hk h2 => by
    obtain ⟨_, o, eo⟩ := R1.held h2
    rcases hd2 j a h1 with z | ⟨m, hm, z⟩
    · rw [eo] at z; cases z
    · have := R1.dis m k a z h2
      subst this
      exact hm hk
  refine ⟨⟨R'.sub, by show (restS c'.t c1.t vs).length = _; rw [restS_len, len1]; exact R1.len, fun j s e => ?_, fun j k a h1 h2 => ?_⟩, ⟨x.fsub, fun a o h n => x.keep a o h fun w => n (wpW a w), fun a o h => ?_, fun a ⟨j, h⟩ => ?_, fun a ⟨j, h⟩ => ?_⟩, fun a ⟨j, h⟩ => ?_⟩
  · rcases at1 j s e with ⟨h1, h2, h3⟩ | ⟨h1, h2⟩
    · have q := R'.at_ j s h2
      show SlR T X B c'.F c'.H j ((c1.σ[j]?).getD none) s
      rw [← h3]; exact q
    · have q := R1.at_ j s h2
      have l := R1.lt h2
      exact q.keep x.fsub (fun a hs eo _ => (stay j a h1 ⟨s, h2, hs, get_of l eo⟩).1) (fun a u hs eo eu => (stay j a h1 ⟨s, h2, hs, get_of l eo⟩).2 u eu)
  · rcases hdc j a h1 with ⟨j1, g1⟩ | ⟨j1, g1⟩
    · rcases hdc k a h2 with ⟨k1, g2⟩ | ⟨k1, g2⟩
      · exact R'.dis j k a g1 g2
      · exact (mix j k a j1 g1 k1 g2).elim
    · rcases hdc k a h2 with ⟨k1, g2⟩ | ⟨k1, g2⟩
      · exact (mix k j a k1 g2 j1 g1).elim
      · exact R1.dis j k a g1 g2
  · rcases x.fnew a o h with z | z
    · exact .inl z
    · exact .inr (wpN a z)
  · rcases wrc j a h with ⟨_, g⟩ | ⟨_, g⟩
    · exact wpN a (x.wr a ⟨j, g⟩)
    · exact .inr ⟨j, g⟩
  · rcases hdc j a h with ⟨_, g⟩ | ⟨_, g⟩
    · rcases hd2 j a g with z | ⟨m, _, z⟩
      · exact .inr z
      · exact .inl ⟨m, z⟩
    · exact .inl ⟨j, g⟩
  · rcases hdc j a h with ⟨_, g⟩ | ⟨_, g⟩
    · exact .inl ⟨j, g⟩
    · exact .inr ⟨j, g⟩
/-- the list that grows, held by nobody -/
structure Acc (K : PySem.W.Frag) (c : Cf) (q : Addr) (acc : List V) (ds : List D) : Prop where
  h : c.H q = some (.lst acc)
  f : c.F q = none
  n : ¬ c.Hd q
  r : Rps K c.F acc ds
theorem Acc.ext {K : PySem.W.Frag} {c c' : Cf} {q : Addr} {acc : List V} {ds : List D} (A : Acc K c q acc ds) (x : Ext c c') : Acc K c' q acc ds where
  h := x.keep q _ A.h fun w => A.n (Cf.Wr_Hd w)
  f := by
    cases e : c'.F q with
    | none => rfl
    | some u =>
      rcases x.fnew q u e with z | z | z
      · rw [A.f] at z; cases z
      · rw [A.h] at z; cases z
      · exact absurd (Cf.Wr_Hd z) A.n
  n := fun h => by
    rcases x.hd q h with z | z
    · exact A.n z
    · rw [A.h] at z; cases z
  r := A.r.mono x.fsub
/-- it grows -/
theorem Acc.push {c : Cf} {q : Addr} {acc : List V} {ds : List D} {v : V} {d : D} (R : Rl T X B c) (A : Acc X.K c q acc ds) (rv : Rp X.K c.F v d) :
    Rl T X B ⟨c.F, upd c.H q (.lst (acc ++ [v])), c.t, c.σ⟩ ∧ Acc X.K ⟨c.F, upd c.H q (.lst (acc ++ [v])), c.t, c.σ⟩ q (acc ++ [v]) (ds ++ [d]) ∧ ∀ c0 : Cf, c0.H q = none → Ext c0 c → Ext c0 ⟨c.F, upd c.H q (.lst (acc ++ [v])), c.t, c.σ⟩ := by
  have sub : Sub c.F (upd c.H q (.lst (acc ++ [v]))) := fun b u e => by
    rw [upd_ne (fun z => by subst z; rw [A.f] at e; cases e)]; exact R.sub b u e
  refine ⟨R.same (Sub.refl _) sub fun j b h => ⟨(R.held h).1, upd_ne fun z => A.n ⟨j, by rw [← z]; exact h⟩⟩, ⟨upd_same, A.f, A.n, A.r.append (Rps.one rv)⟩, fun c0 h0 x => ⟨x.fsub, fun b u e n => ?_, x.fnew, x.wr, x.hd⟩⟩
  show upd c.H q (.lst (acc ++ [v])) b = some u
  rw [upd_ne (fun z => by subst z; rw [h0] at e; cases e)]
  exact x.keep b u e n
theorem lcLoop_cons {turn : D → Mp.St → R (List D)} {x : D} {xs : List D} {t t2 : Mp.St} {l : List D} (h : lcLoop turn (x :: xs) t = .ok l t2) : ∃ a t1 r, turn x t = .ok a t1 ∧ lcLoop turn xs t1 = .ok r t2 ∧ l = a ++ r := by
  unfold lcLoop at h
  cases e : turn x t with
  | ok a t1 =>
    rw [e, Mp.R.bind_ok] at h
    cases e2 : lcLoop turn xs t1 with
    | ok r t3 => rw [e2, Mp.R.bind_ok] at h; cases h; exact ⟨a, t1, r, rfl, e2, rfl⟩
    | rs y t3 => rw [e2] at h; cases h
    | bad => rw [e2] at h; cases h
  | rs y t3 => rw [e] at h; cases h
  | bad => rw [e] at h; cases h
/-- what a comprehension's rule asks for, from the evaluation -/
theorem lc_tr {g : Tg} {it : Mp.St → R (List D × Option Nat)} {cond : Mp.St → R Bool} {ev : Mp.St → R Rv} {vs : List Nat} (hc : X.calm = true) (hsub : ∀ j ∈ tgIx g, j ∈ vs) {σ : Sg} {H : Hp} {Q : VK}
    (h : tG T X B W (relV X.K) (kLc vs it (kTurn vs g cond (fun t => (ev t).bind fun v t => .ok [v.1] t))) σ H Q) :
    tLc (tG T X B W (relIt T X) it) (fun v σ H Q => ∃ B', gG T X B' g v σ H Q) (fun σ H Q => ∃ B', tG T X B' Wno relB cond σ H Q) (fun σ H Q => ∃ B', tG T X B' Wno (relF X.K) (kSh ev) σ H Q) vs σ H Q := by
  obtain ⟨F0, t0, R0, p0⟩ := tG.bind (rel1 := relIt T X) sh_V h
  refine ⟨F0, t0, R0, p0.imp fun J H1 ⟨w, F1, t1, F2, t2, R1, x1, r1, p1⟩ q hq => ?_⟩
  obtain ⟨t1', el, p1⟩ : ∃ t1', lend w.2 t1 = some t1' ∧ Post T X B W (relV X.K) ⟨F1, H1, t1, σ⟩ (kLcEnd vs w.2 t1 t1' (lcLoop (kTurn vs g cond (fun t => (ev t).bind fun v t => .ok [v.1] t)) w.1 (wipeS t1' vs))) Q := by
    cases e : lend w.2 t1 with
    | none => rw [e] at p1; exact p1.elim
    | some t1' => rw [e] at p1; exact ⟨t1', rfl, p1⟩
  obtain ⟨B', L⟩ := lend_ok (c := ⟨F1, H1, t1, σ⟩) R1 el
  obtain ⟨G, wk, hG⟩ := r1 B' ⟨F1, H1, t1', σ⟩ rfl rfl rfl el L.r1
  obtain ⟨all, tE, eL, p1⟩ : ∃ all tE, lcLoop (kTurn vs g cond (fun t => (ev t).bind fun v t => .ok [v.1] t)) w.1 (wipeS t1' vs) = .ok all tE ∧ Post T X B W (relV X.K) ⟨F1, H1, t1, σ⟩ ((Mp.R.of (unlend w.2 t1 (restS tE t1' vs)) tE).bind fun t3 _ => if all.length ≤ cap then .ok (.list all, true) t3 else .bad) Q := by
    cases e : lcLoop (kTurn vs g cond (fun t => (ev t).bind fun v t => .ok [v.1] t)) w.1 (wipeS t1' vs) with
    | ok all tE => rw [e] at p1; exact ⟨all, tE, rfl, p1⟩
    | rs y tE => rw [e] at p1; exact p1.elim
    | bad => rw [e] at p1; exact p1.elim
  obtain ⟨t3, eU, hz, p1⟩ : ∃ t3, unlend w.2 t1 (restS tE t1' vs) = some t3 ∧ all.length ≤ cap ∧ Post T X B W (relV X.K) ⟨F1, H1, t1, σ⟩ (.ok (.list all, true) t3) Q := by
    cases e : unlend w.2 t1 (restS tE t1' vs) with
    | none => rw [e] at p1; exact p1.elim
    | some t3 =>
      rw [e] at p1
      have p1' : Post T X B W (relV X.K) ⟨F1, H1, t1, σ⟩ (if all.length ≤ cap then .ok (.list all, true) t3 else .bad) Q := p1
      split at p1'
      · exact ⟨t3, rfl, by assumption, p1'⟩
      · exact p1'.elim
  obtain ⟨Rw, xw⟩ := wipe_ok (c := ⟨F1, H1, t1', σ⟩) L.r1 vs
  obtain ⟨Rn, xn⟩ := Rl.new (c := ⟨F1, H1, wipeS t1' vs, wipe σ vs⟩) (o := .lst []) Rw hq
  have A0 : Acc X.K ⟨F1, upd H1 q (.lst []), wipeS t1' vs, wipe σ vs⟩ q [] [] := ⟨upd_same, Rw.FnoH hq, Rw.notHd hq, .nil⟩
  refine lc_it (g := fun v σ H Q => ∃ B', gG T X B' g v σ H Q) (tt := fun σ H Q => ∃ B', tG T X B' Wno relB cond σ H Q) (te := fun σ H Q => ∃ B', tG T X B' Wno (relF X.K) (kSh ev) σ H Q) (vs := vs) (σ := σ) (D := q) wk
    (fun i H' => ∃ F t acc ds l, Rl T X B' ⟨F, H', t, wipe σ vs⟩ ∧ Ext ⟨F1, H1, wipeS t1' vs, wipe σ vs⟩ ⟨F, H', t, wipe σ vs⟩ ∧ Acc X.K ⟨F, H', t, wipe σ vs⟩ q acc ds ∧ lcLoop (kTurn vs g cond (fun t => (ev t).bind fun v t => .ok [v.1] t)) (w.1.drop i) t = .ok l tE ∧ ds ++ l = all ∧ ∀ j ∈ vs, ∀ s, t[j]? = some s → s = .un)
    ⟨F1, wipeS t1' vs, [], [], all, Rn, xn, A0, eL, rfl, fun j hj s e => wipeS_in hj e⟩ (fun i H' _ ⟨F, t, acc, ds, l, R', x', _⟩ => hG ⟨F, H', t, wipe σ vs⟩ (.of (xw.trans x')) R')
    (fun i x H' H'' hi ⟨F, t, acc, ds, l, R', x', A', eL', hl, hw⟩ y => ?_) (fun H' ⟨F, t, acc, ds, l, R', x', A', eL', hl, hw⟩ => ?_)
  · obtain ⟨F2, R2, x2, d, ed, rd⟩ := y F t (wipe σ vs) R' (xw.trans x').fsub
    rw [drop_cons ed] at eL'
    obtain ⟨a, t5, r, et, eL2, el2⟩ := lcLoop_cons eL'
    have A2 := A'.ext x2
    have x12 := x'.trans x2
    -- the turn
    unfold kTurn at et
    cases ea : asgT g d t with
    | none => rw [ea] at et; cases et
    | some t3 =>
      rw [ea, Mp.R.of_some, Mp.R.bind_ok] at et
      refine ⟨B', F2, t, d, t3, R2, rd, ea, fun σ2 R3 x3 o3 l3 => ⟨wipe_eq (fun j hj => o3 j fun z => hj (hsub j z)) l3, B', F2, t3, R3, ?_⟩⟩
      have A3 := A2.ext x3
      have x13 := x12.trans x3
      have ews : wipe σ2 vs = wipe σ vs := wipe_eq (fun j hj => o3 j fun z => hj (hsub j z)) l3
      cases ec : cond t3 with
      | rs y t4 => rw [ec] at et; cases et
      | bad => rw [ec] at et; cases et
      | ok k t4 =>
        rw [ec, Mp.R.bind_ok] at et
        intro b F4 H4 R4 x4 eb
        have eb' : b = k := eb
        subst eb'
        have A4 := A3.ext x4
        have x14 := x13.trans x4
        cases b with
        | false =>
          rw [if_neg Bool.false_ne_true] at et
          cases et
          rw [if_neg Bool.false_ne_true]
          obtain ⟨R5, x5⟩ := wipe_ok (c := ⟨F4, H4, t4, σ2⟩) R4 vs
          dsimp only at R5 x5
          rw [ews] at R5 x5
          exact ⟨F4, wipeS t4 vs, acc, ds, r, R5, x14.trans x5, A4.ext x5, eL2, by rw [← hl, el2, List.nil_append], fun j hj s e => wipeS_in hj e⟩
        | true =>
          rw [if_pos rfl] at et
          dsimp only at et
          rw [if_pos rfl]
          refine ⟨B', F4, t4, R4, ?_⟩
          cases ee : ev t4 with
          | rs y t6 => rw [ee] at et; cases et
          | bad => rw [ee] at et; cases et
          | ok v t6 =>
            rw [ee, Mp.R.bind_ok, Mp.R.bind_ok] at et
            cases et
            unfold kSh
            rw [ee, Mp.R.bind_ok]
            intro u F6 H6 R6 x6 ru
            have ru' : Rp X.K F6 u v.1 := ru
            have A6 := A4.ext x6
            have x16 := x14.trans x6
            obtain ⟨R7, A7, k7⟩ := A6.push R6 ru'
            have x17 := k7 ⟨F1, H1, wipeS t1' vs, wipe σ vs⟩ hq x16
            obtain ⟨R8, x8⟩ := wipe_ok R7 vs
            dsimp only at R8 x8
            rw [ews] at R8 x8
            refine ⟨acc, A6.h, ?_, F6, wipeS t6 vs, acc ++ [u], ds ++ [v.1], r, R8, x17.trans x8, A7.ext x8, eL2, by rw [← hl, el2, List.append_assoc], fun j hj s e => wipeS_in hj e⟩
            have h1 := A6.r.length
            have h2 : (ds ++ l).length = all.length := by rw [hl]
            rw [el2] at h2
            simp only [List.length_append, List.length_singleton] at h2
            rw [← cap_line, h1]
            omega
  · rw [List.drop_length] at eL'
    unfold lcLoop at eL'
    cases eL'
    rw [List.append_nil] at hl
    subst hl
    obtain ⟨R5, x5, hd5⟩ := rest_ok (c1 := ⟨F1, H1, t1', σ⟩) (c' := ⟨F, H', tE, wipe σ vs⟩) L.r1 hc R' rfl x' hw
    obtain ⟨R6, x6, hd6⟩ := L.back F H' (restS tE t1' vs) σ t3 R5 x5 eU
    refine p1 (.ref q) F H' R6 x6 (relV_new ⟨A'.f, hz, acc, A'.h, A'.r⟩ (fun z => ?_) (.inl hq))
    rcases hd5 q (hd6 q z) with z | z
    · exact A'.n z
    · exact L.r1.notHd hq z
/-- the parts of a comprehension in its block -/
structure LcOk (T : Tb) (X : Cx) (tg elt : Expr) (ifs : List Expr) (scope : Scope) (g : Tg) (cond : Mp.St → R Bool) (ev : Mp.St → R Rv) : Prop where
  g : ∀ (s : Shared) (H : Hp) (C : Addr) (cl : List (Str × Addr)) (fp : List Addr) (B' : Bs), PG (X.blk s H scope (compEnvC scope cl C X.env) fp) tg (gG T (X.blk s H scope (compEnvC scope cl C X.env) fp) B' g)
  t : ∀ (s : Shared) (H : Hp) (C : Addr) (cl : List (Str × Addr)) (fp : List Addr) (B' : Bs), PTs (X.blk s H scope (compEnvC scope cl C X.env) fp) ifs (tG T (X.blk s H scope (compEnvC scope cl C X.env) fp) B' Wno relB cond)
  e : ∀ (s : Shared) (H : Hp) (C : Addr) (cl : List (Str × Addr)) (fp : List Addr) (B' : Bs), Ee T (X.blk s H scope (compEnvC scope cl C X.env) fp) B' Wno elt ev
variable {tg iter elt : Expr} {ifs : List Expr} {scope : Scope} {own : List (Str × Nat)} {g : Tg} {it : Mp.St → R (List D × Option Nat)} {cond : Mp.St → R Bool} {ev : Mp.St → R Rv}
theorem ee_lc (hc : X.calm = true) (hN : X.N.Nodup) (hi : Ei T X B W tg iter it) (ok : BlkOk X.N X.env.scope scope own) (L : LcOk T X tg elt ifs scope g cond ev) (hsub : ∀ j ∈ tgIx g, j ∈ own.map (·.2)) (hs : ∀ x, foldedSetIterable iter X.env x = pure x) :
    Ee T X B W (.ListComp elt [⟨tg, iter, ifs, 0⟩] scope pos) (kLc (own.map (·.2)) it (kTurn (own.map (·.2)) g cond (fun t => (ev t).bind fun v t => .ok [v.1] t))) :=
  pe_imp (pe_lc (g := fun v σ H Q => ∃ B', gG T X B' g v σ H Q) (tt := fun σ H Q => ∃ B', tG T X B' Wno relB cond σ H Q) (te := fun σ H Q => ∃ B', tG T X B' Wno (relF X.K) (kSh ev) σ H Q) hc hN hi ok
    (fun s H C cl fp => ⟨fun pins s' σ H' v u Q I r ⟨B', q⟩ => (L.g s H C cl fp B').run pins s' σ H' v u Q I r (gG.cx (X := X) (X' := X.blk s H scope (compEnvC scope cl C X.env) fp) rfl hc hc q)⟩)
    (fun s H C cl fp => ⟨fun pins s' σ H' Q I ⟨B', q⟩ => (L.t s H C cl fp B').run pins s' σ H' Q I (tG.cx (X := X) (X' := X.blk s H scope (compEnvC scope cl C X.env) fp) rfl hc hc q)⟩)
    (fun s H C cl fp => ⟨fun pins s' σ H' Q I ⟨B', q⟩ => (ef_sh (L.e s H C cl fp B')).run pins s' σ H' Q I (tG.cx (X := X) (X' := X.blk s H scope (compEnvC scope cl C X.env) fp) rfl hc hc q)⟩) hs) fun σ H Q q => lc_tr hc hsub q
theorem ss_setLc {i : Nat} {y : Str} {py spos : Pos} (hc : X.calm = true) (hN : X.N.Nodup) (hy : X.N[i]? = some y) (hyl : X.env.scope.names.lookup y = some .local) (hsw : swapsWith (.ListComp elt [⟨tg, iter, ifs, 0⟩] scope pos) (some (.Name y py)) spos.line X.env = pure true)
    (hi : Ei T X B W tg iter it) (ok : BlkOk X.N X.env.scope scope own) (L : LcOk T X tg elt ifs scope g cond ev) (hsub : ∀ j ∈ tgIx g, j ∈ own.map (·.2)) (hs : ∀ x, foldedSetIterable iter X.env x = pure x) :
    Es1 T X B W (.Assign [.Name y py] (.ListComp elt [⟨tg, iter, ifs, 0⟩] scope pos) spos) (fun t => (kLc (own.map (·.2)) it (kTurn (own.map (·.2)) g cond (fun t => (ev t).bind fun v t => .ok [v.1] t)) t).fl fun v t => nxO (asgN i v t)) := by
  refine ps_imp (L2.ps_setLc (g := fun v σ H Q => ∃ B', gG T X B' g v σ H Q) (tt := fun σ H Q => ∃ B', tG T X B' Wno relB cond σ H Q) (te := fun σ H Q => ∃ B', tG T X B' Wno (relF X.K) (kSh ev) σ H Q) hc hN hy hyl hsw hi ok
    (fun s H C cl fp => ⟨fun pins s' σ H' v u Q I r ⟨B', q⟩ => (L.g s H C cl fp B').run pins s' σ H' v u Q I r (gG.cx (X := X) (X' := X.blk s H scope (compEnvC scope cl C X.env) fp) rfl hc hc q)⟩)
    (fun s H C cl fp => ⟨fun pins s' σ H' Q I ⟨B', q⟩ => (L.t s H C cl fp B').run pins s' σ H' Q I (tG.cx (X := X) (X' := X.blk s H scope (compEnvC scope cl C X.env) fp) rfl hc hc q)⟩)
    (fun s H C cl fp => ⟨fun pins s' σ H' Q I ⟨B', q⟩ => (ef_sh (L.e s H C cl fp B')).run pins s' σ H' Q I (tG.cx (X := X) (X' := X.blk s H scope (compEnvC scope cl C X.env) fp) rfl hc hc q)⟩) hs) fun D σ H q => ?_
  obtain ⟨F, t, R, p⟩ := q
  exact lc_tr (B := B) (W := W) hc hsub ⟨F, t, R, (PostS.fl0 (rel := relV X.K) p).imp fun v H1 q => asgN_post (c := ⟨F, H, t, σ⟩) q⟩
end
end Mp

set_option maxHeartbeats 2000000
/-! Part 22b: comprehensions of two rows. -/
namespace Mp
open PySem PySem.Spec PyProof.Rows L2
section
variable {T : Tb} {X X' : Cx} {B : Bs} {W W' : WX} {c : Cf} {pos : Pos} {α β : Type}
/-- the inner row's turns -/
theorem lc1_it {J : L2.It} {n : Nat} {G : Hp → Prop} {Y : Nat → Hp → V → Hp → Prop} (w : Walk J n G Y) {g : TG} {tt : TT} {te : TE} {vs : List Nat} {σ : Sg} {H1 : Hp} {D : Addr} {Qd : Hp → Prop} (Pv : Nat → Hp → Prop) (h0 : Pv 0 H1) (hG : ∀ i H, i ≤ n → Pv i H → G H)
    (hs : ∀ i x H H', i < n → Pv i H → Y i H x H' → g x (wipe σ vs) H' fun σ2 H2 => wipe σ2 vs = wipe σ vs ∧ tt σ2 H2 fun b H3 =>
      if b = true then te σ2 H3 fun y H4 => ∃ acc, H4 D = some (.lst acc) ∧ acc.length < sizeLine ∧ Pv (i + 1) (upd H4 D (.lst (acc ++ [y]))) else Pv (i + 1) H3) (hd : ∀ H, Pv n H → Qd H) :
    ∃ W : Nat → Nat → Hp → Prop, (∃ m, W 0 m H1) ∧ ∀ i m H, W i m H →
      (J.stop i H ∧ Qd H) ∨ (J.go i H ∧ ∃ Nx : Hp → Prop, (∀ H', Nx H' → ∃ m', m' < m ∧ W (i + 1) m' H') ∧ ∀ x H', J.yld i H x H' → g x (wipe σ vs) H' fun σ2 H2 => wipe σ2 vs = wipe σ vs ∧ tt σ2 H2 fun b H3 =>
        if b = true then te σ2 H3 fun y H4 => ∃ acc, H4 D = some (.lst acc) ∧ acc.length < sizeLine ∧ Nx (upd H4 D (.lst (acc ++ [y]))) else Nx H3) := by
  refine ⟨fun i m H => m = n - i ∧ i ≤ n ∧ Pv i H, ⟨n, by simp, Nat.zero_le _, h0⟩, ?_⟩
  rintro i m H ⟨rfl, hi, p⟩
  have q := hG i H hi p
  by_cases hlt : i < n
  · refine .inr ⟨w.goes i H hlt q, Pv (i + 1), fun H' p' => ⟨n - (i + 1), by omega, rfl, hlt, p'⟩, fun x H' y => hs i x H H' hlt p (w.yields i H x H' hlt q y)⟩
  · have e : i = n := by omega
    subst e
    exact .inl ⟨w.stops H q, hd H p⟩
theorem lc_outer_it {J : L2.It} {n : Nat} {G : Hp → Prop} {Y : Nat → Hp → V → Hp → Prop} (w : Walk J n G Y) {S : (Hp → Prop) → V → Hp → Prop} {H1 : Hp} {D : Addr} {Qd : Hp → Prop} (Pv : Nat → Hp → Prop) (h0 : Pv 0 (upd H1 D (.lst []))) (hG : ∀ i H, i ≤ n → Pv i H → G H)
    (hs : ∀ i x H H', i < n → Pv i H → Y i H x H' → S (Pv (i + 1)) x H') (hd : ∀ H, Pv n H → Qd H) :
    ∃ W : Nat → Nat → Hp → Prop, (∃ m, W 0 m (upd H1 D (.lst []))) ∧ ∀ i m H, W i m H →
      (J.stop i H ∧ Qd H) ∨ (J.go i H ∧ ∃ Nx : Hp → Prop, (∀ H', Nx H' → ∃ m', m' < m ∧ W (i + 1) m' H') ∧ ∀ x H', J.yld i H x H' → S Nx x H') := by
  refine ⟨fun i m H => m = n - i ∧ i ≤ n ∧ Pv i H, ⟨n, by simp, Nat.zero_le _, h0⟩, ?_⟩
  rintro i m H ⟨rfl, hi, p⟩
  have q := hG i H hi p
  by_cases hlt : i < n
  · refine .inr ⟨w.goes i H hlt q, Pv (i + 1), fun H' p' => ⟨n - (i + 1), by omega, rfl, hlt, p'⟩, fun x H' y => hs i x H H' hlt p (w.yields i H x H' hlt q y)⟩
  · have e : i = n := by omega
    subst e
    exact .inl ⟨w.stops H q, hd H p⟩
/-- an element -/
abbrev kElt (ev : Mp.St → R Rv) : Mp.St → R (List D) := fun t => (ev t).bind fun v t => .ok [v.1] t
theorem lc2_tr {g g1 : Tg} {it it1 : Mp.St → R (List D × Option Nat)} {cond cond1 : Mp.St → R Bool} {ev : Mp.St → R Rv} {vs vs1 : List Nat} (hc : X.calm = true) (hsub : ∀ j ∈ tgIx g, j ∈ vs) (hsub1 : ∀ j ∈ tgIx g1, j ∈ vs1) (hv1 : ∀ j ∈ vs1, j ∈ vs) {σ : Sg} {H : Hp} {Q : VK}
    (h : tG T X B W (relV X.K) (kLc vs it (kTurn vs g cond (kLcIn vs1 it1 (kTurn vs1 g1 cond1 (kElt ev))))) σ H Q) :
    tLc2 (tG T X B W (relIt T X) it) (fun v σ H Q => ∃ B', gG T X B' g v σ H Q) (fun σ H Q => ∃ B', tG T X B' Wno relB cond σ H Q) (fun σ H Q => ∃ B', tG T X B' Wno (relIt T X) it1 σ H Q) (fun v σ H Q => ∃ B', gG T X B' g1 v σ H Q) (fun σ H Q => ∃ B', tG T X B' Wno relB cond1 σ H Q) (fun σ H Q => ∃ B', tG T X B' Wno (relF X.K) (kSh ev) σ H Q) vs vs1 σ H Q := by
  obtain ⟨F0, t0, R0, p0⟩ := tG.bind (rel1 := relIt T X) sh_V h
  refine ⟨F0, t0, R0, p0.imp fun J H1 ⟨w, F1, t1, F2, t2, R1, x1, r1, p1⟩ q hq => ?_⟩
  generalize hturn : (kTurn vs g cond (kLcIn vs1 it1 (kTurn vs1 g1 cond1 (kElt ev)))) = turn at p1
  obtain ⟨t1', el, p1⟩ : ∃ t1', lend w.2 t1 = some t1' ∧ Post T X B W (relV X.K) ⟨F1, H1, t1, σ⟩ (kLcEnd vs w.2 t1 t1' (lcLoop turn w.1 (wipeS t1' vs))) Q := by
    cases e : lend w.2 t1 with
    | none => rw [e] at p1; exact p1.elim
    | some t1' => rw [e] at p1; exact ⟨t1', rfl, p1⟩
  obtain ⟨B', L⟩ := lend_ok (c := ⟨F1, H1, t1, σ⟩) R1 el
  obtain ⟨G, wk, hG⟩ := r1 B' ⟨F1, H1, t1', σ⟩ rfl rfl rfl el L.r1
  obtain ⟨all, tE, eL, p1⟩ : ∃ all tE, lcLoop turn w.1 (wipeS t1' vs) = .ok all tE ∧ Post T X B W (relV X.K) ⟨F1, H1, t1, σ⟩ ((Mp.R.of (unlend w.2 t1 (restS tE t1' vs)) tE).bind fun t3 _ => if all.length ≤ cap then .ok (.list all, true) t3 else .bad) Q := by
    cases e : lcLoop turn w.1 (wipeS t1' vs) with
    | ok all tE => rw [e] at p1; exact ⟨all, tE, rfl, p1⟩
    | rs y tE => rw [e] at p1; exact p1.elim
    | bad => rw [e] at p1; exact p1.elim
  obtain ⟨t3, eU, hz, p1⟩ : ∃ t3, unlend w.2 t1 (restS tE t1' vs) = some t3 ∧ all.length ≤ cap ∧ Post T X B W (relV X.K) ⟨F1, H1, t1, σ⟩ (.ok (.list all, true) t3) Q := by
    cases e : unlend w.2 t1 (restS tE t1' vs) with
    | none => rw [e] at p1; exact p1.elim
    | some t3 =>
      rw [e] at p1
      have p1' : Post T X B W (relV X.K) ⟨F1, H1, t1, σ⟩ (if all.length ≤ cap then .ok (.list all, true) t3 else .bad) Q := p1
      split at p1'
      · exact ⟨t3, rfl, by assumption, p1'⟩
      · exact p1'.elim
  obtain ⟨Rw, xw⟩ := wipe_ok (c := ⟨F1, H1, t1', σ⟩) L.r1 vs
  obtain ⟨Rn, xn⟩ := Rl.new (c := ⟨F1, H1, wipeS t1' vs, wipe σ vs⟩) (o := .lst []) Rw hq
  have A0 : Acc X.K ⟨F1, upd H1 q (.lst []), wipeS t1' vs, wipe σ vs⟩ q [] [] := ⟨upd_same, Rw.FnoH hq, Rw.notHd hq, .nil⟩
  -- what holds between two turns of the outer row
  let I : Nat → Hp → Prop := fun i H' => ∃ F t acc ds l, Rl T X B' ⟨F, H', t, wipe σ vs⟩ ∧ Ext ⟨F1, H1, wipeS t1' vs, wipe σ vs⟩ ⟨F, H', t, wipe σ vs⟩ ∧ Acc X.K ⟨F, H', t, wipe σ vs⟩ q acc ds ∧ lcLoop turn (w.1.drop i) t = .ok l tE ∧ ds ++ l = all ∧ ∀ j ∈ vs, ∀ s, t[j]? = some s → s = .un
  refine lc_outer_it wk I ⟨F1, wipeS t1' vs, [], [], all, Rn, xn, A0, eL, rfl, fun j hj s e => wipeS_in hj e⟩ (fun i H' _ ⟨F, t, acc, ds, l, R', x', _⟩ => hG ⟨F, H', t, wipe σ vs⟩ (.of (xw.trans x')) R')
    (fun i x H' H'' hi ⟨F, t, acc, ds, l, R', x', A', eL', hl, hw⟩ y => ?_) (fun H' ⟨F, t, acc, ds, l, R', x', A', eL', hl, hw⟩ => ?_)
  · obtain ⟨F2, R2, x2, d, ed, rd⟩ := y F t (wipe σ vs) R' (xw.trans x').fsub
    rw [drop_cons ed] at eL'
    obtain ⟨a, t5, r, et, eL2, el2⟩ := lcLoop_cons eL'
    have A2 := A'.ext x2
    have x12 := x'.trans x2
    rw [← hturn] at et
    unfold kTurn at et
    cases ea : asgT g d t with
    | none => rw [ea] at et; cases et
    | some t3 =>
      rw [ea, Mp.R.of_some, Mp.R.bind_ok] at et
      refine ⟨B', F2, t, d, t3, R2, rd, ea, fun σ2 R3 x3 o3 l3 => ⟨wipe_eq (fun j hj => o3 j fun z => hj (hsub j z)) l3, B', F2, t3, R3, ?_⟩⟩
      have A3 := A2.ext x3
      have x13 := x12.trans x3
      have ews : wipe σ2 vs = wipe σ vs := wipe_eq (fun j hj => o3 j fun z => hj (hsub j z)) l3
      cases ec : cond t3 with
      | rs y t4 => rw [ec] at et; cases et
      | bad => rw [ec] at et; cases et
      | ok k t4 =>
        rw [ec, Mp.R.bind_ok] at et
        intro b F4 H4 R4 x4 eb
        have eb' : b = k := eb
        subst eb'
        have A4 := A3.ext x4
        have x14 := x13.trans x4
        cases b with
        | false =>
          rw [if_neg Bool.false_ne_true] at et
          cases et
          rw [if_neg Bool.false_ne_true]
          obtain ⟨R5, x5⟩ := wipe_ok (c := ⟨F4, H4, t4, σ2⟩) R4 vs
          dsimp only at R5 x5
          rw [ews] at R5 x5
          exact ⟨F4, wipeS t4 vs, acc, ds, r, R5, x14.trans x5, A4.ext x5, eL2, by rw [← hl, el2, List.nil_append], fun j hj s e => wipeS_in hj e⟩
        | true =>
          rw [if_pos rfl] at et
          rw [if_pos rfl]
          unfold kLcIn at et
          cases ei : it1 t4 with
          | rs y t6 => rw [ei] at et; cases et
          | bad => rw [ei] at et; cases et
          | ok w1 t6 =>
            rw [ei, Mp.R.bind_ok] at et
            refine ⟨B', F4, t4, R4, ?_⟩
            rw [ei]
            intro J1 F6 H6 R6 x6 rit
            have A6 := A4.ext x6
            have x16 := x14.trans x6
            -- the inner walk lends nothing
            cases hn : w1.2 with
            | some k => rw [hn] at et; cases et
            | none =>
              rw [hn] at et
              have et' : ((lcLoop (kTurn vs1 g1 cond1 (kElt ev)) w1.1 (wipeS t6 vs1)).bind fun l t => .ok l (wipeS t vs)) = .ok a t5 := et
              cases eq : lcLoop (kTurn vs1 g1 cond1 (kElt ev)) w1.1 (wipeS t6 vs1) with
              | rs y t7 => rw [eq] at et'; cases et'
              | bad => rw [eq] at et'; cases et'
              | ok a1 t7 =>
                rw [eq, Mp.R.bind_ok] at et'
                cases et'
                obtain ⟨G1, wk1, hG1⟩ := rit B' ⟨F6, H6, t6, σ2⟩ rfl rfl rfl (by rw [hn]; rfl) R6
                obtain ⟨Rv, xv⟩ := wipe_ok (c := ⟨F6, H6, t6, σ2⟩) R6 vs1
                let I1 : Nat → Hp → Prop := fun j H' => ∃ F t acc ds' l', Rl T X B' ⟨F, H', t, wipe σ2 vs1⟩ ∧ Sub F6 F ∧ Ext ⟨F1, H1, wipeS t1' vs, wipe σ vs⟩ ⟨F, H', t, wipe σ2 vs1⟩ ∧ Acc X.K ⟨F, H', t, wipe σ2 vs1⟩ q acc ds' ∧ lcLoop (kTurn vs1 g1 cond1 (kElt ev)) (w1.1.drop j) t = .ok l' t7 ∧ ds' ++ l' = ds ++ a ∧ ∀ j ∈ vs1, ∀ s, t[j]? = some s → s = .un
                have A7 := A6.ext xv
                have x17 := x16.trans xv
                refine lc1_it (g := fun v σ H Q => ∃ B', gG T X B' g1 v σ H Q) (tt := fun σ H Q => ∃ B', tG T X B' Wno relB cond1 σ H Q) (te := fun σ H Q => ∃ B', tG T X B' Wno (relF X.K) (kSh ev) σ H Q) (vs := vs1) (σ := σ2) (D := q) wk1 I1
                  ⟨F6, wipeS t6 vs1, acc, ds, a, Rv, xv.fsub, x17, A7, eq, rfl, fun j hj s e => wipeS_in hj e⟩ (fun j H' _ ⟨F, t, acc, ds', l', R', xa, xb, _⟩ => hG1 ⟨F, H', t, wipe σ2 vs1⟩ (by rw [hn]; exact XtW.free xa) R')
                  (fun j x' H' H'' hj ⟨F, t, acc', ds', l', R', xa, xb, A', eq', hl', hw'⟩ y' => ?_) (fun H' ⟨F, t, acc', ds', l', R', xa, xb, A', eq', hl', hw'⟩ => ?_)
                · obtain ⟨F8, R8, x8, d', ed', rd'⟩ := y' F t (wipe σ2 vs1) R' xa
                  rw [drop_cons ed'] at eq'
                  obtain ⟨a', t8, r', et2, eq2, el3⟩ := lcLoop_cons eq'
                  have A8 := A'.ext x8
                  have xa8 := xa.trans x8.fsub
                  have xb8 := xb.trans x8
                  unfold kTurn at et2
                  cases ea1 : asgT g1 d' t with
                  | none => rw [ea1] at et2; cases et2
                  | some t9 =>
                    rw [ea1, Mp.R.of_some, Mp.R.bind_ok] at et2
                    refine ⟨B', F8, t, d', t9, R8, rd', ea1, fun σ3 R9 x9 o9 l9 => ⟨wipe_eq (fun j hj => o9 j fun z => hj (hsub1 j z)) l9, B', F8, t9, R9, ?_⟩⟩
                    have A9 := A8.ext x9
                    have xa9 := xa8.trans x9.fsub
                    have xb9 := xb8.trans x9
                    have ews1 : wipe σ3 vs1 = wipe σ2 vs1 := wipe_eq (fun j hj => o9 j fun z => hj (hsub1 j z)) l9
                    cases ec1 : cond1 t9 with
                    | rs y t10 => rw [ec1] at et2; cases et2
                    | bad => rw [ec1] at et2; cases et2
                    | ok k1 t10 =>
                      rw [ec1, Mp.R.bind_ok] at et2
                      intro b1 F10 H10 R10 x10 eb1
                      have eb1' : b1 = k1 := eb1
                      subst eb1'
                      have A10 := A9.ext x10
                      have xa10 := xa9.trans x10.fsub
                      have xb10 := xb9.trans x10
                      cases b1 with
                      | false =>
                        rw [if_neg Bool.false_ne_true] at et2
                        cases et2
                        rw [if_neg Bool.false_ne_true]
                        obtain ⟨R11, x11⟩ := wipe_ok (c := ⟨F10, H10, t10, σ3⟩) R10 vs1
                        dsimp only at R11 x11
                        rw [ews1] at R11 x11
                        exact ⟨F10, wipeS t10 vs1, acc', ds', r', R11, xa10.trans x11.fsub, xb10.trans x11, A10.ext x11, eq2, by rw [← hl', el3, List.nil_append], fun j hj s e => wipeS_in hj e⟩
                      | true =>
                        rw [if_pos rfl] at et2
                        rw [if_pos rfl]
                        refine ⟨B', F10, t10, R10, ?_⟩
                        unfold kElt at et2
                        cases ee : ev t10 with
                        | rs y t12 => rw [ee] at et2; cases et2
                        | bad => rw [ee] at et2; cases et2
                        | ok v t12 =>
                          rw [ee, Mp.R.bind_ok, Mp.R.bind_ok] at et2
                          cases et2
                          unfold kSh
                          rw [ee, Mp.R.bind_ok]
                          intro u F12 H12 R12 x12' ru
                          have ru' : Rp X.K F12 u v.1 := ru
                          have A12 := A10.ext x12'
                          have xb12 := xb10.trans x12'
                          have xa12 := xa10.trans x12'.fsub
                          obtain ⟨R13, A13, k13⟩ := A12.push R12 ru'
                          have xb13 := k13 ⟨F1, H1, wipeS t1' vs, wipe σ vs⟩ hq xb12
                          obtain ⟨R14, x14'⟩ := wipe_ok R13 vs1
                          dsimp only at R14 x14'
                          rw [ews1] at R14 x14'
                          refine ⟨acc', A12.h, ?_, F12, wipeS t12 vs1, acc' ++ [u], ds' ++ [v.1], r', R14, xa12.trans x14'.fsub, xb13.trans x14', A13.ext x14', eq2, by rw [← hl', el3, List.append_assoc], fun j hj s e => wipeS_in hj e⟩
                          have h1 := A12.r.length
                          have h2 : (ds' ++ l').length = (ds ++ a).length := by rw [hl']
                          have h3 : (ds ++ l).length = all.length := by rw [hl]
                          rw [el3] at h2
                          rw [el2] at h3
                          simp only [List.length_append, List.length_singleton] at h2 h3
                          rw [← cap_line, h1]
                          omega
                · rw [List.drop_length] at eq'
                  unfold lcLoop at eq'
                  cases eq'
                  rw [List.append_nil] at hl'
                  obtain ⟨R15, x15⟩ := wipe_ok R' vs
                  dsimp only at R15 x15
                  have ew : wipe (wipe σ2 vs1) vs = wipe σ vs := by
                    rw [← ews]
                    exact wipe_eq (fun j hj => by rw [wipe_get (fun z => hj (hv1 j z)), wipe_get hj]) (by rw [wipe_length, wipe_length])
                  rw [ew] at R15 x15
                  have A15 := A'.ext x15
                  rw [hl'] at A15
                  exact ⟨F, wipeS t7 vs, acc', ds ++ a, r, R15, xb.trans x15, A15, eL2, by rw [← hl, el2, List.append_assoc], fun j hj s e => wipeS_in hj e⟩
  · rw [List.drop_length] at eL'
    unfold lcLoop at eL'
    cases eL'
    rw [List.append_nil] at hl
    subst hl
    obtain ⟨R5, x5, hd5⟩ := rest_ok (c1 := ⟨F1, H1, t1', σ⟩) (c' := ⟨F, H', tE, wipe σ vs⟩) L.r1 hc R' rfl x' hw
    obtain ⟨R6, x6, hd6⟩ := L.back F H' (restS tE t1' vs) σ t3 R5 x5 eU
    refine p1 (.ref q) F H' R6 x6 (relV_new ⟨A'.f, hz, acc, A'.h, A'.r⟩ (fun z => ?_) (.inl hq))
    rcases hd5 q (hd6 q z) with z | z
    · exact A'.n z
    · exact L.r1.notHd hq z
theorem IterOk.cx {d : Cf} {J : L2.It} {w : List D × Option Nat} (hK : X'.K = X.K) (hc : X.calm = true) (hc' : X'.calm = true) (h : IterOk T X' d J w) : IterOk T X d J w := fun B' c1 e1 e2 e3 el Z => by
  obtain ⟨G, wk, k⟩ := h B' c1 e1 e2 e3 el (Z.cx hK hc)
  refine ⟨G, wk.mono (fun _ h => h) fun i H x H' _ _ y F t σ R sub => ?_, fun c x R => k c x (R.cx hK hc)⟩
  obtain ⟨F', R', x', dd, ed, rd⟩ := y F t σ (R.cx hK hc) sub
  exact ⟨F', R'.cx hK.symm hc', x', dd, ed, by rw [← hK]; exact rd⟩
theorem tG.cxIt {ev : Mp.St → R (List D × Option Nat)} (hK : X'.K = X.K) (hc : X.calm = true) (hc' : X'.calm = true) {σ : Sg} {H : Hp} {Q : L2.It → Hp → Prop} (h : tG T X B Wno (relIt T X) ev σ H Q) : tG T X' B Wno (relIt T X') ev σ H Q := by
  obtain ⟨F, t, R, p⟩ := h
  refine ⟨F, t, R.cx hK hc, ?_⟩
  cases e : ev t with
  | ok a t' => rw [e] at p; exact fun b F' H' R' x r => p b F' H' (R'.cx hK.symm hc') x (IterOk.cx hK hc hc' r)
  | rs y t' => rw [e] at p; exact fun cls dd F' H' R' x r => p cls dd F' H' (R'.cx hK.symm hc') x (by unfold ExR at r ⊢; rw [hK] at r; exact r)
  | bad => rw [e] at p; exact p
/-- the parts of the inner row -/
structure Lc2Ok (T : Tb) (X : Cx) (tg1 iter1 elt : Expr) (ifs1 : List Expr) (scope : Scope) (g1 : Tg) (it1 : Mp.St → R (List D × Option Nat)) (cond1 : Mp.St → R Bool) (ev : Mp.St → R Rv) : Prop where
  l : LcOk T X tg1 elt ifs1 scope g1 cond1 ev
  i : ∀ (s : Shared) (H : Hp) (C : Addr) (cl : List (Str × Addr)) (fp : List Addr) (B' : Bs), Ei T (X.blk s H scope (compEnvC scope cl C X.env) fp) B' Wno tg1 iter1 it1
variable {tg iter tg1 iter1 elt : Expr} {ifs ifs1 : List Expr} {scope : Scope} {own : List (Str × Nat)} {g g1 : Tg} {it it1 : Mp.St → R (List D × Option Nat)} {cond cond1 : Mp.St → R Bool} {ev : Mp.St → R Rv} {vs1 : List Nat}
theorem ee_lc2 {e0 : Expr} {ev0 : Mp.St → R Rv} (hc : X.calm = true) (hN : X.N.Nodup) (hi : Ei T X B W tg iter it) (ok : BlkOk X.N X.env.scope scope own) (hv : ∀ i ∈ vs1, i ∈ own.map (·.2)) (L : LcOk T X tg e0 ifs scope g cond ev0) (L1 : Lc2Ok T X tg1 iter1 elt ifs1 scope g1 it1 cond1 ev) (hsub : ∀ j ∈ tgIx g, j ∈ own.map (·.2)) (hsub1 : ∀ j ∈ tgIx g1, j ∈ vs1)
    (hs : ∀ x, foldedSetIterable iter X.env x = pure x) (hs1 : ∀ env x, foldedSetIterable iter1 env x = pure x) :
    Ee T X B W (.ListComp elt [⟨tg, iter, ifs, 0⟩, ⟨tg1, iter1, ifs1, 0⟩] scope pos) (kLc (own.map (·.2)) it (kTurn (own.map (·.2)) g cond (kLcIn vs1 it1 (kTurn vs1 g1 cond1 (kElt ev))))) :=
  pe_imp (pe_lc2 (g := fun v σ H Q => ∃ B', gG T X B' g v σ H Q) (tt := fun σ H Q => ∃ B', tG T X B' Wno relB cond σ H Q) (wi1 := fun σ H Q => ∃ B', tG T X B' Wno (relIt T X) it1 σ H Q) (g1 := fun v σ H Q => ∃ B', gG T X B' g1 v σ H Q) (tt1 := fun σ H Q => ∃ B', tG T X B' Wno relB cond1 σ H Q) (te := fun σ H Q => ∃ B', tG T X B' Wno (relF X.K) (kSh ev) σ H Q) (vs1 := vs1) hc hN hi ok hv
    (fun s H C cl fp => ⟨fun pins s' σ H' v u Q I r ⟨B', q⟩ => (L.g s H C cl fp B').run pins s' σ H' v u Q I r (gG.cx (X := X) (X' := X.blk s H scope (compEnvC scope cl C X.env) fp) rfl hc hc q)⟩)
    (fun s H C cl fp => ⟨fun pins s' σ H' Q I ⟨B', q⟩ => (L.t s H C cl fp B').run pins s' σ H' Q I (tG.cx (X := X) (X' := X.blk s H scope (compEnvC scope cl C X.env) fp) rfl hc hc q)⟩)
    (fun s H C cl fp => ⟨fun pins s' σ H' Q I ⟨B', q⟩ => (L1.i s H C cl fp B').run pins s' σ H' Q I (tG.cxIt (X := X) (X' := X.blk s H scope (compEnvC scope cl C X.env) fp) rfl hc hc q)⟩)
    (fun s H C cl fp => ⟨fun pins s' σ H' v u Q I r ⟨B', q⟩ => (L1.l.g s H C cl fp B').run pins s' σ H' v u Q I r (gG.cx (X := X) (X' := X.blk s H scope (compEnvC scope cl C X.env) fp) rfl hc hc q)⟩)
    (fun s H C cl fp => ⟨fun pins s' σ H' Q I ⟨B', q⟩ => (L1.l.t s H C cl fp B').run pins s' σ H' Q I (tG.cx (X := X) (X' := X.blk s H scope (compEnvC scope cl C X.env) fp) rfl hc hc q)⟩)
    (fun s H C cl fp => ⟨fun pins s' σ H' Q I ⟨B', q⟩ => (ef_sh (L1.l.e s H C cl fp B')).run pins s' σ H' Q I (tG.cx (X := X) (X' := X.blk s H scope (compEnvC scope cl C X.env) fp) rfl hc hc q)⟩) hs hs1) fun σ H Q q => lc2_tr hc hsub hsub1 hv q
theorem ss_setLc2 {i : Nat} {y : Str} {py spos : Pos} {e0 : Expr} {ev0 : Mp.St → R Rv} (hc : X.calm = true) (hN : X.N.Nodup) (hy : X.N[i]? = some y) (hyl : X.env.scope.names.lookup y = some .local) (hsw : swapsWith (.ListComp elt [⟨tg, iter, ifs, 0⟩, ⟨tg1, iter1, ifs1, 0⟩] scope pos) (some (.Name y py)) spos.line X.env = pure true)
    (hi : Ei T X B W tg iter it) (ok : BlkOk X.N X.env.scope scope own) (hv : ∀ i ∈ vs1, i ∈ own.map (·.2)) (L : LcOk T X tg e0 ifs scope g cond ev0) (L1 : Lc2Ok T X tg1 iter1 elt ifs1 scope g1 it1 cond1 ev) (hsub : ∀ j ∈ tgIx g, j ∈ own.map (·.2)) (hsub1 : ∀ j ∈ tgIx g1, j ∈ vs1)
    (hs : ∀ x, foldedSetIterable iter X.env x = pure x) (hs1 : ∀ env x, foldedSetIterable iter1 env x = pure x) :
    Es1 T X B W (.Assign [.Name y py] (.ListComp elt [⟨tg, iter, ifs, 0⟩, ⟨tg1, iter1, ifs1, 0⟩] scope pos) spos) (fun t => (kLc (own.map (·.2)) it (kTurn (own.map (·.2)) g cond (kLcIn vs1 it1 (kTurn vs1 g1 cond1 (kElt ev)))) t).fl fun v t => nxO (asgN i v t)) := by
  refine ps_imp (L2.ps_setLc2 (g := fun v σ H Q => ∃ B', gG T X B' g v σ H Q) (tt := fun σ H Q => ∃ B', tG T X B' Wno relB cond σ H Q) (wi1 := fun σ H Q => ∃ B', tG T X B' Wno (relIt T X) it1 σ H Q) (g1 := fun v σ H Q => ∃ B', gG T X B' g1 v σ H Q) (tt1 := fun σ H Q => ∃ B', tG T X B' Wno relB cond1 σ H Q) (te := fun σ H Q => ∃ B', tG T X B' Wno (relF X.K) (kSh ev) σ H Q) (vs1 := vs1) hc hN hy hyl hsw hi ok hv
    (fun s H C cl fp => ⟨fun pins s' σ H' v u Q I r ⟨B', q⟩ => (L.g s H C cl fp B').run pins s' σ H' v u Q I r (gG.cx (X := X) (X' := X.blk s H scope (compEnvC scope cl C X.env) fp) rfl hc hc q)⟩)
    (fun s H C cl fp => ⟨fun pins s' σ H' Q I ⟨B', q⟩ => (L.t s H C cl fp B').run pins s' σ H' Q I (tG.cx (X := X) (X' := X.blk s H scope (compEnvC scope cl C X.env) fp) rfl hc hc q)⟩)
    (fun s H C cl fp => ⟨fun pins s' σ H' Q I ⟨B', q⟩ => (L1.i s H C cl fp B').run pins s' σ H' Q I (tG.cxIt (X := X) (X' := X.blk s H scope (compEnvC scope cl C X.env) fp) rfl hc hc q)⟩)
    (fun s H C cl fp => ⟨fun pins s' σ H' v u Q I r ⟨B', q⟩ => (L1.l.g s H C cl fp B').run pins s' σ H' v u Q I r (gG.cx (X := X) (X' := X.blk s H scope (compEnvC scope cl C X.env) fp) rfl hc hc q)⟩)
    (fun s H C cl fp => ⟨fun pins s' σ H' Q I ⟨B', q⟩ => (L1.l.t s H C cl fp B').run pins s' σ H' Q I (tG.cx (X := X) (X' := X.blk s H scope (compEnvC scope cl C X.env) fp) rfl hc hc q)⟩)
    (fun s H C cl fp => ⟨fun pins s' σ H' Q I ⟨B', q⟩ => (ef_sh (L1.l.e s H C cl fp B')).run pins s' σ H' Q I (tG.cx (X := X) (X' := X.blk s H scope (compEnvC scope cl C X.env) fp) rfl hc hc q)⟩) hs hs1) fun D σ H q => ?_
  obtain ⟨F, t, R, p⟩ := q
  exact lc2_tr (B := B) (W := W) hc hsub hsub1 hv ⟨F, t, R, (PostS.fl0 (rel := relV X.K) p).imp fun v H1 q => asgN_post (c := ⟨F, H, t, σ⟩) q⟩
end
end Mp

set_option maxHeartbeats 2000000
/-! Part 23: try. -/
namespace Mp
open PySem PySem.Spec PyProof.Rows L2
/-- an except clause: its class, the name's slot and the name, its suite -/
structure Hd where
  c : Value
  nm : Option (Nat × Str)
  ts : Addr → Value → Option Addr → TS
def goneD (i : Nat) (D : Ends) : Ends := { nx := fun σ' H' => D.nx (σ'.set i none) H', rt := D.rt, bk := fun σ' H' => D.bk (σ'.set i none) H', ct := fun σ' H' => D.ct (σ'.set i none) H' }
/-- what the clauses wish of an exception of the body, one after the other -/
def wHds (K : PySem.W.Frag) (Wout : WX) (D : Ends) : List Hd → WX
  | [] => Wout
  | h :: r => fun cls d σ H => ∃ b, PySem.W.exmOne K cls h.c = some b ∧ (b = true → ∀ a, H a = none → match h.nm with
    | none => h.ts a cls d D σ H
    | some q => h.ts a cls d (goneD q.1 D) (σ.set q.1 (some (.ref a))) H) ∧ (b = false → wHds K Wout D r cls d σ H)
inductive HdsG (X : Cx) : List ExceptHandler → List Hd → Prop
  | nil : HdsG X [] []
  | cons {x : Str} {h : Hd} {b₀ : Stmt} {suite : List Stmt} {np pos' : Pos} {hds : List ExceptHandler} {l : List Hd} (hc : Names X x h.c) (hn : ∀ q, h.nm = some q → X.N[q.1]? = some q.2 ∧ X.env.kindOf q.2 = some .local)
      (hsu : ∀ (a : Addr) (oe : Obj) (cls : Value) (d : Option Addr) (pn : List (Addr × Obj)), Zc cls d oe → (∃ vs, oe.data = .fields vs) → PSs (X.suite a ((a, oe) :: pn)) (b₀ :: suite) (h.ts a cls d)) (r : HdsG X hds l) :
      HdsG X (.ExceptHandler (some (.Name x np)) (h.nm.map (·.2)) (b₀ :: suite) pos' :: hds) (h :: l)
section
variable {X : Cx} {body : List Stmt} {h₀ : ExceptHandler} {hds : List ExceptHandler} {l : List Hd} {pos : Pos} {tb : WX → TS} {Wout : WX}
theorem ps_tryG (hs : X.stack = X.env :: X.outer) (hf : X.env.frame = some X.env.locals) (hN : X.N.Nodup) (tk : Takes X Wout)
    (hb : ∀ (W : WX) (pn : List (Addr × Obj)) (xe : Value → Shared → Prop), Takes (X.tr pn xe) W → PassesOwn (model X.prog X.w) X.A X.env xe → PSs (X.tr pn xe) body (tb W))
    (hh : HdsG X (h₀ :: hds) l) : PS X (.Try body (h₀ :: hds) [] [] pos) (fun D σ H => tb (wHds X.K Wout D l) D σ H) := by
  refine ⟨fun pins s σ H D I h => ?_⟩
  have ok := I.ok
  have hfr : X.A.frames = some (X.env :: X.outer) := by rw [ok.frames, hs]
  refine wpAny_Try_except ?_
  refine wpAny_mono ((hb (wHds X.K Wout D l) (X.pn ++ pins) (fun e s₁ => wpAny (model X.prog X.w) X.A (noteFrame e X.env) (fun _ s₂ => wpAny (model X.prog X.w) X.A (setFlight e none) (fun _ s₃ =>
    wpAny (model X.prog X.w) X.A (handleBy e X.env (h₀ :: hds)) (SP X pins D) X.xe s₃) X.xe s₂) X.xe s₁) (fun u s' xx => ?_) PassesOwn.looking).run [] s σ H D (I.toTry _) h) (fun f s1 hsp => ?_) (fun e s1 he => he)
  · obtain ⟨a, B, sI, pins', σ', H', cls, d, rfl, J', nb, up, sky, na, os, ag, w⟩ := xx
    have J : Inv X pins σ' H' sI := J'.ofTry ok
    have sky' : Sky B (X.env :: X.outer) a (Zc cls d) X.env.locals s'.heap := by rw [← hs]; exact sky
    show wpAny (model X.prog X.w) X.A (noteFrame (.ref a) X.env) _ _ _
    refine Sky.land Zc.steady hfr hf sky' fun h3 fl3 up3 => ?_
    have J3 : Inv X pins σ' H' { s' with heap := h3 } := J.landed nb fl3.1 (up.trans up3) os ag
    obtain ⟨oe3, vs3, he3, hz3, hd3⟩ := fl3.there
    have notFr : ∀ {h : Heap} {o : Obj} {vs : Array Value}, h.FunFrames B (X.env :: X.outer) → h.get? a = some o → o.data = .fields vs → a ∉ frs (X.env :: X.outer) := fun {h o vs} ff e dd hm => by
      obtain ⟨_, o', e', hnf⟩ := ff.mem hm
      rw [e] at e'; cases e'
      exact hnf _ dd
    have nfr := notFr fl3.2.2.1 he3 hd3
    have nL : a ≠ X.env.locals := fun z => nfr (List.mem_filterMap.mpr ⟨X.env, List.mem_cons_self, by rw [hf, z]⟩)
    have nF : a ∉ X.fs := fun hm => by
      obtain ⟨e, he, q⟩ := List.mem_filterMap.mp hm
      exact nfr (List.mem_filterMap.mpr ⟨e, List.mem_cons_of_mem _ he, q⟩)
    have S3 := J3.suite he3 hd3 na nL nF
    have go : ∀ {hds' : List ExceptHandler} {l' : List Hd}, HdsG X hds' l' → wHds X.K Wout D l' cls d σ' H' →
        wpAny (model X.prog X.w) X.A (handleBy (.ref a) X.env hds') (SP X pins D) X.xe { s' with heap := h3 } := by
      intro hds' l' hk
      induction hk with
      | nil =>
        intro w
        refine wpAny_handleBy_nil ?_
        obtain ⟨k1, k2, k3, oe, vs, T, oT, ts', he, hz, hd, h1, hr⟩ := id fl3
        unfold PySem.passOn
        refine wpAny_bind (wpAny_field he hd h1 ?_)
        rw [if_neg (show ¬ ((Value.ref T == Value.none) = true) from by simp)]
        have fin : wpAny (model X.prog X.w) X.A (setFlight (.ref a) X.env.frame) (fun _ s4 => wpAny (model X.prog X.w) X.A (throw (.ref a) : Sem Flow) (SP X pins D) X.xe s4) X.xe { s' with heap := h3 } := by
          rw [hf]
          refine HandSPX.setFlight_upZ fl3 fun h4 hh4 up4 => wpAny_throw (tk _ _ ?_)
          exact ⟨a, B, sI, pins, σ', H', cls, d, rfl, J, nb, (up.trans up3).trans up4, .inr (.inr (by rw [hs]; exact hh4)), na, os, ag, w⟩
        first
          | exact wpAny_bind (wpAny_pure (wpAny_bind fin))
          | exact wpAny_bind fin
      | @cons x hh b₀ suite np pos' hds2 l2 hc hn hsu r ih =>
        intro w
        obtain ⟨b, hb1, hyes, hno⟩ := w
        refine wpAny_handleBy_cons (codeAny_handlers_test ?_) (by intro q; cases q)
        have LT : PySem.W.Looks (model X.prog X.w) h3 (typeOf (.ref a)) cls := fun A Q E s k q => wpAny_typeOf_ref (k _ _ he3) (by rw [hz3.1]; exact q)
        have LM := PySem.W.exm_one (M := model X.prog X.w) (J3.kIn) LT hb1
        have test : ∀ {Q : Value → Shared → Prop} {E : Value → Shared → Prop}, Q hh.c { s' with heap := h3 } → wpAny (model X.prog X.w) (X.A.mark (some (.ref a))) (eval (.Name x np) X.env) Q E { s' with heap := h3 } := fun {Q E} q => by
          obtain ⟨hg, hdbg, hm | ⟨hm, hv, hnn⟩⟩ := hc
          · exact ld_glob (X := X.suite a ((a, oe3) :: (X.pn ++ pins))) S3 hg hm q hdbg
          · exact ld_blt (X := X.suite a ((a, oe3) :: (X.pn ++ pins))) S3 hg hm hv q hnn hdbg
        refine test (LM.here ?_)
        cases b with
        | false =>
          show wpAny _ X.A (handleBy (.ref a) X.env hds2) _ _ _
          exact ih (hno rfl)
        | true =>
          have hyes' := hyes rfl a na
          cases hnm : hh.nm with
          | none =>
            rw [hnm] at hyes'
            refine codeAny_handlers_suite ?_
            refine HandSPX.lands_againZ fl3 fun h4 fl4 up4 => ?_
            have J4 : Inv X pins σ' H' { s' with heap := h4 } := J.landed nb fl4.1 ((up.trans up3).trans up4) os ag
            obtain ⟨oe4, vs4, he4, hz4, hd4⟩ := fl4.there
            have S4 := J4.suite he4 hd4 na nL nF
            refine wpAny_mono ((hsu a oe4 cls d (X.pn ++ pins) hz4 ⟨_, hd4⟩).run [] _ _ H' _ S4 hyes') (fun f s6 hsp => ?_) (fun _ _ z => False.elim z)
            cases f with
            | next => obtain ⟨σ6, H6, S6, q6⟩ := hsp; exact ⟨_, _, S6.unsuite ok, q6⟩
            | brk => obtain ⟨σ6, H6, S6, q6⟩ := hsp; exact ⟨_, _, S6.unsuite ok, q6⟩
            | cont => obtain ⟨σ6, H6, S6, q6⟩ := hsp; exact ⟨_, _, S6.unsuite ok, q6⟩
            | ret u => obtain ⟨v6, σ6, H6, S6, r6, q6⟩ := hsp; exact ⟨_, _, _, S6.unsuite ok, r6, q6⟩
          | some q =>
            obtain ⟨i, n⟩ := q
            obtain ⟨hi, hln⟩ := hn _ hnm
            rw [hnm] at hyes'
            dsimp only at hyes' hi hln
            have hloc : Loc X.env.scope n := .inl hln
            refine codeAny_handlers_suite_as ?_
            refine HandSPX.lands_againZ fl3 fun h4 fl4 up4 => ?_
            have J4 : Inv X pins σ' H' { s' with heap := h4 } := J.landed nb fl4.1 ((up.trans up3).trans up4) os ag
            obtain ⟨oe4, vs4, he4, hz4, hd4⟩ := fl4.there
            have S4 := J4.suite he4 hd4 na nL nF
            refine store_ok (X := X.suite a ((a, oe4) :: (X.pn ++ pins))) (v := .ref a) S4 hN hi hloc rfl (fun s5 S5 => ?_) (.inr hln)
            refine wpAny_mono ((hsu a oe4 cls d (X.pn ++ pins) hz4 ⟨_, hd4⟩).run [] s5 _ H' _ S5 hyes') (fun f s6 hsp => ?_) (fun _ _ z => False.elim z)
            have end_ : ∀ {σ6 : Sg} {H6 : Hp} {Q : Shared → Prop}, Inv (X.suite a ((a, oe4) :: (X.pn ++ pins))) [] σ6 H6 s6 → (∀ s7, Inv X pins (σ6.set i none) H6 s7 → Q s7) →
                wpAny (model X.prog X.w) X.A (do bindName X.env n .none; unbindBehindTheSuite X.env n pos') (fun _ s7 => Q s7) X.xe s6 := fun {σ6 H6 Q} S6 hq => gone_ok (S6.unsuite ok) hN hi hln hq
            cases f with
            | next => obtain ⟨σ6, H6, S6, q6⟩ := hsp; exact end_ S6 fun s7 J7 => ⟨_, _, J7, q6⟩
            | brk => obtain ⟨σ6, H6, S6, q6⟩ := hsp; exact end_ S6 fun s7 J7 => ⟨_, _, J7, q6⟩
            | cont => obtain ⟨σ6, H6, S6, q6⟩ := hsp; exact end_ S6 fun s7 J7 => ⟨_, _, J7, q6⟩
            | ret u => obtain ⟨v6, σ6, H6, S6, r6, q6⟩ := hsp; exact end_ S6 fun s7 J7 => ⟨_, _, _, J7, r6, q6⟩
    exact go hh w
  · cases f with
    | next => obtain ⟨σ', H', J', q⟩ := hsp; exact wpAny_execs_nil ⟨σ', H', J'.ofTry ok, q⟩
    | brk => obtain ⟨σ', H', J', q⟩ := hsp; exact ⟨σ', H', J'.ofTry ok, q⟩
    | cont => obtain ⟨σ', H', J', q⟩ := hsp; exact ⟨σ', H', J'.ofTry ok, q⟩
    | ret u => obtain ⟨v, σ', H', J', r, q⟩ := hsp; exact ⟨v, σ', H', J'.ofTry ok, r, q⟩
end
/-! ### over the evaluator -/
/-- a clause of the text beside the evaluator's -/
structure Ck where
  c : Cl
  nm : Option (Nat × Str)
  ev : Mp.St → Fl
def hdsF (P : Pr) : List Ck → Ex → Mp.St → Fl
  | [] => fun x t => .rs x t
  | k :: r => fun x t => hdF P k.c (k.nm.map (·.1)) k.ev x (hdsF P r x) t
/-- a suite, in any context that its exception makes -/
def suTS (T : Tb) (X : Cx) (ev : Mp.St → Fl) : Addr → Value → Option Addr → TS := fun a cls d D σ H => ∃ B, ∀ oe pn, Zc cls d oe → (∃ vs, oe.data = .fields vs) → tS T (X.suite a ((a, oe) :: pn)) B Wno ev D σ H
def hdOf (T : Tb) (X : Cx) (k : Ck) : Hd := ⟨clW T k.c, k.nm, suTS T X k.ev⟩
section
variable {P : Pr} {T : Tb} {X : Cx} {B : Bs} {W : WX} {pos : Pos}
/-- a state without caught exceptions is told alike outside -/
theorem Rl.off {X' : Cx} {c : Cf} (hK : X'.K = X.K) (hn : noEx c.t = true) (R : Rl T X B c) : Rl T X' B c where
  sub := R.sub
  len := R.len
  at_ := fun i s e => by
    have q := R.at_ i s e
    cases s with
    | un => trivial
    | fz d => obtain ⟨v, e, r⟩ := q; exact ⟨v, e, by rw [hK]; exact r⟩
    | ow d => obtain ⟨v, e, r⟩ := q; exact ⟨v, e, by rw [hK]; exact r⟩
    | bw d => obtain ⟨v, e, b, r⟩ := q; exact ⟨v, e, b, by rw [hK]; exact r⟩
    | bf d => obtain ⟨v, e, b, r⟩ := q; exact ⟨v, e, b, by rw [hK]; exact r⟩
    | ln bb d => obtain ⟨v, e, b, r⟩ := q; exact ⟨v, e, b, by rw [hK]; exact r⟩
    | ex x =>
      have hm := List.all_eq_true.mp hn _ (List.mem_of_getElem? e)
      cases hm
  dis := R.dis
theorem clS_some {t : Mp.St} {f : Fl} (h : clS t f ≠ .bad) : noEx t = true ∧ clS t f = f := by
  unfold clS at h ⊢
  split at h
  · rename_i e; exact ⟨e, if_pos e⟩
  · exact absurd rfl h
theorem drop_hd {F H : Hp} {t : Mp.St} {σ : Sg} {i : Nat} {a : Addr} (h : Cf.Hd ⟨F, H, t.set i .un, σ.set i none⟩ a) : Cf.Hd ⟨F, H, t, σ⟩ a := by
  obtain ⟨j, q⟩ := h
  by_cases hj : j = i
  · subst hj
    have := (hd_at q).1
    cases this
  · exact ⟨j, (hd_set (c := ⟨F, H, t, σ⟩) hj fun k hk => List.getElem?_set_ne (Ne.symm hk)).mp q⟩
theorem off_none {X' : Cx} {c : Cf} {D : Ends} {f : Fl} (hK : X'.K = X.K) (p : PostS T X B W c (offS none f) D) : PostS T X' B Wno c f D := by
  unfold offS at p
  cases f with
  | nx t => obtain ⟨hn, e⟩ := clS_some (fun e => by dsimp only at p; rw [e] at p; exact p.elim); dsimp only at p; rw [e] at p; exact fun F' H' σ' R x => p F' H' σ' (Rl.off hK.symm hn R) x
  | bk t => obtain ⟨hn, e⟩ := clS_some (fun e => by dsimp only at p; rw [e] at p; exact p.elim); dsimp only at p; rw [e] at p; exact fun F' H' σ' R x => p F' H' σ' (Rl.off hK.symm hn R) x
  | ct t => obtain ⟨hn, e⟩ := clS_some (fun e => by dsimp only at p; rw [e] at p; exact p.elim); dsimp only at p; rw [e] at p; exact fun F' H' σ' R x => p F' H' σ' (Rl.off hK.symm hn R) x
  | rt v t => obtain ⟨hn, e⟩ := clS_some (fun e => by dsimp only at p; rw [e] at p; exact p.elim); dsimp only at p; rw [e] at p; exact fun y F' H' σ' R x q => p y F' H' σ' (Rl.off hK.symm hn R) x (by rw [hK] at q; exact q)
  | rs y t => exact p.elim
  | bad => exact p.elim
theorem off_some {X' : Cx} {c c2 : Cf} {D : Ends} {f : Fl} {i : Nat} (hK : X'.K = X.K) (x0 : Ext c c2) (p : PostS T X B W c (offS (some i) f) D) : PostS T X' B Wno c2 f (goneD i D) := by
  unfold offS at p
  cases f with
  | nx t =>
    obtain ⟨hn, e⟩ := clS_some (fun e => by dsimp only at p; rw [e] at p; exact p.elim)
    dsimp only at p; rw [e] at p
    intro F' H' σ' R x
    obtain ⟨R1, x1⟩ := R.dropV i (o := none)
    exact p F' H' _ (Rl.off hK.symm hn R1) ((x0.trans x).trans x1)
  | bk t =>
    obtain ⟨hn, e⟩ := clS_some (fun e => by dsimp only at p; rw [e] at p; exact p.elim)
    dsimp only at p; rw [e] at p
    intro F' H' σ' R x
    obtain ⟨R1, x1⟩ := R.dropV i (o := none)
    exact p F' H' _ (Rl.off hK.symm hn R1) ((x0.trans x).trans x1)
  | ct t =>
    obtain ⟨hn, e⟩ := clS_some (fun e => by dsimp only at p; rw [e] at p; exact p.elim)
    dsimp only at p; rw [e] at p
    intro F' H' σ' R x
    obtain ⟨R1, x1⟩ := R.dropV i (o := none)
    exact p F' H' _ (Rl.off hK.symm hn R1) ((x0.trans x).trans x1)
  | rt v t =>
    obtain ⟨hn, e⟩ := clS_some (fun e => by dsimp only at p; rw [e] at p; exact p.elim)
    dsimp only at p; rw [e] at p
    intro y F' H' σ' R x q
    obtain ⟨R1, x1⟩ := R.dropV i (o := none)
    refine p y F' H' _ (Rl.off hK.symm hn R1) ((x0.trans x).trans x1) ?_
    rw [hK] at q
    have q2 := relV_shift x0 q
    unfold relV at q2 ⊢
    by_cases z : v.2 = true
    · rw [if_pos z] at q2 ⊢
      obtain ⟨a, e1, o, n, w⟩ := q2
      exact ⟨a, e1, o, fun h => n (drop_hd h), w⟩
    · rw [if_neg z] at q2 ⊢; exact q2
  | rs y t => exact p.elim
  | bad => exact p.elim
theorem hd_post {c : Cf} {D : Ends} {x : Ex} {cls : Value} {dd : Addr} (G : Gc P T X.K) (hc : X.calm = true) (R : Rl T X B c) (ex : ExR T X.K c.F x cls dd) : ∀ {l : List Ck}, PostS T X B W c (hdsF P l x c.t) D → wHds X.K W D (l.map (hdOf T X)) cls (some dd) c.σ c.H
  | [], p => p cls dd c.F c.H c.σ R (Ext.refl _) ex
  | k :: l, p => by
    have p0 : PostS T X B W c (hdF P k.c (k.nm.map (·.1)) k.ev x (hdsF P l x) c.t) D := p
    unfold hdF at p0
    split at p0
    · rename_i hx
      obtain ⟨ec, fs, eF, hfs⟩ := id ex
      have em : PySem.W.exmOne X.K cls (clW T k.c) = some (isExc P x.c k.c) := by
        rw [ec]
        cases hk : k.c with
        | own j => rw [hk] at hx; exact G.exm _ _ hx.2 hx.1
        | VE => exact G.exv _ hx.2
        | _ => rw [hk] at hx; cases hx.1
      refine ⟨isExc P x.c k.c, em, fun hb a ha => ?_, fun hb => ?_⟩
      · rw [if_pos hb] at p0
        cases hnm : k.nm with
        | none =>
          rw [hnm] at p0
          simp only [hdOf, hnm]
          have p1 : PostS T X B W c (offS none (k.ev c.t)) D := p0
          exact ⟨B, fun oe pn hz hf => ⟨c.F, c.t, Rl.cx (X := X) (X' := X.suite a ((a, oe) :: pn)) rfl hc R, off_none (X := X) (X' := X.suite a ((a, oe) :: pn)) rfl p1⟩⟩
        | some q =>
          obtain ⟨i, n⟩ := q
          rw [hnm] at p0
          simp only [hdOf, hnm]
          have p1 : PostS T X B W c (match exSl (some i) x c.t with
            | some t' => offS (some i) (k.ev t')
            | none => .bad) D := p0
          unfold exSl at p1
          dsimp only at p1
          cases ei : c.t[i]? with
          | none => rw [ei] at p1; exact p1.elim
          | some s =>
            rw [ei] at p1
            cases s <;> first | exact p1.elim | skip
            dsimp only at p1
            refine ⟨B, fun oe pn hz hf => ?_⟩
            have R0 : Rl T (X.suite a ((a, oe) :: pn)) B c := Rl.cx (X := X) (X' := X.suite a ((a, oe) :: pn)) rfl hc R
            obtain ⟨R1, x1⟩ := R0.bind (i := i) (s' := .ex x) (v := .ref a) (R.lt ei) ⟨a, rfl, rfl, oe, dd, fs, List.mem_cons_self, by rw [← ec]; exact hz, hf, eF, hfs⟩ (fun b _ z => by cases z)
            exact ⟨c.F, c.t.set i (.ex x), R1, off_some (X := X) (X' := X.suite a ((a, oe) :: pn)) rfl x1 p1⟩
      · rw [if_neg (by rw [hb]; exact Bool.false_ne_true)] at p0
        exact hd_post G hc R ex p0
    · exact p0.elim
theorem tS.cx {X' : Cx} {ev : Mp.St → Fl} (hK : X'.K = X.K) (hc : X.calm = true) (hc' : X'.calm = true) {D : Ends} {σ : Sg} {H : Hp} (h : tS T X B W ev D σ H) : tS T X' B W ev D σ H := by
  obtain ⟨F, t, R, p⟩ := h
  refine ⟨F, t, R.cx hK hc, ?_⟩
  cases e : ev t with
  | nx t' => rw [e] at p; exact fun F' H' σ' R' x => p F' H' σ' (R'.cx hK.symm hc') x
  | bk t' => rw [e] at p; exact fun F' H' σ' R' x => p F' H' σ' (R'.cx hK.symm hc') x
  | ct t' => rw [e] at p; exact fun F' H' σ' R' x => p F' H' σ' (R'.cx hK.symm hc') x
  | rt v t' => rw [e] at p; exact fun y F' H' σ' R' x q => p y F' H' σ' (R'.cx hK.symm hc') x (by rw [hK] at q; exact q)
  | rs y t' => rw [e] at p; exact fun cls dd F' H' σ' R' x q => p cls dd F' H' σ' (R'.cx hK.symm hc') x (by rw [hK] at q; exact q)
  | bad => rw [e] at p; exact p
inductive CksOk (T : Tb) (X : Cx) : List ExceptHandler → List Ck → Prop
  | nil : CksOk T X [] []
  | cons {x : Str} {k : Ck} {b₀ : Stmt} {suite : List Stmt} {np pos' : Pos} {hds : List ExceptHandler} {l : List Ck} (hc : Names X x (clW T k.c)) (hn : ∀ q, k.nm = some q → X.N[q.1]? = some q.2 ∧ X.env.kindOf q.2 = some .local)
      (hsu : ∀ (a : Addr) (oe : Obj) (pn : List (Addr × Obj)) (B : Bs), Ess T (X.suite a ((a, oe) :: pn)) B Wno (b₀ :: suite) k.ev) (r : CksOk T X hds l) :
      CksOk T X (.ExceptHandler (some (.Name x np)) (k.nm.map (·.2)) (b₀ :: suite) pos' :: hds) (k :: l)
theorem CksOk.hds : ∀ {hds : List ExceptHandler} {l : List Ck}, CksOk T X hds l → HdsG X hds (l.map (hdOf T X))
  | _, _, .nil => .nil
  | _, _, .cons (k := k) hc hn hsu r => .cons (h := hdOf T X k) hc hn (fun a oe cls d pn hz hf => ⟨fun pins s σ H D I ⟨B, q⟩ => (hsu a oe pn B).run pins s σ H D I (q oe pn hz hf)⟩) r.hds
theorem ss_try {body : List Stmt} {h₀ : ExceptHandler} {hds : List ExceptHandler} {l : List Ck} {eb : Mp.St → Fl} (hs : X.stack = X.env :: X.outer) (hf : X.env.frame = some X.env.locals) (hN : X.N.Nodup) (tk : Takes X W) (hc : X.calm = true) (G : Gc P T X.K)
    (hb : ∀ (W : WX) (pn : List (Addr × Obj)) (xe : Value → Shared → Prop), Takes (X.tr pn xe) W → PassesOwn (model X.prog X.w) X.A X.env xe → Ess T (X.tr pn xe) B W body eb) (hh : CksOk T X (h₀ :: hds) l) :
    Es1 T X B W (.Try body (h₀ :: hds) [] [] pos) (tryF eb (hdsF P l)) := by
  refine ps_imp (ps_tryG (tb := fun W => tS T X B W eb) hs hf hN tk (fun W pn xe tk' po => ⟨fun pins s σ H D I q => (hb W pn xe tk' po).run pins s σ H D I (tS.cx (X := X) (X' := X.tr pn xe) rfl hc hc q)⟩) hh.hds) fun D σ H q => ?_
  obtain ⟨F, t, R, p⟩ := q
  refine ⟨F, t, R, ?_⟩
  unfold tryF at p
  cases e : eb t with
  | nx t' => rw [e] at p; exact p
  | bk t' => rw [e] at p; exact p
  | ct t' => rw [e] at p; exact p
  | rt v t' => rw [e] at p; exact p
  | bad => rw [e] at p; exact p
  | rs y t' =>
    rw [e] at p
    exact fun cls dd F' H' σ' R' x' ex => hd_post (c := ⟨F', H', t', σ'⟩) G hc R' ex (PostS.shift (c := ⟨F, H, t, σ⟩) x' p)
end
end Mp

set_option maxHeartbeats 2000000
/-! Part 24: the terms beside the text: a checker. -/
namespace Mp
open PySem PySem.Spec PyProof.Rows L2
/-- the names: of the slots, of the program -/
structure Gm where
  N : List Str
  fns : List (Str × Nat)
  cls : List (Str × Nat)
  gls : List (Str × Nat)
  flds : List (Str × Nat)
def sEq (a b : Str) : Bool := decide (a = b)
theorem sEq_eq {a b : Str} (h : sEq a b = true) : a = b := of_decide_eq_true h
def notRes (x : Str) : Bool := !(x == ("__debug__" : Str)) && !(x == ("__classdict__" : Str))
theorem notRes_eq {x : Str} (h : notRes x = true) : (x == ("__debug__" : Str)) = false ∧ (x == ("__classdict__" : Str)) = false := by
  unfold notRes at h
  rw [Bool.and_eq_true, Bool.not_eq_true', Bool.not_eq_true'] at h
  exact h
def visK : Option NameKind → Bool
  | some .local => true
  | some .cell => true
  | some .free => true
  | _ => false
def locK : Option NameKind → Bool
  | some .local => true
  | some .cell => true
  | _ => false
def glK : Option NameKind → Bool
  | some .globalImplicit => true
  | _ => false
def ckVar (Γ : Gm) (sc : Scope) (i : Nat) (x : Str) : Bool := decide (Γ.N[i]? = some x) && visK (sc.names.lookup x) && notRes x
def ckGl (sc : Scope) (x : Str) : Bool := glK (sc.names.lookup x) && notRes x
def ckNo (l : List (Str × Nat)) (x : Str) (k : Nat) : Bool := decide (l.lookup x = some k)
def ckC : D → Const → Bool
  | .none, .none => true
  | .bool a, .bool b => a == b
  | .int a, .int b => decide (a = b)
  | .str a, .str b => decide (a = b) && decide (a.length ≤ 100000) && PyData.strOk a
  | _, _ => false
def ckBop : Bop → Operator → Bool
  | .add, .Add => true
  | .sub, .Sub => true
  | .mul, .Mult => true
  | .fdiv, .FloorDiv => true
  | .mod, .Mod => true
  | .pow, .Pow => true
  | _, _ => false
def ckCop : Cop → CmpOp → Bool
  | .eq, .Eq => true
  | .ne, .NotEq => true
  | .lt, .Lt => true
  | .le, .LtE => true
  | .gt, .Gt => true
  | .ge, .GtE => true
  | .isin, .In => true
  | .notin, .NotIn => true
  | .isN, .Is => true
  | .notN, .IsNot => true
  | _, _ => false
def noSet : Expr → Bool
  | .Set .. => false
  | _ => true
def noSlice : Expr → Bool
  | .Slice .. => false
  | _ => true
/-- no super() -/
def noSup : Expr → Bool
  | .Call _ [] _ _ => false
  | _ => true
def biN : Bf → Str
  | .len => "len"
  | .abs => "abs"
  | .int => "int"
  | .str => "str"
  | .min => "min"
  | .max => "max"
  | .sum => "sum"
  | .list => "list"
  | .tuple => "tuple"
  | .sorted => "sorted"
  | .any => "any"
  | .all => "all"
def biOk : Bf → Bool
  | .len | .abs | .int | .min | .max | .list | .tuple | .str | .all | .any | .sum => true
  | _ => false
def meN : Mf → Str
  | .startswith => "startswith"
  | .strip => "strip"
  | .find => "find"
  | .join => "join"
  | .index => "index"
  | .count => "count"
def meOk : Mf → Bool
  | .startswith | .strip | .find | .join => true
  | _ => false
def ckCl (Γ : Gm) (sc : Scope) (c : Cl) (x : Str) : Bool := ckGl sc x && (match c with
  | .own k => ckNo Γ.cls x k
  | .VE => sEq x "ValueError"
  | .int => sEq x "int"
  | .str => sEq x "str"
  | .bool => sEq x "bool"
  | .tuple => sEq x "tuple"
  | .list => sEq x "list"
  | .dict => sEq x "dict")
def ckCls (Γ : Gm) (sc : Scope) : List Cl → List Expr → Bool
  | [], [] => true
  | c :: cs, e :: es => (match e with
    | .Name x _ => ckCl Γ sc c x
    | _ => false) && ckCls Γ sc cs es
  | _, _ => false
def oneLine (a b : Pos) : Bool := a.endLine == b.line
/-- the slots' names -/
def ownN (Γ : Gm) (own : List Nat) : List (Str × Nat) := own.map fun i => ((Γ.N[i]?).getD "", i)
mutual
/-- a target; sc0: the scope whose names are stored -/
def ckTg (Γ : Gm) (sc0 : Scope) : Tg → Expr → Bool
  | .nm i, e => (match e with
    | .Name x _ => decide (Γ.N[i]? = some x) && locK (sc0.names.lookup x)
    | _ => false)
  | .tp gs, e => (match e with
    | .Tuple es _ _ => es.all unstar && ckTgs Γ sc0 gs es
    | _ => false)
def ckTgs (Γ : Gm) (sc0 : Scope) : List Tg → List Expr → Bool
  | [], [] => true
  | g :: gs, e :: es => ckTg Γ sc0 g e && ckTgs Γ sc0 gs es
  | _, _ => false
end
def inOwn (own : List Nat) (g : Tg) : Bool := (tgIx g).all fun i => own.contains i
mutual
def ckE (Γ : Gm) (sc : Scope) : E → Expr → Bool
  | .bad, _ => true
  | .var i, e => (match e with
    | .Name x _ => ckVar Γ sc i x
    | _ => false)
  | .c d, e => (match e with
    | .Constant k _ _ => ckC d k
    | _ => false)
  | .g k, e => (match e with
    | .Name x _ => ckGl sc x && ckNo Γ.gls x k
    | _ => false)
  | .bin op a b, e => (match e with
    | .BinOp l o r _ => ckBop op o && ckE Γ sc a l && ckE Γ sc b r
    | _ => false)
  | .neg a, e => (match e with
    | .UnaryOp .USub l _ => ckE Γ sc a l
    | _ => false)
  | .not a, e => (match e with
    | .UnaryOp .Not l _ => ckE Γ sc a l
    | _ => false)
  | .cmp op a b, e => (match e with
    | .Compare l [o] [r] _ => ckCop op o && noSet r && ckE Γ sc a l && ckE Γ sc b r
    | _ => false)
  | .cmp2 op op' a b c, e => (match e with
    | .Compare l [o, o'] [r, r'] _ => ckCop op o && ckCop op' o' && noSet r' && ckE Γ sc a l && ckE Γ sc b r && ckE Γ sc c r'
    | _ => false)
  | .and es, e => (match e with
    | .BoolOp .And vs _ => ckEs Γ sc es vs
    | _ => false)
  | .or es, e => (match e with
    | .BoolOp .Or vs _ => ckEs Γ sc es vs
    | _ => false)
  | .ife c a b, e => (match e with
    | .IfExp t x y _ => ckE Γ sc c t && ckE Γ sc a x && ckE Γ sc b y
    | _ => false)
  | .tup es, e => (match e with
    | .Tuple vs _ _ => vs.all unstar && ckEs Γ sc es vs
    | _ => false)
  | .lst es, e => (match e with
    | .List vs _ => vs.all unstar && ckEs Γ sc es vs
    | _ => false)
  | .dic0, e => (match e with
    | .Dict [] [] _ => true
    | _ => false)
  | .ix a b, e => (match e with
    | .Subscript v s _ => noSlice s && ckE Γ sc a v && ckE Γ sc b s
    | _ => false)
  | .sl a lo hi, e => (match e with
    | .Subscript v (.Slice l h none _) _ => ckE Γ sc a v && ckO Γ sc lo l && ckO Γ sc hi h
    | _ => false)
  | .rev a, e => (match e with
    | .Subscript v (.Slice none none (some (.UnaryOp .USub (.Constant (.int i) _ _) _)) _) _ => decide (i = 1) && ckE Γ sc a v
    | _ => false)
  | .call k es, e => (match e with
    | .Call (.Name x _) vs [] _ => ckGl sc x && ckNo Γ.fns x k && vs.all unstar && ckEs Γ sc es vs
    | _ => false)
  | .bi f es, e => (match e with
    | .Call (.Name x _) (v :: vs) [] _ => sEq x (biN f) && biOk f && ckGl sc x && (v :: vs).all unstar && ckEs Γ sc es (v :: vs)
    | _ => false)
  | .me m a es, e => (match e with
    | .Call (.Attribute o n ap) (v :: vs) [] cp => sEq n (meN m) && meOk m && noSup o && oneLine ap cp && decide ((v :: vs).length < 28) && (v :: vs).all unstar && ckE Γ sc a o && ckEs Γ sc es (v :: vs)
    | _ => false)
  | .lkeys a, e => (match e with
    | .Call (.Name x _) [.Call (.Attribute o n ap) [] [] cp] [] _ => sEq x "list" && ckGl sc x && sEq n "keys" && noSup o && oneLine ap cp && ckE Γ sc a o
    | _ => false)
  | .lvals a, e => (match e with
    | .Call (.Name x _) [.Call (.Attribute o n ap) [] [] cp] [] _ => sEq x "list" && ckGl sc x && sEq n "values" && noSup o && oneLine ap cp && ckE Γ sc a o
    | _ => false)
  | .pop i, e => (match e with
    | .Call (.Attribute (.Name x _) n ap) [] [] cp => sEq n "pop" && oneLine ap cp && ckVar Γ sc i x
    | _ => false)
  | .popi i a, e => (match e with
    | .Call (.Attribute (.Name x _) n ap) [v] [] cp => sEq n "pop" && oneLine ap cp && ckVar Γ sc i x && unstar v && ckE Γ sc a v
    | _ => false)
  | .app i a, e => (match e with
    | .Call (.Attribute (.Name x _) n ap) [v] [] cp => sEq n "append" && oneLine ap cp && ckVar Γ sc i x && unstar v && ckE Γ sc a v
    | _ => false)
  | .ext i a, e => (match e with
    | .Call (.Attribute (.Name x _) n ap) [v] [] cp => sEq n "extend" && oneLine ap cp && ckVar Γ sc i x && unstar v && ckE Γ sc a v
    | _ => false)
  | .isi a cls, e => (match e with
    | .Call (.Name x _) [v, .Tuple ys _ _] [] _ => sEq x "isinstance" && ckGl sc x && unstar v && ys.all unstar && decide (cls.length ≤ 1000) && ckCls Γ sc cls ys && ckE Γ sc a v
    | .Call (.Name x _) [v, .Name y p] [] _ => sEq x "isinstance" && ckGl sc x && unstar v && ckCls Γ sc cls [.Name y p] && ckE Γ sc a v
    | _ => false)
  | .fld i f, e => (match e with
    | .Attribute (.Name x _) n _ => ckVar Γ sc i x && ckNo Γ.flds n f
    | _ => false)
  | .lc elt own tg it cds, e => (match e with
    | .ListComp el [⟨t, iter, ifs, z⟩] scope _ => decide (z = 0) && noSet iter && blkC Γ.N sc scope (ownN Γ own) && decide ((ownN Γ own).map (·.2) = own) && inOwn own tg && ckTg Γ scope tg t && ckIt Γ sc t it iter && ckEs Γ (relS scope sc) cds ifs && ckE Γ (relS scope sc) elt el
    | _ => false)
  | .lc2 elt own tg it cds own1 tg1 it1 cds1, e => (match e with
    | .ListComp el [⟨t, iter, ifs, z⟩, ⟨t1, iter1, ifs1, z1⟩] scope _ => decide (z = 0) && decide (z1 = 0) && noSet iter && noSet iter1 && blkC Γ.N sc scope (ownN Γ own) && decide ((ownN Γ own).map (·.2) = own) && own1.all own.contains && inOwn own tg && inOwn own1 tg1 && ckTg Γ scope tg t && ckTg Γ scope tg1 t1 && ckIt Γ sc t it iter && ckIt Γ (relS scope sc) t1 it1 iter1 && ckEs Γ (relS scope sc) cds ifs && ckEs Γ (relS scope sc) cds1 ifs1 && ckE Γ (relS scope sc) elt el
    | _ => false)
def ckEs (Γ : Gm) (sc : Scope) : Es → List Expr → Bool
  | .nil, vs => (match vs with
    | [] => true
    | _ => false)
  | .cons e es, vs => (match vs with
    | v :: vs => ckE Γ sc e v && ckEs Γ sc es vs
    | _ => false)
def ckO (Γ : Gm) (sc : Scope) : O → Option Expr → Bool
  | .no, v => (match v with
    | none => true
    | _ => false)
  | .so e, v => (match v with
    | some v => ckE Γ sc e v
    | _ => false)
/-- an iterable; t: the target -/
def ckIt (Γ : Gm) (sc : Scope) (t : Expr) : It → Expr → Bool
  | .bad, _ => true
  | .of a, e => ckE Γ sc a e
  | .rng1 a, e => (match e with
    | .Call (.Name x _) [u] [] _ => sEq x "range" && ckGl sc x && unstar u && ckE Γ sc a u
    | _ => false)
  | .rng2 a b, e => (match e with
    | .Call (.Name x _) [u, v] [] _ => sEq x "range" && ckGl sc x && unstar u && unstar v && ckE Γ sc a u && ckE Γ sc b v
    | _ => false)
  | .rng3 a b c, e => (match e with
    | .Call (.Name x _) [u, v, w] [] _ => sEq x "range" && ckGl sc x && unstar u && unstar v && unstar w && ckE Γ sc a u && ckE Γ sc b v && ckE Γ sc c w
    | _ => false)
  | .enum a, e => (match t, e with
    | .Tuple .., .Call (.Name x _) [u] [] _ => sEq x "enumerate" && ckGl sc x && unstar u && ckE Γ sc a u
    | _, _ => false)
  | .zip a b, e => (match t, e with
    | .Tuple .., .Call (.Name x _) [u, v] [] _ => sEq x "zip" && ckGl sc x && unstar u && unstar v && ckE Γ sc a u && ckE Γ sc b v
    | _, _ => false)
  | .enz a b, e => (match t, e with
    | .Tuple .., .Call (.Name y _) [.Call (.Name x _) [u, v] [] _] [] _ => sEq y "enumerate" && ckGl sc y && sEq x "zip" && ckGl sc x && unstar u && unstar v && ckE Γ sc a u && ckE Γ sc b v
    | _, _ => false)
end
/-- the built-in names in use -/
def blts : List Str := ["len", "abs", "int", "min", "max", "list", "tuple", "isinstance", "range", "enumerate", "zip", "ValueError", "str", "bool", "dict", "all", "any", "sum"]
/-- a def that may be called -/
structure FnFact (P : Pr) (T : Tb) (n : Nat) (X : Cx) (x : Str) (k : Nat) : Prop where
  ex : ∃ (f : Df) (fd : FuncData) (ps : List Str), P.df k = some f ∧ FnOk X.prog X.w X.K X.mg X.base (L2.CX X.prog X.w) (n + 2) (T.fn k) fd ps (SpC T X.K f.np (callN P n k)) ∧ X.mg x = some (.ref (T.fn k)) ∧ PySem.W.keepIn X.K (.ref (T.fn k)) = true ∧ Binds X.K fd ps []
/-- a context that the program's terms may be run in -/
structure Gd (P : Pr) (T : Tb) (Γ : Gm) (n : Nat) (sc sc0 : Scope) (hot : Bool) (X : Cx) (W : WX) : Prop where
  N : X.N = Γ.N
  nd : Γ.N.Nodup
  scE : X.env.scope = sc
  tgs : ∀ x, locK (sc0.names.lookup x) = true → L2.Loc sc x ∧ (X.fn x = true ∨ sc.names.lookup x = some .local)
  G : Gc P T X.K
  fn : ∀ x k, Γ.fns.lookup x = some k → FnFact P T n X x k
  cl : ∀ x k, Γ.cls.lookup x = some k → X.mg x = some (.ref (T.cl k))
  gl : ∀ x k, Γ.gls.lookup x = some k → ∃ d, P.gl k = some d ∧ GlOk X.K X.mg x d
  fl : ∀ x k, Γ.flds.lookup x = some k → T.fld k = x
  bl : ∀ x ∈ blts, X.mg x = none
  calm : hot = false → X.calm = true ∧ Takes X W ∧ Room (n + 2) X.A
  un : X.A.units + 64 < cLine
end Mp

set_option maxHeartbeats 4000000
/-! Part 25: checked terms run as the evaluator says. -/
namespace Mp
open PySem PySem.Spec PyProof.Rows L2
section
variable {P : Pr} {T : Tb} {Γ : Gm} {n : Nat} {sc sc0 : Scope} {hot : Bool} {X : Cx} {W : WX} {B : Bs}
theorem and2 {a b : Bool} (h : (a && b) = true) : a = true ∧ b = true := by rw [Bool.and_eq_true] at h; exact h
theorem visK_vis {x : Str} (g : Gd P T Γ n sc sc0 hot X W) (h : visK (sc.names.lookup x) = true) : Vis X.env.scope x := by
  rw [g.scE]
  unfold visK at h
  split at h
  · rename_i e; exact .inl e
  · rename_i e; exact .inr (.inl e)
  · rename_i e; exact .inr (.inr e)
  · cases h
theorem glK_gl {x : Str} (g : Gd P T Γ n sc sc0 hot X W) (h : ckGl sc x = true) : Gl X x ∧ (x == ("__debug__" : Str)) = false := by
  unfold ckGl at h
  obtain ⟨h1, h2⟩ := and2 h
  refine ⟨?_, (notRes_eq h2).1⟩
  show X.env.scope.names.lookup x = _
  rw [g.scE]
  unfold glK at h1
  split at h1
  · assumption
  · cases h1
theorem ok_var {i : Nat} {x : Str} {p : Pos} (g : Gd P T Γ n sc sc0 hot X W) (h : ckVar Γ sc i x = true) : Eo T X B W (.Name x p) (opnV i) ∧ Ee T X B W (.Name x p) (kVar i) ∧ Et T X B W (.Name x p) (fun t => Mp.R.of (((t[i]?).bind rdS).map truth) t) ∧ X.N[i]? = some x ∧ Vis X.env.scope x ∧ (x == ("__debug__" : Str)) = false ∧ (x == ("__classdict__" : Str)) = false := by
  unfold ckVar at h
  obtain ⟨h, h3⟩ := and2 h
  obtain ⟨h1, h2⟩ := and2 h
  have h1 := of_decide_eq_true h1
  rw [← g.N] at h1
  obtain ⟨d1, d2⟩ := notRes_eq h3
  have v := visK_vis g h2
  exact ⟨eo_var h1 v d1 d2, ee_var h1 v d1 d2, et_var h1 v d1 d2, h1, v, d1, d2⟩
theorem gd_of {α : Type} {f : Mp.St → R α} {rel : Cf → Cf → V → α → Prop} {e : Expr} (h : hot = false → PE X e (tG T X B W rel f)) : PE X e (tG T X B W rel (gd hot f)) := by
  cases hot with
  | false => exact h rfl
  | true => exact pe_imp (t := fun _ _ _ => False) ⟨fun _ _ _ _ _ _ z => z.elim⟩ fun σ H Q ⟨F, t, R, p⟩ => p
theorem opn_of {cs : Cs} {a : E} {e : Expr} (h : Ee T X B W e (evE P cs hot a)) (hv : ∀ i, a = .var i → Eo T X B W e (opnV i)) : Eo T X B W e (opn a (evE P cs hot a)) := by
  cases a with
  | var i => exact hv i rfl
  | _ => exact eo_val h
theorem ee_bad {e : Expr} : Ee T X B W e (fun _ => .bad) := pe_imp (t := fun _ _ _ => False) ⟨fun _ _ _ _ _ _ z => z.elim⟩ fun σ H Q ⟨F, t, R, p⟩ => p
theorem et_bad {e : Expr} : Et T X B W e (fun _ => .bad) := pt_imp (t := fun _ _ _ => False) ⟨fun _ _ _ _ _ _ z => z.elim⟩ fun σ H Q ⟨F, t, R, p⟩ => p
theorem ok_c {d : D} {k : Const} {i : Nat} {p : Pos} (h : ckC d k = true) : Ee T X B W (.Constant k i p) (fun t => .ok (d, false) t) := by
  unfold ckC at h
  split at h
  · exact ee_c pe_non fun F => .non
  · rename_i a b; have : a = b := by simpa using h
    subst this; exact ee_c pe_bl fun F => .bl _
  · have := of_decide_eq_true h
    subst this; exact ee_c pe_int fun F => .int _
  · obtain ⟨h, h3⟩ := and2 h
    obtain ⟨h1, h2⟩ := and2 h
    have := of_decide_eq_true h1
    subst this
    exact ee_c pe_str fun F => .str _ (Nat.le_trans (of_decide_eq_true h2) (by decide)) h3
  · cases h
theorem ok_bop {o : Bop} {op : Operator} (h : ckBop o op = true) : OpS X (binaryOp op) (bop o) := by
  unfold ckBop at h
  split at h
  · exact ops_add
  · exact ops_sub
  · exact ops_mul
  · exact ops_fdiv
  · exact ops_mod
  · exact ops_pow
  · cases h
theorem ok_cop {o : Cop} {op : CmpOp} (hu : X.A.units + 64 < cLine) (h : ckCop o op = true) : OpS X (compareOp op) (cop o) := by
  unfold ckCop at h
  split at h
  · exact ops_eq hu
  · exact ops_ne hu
  · exact ops_lt
  · exact ops_le
  · exact ops_gt
  · exact ops_ge
  · exact ops_in
  · exact ops_notin
  · exact ops_isN
  · exact ops_notN
  · cases h
theorem ok_mark {op : CmpOp} {e : Expr} (h : noSet e = true) : behindInMarks op e = false := by
  cases e <;> first | rfl | cases h
theorem ok_mark2 {op op' : CmpOp} {b e : Expr} (h : noSet e = true) : lastMarks [op, op'] [b, e] = false := ok_mark (op := op') h
theorem ok_ix {e : Expr} (h : noSlice e = true) : PlainIx e := fun o i => by
  cases e <;> first | rfl | cases h
theorem ok_base {e : Expr} {name : Str} (h : noSup e = true) {w : Sem Value} : attributeBase e name X.env w = w := by
  cases e <;> first | rfl | skip
  rename_i f as ks p
  cases as with
  | nil => cases h
  | cons a as => cases f <;> rfl
theorem ok_fold {e : Expr} (h : noSet e = true) {env : Env} : ∀ x, foldedSetIterable e env x = pure x := fun x => by
  cases e <;> first | rfl | cases h
theorem bl_of (g : Gd P T Γ n sc sc0 hot X W) {x : Str} (h : x ∈ blts) : X.mg x = none := g.bl x h
theorem mem_ValueError : ("ValueError" : Str) ∈ blts := by decide +kernel
theorem boot_ValueError : bootBuiltins ("ValueError" : Str) = some (.type "ValueError") := by decide +kernel
theorem ne_ValueError : ("ValueError" : Str) ≠ "__name__" := by decide +kernel
theorem mem_int : ("int" : Str) ∈ blts := by decide +kernel
theorem boot_int : bootBuiltins ("int" : Str) = some (.type "int") := by decide +kernel
theorem ne_int : ("int" : Str) ≠ "__name__" := by decide +kernel
theorem mem_str : ("str" : Str) ∈ blts := by decide +kernel
theorem boot_str : bootBuiltins ("str" : Str) = some (.type "str") := by decide +kernel
theorem ne_str : ("str" : Str) ≠ "__name__" := by decide +kernel
theorem mem_bool : ("bool" : Str) ∈ blts := by decide +kernel
theorem boot_bool : bootBuiltins ("bool" : Str) = some (.type "bool") := by decide +kernel
theorem ne_bool : ("bool" : Str) ≠ "__name__" := by decide +kernel
theorem mem_tuple : ("tuple" : Str) ∈ blts := by decide +kernel
theorem boot_tuple : bootBuiltins ("tuple" : Str) = some (.type "tuple") := by decide +kernel
theorem ne_tuple : ("tuple" : Str) ≠ "__name__" := by decide +kernel
theorem mem_list : ("list" : Str) ∈ blts := by decide +kernel
theorem boot_list : bootBuiltins ("list" : Str) = some (.type "list") := by decide +kernel
theorem ne_list : ("list" : Str) ≠ "__name__" := by decide +kernel
theorem mem_dict : ("dict" : Str) ∈ blts := by decide +kernel
theorem boot_dict : bootBuiltins ("dict" : Str) = some (.type "dict") := by decide +kernel
theorem ne_dict : ("dict" : Str) ≠ "__name__" := by decide +kernel
theorem ok_cl {c : Cl} {x : Str} {p : Pos} (g : Gd P T Γ n sc sc0 hot X W) (h : ckCl Γ sc c x = true) : PE X (.Name x p) (tC (clV T c)) ∧ Names X x (clW T c) := by
  unfold ckCl at h
  obtain ⟨h1, h2⟩ := and2 h
  obtain ⟨hg, hd⟩ := glK_gl g h1
  have bt : ∀ (y : Str) (s : String), x = y → y ∈ blts → bootBuiltins y = some (.type s) → y ≠ "__name__" → PE X (.Name x p) (tC (.ty s)) ∧ Names X x (.type s) := fun y s e hy hv hn => by
    subst e
    exact ⟨pe_bltn hg (g.bl _ hy) hv rfl hn hd, hg, hd, .inr ⟨g.bl _ hy, hv, hn⟩⟩
  cases c with
  | own k =>
    have e := g.cl x k (of_decide_eq_true h2)
    exact ⟨pe_glob hg e rfl hd, hg, hd, .inl e⟩
  | VE => exact bt ("ValueError" : Str) "ValueError" (sEq_eq h2) mem_ValueError boot_ValueError ne_ValueError
  | int => exact bt ("int" : Str) "int" (sEq_eq h2) mem_int boot_int ne_int
  | str => exact bt ("str" : Str) "str" (sEq_eq h2) mem_str boot_str ne_str
  | bool => exact bt ("bool" : Str) "bool" (sEq_eq h2) mem_bool boot_bool ne_bool
  | tuple => exact bt ("tuple" : Str) "tuple" (sEq_eq h2) mem_tuple boot_tuple ne_tuple
  | list => exact bt ("list" : Str) "list" (sEq_eq h2) mem_list boot_list ne_list
  | dict => exact bt ("dict" : Str) "dict" (sEq_eq h2) mem_dict boot_dict ne_dict
theorem ok_cls (g : Gd P T Γ n sc sc0 hot X W) : ∀ {cs : List Cl} {es : List Expr}, ckCls Γ sc cs es = true → Paired (fun e cl => PE X e (tC (clV T cl))) es cs
  | [], [], _ => .nil
  | [], _ :: _, h => by cases h
  | _ :: _, [], h => by cases h
  | c :: cs, e :: es, h => by
    unfold ckCls at h
    obtain ⟨h1, h2⟩ := and2 h
    refine .cons ?_ (ok_cls g h2)
    split at h1
    · exact (ok_cl g h1).1
    · cases h1
/-- a built-in call -/
theorem ok_bi {f : Bf} {x : Str} {p pos : Pos} {e : Expr} {es : List Expr} {evs : Mp.St → R (List Op)} (g : Gd P T Γ n sc sc0 hot X W) (hh : hot = false) (hx : x = biN f) (ho : biOk f = true) (hg : Gl X x) (hd : (x == ("__debug__" : Str)) = false) (h : PA X (e :: es) (tG T X B W (relOs X.K) evs)) (hst : (e :: es).all unstar = true) :
    Ee T X B W (.Call (.Name x p) (e :: es) [] pos) (kBi f evs) := by
  have hc := (g.calm hh).1
  subst hx
  cases f <;> first | (cases ho; done) | skip
  · exact ee_bi calls_len (.inl ⟨_, rfl⟩) hg (g.bl _ (by decide +kernel)) (by decide +kernel) (by decide +kernel) hd h hst
  · exact ee_bi calls_abs (.inl ⟨_, rfl⟩) hg (g.bl _ (by decide +kernel)) (by decide +kernel) (by decide +kernel) hd h hst
  · exact ee_bi calls_int (.inr ⟨_, rfl⟩) hg (g.bl _ (by decide +kernel)) (by decide +kernel) (by decide +kernel) hd h hst
  · exact ee_bi calls_str (.inr ⟨_, rfl⟩) hg (g.bl _ (by decide +kernel)) (by decide +kernel) (by decide +kernel) hd h hst
  · exact ee_bi (calls_min hc) (.inl ⟨_, rfl⟩) hg (g.bl _ (by decide +kernel)) (by decide +kernel) (by decide +kernel) hd h hst
  · exact ee_bi (calls_max hc) (.inl ⟨_, rfl⟩) hg (g.bl _ (by decide +kernel)) (by decide +kernel) (by decide +kernel) hd h hst
  · exact ee_bi (calls_sum hc) (.inl ⟨_, rfl⟩) hg (g.bl _ (by decide +kernel)) (by decide +kernel) (by decide +kernel) hd h hst
  · exact ee_bi calls_list (.inr ⟨_, rfl⟩) hg (g.bl _ (by decide +kernel)) (by decide +kernel) (by decide +kernel) hd h hst
  · exact ee_bi calls_tuple (.inr ⟨_, rfl⟩) hg (g.bl _ (by decide +kernel)) (by decide +kernel) (by decide +kernel) hd h hst
  · exact ee_bi (calls_any hc) (.inl ⟨_, rfl⟩) hg (g.bl _ (by decide +kernel)) (by decide +kernel) (by decide +kernel) hd h hst
  · exact ee_bi (calls_all hc) (.inl ⟨_, rfl⟩) hg (g.bl _ (by decide +kernel)) (by decide +kernel) (by decide +kernel) hd h hst
theorem ok_me {m : Mf} {nm : Str} {ap cp : Pos} {o e : Expr} {es : List Expr} {eva : Mp.St → R Op} {evs : Mp.St → R (List Op)} (hn : nm = meN m) (hm : meOk m = true) (ho : Eo T X B W o eva) (ha : PA X (e :: es) (tG T X B W (relOs X.K) evs)) (hst : (e :: es).all unstar = true) (hb : noSup o = true) (hl : (e :: es).length < 28) (hline : (ap.endLine == cp.line) = true) :
    Ee T X B W (.Call (.Attribute o nm ap) (e :: es) [] cp) (kMe m eva evs) := by
  subst hn
  cases m <;> first | (cases hm; done) | skip
  · exact ee_me F.slot_str_startswith F.type_str_startswith mes_start ho ha hst (ok_base hb) hl hline
  · exact ee_me F.slot_str_strip F.type_str_strip mes_strip ho ha hst (ok_base hb) hl hline
  · exact ee_me F.slot_str_find F.type_str_find mes_find ho ha hst (ok_base hb) hl hline
  · exact ee_me F.slot_str_join F.type_str_join mes_join ho ha hst (ok_base hb) hl hline
/-! ### targets -/
theorem tgs_len : ∀ {gs : List Tg} {es : List Expr}, ckTgs Γ sc0 gs es = true → gs.length = es.length
  | [], [], _ => rfl
  | [], _ :: _, h => by unfold ckTgs at h; cases h
  | _ :: _, [], h => by unfold ckTgs at h; cases h
  | g :: gs, e :: es, h => by
    unfold ckTgs at h
    simp [tgs_len (and2 h).2]
mutual
theorem ok_tg (g : Gd P T Γ n sc sc0 hot X W) (hh : X.calm = true) : ∀ (t : Tg) (e : Expr), ckTg Γ sc0 t e = true → PG X e (gG T X B t)
  | .nm i, e, h => by
    unfold ckTg at h
    split at h
    · obtain ⟨h1, h2⟩ := and2 h
      have h1 := of_decide_eq_true h1
      obtain ⟨l, f⟩ := g.tgs _ h2
      exact gg_name (by rw [g.N]; exact g.nd) (by rw [g.N]; exact h1) (by rw [g.scE]; exact l) (by rw [g.scE]; exact f)
    · cases h
  | .tp ts, e, h => by
    unfold ckTg at h
    split at h
    · obtain ⟨h1, h2⟩ := and2 h
      exact gg_tup hh (ok_tgs g hh ts _ h2 h1) h1 (tgs_len h2)
    · cases h
theorem ok_tgs (g : Gd P T Γ n sc sc0 hot X W) (hh : X.calm = true) : ∀ (ts : List Tg) (es : List Expr), ckTgs Γ sc0 ts es = true → es.all unstar = true → PGs X es (gGs T X B ts)
  | [], [], _, _ => gg_nil
  | [], _ :: _, h, _ => by unfold ckTgs at h; cases h
  | _ :: _, [], h, _ => by unfold ckTgs at h; cases h
  | t :: ts, e :: es, h, hu => by
    unfold ckTgs at h
    rw [List.all_cons] at hu
    exact gg_cons (ok_tg g hh t e (and2 h).1) (ok_tgs g hh ts es (and2 h).2 (and2 hu).2) (and2 hu).1
end
/-! ### the block of a comprehension -/
theorem relS_lookup {sc : Scope} : ∀ (names : List (Str × NameKind)) (x : Str), locK (names.lookup x) = true →
    (names.map fun (n, k) => if (k == .free && sc.kind == .function && sc.names.lookup n == some .cell) then (n, NameKind.cell) else (n, k)).lookup x = names.lookup x
  | [], _, h => by cases h
  | (m, k) :: r, x, h => by
    have hs : (if (k == .free && sc.kind == .function && sc.names.lookup m == some .cell) = true then (m, NameKind.cell) else (m, k)) = (m, if (k == .free && sc.kind == .function && sc.names.lookup m == some .cell) = true then NameKind.cell else k) := by
      split <;> rfl
    rw [List.map_cons]
    show List.lookup x ((if (k == .free && sc.kind == .function && sc.names.lookup m == some .cell) = true then (m, NameKind.cell) else (m, k)) :: _) = _
    rw [hs, List.lookup_cons, List.lookup_cons]
    rw [List.lookup_cons] at h
    cases e : (x == m) with
    | true =>
      rw [e] at h
      dsimp only at h ⊢
      have hk : (k == NameKind.free) = false := by cases k <;> first | rfl | cases h
      rw [hk, Bool.false_and, Bool.false_and, if_neg Bool.false_ne_true]
    | false =>
      rw [e] at h
      dsimp only at h ⊢
      exact relS_lookup r x h
theorem Gd.blk (g : Gd P T Γ n sc sc0 hot X W) (hc : hot = false) {scope : Scope} (s : Shared) (H : Hp) (C : Addr) (cl : List (Str × Addr)) (fp : List Addr) :
    Gd P T Γ n (relS scope sc) scope false (X.blk s H scope (compEnvC scope cl C X.env) fp) Wno where
  N := g.N
  nd := g.nd
  scE := by rw [← g.scE]; rfl
  tgs := fun x h => by
    have e : (relS scope sc).names.lookup x = scope.names.lookup x := relS_lookup (sc := sc) scope.names x h
    have hk : scope.names.lookup x = some .local ∨ scope.names.lookup x = some .cell := by
      unfold locK at h
      split at h
      · exact .inl (by assumption)
      · exact .inr (by assumption)
      · cases h
    refine ⟨?_, ?_⟩
    · unfold L2.Loc
      rw [e]; exact hk
    · rcases hk with hk | hk
      · exact .inr (by rw [e]; exact hk)
      · refine .inl ?_
        show (scope.names.lookup x == some .cell) = true
        rw [hk] <;> rfl
  G := g.G
  fn := fun x k h => ⟨(g.fn x k h).ex⟩
  cl := g.cl
  gl := g.gl
  fl := g.fl
  bl := g.bl
  calm := fun _ => ⟨(g.calm hc).1, takes_none5, (g.calm hc).2.2⟩
  un := g.un
end
end Mp

set_option maxHeartbeats 8000000
/-! Part 26: checked expressions run as the evaluator says. -/
namespace Mp
open PySem PySem.Spec PyProof.Rows L2
section
variable {P : Pr} {T : Tb} {Γ : Gm} {n : Nat}
theorem pw_bad {X : Cx} {B : Bs} {W : WX} {e : Expr} : PW X e (tG T X B W relB fun _ => .bad) := pw_imp (t := fun _ _ _ => False) ⟨fun _ _ _ _ _ _ _ z => z.elim⟩ fun σ H Q ⟨F, t, R, p⟩ => p
theorem pts_bad {X : Cx} {B : Bs} {W : WX} {e : List Expr} : PTs X e (tG T X B W relB fun _ => .bad) := ⟨fun _ _ _ _ _ _ ⟨F, t, R, p⟩ => p.elim⟩
theorem pi_bad {X : Cx} {B : Bs} {W : WX} {tg e : Expr} : Ei T X B W tg e fun _ => .bad := ⟨fun _ _ _ _ _ _ ⟨F, t, R, p⟩ => p.elim⟩
theorem tr_gd {α : Type} {hot : Bool} {f : Mp.St → R Rv} {ev : Mp.St → R Rv} (h : ev = gd hot f) : (fun t => trR (ev t)) = fun t => trR (gd hot f t) := by rw [h]
theorem toO {a : E} {sc sc0 : Scope} {hot : Bool} {X : Cx} {W : WX} (g : Gd P T Γ n sc sc0 hot X W) {B : Bs} {e : Expr} (h : ckE Γ sc a e = true) (hE : Ee T X B W e (evE P (callN P n) hot a)) : Eo T X B W e (opn a (evE P (callN P n) hot a)) := by
  refine opn_of hE fun i ei => ?_
  subst ei
  unfold ckE at h
  split at h
  · exact (ok_var g h).1
  · cases h
theorem ok_call {sc sc0 : Scope} {hot : Bool} {X : Cx} {W : WX} {B : Bs} (g : Gd P T Γ n sc sc0 hot X W) {x : Str} {p pos : Pos} {k : Nat} {es : Es} {vs : List Expr} (h1 : ckGl sc x = true) (h2 : ckNo Γ.fns x k = true) (h3 : vs.all unstar = true) (h4 : ckEs Γ sc es vs = true)
    (ha : PA X vs (tG T X B W (relOs X.K) (evAs P (callN P n) hot es))) : Ee T X B W (.Call (.Name x p) vs [] pos) (gd hot (kCall (P.df k) (callN P n k) (evAs P (callN P n) hot es))) := by
  refine gd_of fun hh => ?_
  obtain ⟨hc, tk, hr⟩ := g.calm hh
  obtain ⟨hg, hd⟩ := glK_gl g h1
  obtain ⟨f, fd, ps, hf, F, hm, hk, hb⟩ := (g.fn _ k (of_decide_eq_true h2)).ex
  cases vs with
  | nil =>
    cases es with
    | nil =>
      have e0 : evAs P (callN P n) hot .nil = fun t => .ok [] t := by unfold evAs; rfl
      rw [e0]
      exact ee_call0 hf F hr tk hg hm hk hb hd
    | cons a es => unfold ckEs at h4; cases h4
  | cons v vs => exact ee_call hf F hr tk hg hm hk hb hd ha h3
theorem ok_blk {sc : Scope} {scope : Scope} {X : Cx} {own : List Nat} (hN : X.N = Γ.N) (hs : X.env.scope = sc) (h : blkC Γ.N sc scope (ownN Γ own) = true) : BlkOk X.N X.env.scope scope (ownN Γ own) := by
  rw [hN, hs]; exact blkOk_by h
theorem in_own {own : List Nat} {g : Tg} (h : inOwn own g = true) : ∀ j ∈ tgIx g, j ∈ own := fun j hj => by
  have := List.all_eq_true.mp h j hj
  simpa using this
theorem ee_lcN {X : Cx} {W : WX} {B : Bs} {tg iter elt : Expr} {ifs : List Expr} {scope : Scope} {own : List Nat} {g : Tg} {it : Mp.St → R (List D × Option Nat)} {cond : Mp.St → R Bool} {ev : Mp.St → R Rv} {pos : Pos} (e4 : (ownN Γ own).map (·.2) = own) (hc : X.calm = true) (hN : X.N.Nodup) (hi : Ei T X B W tg iter it)
    (ok : BlkOk X.N X.env.scope scope (ownN Γ own)) (L : LcOk T X tg elt ifs scope g cond ev) (hsub : ∀ j ∈ tgIx g, j ∈ own) (hs : ∀ x, foldedSetIterable iter X.env x = pure x) :
    Ee T X B W (.ListComp elt [⟨tg, iter, ifs, 0⟩] scope pos) (kLc own it (kTurn own g cond (fun t => (ev t).bind fun v t => .ok [v.1] t))) := by
  have r := ee_lc (B := B) (W := W) (pos := pos) hc hN hi ok L (by rw [e4]; exact hsub) hs
  rw [e4] at r
  exact r
theorem and_lr {a b : Bool} : ((a && b) = true) = (a = true ∧ b = true) := by rw [Bool.and_eq_true]
theorem all_in {l own : List Nat} (h : l.all own.contains = true) : ∀ i ∈ l, i ∈ own := fun i hi => List.contains_iff_mem.mp (List.all_eq_true.mp h i hi)
theorem ee_lc2N {X : Cx} {W : WX} {B : Bs} {tg iter tg1 iter1 elt e0 : Expr} {ifs ifs1 : List Expr} {scope : Scope} {own own1 : List Nat} {g g1 : Tg} {it it1 : Mp.St → R (List D × Option Nat)} {cond cond1 : Mp.St → R Bool} {ev ev0 : Mp.St → R Rv} {pos : Pos} (e4 : (ownN Γ own).map (·.2) = own) (hc : X.calm = true) (hN : X.N.Nodup) (hi : Ei T X B W tg iter it)
    (ok : BlkOk X.N X.env.scope scope (ownN Γ own)) (hv : ∀ i ∈ own1, i ∈ own) (L : LcOk T X tg e0 ifs scope g cond ev0) (L1 : Lc2Ok T X tg1 iter1 elt ifs1 scope g1 it1 cond1 ev) (hsub : ∀ j ∈ tgIx g, j ∈ own) (hsub1 : ∀ j ∈ tgIx g1, j ∈ own1) (hs : ∀ x, foldedSetIterable iter X.env x = pure x) (hs1 : ∀ env x, foldedSetIterable iter1 env x = pure x) :
    Ee T X B W (.ListComp elt [⟨tg, iter, ifs, 0⟩, ⟨tg1, iter1, ifs1, 0⟩] scope pos) (kLc own it (kTurn own g cond (kLcIn own1 it1 (kTurn own1 g1 cond1 (fun t => (ev t).bind fun v t => .ok [v.1] t))))) := by
  have r := ee_lc2 (B := B) (W := W) (pos := pos) hc hN hi ok (by rw [e4]; exact hv) L L1 (by rw [e4]; exact hsub) hsub1 hs hs1
  rw [e4] at r
  exact r
theorem et_g {k : Nat} {d : D} {x : Str} {pos : Pos} (hg : Gl X x) (hd : (x == ("__debug__" : Str)) = false) (h : GlOk X.K X.mg x d) (hk : P.gl k = some d) : Et T X B W (.Name x pos) (fun t => Mp.R.of ((P.gl k).map truth) t) := by
  have r := et_val (T := T) (X := X) (B := B) (W := W) (ee_g (T := T) (X := X) (B := B) (W := W) (P := P) (pos := pos) hg hd h hk) fun _ => rfl
  rw [hk] at r ⊢
  exact r
mutual
theorem okE : ∀ (a : E) {sc sc0 : Scope} {hot : Bool} {X : Cx} {W : WX} (_ : Gd P T Γ n sc sc0 hot X W) (B : Bs) (e : Expr), ckE Γ sc a e = true → Ee T X B W e (evE P (callN P n) hot a)
  | .bad, _, _, _, _, _, g, B, e, h => by unfold evE; exact ee_bad
  | .var i, _, _, _, _, _, g, B, e, h => by
    unfold ckE at h
    split at h
    · unfold evE; exact (ok_var g h).2.1
    · cases h
  | .c d, _, _, _, _, _, g, B, e, h => by
    unfold ckE at h
    split at h
    · unfold evE; exact ok_c h
    · cases h
  | .g k, _, _, _, _, _, g, B, e, h => by
    unfold ckE at h
    split at h
    · obtain ⟨h1, h2⟩ := and2 h
      obtain ⟨hg, hd⟩ := glK_gl g h1
      obtain ⟨d, hk, hv⟩ := g.gl _ k (of_decide_eq_true h2)
      unfold evE; exact ee_g hg hd hv hk
    · cases h
  | .bin op a b, _, _, _, _, _, g, B, e, h => by
    unfold ckE at h
    split at h
    · obtain ⟨h, h3⟩ := and2 h
      obtain ⟨h1, h2⟩ := and2 h
      unfold evE; exact ee_bin' (ok_bop h1) (toO g h2 (okE a g B _ h2)) (toO g h3 (okE b g B _ h3))
    · cases h
  | .neg a, _, _, _, _, _, g, B, e, h => by
    unfold ckE at h
    split at h
    · unfold evE; exact ee_kNeg (toO g h (okE a g B _ h))
    · cases h
  | .not a, _, _, _, _, _, g, B, e, h => by
    unfold ckE at h
    split at h
    · unfold evE; exact ee_kNot (toO g h (okE a g B _ h))
    · cases h
  | .cmp op a b, _, _, _, _, _, g, B, e, h => by
    unfold ckE at h
    split at h
    · obtain ⟨h, h4⟩ := and2 h
      obtain ⟨h, h3⟩ := and2 h
      obtain ⟨h1, h2⟩ := and2 h
      unfold evE; exact ee_cmp' (ok_cop g.un h1) (toO g h3 (okE a g B _ h3)) (toO g h4 (okE b g B _ h4)) (ok_mark h2)
    · cases h
  | .cmp2 op op' a b c, _, _, _, _, _, g, B, e, h => by
    unfold ckE at h
    split at h
    · obtain ⟨h, h6⟩ := and2 h
      obtain ⟨h, h5⟩ := and2 h
      obtain ⟨h, h4⟩ := and2 h
      obtain ⟨h, h3⟩ := and2 h
      obtain ⟨h1, h2⟩ := and2 h
      unfold evE
      exact ee_cmp2 (toO g h4 (okE a g B _ h4)) (toO g h5 (okE b g B _ h5)) (toO g h6 (okE c g B _ h6)) (ok_cop g.un h1) (ok_cop g.un h2) (fun _ _ _ h => cop_bool h) (fun _ _ _ h => cop_bool h) (ok_mark2 h3)
    · cases h
  | .and es, _, _, _, _, _, g, B, e, h => by
    unfold ckE at h
    split at h
    · unfold evE; exact okAnd es g B _ h
    · cases h
  | .or es, _, _, _, _, _, g, B, e, h => by
    unfold ckE at h
    split at h
    · unfold evE; exact okOr es g B _ h
    · cases h
  | .ife c a b, _, _, _, _, _, g, B, e, h => by
    unfold ckE at h
    split at h
    · obtain ⟨h, h3⟩ := and2 h
      obtain ⟨h1, h2⟩ := and2 h
      unfold evE; exact ee_ife (okT c g B _ h1) (okE a g B _ h2) (okE b g B _ h3)
    · cases h
  | .tup es, _, _, _, _, _, g, B, e, h => by
    unfold ckE at h
    split at h
    · obtain ⟨h1, h2⟩ := and2 h
      unfold evE; exact ee_tup (okEs es g B _ h2 h1)
    · cases h
  | .lst es, _, _, _, _, _, g, B, e, h => by
    unfold ckE at h
    split at h
    · obtain ⟨h1, h2⟩ := and2 h
      unfold evE; exact ee_lst (okEs es g B _ h2 h1)
    · cases h
  | .dic0, _, _, _, _, _, g, B, e, h => by
    unfold ckE at h
    split at h
    · unfold evE; exact ee_dic0
    · cases h
  | .ix a b, _, _, _, _, _, g, B, e, h => by
    unfold ckE at h
    split at h
    · obtain ⟨h, h3⟩ := and2 h
      obtain ⟨h1, h2⟩ := and2 h
      unfold evE; exact ee_ix (toO g h2 (okE a g B _ h2)) (toO g h3 (okE b g B _ h3)) (ok_ix h1)
    · cases h
  | .sl a lo hi, _, _, _, _, _, g, B, e, h => by
    unfold ckE at h
    split at h
    · obtain ⟨h, h3⟩ := and2 h
      obtain ⟨h1, h2⟩ := and2 h
      unfold evE; exact ee_sl (toO g h1 (okE a g B _ h1)) (okOpt lo g B _ h2) (okOpt hi g B _ h3)
    · cases h
  | .rev a, _, _, _, _, _, g, B, e, h => by
    unfold ckE at h
    split at h
    · obtain ⟨h1, h2⟩ := and2 h
      have := of_decide_eq_true h1
      subst this
      unfold evE; exact ee_rev (toO g h2 (okE a g B _ h2))
    · cases h
  | .call k es, _, _, hot, _, _, g, B, e, h => by
    unfold ckE at h
    split at h
    · obtain ⟨h, h4⟩ := and2 h
      obtain ⟨h, h3⟩ := and2 h
      obtain ⟨h1, h2⟩ := and2 h
      unfold evE
      exact ok_call g h1 h2 h3 h4 (okAs es g B _ h4 h3)
    · cases h
  | .bi f es, _, _, _, _, _, g, B, e, h => by
    unfold ckE at h
    split at h
    · obtain ⟨h, h5⟩ := and2 h
      obtain ⟨h, h4⟩ := and2 h
      obtain ⟨h, h3⟩ := and2 h
      obtain ⟨h1, h2⟩ := and2 h
      unfold evE
      refine gd_of fun hh => ?_
      obtain ⟨hg, hd⟩ := glK_gl g h3
      exact ok_bi g hh (sEq_eq h1) h2 hg hd (okAs es g B _ h5 h4) h4
    · cases h
  | .me m a es, _, _, _, _, _, g, B, e, h => by
    unfold ckE at h
    split at h
    · obtain ⟨h, h8⟩ := and2 h
      obtain ⟨h, h7⟩ := and2 h
      obtain ⟨h, h6⟩ := and2 h
      obtain ⟨h, h5⟩ := and2 h
      obtain ⟨h, h4⟩ := and2 h
      obtain ⟨h, h3⟩ := and2 h
      obtain ⟨h1, h2⟩ := and2 h
      unfold evE
      refine gd_of fun hh => ?_
      exact ok_me (sEq_eq h1) h2 (toO g h7 (okE a g B _ h7)) (okAs es g B _ h8 h6) h6 h3 (of_decide_eq_true h5) h4
    · cases h
  | .lkeys a, _, _, _, _, _, g, B, e, h => by
    unfold ckE at h
    split at h
    · obtain ⟨h, h6⟩ := and2 h
      obtain ⟨h, h5⟩ := and2 h
      obtain ⟨h, h4⟩ := and2 h
      obtain ⟨h, h3⟩ := and2 h
      obtain ⟨h1, h2⟩ := and2 h
      have e1 := sEq_eq h1
      have e3 := sEq_eq h3
      subst e1 e3
      unfold evE
      refine gd_of fun hh => ?_
      exact ee_lkeys (g.calm hh).1 (glK_gl g h2).1 (g.bl _ (by decide +kernel)) (toO g h6 (okE a g B _ h6)) (ok_base h4) h5
    · cases h
  | .lvals a, _, _, _, _, _, g, B, e, h => by
    unfold ckE at h
    split at h
    · obtain ⟨h, h6⟩ := and2 h
      obtain ⟨h, h5⟩ := and2 h
      obtain ⟨h, h4⟩ := and2 h
      obtain ⟨h, h3⟩ := and2 h
      obtain ⟨h1, h2⟩ := and2 h
      have e1 := sEq_eq h1
      have e3 := sEq_eq h3
      subst e1 e3
      unfold evE
      refine gd_of fun hh => ?_
      exact ee_lvals (g.calm hh).1 (glK_gl g h2).1 (g.bl _ (by decide +kernel)) (toO g h6 (okE a g B _ h6)) (ok_base h4) h5
    · cases h
  | .pop i, _, _, _, _, _, g, B, e, h => by
    unfold ckE at h
    split at h
    · obtain ⟨h, h3⟩ := and2 h
      obtain ⟨h1, h2⟩ := and2 h
      have e1 := sEq_eq h1
      subst e1
      unfold evE
      exact gd_of fun hh => ee_pop (ok_var g h3).1 h2 rfl
    · cases h
  | .popi i a, _, _, _, _, _, g, B, e, h => by
    unfold ckE at h
    split at h
    · obtain ⟨h, h5⟩ := and2 h
      obtain ⟨h, h4⟩ := and2 h
      obtain ⟨h, h3⟩ := and2 h
      obtain ⟨h1, h2⟩ := and2 h
      have e1 := sEq_eq h1
      subst e1
      unfold evE
      exact gd_of fun hh => ee_popi (ok_var g h3).1 (okE a g B _ h5) h4 h2 rfl
    · cases h
  | .app i a, _, _, _, _, _, g, B, e, h => by
    unfold ckE at h
    split at h
    · obtain ⟨h, h5⟩ := and2 h
      obtain ⟨h, h4⟩ := and2 h
      obtain ⟨h, h3⟩ := and2 h
      obtain ⟨h1, h2⟩ := and2 h
      have e1 := sEq_eq h1
      subst e1
      unfold evE
      exact gd_of fun hh => ee_app (ok_var g h3).1 (okE a g B _ h5) h4 h2 rfl
    · cases h
  | .ext i a, _, _, _, _, _, g, B, e, h => by
    unfold ckE at h
    split at h
    · obtain ⟨h, h5⟩ := and2 h
      obtain ⟨h, h4⟩ := and2 h
      obtain ⟨h, h3⟩ := and2 h
      obtain ⟨h1, h2⟩ := and2 h
      have e1 := sEq_eq h1
      subst e1
      unfold evE
      exact gd_of fun hh => ee_ext (ok_var g h3).1 (okE a g B _ h5) h4 h2 rfl
    · cases h
  | .isi a cls, _, _, _, _, _, g, B, e, h => by
    unfold ckE at h
    split at h
    · obtain ⟨h, h7⟩ := and2 h
      obtain ⟨h, h6⟩ := and2 h
      obtain ⟨h, h5⟩ := and2 h
      obtain ⟨h, h4⟩ := and2 h
      obtain ⟨h, h3⟩ := and2 h
      obtain ⟨h1, h2⟩ := and2 h
      have e1 := sEq_eq h1
      subst e1
      unfold evE
      exact ee_isiT g.G (glK_gl g h2).1 (g.bl _ (by decide +kernel)) (toO g h7 (okE a g B _ h7)) (ok_cls g h6) h3 h4 (of_decide_eq_true h5)
    · obtain ⟨h, h7⟩ := and2 h
      obtain ⟨h, h6⟩ := and2 h
      obtain ⟨h, h3⟩ := and2 h
      obtain ⟨h1, h2⟩ := and2 h
      have e1 := sEq_eq h1
      subst e1
      unfold evE
      cases cls with
      | nil => cases h6
      | cons c cs =>
        cases cs with
        | nil =>
          unfold ckCls at h6
          exact ee_isi1 g.G (glK_gl g h2).1 (g.bl _ (by decide +kernel)) (toO g h7 (okE a g B _ h7)) (ok_cl g (and2 h6).1).1 h3 rfl
        | cons c2 cs => unfold ckCls at h6; cases (and2 h6).2
    · cases h
  | .fld i f, _, _, _, _, _, g, B, e, h => by
    unfold ckE at h
    split at h
    · obtain ⟨h1, h2⟩ := and2 h
      unfold evE
      exact ee_fld g.G (ok_var g h1).1 (g.fl _ f (of_decide_eq_true h2)) rfl
    · cases h
  | .lc elt own tg it cds, _, _, hot0, _, W0, g, B, e, h => by
    unfold ckE at h
    split at h
    · obtain ⟨h, h9⟩ := and2 h
      obtain ⟨h, h8⟩ := and2 h
      obtain ⟨h, h7⟩ := and2 h
      obtain ⟨h, h6⟩ := and2 h
      obtain ⟨h, h5⟩ := and2 h
      obtain ⟨h, h4⟩ := and2 h
      obtain ⟨h, h3⟩ := and2 h
      obtain ⟨h1, h2⟩ := and2 h
      have e1 := of_decide_eq_true h1
      have e4 := of_decide_eq_true h4
      subst e1
      unfold evE
      refine gd_of fun hh => ?_
      obtain ⟨hc, tk, hr⟩ := g.calm hh
      have bo := ok_blk g.N g.scE h3
      exact ee_lcN e4 hc (by rw [g.N]; exact g.nd) (okIt it g B _ _ h7) bo
        ⟨fun s H C cl fp B' => ok_tg (g.blk hh s H C cl fp) hc tg _ h6, fun s H C cl fp B' => by subst hh; exact okCs cds (g.blk rfl s H C cl fp) B' _ h8, fun s H C cl fp B' => by subst hh; exact okE elt (g.blk rfl s H C cl fp) B' _ h9⟩ (in_own h5) (ok_fold h2)
    · cases h
  | .lc2 elt own tg it cds own1 tg1 it1 cds1, _, _, hot0, _, W0, g, B, e, h => by
    unfold ckE at h
    split at h
    · simp only [and_lr] at h
      obtain ⟨⟨⟨⟨⟨⟨⟨⟨⟨⟨⟨⟨⟨⟨⟨h1, h1'⟩, h2⟩, h2'⟩, h3⟩, h4⟩, ho⟩, h5⟩, h5'⟩, h6⟩, h6'⟩, h7⟩, h7'⟩, h8⟩, h8'⟩, h9⟩ := h
      have e1 := of_decide_eq_true h1
      have e1' := of_decide_eq_true h1'
      have e4 := of_decide_eq_true h4
      subst e1
      subst e1'
      unfold evE
      refine gd_of fun hh => ?_
      obtain ⟨hc, tk, hr⟩ := g.calm hh
      have bo := ok_blk g.N g.scE h3
      exact ee_lc2N e4 hc (by rw [g.N]; exact g.nd) (okIt it g B _ _ h7) bo (all_in ho)
        ⟨fun s H C cl fp B' => ok_tg (g.blk hh s H C cl fp) hc tg _ h6, fun s H C cl fp B' => by subst hh; exact okCs cds (g.blk rfl s H C cl fp) B' _ h8, fun s H C cl fp B' => by subst hh; exact okE elt (g.blk rfl s H C cl fp) B' _ h9⟩
        ⟨⟨fun s H C cl fp B' => ok_tg (g.blk hh s H C cl fp) hc tg1 _ h6', fun s H C cl fp B' => by subst hh; exact okCs cds1 (g.blk rfl s H C cl fp) B' _ h8', fun s H C cl fp B' => by subst hh; exact okE elt (g.blk rfl s H C cl fp) B' _ h9⟩, fun s H C cl fp B' => by subst hh; exact okIt it1 (g.blk rfl s H C cl fp) B' _ _ h7'⟩ (in_own h5) (in_own h5') (ok_fold h2) (fun env => ok_fold h2')
    · cases h

theorem okT : ∀ (a : E) {sc sc0 : Scope} {hot : Bool} {X : Cx} {W : WX} (_ : Gd P T Γ n sc sc0 hot X W) (B : Bs) (e : Expr), ckE Γ sc a e = true → Et T X B W e (evT P (callN P n) hot a)
  | .var i, _, _, _, _, _, g, B, e, h => by
    unfold ckE at h
    split at h
    · unfold evT; exact (ok_var g h).2.2.1
    · cases h
  | .c d, _, _, _, _, _, g, B, e, h => by
    unfold ckE at h
    split at h
    · unfold evT; exact et_val (ok_c h) fun _ => rfl
    · cases h
  | .g k, _, _, _, _, _, g, B, e, h => by
    unfold ckE at h
    split at h
    · obtain ⟨h1, h2⟩ := and2 h
      obtain ⟨hg, hd⟩ := glK_gl g h1
      obtain ⟨d, hk, hv⟩ := g.gl _ k (of_decide_eq_true h2)
      unfold evT
      exact et_g hg hd hv hk
    · cases h
  | .not a, _, _, _, _, _, g, B, e, h => by
    unfold ckE at h
    split at h
    · unfold evT; exact et_not (okT a g B _ h)
    · cases h
  | .cmp op a b, _, _, _, _, _, g, B, e, h => by
    unfold ckE at h
    split at h
    · obtain ⟨h, h4⟩ := and2 h
      obtain ⟨h, h3⟩ := and2 h
      obtain ⟨h1, h2⟩ := and2 h
      unfold evT; exact et_cmp' (ok_cop g.un h1) (toO g h3 (okE a g B _ h3)) (toO g h4 (okE b g B _ h4)) (ok_mark h2)
    · cases h
  | .cmp2 op op' a b c, _, _, _, _, _, g, B, e, h => by
    unfold ckE at h
    split at h
    · obtain ⟨h, h6⟩ := and2 h
      obtain ⟨h, h5⟩ := and2 h
      obtain ⟨h, h4⟩ := and2 h
      obtain ⟨h, h3⟩ := and2 h
      obtain ⟨h1, h2⟩ := and2 h
      unfold evT
      exact et_cmp2 (toO g h4 (okE a g B _ h4)) (toO g h5 (okE b g B _ h5)) (toO g h6 (okE c g B _ h6)) (ok_cop g.un h1) (ok_cop g.un h2) (fun _ _ _ h => cop_bool h) (fun _ _ _ h => cop_bool h) (ok_mark2 h3)
    · cases h
  | .and es, _, _, _, _, _, g, B, e, h => by
    unfold ckE at h
    split at h
    · unfold evT; exact (okTAnd es g B _ h).pt
    · cases h
  | .or es, _, _, _, _, _, g, B, e, h => by
    unfold ckE at h
    split at h
    · unfold evT; exact (okTOr es g B _ h).pt
    · cases h
  | .ix a b, _, _, _, _, _, g, B, e, h => by
    unfold ckE at h
    split at h
    · obtain ⟨h, h3⟩ := and2 h
      obtain ⟨h1, h2⟩ := and2 h
      unfold evT; exact et_val (ee_ix (toO g h2 (okE a g B _ h2)) (toO g h3 (okE b g B _ h3)) (ok_ix h1)) fun _ => rfl
    · cases h
  | .call k es, _, _, hot, _, _, g, B, e, h => by
    unfold ckE at h
    split at h
    · obtain ⟨h, h4⟩ := and2 h
      obtain ⟨h, h3⟩ := and2 h
      obtain ⟨h1, h2⟩ := and2 h
      unfold evT
      exact et_val (ok_call g h1 h2 h3 h4 (okAs es g B _ h4 h3)) fun _ => rfl
    · cases h
  | .bi f es, _, _, hot, _, _, g, B, e, h => by
    unfold ckE at h
    split at h
    · obtain ⟨h, h5⟩ := and2 h
      obtain ⟨h, h4⟩ := and2 h
      obtain ⟨h, h3⟩ := and2 h
      obtain ⟨h1, h2⟩ := and2 h
      unfold evT
      refine et_val (gd_of fun hh => ?_) fun _ => rfl
      obtain ⟨hg, hd⟩ := glK_gl g h3
      exact ok_bi g hh (sEq_eq h1) h2 hg hd (okAs es g B _ h5 h4) h4
    · cases h
  | .me m a es, _, _, _, _, _, g, B, e, h => by
    unfold ckE at h
    split at h
    · obtain ⟨h, h8⟩ := and2 h
      obtain ⟨h, h7⟩ := and2 h
      obtain ⟨h, h6⟩ := and2 h
      obtain ⟨h, h5⟩ := and2 h
      obtain ⟨h, h4⟩ := and2 h
      obtain ⟨h, h3⟩ := and2 h
      obtain ⟨h1, h2⟩ := and2 h
      unfold evT
      refine et_val (gd_of fun hh => ?_) fun _ => rfl
      exact ok_me (sEq_eq h1) h2 (toO g h7 (okE a g B _ h7)) (okAs es g B _ h8 h6) h6 h3 (of_decide_eq_true h5) h4
    · cases h
  | .isi a cls, _, _, _, _, _, g, B, e, h => by
    unfold ckE at h
    split at h
    · obtain ⟨h, h7⟩ := and2 h
      obtain ⟨h, h6⟩ := and2 h
      obtain ⟨h, h5⟩ := and2 h
      obtain ⟨h, h4⟩ := and2 h
      obtain ⟨h, h3⟩ := and2 h
      obtain ⟨h1, h2⟩ := and2 h
      have e1 := sEq_eq h1
      subst e1
      unfold evT
      exact et_val (ee_isiT g.G (glK_gl g h2).1 (g.bl _ (by decide +kernel)) (toO g h7 (okE a g B _ h7)) (ok_cls g h6) h3 h4 (of_decide_eq_true h5)) fun _ => rfl
    · obtain ⟨h, h7⟩ := and2 h
      obtain ⟨h, h6⟩ := and2 h
      obtain ⟨h, h3⟩ := and2 h
      obtain ⟨h1, h2⟩ := and2 h
      have e1 := sEq_eq h1
      subst e1
      unfold evT
      cases cls with
      | nil => cases h6
      | cons c cs =>
        cases cs with
        | nil =>
          unfold ckCls at h6
          exact et_val (ee_isi1 g.G (glK_gl g h2).1 (g.bl _ (by decide +kernel)) (toO g h7 (okE a g B _ h7)) (ok_cl g (and2 h6).1).1 h3 rfl) fun _ => rfl
        | cons c2 cs => unfold ckCls at h6; cases (and2 h6).2
    · cases h
  | .fld i f, _, _, _, _, _, g, B, e, h => by
    unfold ckE at h
    split at h
    · obtain ⟨h1, h2⟩ := and2 h
      unfold evT
      exact et_val (ee_fld g.G (ok_var g h1).1 (g.fl _ f (of_decide_eq_true h2)) rfl) fun _ => rfl
    · cases h
  | .bad, _, _, _, _, _, g, B, e, h => by unfold evT; exact et_bad
  | .bin .., _, _, _, _, _, g, B, e, h => by unfold evT; exact et_bad
  | .neg _, _, _, _, _, _, g, B, e, h => by unfold evT; exact et_bad
  | .ife .., _, _, _, _, _, g, B, e, h => by unfold evT; exact et_bad
  | .tup _, _, _, _, _, _, g, B, e, h => by unfold evT; exact et_bad
  | .lst _, _, _, _, _, _, g, B, e, h => by unfold evT; exact et_bad
  | .dic0, _, _, _, _, _, g, B, e, h => by unfold evT; exact et_bad
  | .sl .., _, _, _, _, _, g, B, e, h => by unfold evT; exact et_bad
  | .rev _, _, _, _, _, _, g, B, e, h => by unfold evT; exact et_bad
  | .lkeys _, _, _, _, _, _, g, B, e, h => by unfold evT; exact et_bad
  | .lvals _, _, _, _, _, _, g, B, e, h => by unfold evT; exact et_bad
  | .pop _, _, _, _, _, _, g, B, e, h => by unfold evT; exact et_bad
  | .popi .., _, _, _, _, _, g, B, e, h => by unfold evT; exact et_bad
  | .app .., _, _, _, _, _, g, B, e, h => by unfold evT; exact et_bad
  | .ext .., _, _, _, _, _, g, B, e, h => by unfold evT; exact et_bad
  | .lc .., _, _, _, _, _, g, B, e, h => by unfold evT; exact et_bad
  | .lc2 .., _, _, _, _, _, g, B, e, h => by unfold evT; exact et_bad
theorem okEs : ∀ (es : Es) {sc sc0 : Scope} {hot : Bool} {X : Cx} {W : WX} (_ : Gd P T Γ n sc sc0 hot X W) (B : Bs) (vs : List Expr), ckEs Γ sc es vs = true → vs.all unstar = true → PA X vs (tG T X B W (relL X.K) (evEs P (callN P n) hot es))
  | .nil, _, _, _, _, _, g, B, vs, h, hu => by
    unfold ckEs at h
    split at h
    · unfold evEs; exact pl_nil
    · cases h
  | .cons a es, _, _, _, _, _, g, B, vs, h, hu => by
    unfold ckEs at h
    split at h
    · obtain ⟨h1, h2⟩ := and2 h
      rw [List.all_cons] at hu
      obtain ⟨u1, u2⟩ := and2 hu
      unfold evEs; exact pl_cons (okE a g B _ h1) (okEs es g B _ h2 u2) u1
    · cases h
theorem okAs : ∀ (es : Es) {sc sc0 : Scope} {hot : Bool} {X : Cx} {W : WX} (_ : Gd P T Γ n sc sc0 hot X W) (B : Bs) (vs : List Expr), ckEs Γ sc es vs = true → vs.all unstar = true → PA X vs (tG T X B W (relOs X.K) (evAs P (callN P n) hot es))
  | .nil, _, _, _, _, _, g, B, vs, h, hu => by
    unfold ckEs at h
    split at h
    · unfold evAs; exact po_nil
    · cases h
  | .cons a es, _, _, _, _, _, g, B, vs, h, hu => by
    unfold ckEs at h
    split at h
    · obtain ⟨h1, h2⟩ := and2 h
      rw [List.all_cons] at hu
      obtain ⟨u1, u2⟩ := and2 hu
      unfold evAs; exact po_cons (toO g h1 (okE a g B _ h1)) (okAs es g B _ h2 u2) u1
    · cases h
theorem okAnd : ∀ (es : Es) {sc sc0 : Scope} {hot : Bool} {X : Cx} {W : WX} (_ : Gd P T Γ n sc sc0 hot X W) (B : Bs) (vs : List Expr) {pos : Pos}, ckEs Γ sc es vs = true → Ee T X B W (.BoolOp .And vs pos) (evAnd P (callN P n) hot es)
  | .nil, _, _, _, _, _, g, B, vs, _, h => by unfold evAnd; exact ee_bad
  | .cons a .nil, _, _, _, _, _, g, B, vs, _, h => by
    unfold ckEs at h
    split at h
    · obtain ⟨h1, h2⟩ := and2 h
      unfold ckEs at h2
      split at h2
      · unfold evAnd; exact ee_and1 (okE a g B _ h1)
      · cases h2
    · cases h
  | .cons a (.cons b es), _, _, _, _, _, g, B, vs, pos, h => by
    unfold ckEs at h
    split at h
    · obtain ⟨h1, h2⟩ := and2 h
      have ih := okAnd (.cons b es) g B _ (pos := pos) h2
      unfold ckEs at h2
      split at h2
      · unfold evAnd; exact ee_and (okE a g B _ h1) ih
      · cases h2
    · cases h
theorem okOr : ∀ (es : Es) {sc sc0 : Scope} {hot : Bool} {X : Cx} {W : WX} (_ : Gd P T Γ n sc sc0 hot X W) (B : Bs) (vs : List Expr) {pos : Pos}, ckEs Γ sc es vs = true → Ee T X B W (.BoolOp .Or vs pos) (evOr P (callN P n) hot es)
  | .nil, _, _, _, _, _, g, B, vs, _, h => by unfold evOr; exact ee_bad
  | .cons a .nil, _, _, _, _, _, g, B, vs, _, h => by
    unfold ckEs at h
    split at h
    · obtain ⟨h1, h2⟩ := and2 h
      unfold ckEs at h2
      split at h2
      · unfold evOr; exact ee_and1 (okE a g B _ h1)
      · cases h2
    · cases h
  | .cons a (.cons b es), _, _, _, _, _, g, B, vs, pos, h => by
    unfold ckEs at h
    split at h
    · obtain ⟨h1, h2⟩ := and2 h
      have ih := okOr (.cons b es) g B _ (pos := pos) h2
      unfold ckEs at h2
      split at h2
      · unfold evOr; exact ee_or (okE a g B _ h1) ih
      · cases h2
    · cases h
theorem okTAnd : ∀ (es : Es) {sc sc0 : Scope} {hot : Bool} {X : Cx} {W : WX} (_ : Gd P T Γ n sc sc0 hot X W) (B : Bs) (vs : List Expr) {pos : Pos}, ckEs Γ sc es vs = true → PW X (.BoolOp .And vs pos) (tG T X B W relB (evTAnd P (callN P n) hot es))
  | .nil, _, _, _, _, _, g, B, vs, _, h => by unfold evTAnd; exact pw_bad
  | .cons a .nil, _, _, _, _, _, g, B, vs, _, h => by
    unfold ckEs at h
    split at h
    · obtain ⟨h1, h2⟩ := and2 h
      unfold ckEs at h2
      split at h2
      · unfold evTAnd; exact ew_and1 (okT a g B _ h1)
      · cases h2
    · cases h
  | .cons a (.cons b es), _, _, _, _, _, g, B, vs, pos, h => by
    unfold ckEs at h
    split at h
    · obtain ⟨h1, h2⟩ := and2 h
      have ih := okTAnd (.cons b es) g B _ (pos := pos) h2
      unfold ckEs at h2
      split at h2
      · unfold evTAnd; exact ew_and (okT a g B _ h1) ih
      · cases h2
    · cases h
theorem okTOr : ∀ (es : Es) {sc sc0 : Scope} {hot : Bool} {X : Cx} {W : WX} (_ : Gd P T Γ n sc sc0 hot X W) (B : Bs) (vs : List Expr) {pos : Pos}, ckEs Γ sc es vs = true → PW X (.BoolOp .Or vs pos) (tG T X B W relB (evTOr P (callN P n) hot es))
  | .nil, _, _, _, _, _, g, B, vs, _, h => by unfold evTOr; exact pw_bad
  | .cons a .nil, _, _, _, _, _, g, B, vs, _, h => by
    unfold ckEs at h
    split at h
    · obtain ⟨h1, h2⟩ := and2 h
      unfold ckEs at h2
      split at h2
      · unfold evTOr; exact ew_or1 (okT a g B _ h1)
      · cases h2
    · cases h
  | .cons a (.cons b es), _, _, _, _, _, g, B, vs, pos, h => by
    unfold ckEs at h
    split at h
    · obtain ⟨h1, h2⟩ := and2 h
      have ih := okTOr (.cons b es) g B _ (pos := pos) h2
      unfold ckEs at h2
      split at h2
      · unfold evTOr; exact ew_or (okT a g B _ h1) ih
      · cases h2
    · cases h
theorem okCs : ∀ (es : Es) {sc sc0 : Scope} {hot : Bool} {X : Cx} {W : WX} (_ : Gd P T Γ n sc sc0 hot X W) (B : Bs) (vs : List Expr), ckEs Γ sc es vs = true → PTs X vs (tG T X B W relB (evCs P (callN P n) hot es))
  | .nil, _, _, _, _, _, g, B, vs, h => by
    unfold ckEs at h
    split at h
    · unfold evCs
      exact ⟨fun pins s σ H Q I ⟨F, t, R, p⟩ => pts_nil.run pins s σ H Q I (p true F H R (Ext.refl _) rfl)⟩
    · cases h
  | .cons a .nil, _, _, _, _, _, g, B, vs, h => by
    unfold ckEs at h
    split at h
    · obtain ⟨h1, h2⟩ := and2 h
      unfold ckEs at h2
      split at h2
      · unfold evCs; exact pts_one (okT a g B _ h1)
      · cases h2
    · cases h
  | .cons a (.cons b es), _, _, _, _, _, g, B, vs, h => by unfold evCs; exact pts_bad
theorem okOpt : ∀ (o : O) {sc sc0 : Scope} {hot : Bool} {X : Cx} {W : WX} (_ : Gd P T Γ n sc sc0 hot X W) (B : Bs) (v : Option Expr), ckO Γ sc o v = true → PO X v (tG T X B W relI (evO P (callN P n) hot o))
  | .no, _, _, _, _, _, g, B, v, h => by
    unfold ckO at h
    split at h
    · unfold evO; exact po_no
    · cases h
  | .so a, _, _, _, _, _, g, B, v, h => by
    unfold ckO at h
    split at h
    · unfold evO; exact po_so (toO g h (okE a g B _ h))
    · cases h
theorem okIt : ∀ (it : It) {sc sc0 : Scope} {hot : Bool} {X : Cx} {W : WX} (_ : Gd P T Γ n sc sc0 hot X W) (B : Bs) (t e : Expr), ckIt Γ sc t it e = true → Ei T X B W t e (evIt P (callN P n) hot it)
  | .bad, _, _, _, _, _, g, B, t, e, h => by unfold evIt; exact pi_bad
  | .of a, _, _, _, _, _, g, B, t, e, h => by
    unfold ckIt at h
    unfold evIt; exact ei_of (toO g h (okE a g B _ h))
  | .rng1 a, _, _, _, _, _, g, B, t, e, h => by
    unfold ckIt at h
    split at h
    · obtain ⟨h, h4⟩ := and2 h
      obtain ⟨h, h3⟩ := and2 h
      obtain ⟨h1, h2⟩ := and2 h
      have e1 := sEq_eq h1
      subst e1
      unfold evIt; exact ei_rng1 (glK_gl g h2).1 (g.bl _ (by decide +kernel)) (toO g h4 (okE a g B _ h4)) h3
    · cases h
  | .rng2 a b, _, _, _, _, _, g, B, t, e, h => by
    unfold ckIt at h
    split at h
    · obtain ⟨h, h6⟩ := and2 h
      obtain ⟨h, h5⟩ := and2 h
      obtain ⟨h, h4⟩ := and2 h
      obtain ⟨h, h3⟩ := and2 h
      obtain ⟨h1, h2⟩ := and2 h
      have e1 := sEq_eq h1
      subst e1
      unfold evIt; exact ei_rng2 (glK_gl g h2).1 (g.bl _ (by decide +kernel)) (toO g h5 (okE a g B _ h5)) (toO g h6 (okE b g B _ h6)) h3 h4
    · cases h
  | .rng3 a b c, _, _, _, _, _, g, B, t, e, h => by
    unfold ckIt at h
    split at h
    · obtain ⟨h, h8⟩ := and2 h
      obtain ⟨h, h7⟩ := and2 h
      obtain ⟨h, h6⟩ := and2 h
      obtain ⟨h, h5⟩ := and2 h
      obtain ⟨h, h4⟩ := and2 h
      obtain ⟨h, h3⟩ := and2 h
      obtain ⟨h1, h2⟩ := and2 h
      have e1 := sEq_eq h1
      subst e1
      unfold evIt; exact ei_rng3 (glK_gl g h2).1 (g.bl _ (by decide +kernel)) (toO g h6 (okE a g B _ h6)) (toO g h7 (okE b g B _ h7)) (toO g h8 (okE c g B _ h8)) h3 h4 h5
    · cases h
  | .enum a, _, _, _, _, _, g, B, t, e, h => by
    unfold ckIt at h
    split at h
    · obtain ⟨h, h4⟩ := and2 h
      obtain ⟨h, h3⟩ := and2 h
      obtain ⟨h1, h2⟩ := and2 h
      have e1 := sEq_eq h1
      subst e1
      unfold evIt; exact ei_enum (glK_gl g h2).1 (g.bl _ (by decide +kernel)) (toO g h4 (okE a g B _ h4)) h3
    · cases h
  | .zip a b, _, _, _, _, _, g, B, t, e, h => by
    unfold ckIt at h
    split at h
    · obtain ⟨h, h6⟩ := and2 h
      obtain ⟨h, h5⟩ := and2 h
      obtain ⟨h, h4⟩ := and2 h
      obtain ⟨h, h3⟩ := and2 h
      obtain ⟨h1, h2⟩ := and2 h
      have e1 := sEq_eq h1
      subst e1
      unfold evIt; exact ei_zip (glK_gl g h2).1 (g.bl _ (by decide +kernel)) (toO g h5 (okE a g B _ h5)) (toO g h6 (okE b g B _ h6)) h3 h4
    · cases h
  | .enz a b, _, _, _, _, _, g, B, t, e, h => by
    unfold ckIt at h
    split at h
    · obtain ⟨h, h8⟩ := and2 h
      obtain ⟨h, h7⟩ := and2 h
      obtain ⟨h, h6⟩ := and2 h
      obtain ⟨h, h5⟩ := and2 h
      obtain ⟨h, h4⟩ := and2 h
      obtain ⟨h, h3⟩ := and2 h
      obtain ⟨h1, h2⟩ := and2 h
      have e1 := sEq_eq h1
      have e3 := sEq_eq h3
      subst e1 e3
      unfold evIt; exact ei_enz (glK_gl g h2).1 (g.bl _ (by decide +kernel)) (glK_gl g h4).1 (g.bl _ (by decide +kernel)) (toO g h7 (okE a g B _ h7)) (toO g h8 (okE b g B _ h8)) h5 h6
    · cases h
end
end
end Mp

set_option maxHeartbeats 8000000
/-! Part 27: checked statements run as the evaluator says. -/
namespace Mp
open PySem PySem.Spec PyProof.Rows L2
/-- no comprehension stands there -/
def noComp : Expr → Bool
  | .ListComp .. => false
  | .SetComp .. => false
  | .DictComp .. => false
  | _ => true
def noTup : Expr → Bool
  | .Tuple .. => false
  | _ => true
def isLc : E → Bool
  | .lc .. => true
  | .lc2 .. => true
  | _ => false
/-- name = [.. for ..] on one line, the name not of the comprehension's own -/
def swLc (sc : Scope) (t : Expr) (v : Expr) : Bool := match t, v with
  | .Name y py, .ListComp _ _ scope pos => (py.line == pos.line) && decide (sc.kind = .function) && decide (sc.names.lookup y = some .local) && !(scope.names.any fun (n, k) => n == y && (k == .local || k == .cell))
  | _, _ => false
def isNm : Tg → Bool
  | .nm _ => true
  | _ => false
def ckLoc (Γ : Gm) (sc : Scope) (i : Nat) (x : Str) : Bool := decide (Γ.N[i]? = some x) && decide (sc.names.lookup x = some .local)
def ckAug : Bop → Operator → Bool
  | .add, .Add => true
  | .sub, .Sub => true
  | _, _ => false
theorem ckAug_eq {op : Bop} {o : Operator} (h : ckAug op o = true) : (op = .add ∧ o = .Add) ∨ (op = .sub ∧ o = .Sub) := by
  unfold ckAug at h
  split at h
  · exact .inl ⟨rfl, rfl⟩
  · exact .inr ⟨rfl, rfl⟩
  · cases h
def ckNm (Γ : Gm) (sc : Scope) : Option Nat → Option Str → Bool
  | none, none => true
  | some i, some y => decide (Γ.N[i]? = some y) && decide (sc.names.lookup y = some .local)
  | _, _ => false
theorem ckNm_eq {Γ : Gm} {sc : Scope} : ∀ {nm : Option Nat} {y : Option Str}, ckNm Γ sc nm y = true → y = (nm.map fun i => ((i, (Γ.N[i]?).getD ("" : Str)) : Nat × Str)).map (·.2) ∧ ∀ q, (nm.map fun i => ((i, (Γ.N[i]?).getD ("" : Str)) : Nat × Str)) = some q → Γ.N[q.1]? = some q.2 ∧ sc.names.lookup q.2 = some .local
  | none, none, _ => ⟨rfl, fun q e => by cases e⟩
  | some i, some y, h => by
    unfold ckNm at h
    rw [Bool.and_eq_true] at h
    have e1 := of_decide_eq_true h.1
    have e2 := of_decide_eq_true h.2
    have hy : (Γ.N[i]?).getD ("" : Str) = y := by rw [e1]; rfl
    rw [Option.map_some, hy]
    exact ⟨rfl, fun q e => by cases e; exact ⟨e1, e2⟩⟩
  | none, some _, h => by cases h
  | some _, none, h => by cases h
mutual
def ckS (Γ : Gm) (rz : List Nat) (hot : Bool) (sc : Scope) : Sm → Stmt → Bool
  | .bad, _ => true
  | .asg tg e, s => (match s with
    | .Assign [t] v _ => unstar t && (isNm tg || !hot) && ckTg Γ sc tg t && ckE Γ sc e v && (if noComp v = true then (isNm tg || noTup v) else (isNm tg && isLc e && swLc sc t v))
    | _ => false)
  | .par is es, s => (match is, s with
    | [i, j], .Assign [.Tuple [.Name x px, .Name y py] _ _] (.Tuple [a, b] _ _) _ => ckLoc Γ sc i x && ckLoc Γ sc j y && decide (i ≠ j) && !(x == y) && (py.line == px.line) && decide (sc.kind = .function) && [a, b].all unstar && !([a, b].all (foldedForSure 8)) && !([a, b].all (constantsAlone 8)) && ckEs Γ sc es [a, b]
    | [i, j, k], .Assign [.Tuple [.Name x px, .Name y py, .Name z pz] _ _] (.Tuple [a, b, c] _ _) _ => ckLoc Γ sc i x && ckLoc Γ sc j y && ckLoc Γ sc k z && decide (i ≠ j) && decide (i ≠ k) && decide (j ≠ k) && !(x == y) && !(x == z) && !(y == z) && (py.line == px.line) && (pz.line == px.line) && decide (sc.kind = .function) && [a, b, c].all unstar && !([a, b, c].all (foldedForSure 8)) && !([a, b, c].all (constantsAlone 8)) && ckEs Γ sc es [a, b, c]
    | _, _ => false)
  | .aug i op e, s => (match s with
    | .AugAssign (.Name x _) o v _ => decide (Γ.N[i]? = some x) && locK (sc.names.lookup x) && ckAug op o && ckE Γ sc e v
    | _ => false)
  | .set i b e, s => (match s with
    | .Assign [.Subscript (.Name x _) ix _] v _ => ckVar Γ sc i x && noSlice ix && ckE Γ sc b ix && ckE Γ sc e v
    | _ => false)
  | .ex e, s => (match s with
    | .Expr v _ => noComp v && ckE Γ sc e v
    | _ => false)
  | .ret e, s => (match s with
    | .Return (some v) _ => ckE Γ sc e v
    | _ => false)
  | .ret0, s => (match s with
    | .Return none _ => true
    | _ => false)
  | .ite c a b, s => (match s with
    | .If t x y _ => ckE Γ sc c t && ckSs Γ rz hot sc a x && ckSs Γ rz hot sc b y
    | _ => false)
  | .whl c b, s => (match s with
    | .While t x [] _ => ckE Γ sc c t && ckSs Γ rz hot sc b x
    | _ => false)
  | .for_ tg it b, s => (match s with
    | .For t i x [] _ => noSet i && ckTg Γ sc tg t && ckIt Γ sc t it i && ckSs Γ rz hot sc b x
    | _ => false)
  | .brk, s => (match s with
    | .Break _ => true
    | _ => false)
  | .cnt, s => (match s with
    | .Continue _ => true
    | _ => false)
  | .pass, s => (match s with
    | .Pass _ => true
    | _ => false)
  | .raise k es, s => (match s with
    | .Raise (some (.Call (.Name x _) (v :: vs) [] _)) none _ => ckGl sc x && ckNo Γ.cls x k && rz.contains k && (v :: vs).all unstar && ckEs Γ sc es (v :: vs)
    | _ => false)
  | .try_ b hs, s => (match s with
    | .Try body (h :: hds) [] [] _ => ckSs Γ rz hot sc b body && ckHs Γ rz sc hs (h :: hds)
    | _ => false)
def ckSs (Γ : Gm) (rz : List Nat) (hot : Bool) (sc : Scope) : Ss → List Stmt → Bool
  | .nil, l => (match l with
    | [] => true
    | _ => false)
  | .cons s r, l => (match l with
    | x :: xs => ckS Γ rz hot sc s x && ckSs Γ rz hot sc r xs
    | _ => false)
def ckHs (Γ : Gm) (rz : List Nat) (sc : Scope) : Hs → List ExceptHandler → Bool
  | .nil, l => (match l with
    | [] => true
    | _ => false)
  | .cons c nm b r, l => (match l with
    | .ExceptHandler (some (.Name x _)) y (b₀ :: suite) _ :: hds => ckCl Γ sc c x && ckNm Γ sc nm y && ckSs Γ rz true sc b (b₀ :: suite) && ckHs Γ rz sc r hds
    | _ => false)
end
/-- a class that may be raised -/
structure RsFact (P : Pr) (T : Tb) (X : Cx) (k : Nat) : Prop where
  ex : ∃ (fI : Addr) (fd : FuncData) (ps : List Str), OexC X.K (T.cl k) ∧ PySem.W.findIn X.K (.ref (T.cl k)) "__init__" = some (some (.ref fI)) ∧ PySem.W.typeIn X.K (.ref fI) = some (.type "function") ∧ FnOk X.prog X.w X.K X.mg X.base (L2.CX X.prog X.w) 1 fI fd ps (SpI (T.cl k) ((P.fld k).map T.fld)) ∧ Binds X.K fd ps [] ∧ (P.fld k).length ≤ 100
structure GdS (P : Pr) (T : Tb) (Γ : Gm) (rz : List Nat) (n : Nat) (sc : Scope) (hot : Bool) (X : Cx) (W : WX) : Prop where
  g : Gd P T Γ n sc sc hot X W
  rs : ∀ k ∈ rz, RsFact P T X k
  po : hot = false → PassesOwn (model X.prog X.w) X.A X.env X.xe ∧ X.stack = X.env :: X.outer ∧ X.env.frame = some X.env.locals
section
variable {P : Pr} {T : Tb} {Γ : Gm} {rz : List Nat} {n : Nat} {sc : Scope} {hot : Bool} {X : Cx} {W : WX} {B : Bs}
theorem GdS.tr (g : GdS P T Γ rz n sc false X W) {W' : WX} {pn : List (Addr × Obj)} {xe : Value → Shared → Prop} (tk : Takes (X.tr pn xe) W') (po : PassesOwn (model X.prog X.w) X.A X.env xe) : GdS P T Γ rz n sc false (X.tr pn xe) W' where
  g := { N := g.g.N, nd := g.g.nd, scE := g.g.scE, tgs := g.g.tgs, G := g.g.G, fn := fun x k h => ⟨(g.g.fn x k h).ex⟩, cl := g.g.cl, gl := g.g.gl, fl := g.g.fl, bl := g.g.bl, calm := fun h => ⟨(g.g.calm h).1, tk, (g.g.calm h).2.2⟩, un := g.g.un }
  rs := fun k h => ⟨(g.rs k h).ex⟩
  po := fun h => ⟨po, (g.po h).2⟩
theorem GdS.suite (g : GdS P T Γ rz n sc false X W) (a : Addr) (pn : List (Addr × Obj)) : GdS P T Γ rz n sc true (X.suite a pn) Wno where
  g := { N := g.g.N, nd := g.g.nd, scE := g.g.scE, tgs := g.g.tgs, G := g.g.G, fn := fun x k h => ⟨(g.g.fn x k h).ex⟩, cl := g.g.cl, gl := g.g.gl, fl := g.g.fl, bl := g.g.bl, calm := fun h => (by cases h), un := g.g.un }
  rs := fun k h => ⟨(g.rs k h).ex⟩
  po := fun h => by cases h
theorem gdS_of {s : Stmt} {f : Mp.St → Fl} (h : hot = false → Es1 T X B W s f) : Es1 T X B W s (gdF hot f) := by
  cases hot with
  | false => exact h rfl
  | true => exact ss_bad
theorem sw_none {e : Expr} {t : Option Expr} {l : Nat} {env : Env} (h : noComp e = true) : swapsWith e t l env = pure false := by
  cases e <;> first | rfl | cases h
theorem star_no : ∀ e : Expr, unstar e = true → (match e with | .Starred _ _ => true | x => false) = true → False := fun e h k => by cases e <;> first | exact Bool.noConfusion k | cases h
theorem sts_par2 {x y : Str} {a b : Expr} {px py pt pt2 : Pos} {kt k2 : _} {env : Env} (hk : env.scope.kind = .function) (hx : env.scope.names.lookup x = some .local) (hy : env.scope.names.lookup y = some .local) (hne : (x == y) = false) (hl : (py.line == px.line) = true) (hu : ([a, b].all unstar) = true) (h2 : [a, b].all (foldedForSure 8) = false) (h3 : [a, b].all (constantsAlone 8) = false) :
    swappedStores [.Tuple [.Name x px, .Name y py] kt pt] (.Tuple [a, b] k2 pt2) env = pure (some [x, y]) := by
  have hbk : env.blockKind = .function := by unfold Env.blockKind; rw [hk]; rfl
  rw [List.all_cons, List.all_cons, List.all_nil, Bool.and_true, Bool.and_eq_true] at hu
  have hkx : (env.kindOf x == some .local) = true := by unfold Env.kindOf; rw [hx]; rfl
  have hky : (env.kindOf y == some .local) = true := by unfold Env.kindOf; rw [hy]; rfl
  have hyx : (y == x) = false := by rw [beq_eq_false_iff_ne] at hne ⊢; exact fun h => hne h.symm
  unfold swappedStores
  simp only [hbk, hkx, hky, h2, h3, hl, List.filterMap_cons, List.filterMap_nil, List.head?_cons, Option.map_some, Option.getD_some, Expr.pos, beq_self_eq_true, Bool.and_self, if_true]
  simp [List.eraseDups, List.eraseDupsBy, List.eraseDupsBy.loop, hyx, hne, pure_bind]
  intro h
  rcases h with h | h
  · exact (star_no a hu.1 h).elim
  · exact (star_no b hu.2 h).elim
theorem sts_par3 {x y z : Str} {a b c : Expr} {px py pz pt pt2 : Pos} {kt k2 : _} {env : Env} (hk : env.scope.kind = .function) (hx : env.scope.names.lookup x = some .local) (hy : env.scope.names.lookup y = some .local) (hz : env.scope.names.lookup z = some .local) (hne : (x == y) = false) (hxz : (x == z) = false) (hyz : (y == z) = false) (hl : (py.line == px.line) = true) (hl2 : (pz.line == px.line) = true) (hu : ([a, b, c].all unstar) = true) (h2 : [a, b, c].all (foldedForSure 8) = false) (h3 : [a, b, c].all (constantsAlone 8) = false) :
    swappedStores [.Tuple [.Name x px, .Name y py, .Name z pz] kt pt] (.Tuple [a, b, c] k2 pt2) env = pure (some [x, y, z]) := by
  have hbk : env.blockKind = .function := by unfold Env.blockKind; rw [hk]; rfl
  rw [List.all_cons, List.all_cons, List.all_cons, List.all_nil, Bool.and_true, Bool.and_eq_true, Bool.and_eq_true] at hu
  have hkx : (env.kindOf x == some .local) = true := by unfold Env.kindOf; rw [hx]; rfl
  have hky : (env.kindOf y == some .local) = true := by unfold Env.kindOf; rw [hy]; rfl
  have hkz : (env.kindOf z == some .local) = true := by unfold Env.kindOf; rw [hz]; rfl
  have hyx : (y == x) = false := by rw [beq_eq_false_iff_ne] at hne ⊢; exact fun h => hne h.symm
  have hzx : (z == x) = false := by rw [beq_eq_false_iff_ne] at hxz ⊢; exact fun h => hxz h.symm
  have hzy : (z == y) = false := by rw [beq_eq_false_iff_ne] at hyz ⊢; exact fun h => hyz h.symm
  unfold swappedStores
  simp only [hbk, hkx, hky, hkz, h2, h3, hl, hl2, List.filterMap_cons, List.filterMap_nil, List.head?_cons, Option.map_some, Option.getD_some, Expr.pos, beq_self_eq_true, Bool.and_self, if_true]
  simp [List.eraseDups, List.eraseDupsBy, List.eraseDupsBy.loop, hyx, hne, hxz, hyz, hzx, hzy, pure_bind]
  intro h
  rcases h with h | h | h
  · exact (star_no a hu.1 h).elim
  · exact (star_no b hu.2.1 h).elim
  · exact (star_no c hu.2.2 h).elim
theorem sw_sub {e o i : Expr} {p : Pos} {l : Nat} {env : Env} : swapsWithSole [.Subscript o i p] e l env = pure false := by
  cases e <;> rfl
theorem sts_sub {e o i : Expr} {p : Pos} {env : Env} : swappedStores [.Subscript o i p] e env = pure none := by
  cases e <;> rfl
theorem sts_noTup {e t : Expr} {env : Env} (h : noTup e = true) : swappedStores [t] e env = pure none := by
  cases e <;> first | (cases t <;> rfl) | cases h
theorem asg_sub {o i v : Expr} {p : Pos} (h : noSlice i = true) {env : Env} {v : Value} : assign (.Subscript o i p) env v = (do
    let ov ← holding [v] (eval o env)
    let iv ← holding [v, ov] (eval i env)
    standAt p
    holding [v, ov, iv] (setItem ov iv v)
    release [v, ov, iv] []) := by
  cases i <;> first | rfl | cases h
/-- a name's slot in a list of clauses -/
noncomputable def toCks (P : Pr) (cs : Cs) (N : List Str) : Hs → List Ck
  | .nil => []
  | .cons c nm b r => ⟨c, nm.map fun i => ((i, (N[i]?).getD ("" : Str)) : Nat × Str), exSs P cs true b⟩ :: toCks P cs N r
theorem hds_eq {cs : Cs} {N : List Str} : ∀ hs : Hs, exHs P cs hs = hdsF P (toCks P cs N hs)
  | .nil => by unfold exHs toCks hdsF; rfl
  | .cons c nm b r => by
    unfold exHs toCks hdsF
    funext x t
    rw [hds_eq r]
    dsimp only
    cases nm <;> rfl
theorem loc_of {x : Str} (g : Gd P T Γ n sc sc hot X W) (h : locK (sc.names.lookup x) = true) : L2.Loc X.env.scope x ∧ (X.fn x = true ∨ X.env.scope.names.lookup x = some .local) := by
  obtain ⟨a, b⟩ := g.tgs _ h
  rw [g.scE]; exact ⟨a, b⟩
end
end Mp

set_option maxHeartbeats 8000000
/-! Part 28: the soundness of checked statements. -/
namespace Mp
open PySem PySem.Spec PyProof.Rows L2
section
variable {P : Pr} {T : Tb} {Γ : Gm} {rz : List Nat} {n : Nat}
theorem ckLoc_eq {sc : Scope} {i : Nat} {x : Str} (h : ckLoc Γ sc i x = true) : Γ.N[i]? = some x ∧ sc.names.lookup x = some .local := by
  unfold ckLoc at h
  rw [Bool.and_eq_true] at h
  exact ⟨of_decide_eq_true h.1, of_decide_eq_true h.2⟩
theorem fl_bad {f : R Rv} : (Mp.R.bad : R Rv).fl (fun v t => Fl.rt v t) = Fl.bad := rfl
theorem retE_of {np : Nat} {e : E} {ev : Mp.St → R Rv} (h : ∀ i, e ≠ .var i) : retE np e ev = fun t => (ev t).fl fun v t => .rt v t := by
  funext t
  unfold retE
  cases e <;> first | rfl | exact absurd rfl (h _)
theorem gdF_same {hot : Bool} {f : Mp.St → R Rv} {k : Rv → Mp.St → Fl} : (fun t => (gd hot f t).fl k) = gdF hot fun t => (f t).fl k := by
  cases hot <;> rfl
/-- name = [elt for ..] on one line -/
theorem ss_lcN {X : Cx} {W : WX} {B : Bs} {tg iter elt : Expr} {ifs : List Expr} {scope : Scope} {own : List Nat} {g : Tg} {it : Mp.St → R (List D × Option Nat)} {cond : Mp.St → R Bool} {ev : Mp.St → R Rv} {pos : Pos} {i : Nat} {y : Str} {py spos : Pos} (e4 : (ownN Γ own).map (·.2) = own) (hc : X.calm = true) (hN : X.N.Nodup) (hy : X.N[i]? = some y) (hyl : X.env.scope.names.lookup y = some .local)
    (hsw : swapsWith (.ListComp elt [⟨tg, iter, ifs, 0⟩] scope pos) (some (.Name y py)) spos.line X.env = pure true) (hi : Ei T X B W tg iter it)
    (ok : BlkOk X.N X.env.scope scope (ownN Γ own)) (L : LcOk T X tg elt ifs scope g cond ev) (hsub : ∀ j ∈ tgIx g, j ∈ own) (hs : ∀ x, foldedSetIterable iter X.env x = pure x) :
    Es1 T X B W (.Assign [.Name y py] (.ListComp elt [⟨tg, iter, ifs, 0⟩] scope pos) spos) (fun t => (kLc own it (kTurn own g cond (fun t => (ev t).bind fun v t => .ok [v.1] t)) t).fl fun v t => nxO (asgN i v t)) := by
  have r := ss_setLc (B := B) (W := W) (pos := pos) (spos := spos) (i := i) (y := y) (py := py) hc hN hy hyl hsw hi ok L (by rw [e4]; exact hsub) hs
  rw [e4] at r
  exact r
theorem ok_setLc {sc : Scope} {hot : Bool} {X : Cx} {W : WX} {elt : E} {own : List Nat} {tg : Tg} {it : It} {cds : Es} {i : Nat} {y : Str} {py spos : Pos} {v : Expr} (g : Gd P T Γ n sc sc hot X W) (B : Bs) (hi : Γ.N[i]? = some y) (h : ckE Γ sc (.lc elt own tg it cds) v = true) (hs : swLc sc (.Name y py) v = true) :
    Es1 T X B W (.Assign [.Name y py] v spos) (asgF (.nm i) (evE P (callN P n) hot (.lc elt own tg it cds))) := by
  unfold ckE at h
  split at h
  · obtain ⟨h, h9⟩ := and2 h
    obtain ⟨h, h8⟩ := and2 h
    obtain ⟨h, h7⟩ := and2 h
    obtain ⟨h, h6⟩ := and2 h
    obtain ⟨h, h5⟩ := and2 h
    obtain ⟨h, h4⟩ := and2 h
    obtain ⟨h, h3⟩ := and2 h
    obtain ⟨h1, h2⟩ := and2 h
    have e1 := of_decide_eq_true h1
    have e4 := of_decide_eq_true h4
    subst e1
    unfold swLc at hs
    dsimp only at hs
    obtain ⟨hs, s4⟩ := and2 hs
    obtain ⟨hs, s3⟩ := and2 hs
    obtain ⟨s1, s2⟩ := and2 hs
    have s2 := of_decide_eq_true s2
    have s3 := of_decide_eq_true s3
    rw [Bool.not_eq_true'] at s4
    unfold evE
    unfold asgF
    dsimp only
    rw [gdF_same]
    refine gdS_of fun hh => ?_
    obtain ⟨hc, tk, hr⟩ := g.calm hh
    have bo := ok_blk g.N g.scE h3
    exact ss_lcN e4 hc (by rw [g.N]; exact g.nd) (by rw [g.N]; exact hi) (by rw [g.scE]; exact s3) (sw_true (by rw [g.scE]; exact s2) (by rw [g.scE]; exact s3) s1 s4) (okIt it g B _ _ h7) bo
      ⟨fun s H C cl fp B' => ok_tg (g.blk hh s H C cl fp) hc tg _ h6, fun s H C cl fp B' => by subst hh; exact okCs cds (g.blk rfl s H C cl fp) B' _ h8, fun s H C cl fp B' => by subst hh; exact okE elt (g.blk rfl s H C cl fp) B' _ h9⟩ (in_own h5) (ok_fold h2)
  · cases h
theorem ss_lc2N {X : Cx} {W : WX} {B : Bs} {tg iter tg1 iter1 elt e0 : Expr} {ifs ifs1 : List Expr} {scope : Scope} {own own1 : List Nat} {g g1 : Tg} {it it1 : Mp.St → R (List D × Option Nat)} {cond cond1 : Mp.St → R Bool} {ev ev0 : Mp.St → R Rv} {pos : Pos} {i : Nat} {y : Str} {py spos : Pos} (e4 : (ownN Γ own).map (·.2) = own) (hc : X.calm = true) (hN : X.N.Nodup) (hy : X.N[i]? = some y) (hyl : X.env.scope.names.lookup y = some .local)
    (hsw : swapsWith (.ListComp elt [⟨tg, iter, ifs, 0⟩, ⟨tg1, iter1, ifs1, 0⟩] scope pos) (some (.Name y py)) spos.line X.env = pure true) (hi : Ei T X B W tg iter it)
    (ok : BlkOk X.N X.env.scope scope (ownN Γ own)) (hv : ∀ i ∈ own1, i ∈ own) (L : LcOk T X tg e0 ifs scope g cond ev0) (L1 : Lc2Ok T X tg1 iter1 elt ifs1 scope g1 it1 cond1 ev) (hsub : ∀ j ∈ tgIx g, j ∈ own) (hsub1 : ∀ j ∈ tgIx g1, j ∈ own1) (hs : ∀ x, foldedSetIterable iter X.env x = pure x) (hs1 : ∀ env x, foldedSetIterable iter1 env x = pure x) :
    Es1 T X B W (.Assign [.Name y py] (.ListComp elt [⟨tg, iter, ifs, 0⟩, ⟨tg1, iter1, ifs1, 0⟩] scope pos) spos) (fun t => (kLc own it (kTurn own g cond (kLcIn own1 it1 (kTurn own1 g1 cond1 (fun t => (ev t).bind fun v t => .ok [v.1] t)))) t).fl fun v t => nxO (asgN i v t)) := by
  have r := ss_setLc2 (B := B) (W := W) (pos := pos) (spos := spos) (i := i) (y := y) (py := py) hc hN hy hyl hsw hi ok (by rw [e4]; exact hv) L L1 (by rw [e4]; exact hsub) hsub1 hs hs1
  rw [e4] at r
  exact r
theorem ok_setLc2 {sc : Scope} {hot : Bool} {X : Cx} {W : WX} {elt : E} {own own1 : List Nat} {tg tg1 : Tg} {it it1 : It} {cds cds1 : Es} {i : Nat} {y : Str} {py spos : Pos} {v : Expr} (g : Gd P T Γ n sc sc hot X W) (B : Bs) (hi : Γ.N[i]? = some y) (h : ckE Γ sc (.lc2 elt own tg it cds own1 tg1 it1 cds1) v = true) (hs : swLc sc (.Name y py) v = true) :
    Es1 T X B W (.Assign [.Name y py] v spos) (asgF (.nm i) (evE P (callN P n) hot (.lc2 elt own tg it cds own1 tg1 it1 cds1))) := by
  unfold ckE at h
  split at h
  · simp only [and_lr] at h
    obtain ⟨⟨⟨⟨⟨⟨⟨⟨⟨⟨⟨⟨⟨⟨⟨h1, h1'⟩, h2⟩, h2'⟩, h3⟩, h4⟩, ho⟩, h5⟩, h5'⟩, h6⟩, h6'⟩, h7⟩, h7'⟩, h8⟩, h8'⟩, h9⟩ := h
    have e1 := of_decide_eq_true h1
    have e1' := of_decide_eq_true h1'
    have e4 := of_decide_eq_true h4
    subst e1
    subst e1'
    unfold swLc at hs
    dsimp only at hs
    obtain ⟨hs, s4⟩ := and2 hs
    obtain ⟨hs, s3⟩ := and2 hs
    obtain ⟨s1, s2⟩ := and2 hs
    have s2 := of_decide_eq_true s2
    have s3 := of_decide_eq_true s3
    rw [Bool.not_eq_true'] at s4
    unfold evE
    unfold asgF
    dsimp only
    rw [gdF_same]
    refine gdS_of fun hh => ?_
    obtain ⟨hc, tk, hr⟩ := g.calm hh
    have bo := ok_blk g.N g.scE h3
    exact ss_lc2N e4 hc (by rw [g.N]; exact g.nd) (by rw [g.N]; exact hi) (by rw [g.scE]; exact s3) (sw_true (by rw [g.scE]; exact s2) (by rw [g.scE]; exact s3) s1 s4) (okIt it g B _ _ h7) bo (all_in ho)
        ⟨fun s H C cl fp B' => ok_tg (g.blk hh s H C cl fp) hc tg _ h6, fun s H C cl fp B' => by subst hh; exact okCs cds (g.blk rfl s H C cl fp) B' _ h8, fun s H C cl fp B' => by subst hh; exact okE elt (g.blk rfl s H C cl fp) B' _ h9⟩
        ⟨⟨fun s H C cl fp B' => ok_tg (g.blk hh s H C cl fp) hc tg1 _ h6', fun s H C cl fp B' => by subst hh; exact okCs cds1 (g.blk rfl s H C cl fp) B' _ h8', fun s H C cl fp B' => by subst hh; exact okE elt (g.blk rfl s H C cl fp) B' _ h9⟩, fun s H C cl fp B' => by subst hh; exact okIt it1 (g.blk rfl s H C cl fp) B' _ _ h7'⟩ (in_own h5) (in_own h5') (ok_fold h2) (fun env => ok_fold h2')
  · cases h
theorem ok_asg {sc : Scope} {hot : Bool} {X : Cx} {W : WX} {tg : Tg} {e : E} {t v : Expr} {pos : Pos} (g : Gd P T Γ n sc sc hot X W) (B : Bs) (h1 : unstar t = true) (h2 : (isNm tg || !hot) = true) (h3 : ckTg Γ sc tg t = true) (h4 : ckE Γ sc e v = true) (h5 : (if noComp v = true then (isNm tg || noTup v) else (isNm tg && isLc e && swLc sc t v)) = true) :
    Es1 T X B W (.Assign [t] v pos) (asgF tg (evE P (callN P n) hot e)) := by
  cases tg with
  | nm i =>
    unfold ckTg at h3
    split at h3
    · rename_i x p
      obtain ⟨a1, a2⟩ := and2 h3
      have a1 := of_decide_eq_true a1
      obtain ⟨l1, l2⟩ := loc_of g a2
      by_cases hn : noComp v = true
      · exact ss_set (by rw [g.N]; exact g.nd) (by rw [g.N]; exact a1) l1 l2 (okE e g B _ h4) (sw_none hn)
      · rw [if_neg hn] at h5
        obtain ⟨h5, h6⟩ := and2 h5
        obtain ⟨_, h7⟩ := and2 h5
        cases e with
        | lc elt own tg it cds => exact ok_setLc g B a1 h4 h6
        | lc2 elt own tg it cds own1 tg1 it1 cds1 => exact ok_setLc2 g B a1 h4 h6
        | _ => cases h7
    · cases h3
  | tp gs =>
    have hh : hot = false := by
      cases hot with
      | false => rfl
      | true => cases h2
    have hc := (g.calm hh).1
    by_cases hn : noComp v = true
    · rw [if_pos hn] at h5
      have hT : noTup v = true := h5
      exact ss_asg (okE e g B _ h4) (ok_tg g hc _ _ h3) h1 (sw_none hn) (sts_noTup hT)
    · rw [if_neg hn] at h5
      cases (and2 (and2 h5).1).1
mutual
theorem okS : ∀ (a : Sm) {sc : Scope} {hot : Bool} {X : Cx} {W : WX} (_ : GdS P T Γ rz n sc hot X W) (B : Bs) (s : Stmt), ckS Γ rz hot sc a s = true → Es1 T X B W s (exS P (callN P n) hot a)
  | .bad, _, _, _, _, g, B, s, h => by unfold exS; exact ss_bad
  | .asg tg e, _, _, _, _, g, B, s, h => by
    unfold ckS at h
    split at h
    · obtain ⟨h, h5⟩ := and2 h
      obtain ⟨h, h4⟩ := and2 h
      obtain ⟨h, h3⟩ := and2 h
      obtain ⟨h1, h2⟩ := and2 h
      unfold exS
      exact ok_asg g.g B h1 h2 h3 h4 h5
    · cases h
  | .par is es, _, _, _, _, g, B, s, h => by
    unfold ckS at h
    unfold exS
    split at h
    · simp only [and_lr, Bool.not_eq_true'] at h
      obtain ⟨⟨⟨⟨⟨⟨⟨⟨⟨h1, h2⟩, h3⟩, h4⟩, h5⟩, h6⟩, h7⟩, h8⟩, h9⟩, h10⟩ := h
      obtain ⟨x1, x2⟩ := ckLoc_eq h1
      obtain ⟨y1, y2⟩ := ckLoc_eq h2
      have h6 := of_decide_eq_true h6
      exact gdS_of fun hh => ss_par2 (g.g.calm hh).1 (by rw [g.g.N]; exact g.g.nd) (by rw [g.g.N]; exact x1) (by rw [g.g.N]; exact y1) (of_decide_eq_true h3) (by rw [g.g.scE]; exact x2) (by rw [g.g.scE]; exact y2) (okEs es g.g B _ h10 h7) (sts_par2 (by rw [g.g.scE]; exact h6) (by rw [g.g.scE]; exact x2) (by rw [g.g.scE]; exact y2) h4 h5 h7 h8 h9) (by rfl)
    · simp only [and_lr, Bool.not_eq_true'] at h
      obtain ⟨⟨⟨⟨⟨⟨⟨⟨⟨⟨⟨⟨⟨⟨⟨h1, h2⟩, h2b⟩, h3⟩, h3b⟩, h3c⟩, h4⟩, h4b⟩, h4c⟩, h5⟩, h5b⟩, h6⟩, h7⟩, h8⟩, h9⟩, h10⟩ := h
      obtain ⟨x1, x2⟩ := ckLoc_eq h1
      obtain ⟨y1, y2⟩ := ckLoc_eq h2
      obtain ⟨z1, z2⟩ := ckLoc_eq h2b
      have h6 := of_decide_eq_true h6
      exact gdS_of fun hh => ss_par3 (g.g.calm hh).1 (by rw [g.g.N]; exact g.g.nd) (by rw [g.g.N]; exact x1) (by rw [g.g.N]; exact y1) (by rw [g.g.N]; exact z1) (of_decide_eq_true h3) (of_decide_eq_true h3b) (of_decide_eq_true h3c) (by rw [g.g.scE]; exact x2) (by rw [g.g.scE]; exact y2) (by rw [g.g.scE]; exact z2) (okEs es g.g B _ h10 h7) (sts_par3 (by rw [g.g.scE]; exact h6) (by rw [g.g.scE]; exact x2) (by rw [g.g.scE]; exact y2) (by rw [g.g.scE]; exact z2) h4 h4b h4c h5 h5b h7 h8 h9) (by rfl)
    · cases h
  | .aug i op e, _, _, _, _, g, B, s, h => by
    unfold ckS at h
    split at h
    · obtain ⟨h, h4⟩ := and2 h
      obtain ⟨h, h3⟩ := and2 h
      obtain ⟨h1, h2⟩ := and2 h
      have h1 := of_decide_eq_true h1
      obtain ⟨l1, l2⟩ := loc_of g.g h2
      unfold exS
      exact gdS_of fun hh => ss_aug (ckAug_eq h3) (by rw [g.g.N]; exact g.g.nd) (by rw [g.g.N]; exact h1) l1 l2 (okE e g.g B _ h4)
    · cases h
  | .set i b e, _, _, _, _, g, B, s, h => by
    unfold ckS at h
    split at h
    · obtain ⟨h, h4⟩ := and2 h
      obtain ⟨h, h3⟩ := and2 h
      obtain ⟨h1, h2⟩ := and2 h
      unfold exS
      obtain ⟨_, _, _, hN, hv, d1, d2⟩ := ok_var (T := T) (B := B) (p := default) g.g h1
      exact gdS_of fun hh => ss_setI hN hv d1 d2 (okE e g.g B _ h4) (toO g.g h3 (okE b g.g B _ h3)) sw_sub sts_sub (fun v => asg_sub (v := default) h2)
    · cases h
  | .ex e, _, _, _, _, g, B, s, h => by
    unfold ckS at h
    split at h
    · obtain ⟨h1, h2⟩ := and2 h
      unfold exS
      exact ss_expr (okE e g.g B _ h2) (sw_none h1)
    · cases h
  | .ret e, _, _, _, _, g, B, s, h => by
    unfold ckS at h
    split at h
    · unfold exS
      by_cases hv : ∃ i, e = .var i
      · obtain ⟨i, rfl⟩ := hv
        have h0 := h
        have r := okE (.var i) g.g B _ h
        unfold ckE at h
        split at h
        · obtain ⟨_, _, _, hN, hv, d1, d2⟩ := ok_var (T := T) (B := B) (p := default) g.g h
          exact ss_retv hN hv d1 d2 r
        · cases h
      · rw [retE_of fun i hi => hv ⟨i, hi⟩]
        exact ss_ret (okE e g.g B _ h)
    · cases h
  | .ret0, _, _, _, _, g, B, s, h => by
    unfold ckS at h
    split at h
    · unfold exS; exact ss_ret0
    · cases h
  | .ite c a b, _, _, _, _, g, B, s, h => by
    unfold ckS at h
    split at h
    · obtain ⟨h, h3⟩ := and2 h
      obtain ⟨h1, h2⟩ := and2 h
      unfold exS
      exact ss_if (okT c g.g B _ h1) (okSs a g B _ h2) (okSs b g B _ h3)
    · cases h
  | .whl c b, _, _, _, _, g, B, s, h => by
    unfold ckS at h
    split at h
    · obtain ⟨h1, h2⟩ := and2 h
      unfold exS
      exact gdS_of fun hh => ss_whl (g.po hh).1 (okT c g.g B _ h1) (okSs b g B _ h2)
    · cases h
  | .for_ tg it b, _, _, _, _, g, B, s, h => by
    unfold ckS at h
    split at h
    · obtain ⟨h, h4⟩ := and2 h
      obtain ⟨h, h3⟩ := and2 h
      obtain ⟨h1, h2⟩ := and2 h
      unfold exS
      exact gdS_of fun hh => ss_for (g.po hh).1 (g.g.calm hh).1 (okIt it g.g B _ _ h3) (fun B' => ok_tg g.g (g.g.calm hh).1 tg _ h2) (fun B' => okSs b g B' _ h4) (ok_fold h1)
    · cases h
  | .brk, _, _, _, _, g, B, s, h => by
    unfold ckS at h
    split at h
    · unfold exS; exact ss_brk
    · cases h
  | .cnt, _, _, _, _, g, B, s, h => by
    unfold ckS at h
    split at h
    · unfold exS; exact ss_cnt
    · cases h
  | .pass, _, _, _, _, g, B, s, h => by
    unfold ckS at h
    split at h
    · unfold exS; exact ss_pass
    · cases h
  | .raise k es, _, _, _, _, g, B, s, h => by
    unfold ckS at h
    split at h
    · obtain ⟨h, h5⟩ := and2 h
      obtain ⟨h, h4⟩ := and2 h
      obtain ⟨h, h3⟩ := and2 h
      obtain ⟨h1, h2⟩ := and2 h
      unfold exS
      refine gdS_of fun hh => ?_
      obtain ⟨hc, tk, hr⟩ := g.g.calm hh
      obtain ⟨hg, hd⟩ := glK_gl g.g h1
      obtain ⟨fI, fd, ps, O, iC, tI, F, hb, hl⟩ := (g.rs k (List.contains_iff_mem.mp h3)).ex
      exact ss_raise (fk := 0) hc tk O iC tI F (hr.mono (by omega)) hb hg (g.g.cl _ k (of_decide_eq_true h2)) (okEs es g.g B _ h5 h4) hl hd h4
    · cases h
  | .try_ b hs, _, hot, _, _, g, B, s, h => by
    unfold ckS at h
    split at h
    · obtain ⟨h1, h2⟩ := and2 h
      unfold exS
      refine gdS_of fun hh => ?_
      subst hh
      obtain ⟨hc, tk, hr⟩ := g.g.calm rfl
      obtain ⟨_, st, fr⟩ := g.po rfl
      rw [hds_eq (N := Γ.N) hs]
      exact ss_try st fr (by rw [g.g.N]; exact g.g.nd) tk hc g.g.G (fun W pn xe tk' po' => okSs b (g.tr tk' po') B _ h1) (okHs hs g _ h2)
    · cases h
theorem okSs : ∀ (a : Ss) {sc : Scope} {hot : Bool} {X : Cx} {W : WX} (_ : GdS P T Γ rz n sc hot X W) (B : Bs) (s : List Stmt), ckSs Γ rz hot sc a s = true → Ess T X B W s (exSs P (callN P n) hot a)
  | .nil, _, _, _, _, g, B, s, h => by
    unfold ckSs at h
    split at h
    · unfold exSs; exact ss_nil
    · cases h
  | .cons a r, _, _, _, _, g, B, s, h => by
    unfold ckSs at h
    split at h
    · obtain ⟨h1, h2⟩ := and2 h
      unfold exSs
      exact ss_cons (okS a g B _ h1) (okSs r g B _ h2)
    · cases h
theorem okHs : ∀ (hs : Hs) {sc : Scope} {X : Cx} {W : WX} (_ : GdS P T Γ rz n sc false X W) (l : List ExceptHandler), ckHs Γ rz sc hs l = true → CksOk T X l (toCks P (callN P n) Γ.N hs)
  | .nil, _, _, _, g, l, h => by
    unfold ckHs at h
    split at h
    · unfold toCks; exact .nil
    · cases h
  | .cons c nm b r, _, _, _, g, l, h => by
    unfold ckHs at h
    split at h
    · obtain ⟨h, h4⟩ := and2 h
      obtain ⟨h, h3⟩ := and2 h
      obtain ⟨h1, h2⟩ := and2 h
      unfold toCks
      have hc := (ok_cl (p := default) g.g h1).2
      have hr := okHs r g _ h4
      obtain ⟨e1, e2⟩ := ckNm_eq h2
      rw [e1]
      exact CksOk.cons (k := ⟨c, _, exSs P (callN P n) true b⟩) hc (fun q e => by
        obtain ⟨a1, a2⟩ := e2 q e
        exact ⟨by rw [g.g.N]; exact a1, by show List.lookup q.2 _ = _; rw [g.g.scE]; exact a2⟩) (fun a oe pn B => okSs b (g.suite a ((a, oe) :: pn)) B _ h3) hr
    · cases h
end
end
end Mp

set_option maxHeartbeats 4000000
/-! Part 29: a def as the evaluator runs it. -/
namespace Mp
open PySem PySem.Spec PyProof.Rows L2 C8
def bsOf (vs : List V) : Bs := fun i => match vs[i]? with
  | some (.ref a) => a
  | _ => 0
theorem bsOf_eq {vs : List V} {i : Nat} {a : Addr} (h : vs[i]? = some (.ref a)) : bsOf vs i = a := by unfold bsOf; rw [h]
theorem app_un {t : Mp.St} {m i : Nat} {s : Sl} (h : (t ++ List.replicate m Sl.un)[i]? = some s) : t[i]? = some s ∨ s = .un := by
  by_cases hi : i < t.length
  · rw [List.getElem?_append_left hi] at h; exact .inl h
  · rw [List.getElem?_append_right (Nat.le_of_not_lt hi)] at h
    exact .inr (List.eq_of_mem_replicate (List.mem_of_getElem? h))
theorem start_get {N : List Str} {vs : List V} {i : Nat} {v : V} (h : vs[i]? = some v) : (L2.start N vs)[i]? = some (some v) := by
  have hi : i < vs.length := (List.getElem?_eq_some_iff.mp h).1
  unfold L2.start
  rw [List.getElem?_append_left (by rw [List.length_map]; exact hi), List.getElem?_map, h]; rfl
section
variable {T : Tb} {X : Cx} {F H : Hp} {vs : List V} {t : Mp.St} {N : List Str} {ns np : Nat}
theorem Args.get (A : Args X.K F H vs t) {i : Nat} {s : Sl} (h : t[i]? = some s) : ∃ v, vs[i]? = some v ∧ ArgR X.K F H v s := by
  have hi : i < vs.length := by rw [A.len]; exact (List.getElem?_eq_some_iff.mp h).1
  exact ⟨vs[i], List.getElem?_eq_getElem hi, A.at_ i s _ h (List.getElem?_eq_getElem hi)⟩
theorem Args.hd (A : Args X.K F H vs t) {i m : Nat} {a : Addr} (h : Cf.hd ⟨F, H, t ++ List.replicate m .un, L2.start N vs⟩ i a) : ∃ d, t[i]? = some (.bw d) ∧ vs[i]? = some (.ref a) := by
  obtain ⟨s, e, hs, ev⟩ := h
  rcases app_un e with e | e
  · obtain ⟨v, e1, r⟩ := A.get e
    have e2 : (L2.start N vs)[i]? = some (some (.ref a)) := ev
    rw [start_get e1] at e2
    cases e2
    cases s with
    | bw d => exact ⟨d, e, e1⟩
    | _ => first | exact r.elim | cases hs
  · subst e; cases hs
theorem Args.rl (A : Args X.K F H vs t) (hl : t.length = np) (hN : N.length = ns) (hnp : np ≤ ns) : Rl T X (bsOf vs) ⟨F, H, t ++ List.replicate (ns - np) .un, L2.start N vs⟩ where
  sub := A.sub
  len := by
    have := A.len
    show (t ++ List.replicate (ns - np) Sl.un).length = (L2.start N vs).length
    unfold L2.start
    simp only [List.length_append, List.length_replicate, List.length_map]
    omega
  at_ := fun i s e => by
    rcases app_un e with e | e
    · obtain ⟨v, e1, r⟩ := A.get e
      show SlR T X (bsOf vs) F H i (((L2.start N vs)[i]?).getD none) s
      rw [start_get e1]
      cases s with
      | fz d => exact ⟨v, rfl, r⟩
      | bw d =>
        obtain ⟨a, rfl, o⟩ := r
        exact ⟨a, rfl, (bsOf_eq e1).symm, o⟩
      | _ => exact r.elim
    · subst e; exact trivial
  dis := fun i j a h1 h2 => by
    obtain ⟨d1, e1, v1⟩ := A.hd h1
    obtain ⟨d2, e2, v2⟩ := A.hd h2
    exact A.dis i j a d1 d2 e1 e2 v1 v2
theorem Args.wr (A : Args X.K F H vs t) {m : Nat} {a : Addr} (h : Cf.Wr ⟨F, H, t ++ List.replicate m .un, L2.start N vs⟩ a) : WrA vs t a := by
  obtain ⟨i, h⟩ := h
  obtain ⟨d, e1, e2⟩ := A.hd (Cf.wr_hd h)
  exact ⟨i, d, e1, e2⟩
theorem Args.wr' (A : Args X.K F H vs t) {m : Nat} {a : Addr} (h : WrA vs t a) : Cf.Wr ⟨F, H, t ++ List.replicate m .un, L2.start N vs⟩ a := by
  obtain ⟨i, d, e1, e2⟩ := h
  have hi : i < t.length := (List.getElem?_eq_some_iff.mp e1).1
  exact ⟨i, .bw d, by show (t ++ _)[i]? = _; rw [List.getElem?_append_left hi]; exact e1, rfl, start_get e2⟩
theorem Args.new (A : Args X.K F H vs t) {m : Nat} {a : Addr} (h : Cf.New ⟨F, H, t ++ List.replicate m .un, L2.start N vs⟩ a) : H a = none ∨ WrA vs t a := by
  rcases h with h | h
  · exact .inl h
  · exact .inr (A.wr h)
theorem take_get {t : Mp.St} {np i : Nat} {s : Sl} (h : (t.take np)[i]? = some s) : t[i]? = some s := by
  rw [List.getElem?_take] at h
  split at h
  · exact h
  · cases h
theorem Args.fin (A : Args X.K F H vs t) {m : Nat} {F' H' : Hp} {t' : Mp.St} {σ' : Sg} (R : Rl T X (bsOf vs) ⟨F', H', t', σ'⟩) (x : Ext ⟨F, H, t ++ List.replicate m .un, L2.start N vs⟩ ⟨F', H', t', σ'⟩) : FinR X.K F H vs t F' H' (t'.take np) where
  fsub := x.fsub
  sub := R.sub
  keep := fun a o h n => x.keep a o h fun w => n (A.wr w)
  fnew := fun a o h => by
    rcases x.fnew a o h with z | z
    · exact .inl z
    · exact .inr (A.new z)
  bw := fun i a d h1 h2 => by
    obtain ⟨a', _, e, o⟩ := R.at_ i _ (take_get h1)
    rw [bsOf_eq h2] at e
    subst e; exact o
  bf := fun i a d h1 h2 => by
    obtain ⟨a', _, e, o⟩ := R.at_ i _ (take_get h1)
    rw [bsOf_eq h2] at e
    subst e; exact o
theorem Args.rv (A : Args X.K F H vs t) {m : Nat} {F' H' : Hp} {t' : Mp.St} {σ' : Sg} {y : V} {r : Rv} (R : Rl T X (bsOf vs) ⟨F', H', t', σ'⟩) (q : relV X.K ⟨F, H, t ++ List.replicate m .un, L2.start N vs⟩ ⟨F', H', t', σ'⟩ y r) : RvA X.K H vs t F' H' (t'.take np) y r := by
  unfold relV at q
  unfold RvA
  split at q
  · rename_i hv
    rw [if_pos hv]
    obtain ⟨a, ea, o, nh, nw⟩ := q
    refine ⟨a, ea, o, A.new nw, fun i d h1 h2 => nh ?_⟩
    obtain ⟨a', e1, e, _⟩ := R.at_ i _ (take_get h1)
    rw [bsOf_eq h2] at e
    subst e
    refine ⟨i, _, take_get h1, rfl, ?_⟩
    have e1 : (σ'[i]?).getD none = some (.ref a') := e1
    show σ'[i]? = _
    cases g : σ'[i]? with
    | none => rw [g] at e1; cases e1
    | some z => rw [g] at e1; exact congrArg some e1
  · rename_i hv
    rw [if_neg hv]; exact q
theorem body_post (A : Args X.K F H vs t) {m : Nat} {f : Fl} {Q : VK} {E : XK} (p : PostC T X.K F H vs t (fins np f) Q E) :
    PostS T X (bsOf vs) (fun cls d _ H => E cls d H) ⟨F, H, t ++ List.replicate m .un, L2.start N vs⟩ f { nx := fun _ H' => Q .non H', rt := Q } := by
  cases f with
  | nx t' => exact fun F' H' σ' R x => p .non F' H' (A.fin R x) .non
  | rt r t' => exact fun y F' H' σ' R x q => p y F' H' (A.fin R x) (A.rv R q)
  | bk t' => exact p.elim
  | ct t' => exact p.elim
  | rs e t' => exact fun cls dd F' H' σ' R x q => p cls dd F' H' (A.fin R x) q
  | bad => exact p.elim
end
/-- the names that a def's text stores -/
def frC (sc : Scope) : Bool := decide (sc.kind = .function)
section
variable {Pg : Program} {w : World} {K : PySem.W.Frag} {mg : Str → Option Value} {base : Heap} {P : Pr} {T : Tb}
/-- the program's things behind its top, at one level -/
structure Lv (P : Pr) (T : Tb) (Γ : Gm) (rz : List Nat) (Pg : Program) (w : World) (K : PySem.W.Frag) (mg : Str → Option Value) (base : Heap) (n : Nat) : Prop where
  G : Gc P T K
  cl : ∀ x k, Γ.cls.lookup x = some k → mg x = some (.ref (T.cl k))
  gl : ∀ x k, Γ.gls.lookup x = some k → ∃ d, P.gl k = some d ∧ GlOk K mg x d
  fl : ∀ x k, Γ.flds.lookup x = some k → T.fld k = x
  bl : ∀ x ∈ blts, mg x = none
  fn : ∀ x k, Γ.fns.lookup x = some k → ∃ (f : Df) (fd : FuncData) (ps : List Str), P.df k = some f ∧ FnOk Pg w K mg base (L2.CX Pg w) (n + 2) (T.fn k) fd ps (SpC T K f.np (callN P n k)) ∧ mg x = some (.ref (T.fn k)) ∧ PySem.W.keepIn K (.ref (T.fn k)) = true ∧ Binds K fd ps []
  rs : ∀ k ∈ rz, ∃ (fI : Addr) (fd : FuncData) (ps : List Str), OexC K (T.cl k) ∧ PySem.W.findIn K (.ref (T.cl k)) "__init__" = some (some (.ref fI)) ∧ PySem.W.typeIn K (.ref fI) = some (.type "function") ∧ FnOk Pg w K mg base (L2.CX Pg w) 1 fI fd ps (SpI (T.cl k) ((P.fld k).map T.fld)) ∧ Binds K fd ps [] ∧ (P.fld k).length ≤ 100
/-- a def at the next level -/
theorem fn_lv {Γ : Gm} {rz : List Nat} {n k : Nat} {f : Df} {x qual : Str} {st : Stmt} {fa : Addr} {fd : FuncData} {ps : List Str} (L : Lv P T Γ rz Pg w K mg base n) (Fu : C8.Fun K x qual st fa fd) (hf : P.df k = some f) (hp : ps.length = f.np) (hN : Γ.N.length = f.ns)
    (hS : scC Γ.N ps (fnScope st) = true) (hck : ckSs Γ rz false (fnScope st) f.body (fnBody st) = true) : FnOk Pg w K mg base (L2.CX Pg w) (n + 3) fa fd ps (SpC T K f.np (callN P (n + 1) k)) := by
  have S := fnScope_by hS
  obtain ⟨oc, od, dV, kV, doc, pm, an, cdv, ct, osl, rfl, lk, hcd⟩ := Fu.ex
  refine fn_of lk hcd S (fun vs H Q E h => by rw [hp]; exact h.1) fun A outer s H vs Q E hr h => ?_
  obtain ⟨hl, F, t, Ag, p⟩ := h
  have hnp : f.np ≤ f.ns := by
    have h1 := congrArg List.length S.pre
    rw [List.length_take] at h1
    omega
  unfold callN at p
  rw [hf] at p
  dsimp only at p
  have htl : t.length = f.np := by rw [← Ag.len]; exact hl
  rw [if_pos htl] at p
  refine ⟨tS T _ (bsOf vs) (fun cls d _ H => E cls d H) (exSs P (callN P n) false f.body), okSs (Γ := Γ) (rz := rz) (n := n) (sc := fnScope st) f.body (hot := false) { g := { N := rfl, nd := S.nd, scE := rfl, tgs := fun y hy => ?_, G := L.G, fn := fun y j h => ⟨L.fn y j h⟩, cl := L.cl, gl := L.gl, fl := L.fl, bl := L.bl, calm := fun _ => ⟨rfl, L2.takes_of rfl rfl rfl rfl, hr⟩, un := hr.units }, rs := fun j h => ⟨L.rs j h⟩, po := fun _ => ⟨L2.passes_of rfl, rfl, rfl⟩ } _ _ hck, F, _, Ag.rl htl hN hnp, body_post Ag p⟩
  refine ⟨?_, .inl rfl⟩
  unfold locK at hy
  split at hy
  · exact .inl (by assumption)
  · exact .inr (by assumption)
  · cases hy
/-- level 0 -/
theorem fn_lv0 {k : Nat} {f : Df} {m : Nat} {fa : Addr} {fd : FuncData} {ps : List Str} (hp : ps.length = f.np) : FnOk Pg w K mg base (L2.CX Pg w) m fa fd ps (SpC T K f.np (callN P 0 k)) :=
  ⟨fun vs H Q E h => by rw [hp]; exact h.1, fun A outer s H args us vs Q E hr e0 hb r ⟨_, F, t, Ag, p⟩ => p.elim⟩
end
end Mp

set_option maxHeartbeats 4000000
/-! Part 30: all levels, and the law's end. -/
namespace Mp
open PySem PySem.Spec PyProof.Rows L2 C8
abbrev Gm.at_ (Γ : Gm) (N : List Str) : Gm := ⟨N, Γ.fns, Γ.cls, Γ.gls, Γ.flds⟩
/-- a def of the program, its text checked -/
structure DefFact (P : Pr) (T : Tb) (Γ : Gm) (rz : List Nat) (K : PySem.W.Frag) (mg : Str → Option Value) (x : Str) (k : Nat) : Prop where
  ex : ∃ (f : Df) (N ps : List Str) (nm qual : Str) (st : Stmt) (fd : FuncData), C8.Fun K nm qual st (T.fn k) fd ∧ P.df k = some f ∧ ps.length = f.np ∧ N.length = f.ns ∧ scC N ps (fnScope st) = true ∧ ckSs (Γ.at_ N) rz false (fnScope st) f.body (fnBody st) = true ∧
    mg x = some (.ref (T.fn k)) ∧ PySem.W.keepIn K (.ref (T.fn k)) = true ∧ Binds K fd ps []
/-- a class that may be raised -/
structure InitFact (P : Pr) (T : Tb) (Pg : Program) (w : World) (K : PySem.W.Frag) (mg : Str → Option Value) (base : Heap) (k : Nat) : Prop where
  ex : ∃ (fI : Addr) (fd : FuncData) (ps : List Str), OexC K (T.cl k) ∧ PySem.W.findIn K (.ref (T.cl k)) "__init__" = some (some (.ref fI)) ∧ PySem.W.typeIn K (.ref fI) = some (.type "function") ∧ FnOk Pg w K mg base (L2.CX Pg w) 1 fI fd ps (SpI (T.cl k) ((P.fld k).map T.fld)) ∧ Binds K fd ps [] ∧ (P.fld k).length ≤ 100
/-- the program behind its top -/
structure Tx (P : Pr) (T : Tb) (Γ : Gm) (rz : List Nat) (Pg : Program) (w : World) (K : PySem.W.Frag) (mg : Str → Option Value) (base : Heap) : Prop where
  G : Gc P T K
  cl : ∀ x k, Γ.cls.lookup x = some k → mg x = some (.ref (T.cl k))
  gl : ∀ x k, Γ.gls.lookup x = some k → ∃ d, P.gl k = some d ∧ GlOk K mg x d
  fl : ∀ x k, Γ.flds.lookup x = some k → T.fld k = x
  bl : ∀ x ∈ blts, mg x = none
  fn : ∀ x k, Γ.fns.lookup x = some k → DefFact P T Γ rz K mg x k
  rs : ∀ k ∈ rz, InitFact P T Pg w K mg base k
section
variable {P : Pr} {T : Tb} {Γ : Gm} {rz : List Nat} {Pg : Program} {w : World} {K : PySem.W.Frag} {mg : Str → Option Value} {base : Heap}
theorem Lv.at_ {n : Nat} (L : Lv P T Γ rz Pg w K mg base n) (N : List Str) : Lv P T (Γ.at_ N) rz Pg w K mg base n := ⟨L.G, L.cl, L.gl, L.fl, L.bl, L.fn, L.rs⟩
theorem lv_all (X : Tx P T Γ rz Pg w K mg base) : ∀ n, Lv P T Γ rz Pg w K mg base n
  | 0 => ⟨X.G, X.cl, X.gl, X.fl, X.bl, fun x k h => by
    obtain ⟨f, N, ps, nm, qual, st, fd, Fu, hf, hp, hN, hS, hck, hm, hk, hb⟩ := (X.fn x k h).ex
    exact ⟨f, fd, ps, hf, fn_lv0 hp, hm, hk, hb⟩, fun k h => (X.rs k h).ex⟩
  | n + 1 => ⟨X.G, X.cl, X.gl, X.fl, X.bl, fun x k h => by
    obtain ⟨f, N, ps, nm, qual, st, fd, Fu, hf, hp, hN, hS, hck, hm, hk, hb⟩ := (X.fn x k h).ex
    exact ⟨f, fd, ps, hf, fn_lv ((lv_all X n).at_ N) Fu hf hp hN hS hck, hm, hk, hb⟩, fun k h => (X.rs k h).ex⟩
/-- every def at every level -/
theorem fn_all (X : Tx P T Γ rz Pg w K mg base) (n : Nat) {x : Str} {k : Nat} (h : Γ.fns.lookup x = some k) : ∃ (f : Df) (fd : FuncData) (ps : List Str), P.df k = some f ∧ FnOk Pg w K mg base (L2.CX Pg w) (n + 2) (T.fn k) fd ps (SpC T K f.np (callN P n k)) :=
  let ⟨f, fd, ps, h1, h2, _⟩ := (lv_all X n).fn x k h
  ⟨f, fd, ps, h1, h2⟩
theorem rps_ints {F : Hp} : ∀ ns : List Int, Rps K F (ns.map V.int) (ns.map PyData.int)
  | [] => .nil
  | z :: ns => .cons (.int z) (rps_ints ns)
end
end Mp

set_option maxHeartbeats 4000000
/-! Part 31: the law's end. -/
namespace Mp
open PySem PySem.Spec PyProof.Rows L2 C8
theorem sqE_of {K : PySem.W.Frag} {H : Hp} {h : Heap} {a : Addr} {xs : List V} {vs : List Value} (KX : K.In h) (e : h.get? a = some { cls := .type "list", data := .seq vs.toArray }) (q : SqL K H a xs) : SqE K H a xs := by
  rcases q with q | ⟨o, its, n, hk, hc, hd, hs, hz, r⟩
  · exact .inl q
  · have e1 := KX a o hk
    rw [e] at e1
    have e2 := Option.some.inj e1
    subst e2
    have e3 : Data.seq vs.toArray = Data.seq its n := hs
    refine .inr ⟨its, n, ?_, hz, r⟩
    rw [hk, ← e3]
theorem law_sp {K : PySem.W.Frag} {T : Tb} {H : Hp} {a : Addr} {ns : List Int} {c : Mp.St → Mp.CR} (hS : SqE K H a (ns.map V.int)) (hl : ns.length ≤ 63) (he : ∃ fin, c [.fz (.list (ns.map PyData.int))] = .ok (.bool true, false) fin) :
    SpC T K 1 c [.ref a] H (fun v _ => v = .bl true) fun _ _ _ => False := by
  obtain ⟨fin, he⟩ := he
  refine ⟨rfl, H, [.fz (.list (ns.map PyData.int))], ⟨Sub.refl _, rfl, fun i s v h1 h2 => ?_, fun i j b d d' h1 _ _ _ => ?_⟩, ?_⟩
  · cases i with
    | zero =>
      cases h1; cases h2
      exact .lst hS (rps_ints ns) (by rw [List.length_map]; exact Nat.le_trans hl (by decide))
    | succ i => cases h1
  · cases i with
    | zero => cases h1
    | succ i => cases h1
  · rw [he]
    intro y F' H' fr rv
    have r : Rp K F' y (.bool true) := rv
    cases r
    rfl
/-- THE END: a law whose def the evaluator runs to True -/
theorem walk_ofE {l : PySem.W.OpenLaw} {n k : Nat} {q : Program} {loose : List Str} {XP : (Str → Option Value) → Heap → Prop} {YP : World → Heap → Prop} {d : DefRec} {K : Params → PySem.W.Frag} {sp : World → Sp} {x : Str}
    (hn : l.most = some n) (hn2 : n ≤ sizeLine) (hdf : d.params.defaults = []) (hr : Room k callerA)
    (hY : ∀ (w : World) (h : Heap), YP w h → (K w.params).In h)
    (F : ∀ (w : World) (mg : Str → Option Value) (fa : Addr) (h : Heap), (K w.params).In h → h.Ns mainGlobals mg → mg d.name = some (.ref fa) →
      ∃ fd : FuncData, (∀ (s : Shared) (u : Value), BindsTo s fd ⟨[u], []⟩ [(x, u)]) ∧
        ∀ base : Heap, (K w.params).In base → base.Ns mainGlobals mg → FnOk l.prog w (K w.params) mg base (L2.CX l.prog w) k fa fd [x] (sp w))
    (hsp : ∀ (w : World) (H : Hp) (a : Addr) (ns : List Int), ns.length ≤ n → Only H → SqE (K w.params) H a (ns.map V.int) → sp w [.ref a] H (fun v _ => v = .bl true) fun _ _ _ => False)
    (hCX : ∀ (w : World) (H : Hp) (s : Shared) (e : Value) (s' : Shared), L2.CX l.prog w [] H s (fun _ _ _ => False) e s' → False) :
    PySem.W.WalkO q loose XP YP l.row.toRowW d [] (fun f vs => PySem.call f vs) := by
  refine Att.attach_call hn hdf fun w s₀ s₁ mg mb fa o pm cd doc a vs ns G Y ho hd hcd hmg hobj hints hlen hg => ?_
  have KX := hY w _ Y
  obtain ⟨fd, hb, hF⟩ := F w mg fa _ KX G.T.g hmg
  exact law_call KX G.T.g G.T.b G.T.builtins G.T.nolimit hg hobj hints (Nat.le_trans hlen hn2) hr hF hb (fun H hO hS => hsp w H a ns hlen hO (sqE_of KX hobj hS)) fun H e s' => hCX w H s₁ e s'
end Mp

set_option maxHeartbeats 4000000
/-! Part 32: no exception leaves the law. -/
namespace Mp
open PySem PySem.Spec PyProof.Rows L2
theorem cx_false {P : Program} {w : World} {H : Hp} {s : Shared} {e : Value} {s' : Shared} (h : L2.CX P w [] H s (fun _ _ _ => False) e s') : False := by
  obtain ⟨a, h⟩ := h
  simp only [false_and, and_false, exists_false] at h
end Mp

set_option maxHeartbeats 4000000
/-! Part 33: the __init__ of an own exception. -/
namespace Mp
open PySem PySem.Spec PyProof.Rows L2 C8
/-- self.f = p, one for each field, in the parameters' order -/
def ckI (N : List Str) (sc : Scope) : List Str → Nat → List Stmt → Bool
  | [], _, l => (match l with
    | [] => true
    | _ => false)
  | f :: fs, i, l => (match l with
    | .Assign [.Attribute (.Name s _) g _] (.Name y _) _ :: r => sEq f g && decide (N[0]? = some s) && decide (N[i]? = some y) && visK (sc.names.lookup s) && visK (sc.names.lookup y) && notRes s && notRes y && ckI N sc fs (i + 1) r
    | _ => false)
theorem visK_of {sc : Scope} {x : Str} (h : visK (sc.names.lookup x) = true) : Vis sc x := by
  unfold visK at h
  split at h
  · rename_i e; exact .inl e
  · rename_i e; exact .inr (.inl e)
  · rename_i e; exact .inr (.inr e)
  · cases h
theorem ckI_sts {X : Cx} {C : Addr} {N : List Str} {sc : Scope} (hN : X.N = N) (hs : X.env.scope = sc) : ∀ (fs : List Str) (i : Nat) (l : List Stmt), (∀ f ∈ fs, PySem.W.findIn X.K (.ref C) f = some none) → ckI N sc fs i l = true → StsI X C l (fs.zipIdx i)
  | [], i, l, _, h => by
    unfold ckI at h
    split at h
    · exact .nil
    · cases h
  | f :: fs, i, l, hf, h => by
    unfold ckI at h
    split at h
    · obtain ⟨h, h8⟩ := and2 h
      obtain ⟨h, h7⟩ := and2 h
      obtain ⟨h, h6⟩ := and2 h
      obtain ⟨h, h5⟩ := and2 h
      obtain ⟨h, h4⟩ := and2 h
      obtain ⟨h, h3⟩ := and2 h
      obtain ⟨h1, h2⟩ := and2 h
      have e1 := sEq_eq h1
      have e2 := of_decide_eq_true h2
      have e3 := of_decide_eq_true h3
      subst e1
      obtain ⟨a1, a2⟩ := notRes_eq h6
      obtain ⟨b1, b2⟩ := notRes_eq h7
      rw [List.zipIdx_cons]
      exact .cons ⟨_, _, _, _, _, _, rfl, by rw [hN]; exact e2, by rw [hN]; exact e3, by rw [hs]; exact visK_of h4, by rw [hs]; exact visK_of h5, a1, a2, b1, b2, hf _ List.mem_cons_self⟩ (ckI_sts hN hs fs (i + 1) _ (fun g hg => hf g (List.mem_cons_of_mem _ hg)) h8)
    · cases h
theorem init_ok {Pg : Program} {w : World} {K : PySem.W.Frag} {mg : Str → Option Value} {base : Heap} {x qual : Str} {st : Stmt} {fI C : Addr} {fd : FuncData} {ps ns : List Str} (Fu : C8.Fun K x qual st fI fd) (O : OexC K C) (hS : scC ps ps (fnScope st) = true) (hp : ps.length = ns.length + 1) (hn : ns ≠ []) (hl : ns.length ≤ 100) (nd : ns.Nodup)
    (hf : ∀ f ∈ ns, PySem.W.findIn K (.ref C) f = some none) (hck : ckI ps (fnScope st) ns 1 (fnBody st) = true) : FnOk Pg w K mg base (L2.CX Pg w) 1 fI fd ps (SpI C ns) := by
  have S := fnScope_by hS
  obtain ⟨oc, od, dV, kV, doc, pm, an, cdv, ct, osl, rfl, lk, hcd⟩ := Fu.ex
  refine fn_of lk hcd S (fun vs H Q E h => ?_) fun A outer s H vs Q E hr h => ?_
  · obtain ⟨a, ys, rfl, h1, _⟩ := h
    rw [List.length_cons, h1, hp]
  · obtain ⟨a, ys, rfl, hy, ha, k⟩ := h
    have hne : ns.zipIdx 1 ≠ [] := fun z => hn (by cases ns with | nil => rfl | cons b l => rw [List.zipIdx_cons] at z; cases z)
    have gz : ∀ i : Nat, (ns.zipIdx 1)[i]? = (ns[i]?).map fun n => (n, 1 + i) := fun i => List.getElem?_zipIdx
    refine ⟨_, stsi_new (X := cxOf (L2.CX Pg w) Pg w K mg base ps qual (fnScope st) fI cdv A outer s H E) (C := C) O (ckI_sts (X := cxOf (L2.CX Pg w) Pg w K mg base ps qual (fnScope st) fI cdv A outer s H E) rfl rfl ns 1 _ hf hck) hne, a, start_get (vs := .ref a :: ys) (i := 0) rfl, fun q hq => ?_, ha, by rw [List.length_zipIdx]; exact hl, fun d hd hda => k d _ hd hda fun i n y h1 h2 => ?_⟩
    · obtain ⟨i, hi⟩ := List.mem_iff_getElem?.mp hq
      rw [gz] at hi
      cases e : ns[i]? with
      | none => rw [e] at hi; cases hi
      | some m =>
        rw [e] at hi
        cases hi
        have hlt : i < ys.length := by rw [hy]; exact (List.getElem?_eq_some_iff.mp e).1
        refine ⟨ys[i], start_get (vs := .ref a :: ys) (i := 1 + i) ?_⟩
        rw [Nat.add_comm, List.getElem?_cons_succ, List.getElem?_eq_getElem hlt]
    · refine fldsI_get (i := 1 + i) (by rw [List.zipIdx_map_fst]; exact nd) (List.mem_of_getElem? (i := i) (by rw [gz, h1]; rfl)) (start_get (vs := .ref a :: ys) ?_) fun _ _ => trivial
      rw [Nat.add_comm, List.getElem?_cons_succ]; exact h2
end Mp

set_option maxHeartbeats 4000000
/-! Part 34: the head's facts by one look. -/
namespace Mp
open PySem PySem.Spec PyProof.Rows L2 C8 He
/-! ### data of the written part -/
mutual
def litB (K : PySem.W.Frag) : D → Value → Bool
  | .none, v => (match v with
    | .none => true
    | _ => false)
  | .bool b, v => (match v with
    | .bool c => b == c
    | _ => false)
  | .int i, v => (match v with
    | .int j _ => decide (i = j)
    | _ => false)
  | .str x, v => (match v with
    | .str y _ => decide (x = y) && (decide (x.length ≤ 100000) && PyData.strOk x)
    | _ => false)
  | .list ds, v => (match v with
    | .ref a => (match K.lookup a with
      | some ⟨.type c, none, .seq its _, sl⟩ => decide (c = "list") && (sl.isEmpty && (decide (its.size ≤ 1000) && litsB K ds its.toList))
      | _ => false)
    | _ => false)
  | .tuple ds, v => (match v with
    | .ref a => (match K.lookup a with
      | some ⟨.type c, _, .seq its _, _⟩ => decide (c = "tuple") && (decide (its.size ≤ 1000) && litsB K ds its.toList)
      | _ => false)
    | _ => false)
  | .dict _, _ => false
def litsB (K : PySem.W.Frag) : List D → List Value → Bool
  | [], vs => (match vs with
    | [] => true
    | _ => false)
  | d :: ds, vs => (match vs with
    | v :: vs => litB K d v && litsB K ds vs
    | _ => false)
end
section
variable {K : PySem.W.Frag}
mutual
theorem litB_ok : ∀ {d : D} {v : Value}, litB K d v = true → ∃ u, RelV u v ∧ ∀ F, Rp K F u d
  | .none, v, h => by
    unfold litB at h
    split at h
    · exact ⟨.non, rfl, fun F => .non⟩
    · cases h
  | .bool b, v, h => by
    unfold litB at h
    split at h
    · rename_i c
      exact ⟨.bl b, by rw [eq_of_beq h]; rfl, fun F => .bl b⟩
    · cases h
  | .int i, v, h => by
    unfold litB at h
    split at h
    · rename_i j t
      exact ⟨.int i, ⟨t, by rw [of_decide_eq_true h]⟩, fun F => .int i⟩
    · cases h
  | .str x, v, h => by
    unfold litB at h
    split at h
    · rename_i y t
      obtain ⟨h1, h⟩ := ba h
      obtain ⟨h2, h3⟩ := ba h
      exact ⟨.str x, ⟨t, by rw [of_decide_eq_true h1]⟩, fun F => .str x (Nat.le_trans (of_decide_eq_true h2) (by decide)) h3⟩
    · cases h
  | .list ds, v, h => by
    unfold litB at h
    split at h
    · rename_i a
      split at h
      · rename_i c its n sl e
        obtain ⟨h1, h⟩ := ba h
        obtain ⟨h2, h⟩ := ba h
        obtain ⟨h3, h4⟩ := ba h
        have e1 : c = "list" := of_decide_eq_true h1
        have e2 : sl = #[] := Array.isEmpty_iff.mp h2
        subst e1 e2
        obtain ⟨us, r, q⟩ := litsB_ok h4
        have hs : its.size ≤ 1000 := of_decide_eq_true h3
        refine ⟨.ref a, rfl, fun F => .lst (.inr ⟨its, n, e, Nat.le_trans hs (by decide), r⟩) (q F) ?_⟩
        have l1 := (q F).length
        have l2 := r.length
        have l4 : its.toList.length = its.size := by simp
        have l3 : (1000 : Nat) ≤ cap := by decide
        omega
      · cases h
    · cases h
  | .tuple ds, v, h => by
    unfold litB at h
    split at h
    · rename_i a
      split at h
      · rename_i c od its n sl e
        obtain ⟨h1, h⟩ := ba h
        obtain ⟨h3, h4⟩ := ba h
        have e1 : c = "tuple" := of_decide_eq_true h1
        subst e1
        obtain ⟨us, r, q⟩ := litsB_ok h4
        have hs : its.size ≤ 1000 := of_decide_eq_true h3
        refine ⟨.ref a, rfl, fun F => .tup (.inr ⟨_, its, n, e, rfl, rfl, Nat.le_trans hs (by decide), r⟩) (q F) ?_⟩
        have l1 := (q F).length
        have l2 := r.length
        have l4 : its.toList.length = its.size := by simp
        have l3 : (1000 : Nat) ≤ cap := by decide
        omega
      · cases h
    · cases h
  | .dict _, v, h => by unfold litB at h; cases h
theorem litsB_ok : ∀ {ds : List D} {vs : List Value}, litsB K ds vs = true → ∃ us, Vals us vs ∧ ∀ F, Rps K F us ds
  | [], vs, h => by
    unfold litsB at h
    split at h
    · exact ⟨[], .nil, fun F => .nil⟩
    · cases h
  | d :: ds, vs, h => by
    unfold litsB at h
    split at h
    · obtain ⟨h1, h2⟩ := ba h
      obtain ⟨u, r, q⟩ := litB_ok h1
      obtain ⟨us, rs, qs⟩ := litsB_ok h2
      exact ⟨u :: us, .cons r rs, fun F => .cons (q F) (qs F)⟩
    · cases h
end
end
/-! ### tables -/
structure DRow where
  x : Str
  k : Nat
  f : Df
  N : List Str
  ps : List Str
  st : Stmt
structure IRow where
  x : Str
  k : Nat
  ps : List Str
  st : Stmt
structure Tabs where
  Γ : Gm
  sups : List (Nat × List Nat)
  flds : List (Nat × List Nat)
  gls : List (Nat × D)
  defs : List DRow
  inits : List IRow
abbrev Tabs.pr (t : Tabs) : Pr := ⟨fun k => (t.defs.find? fun r => r.k == k).map (·.f), fun k => (t.sups.lookup k).getD [], fun k => (t.flds.lookup k).getD [], fun k => t.gls.lookup k⟩
def Tabs.rz (t : Tabs) : List Nat := t.inits.map (·.k)
def nameOf (l : List (Str × Nat)) (k : Nat) : Str := ((l.find? fun p => p.2 == k).map (·.1)).getD ""
def tbOf (K : PySem.W.Frag) (Γ : Gm) : Tb := ⟨fun k => ga K (nameOf Γ.cls k), fun k => ga K (nameOf Γ.fns k), nameOf Γ.fns, nameOf Γ.cls, nameOf Γ.gls, nameOf Γ.flds⟩
/-- plain parameters -/
def plainA (a : Arguments) (ps : List Str) : Bool := match a with
  | ⟨[], as, none, [], [], none, []⟩ => decide (as.map (·.arg) = ps) && decide (ps.length ≤ 12)
  | _ => false
def rowB (t : Tabs) (r : DRow) : Bool := decide (t.Γ.fns.lookup r.x = some r.k) && (decide (nameOf t.Γ.fns r.k = r.x) && (decide (r.ps.length = r.f.np) && (decide (r.N.length = r.f.ns) && (scC r.N r.ps (fnScope r.st) && (plainA (fnArgs r.st) r.ps && ckSs (t.Γ.at_ r.N) t.rz false (fnScope r.st) r.f.body (fnBody r.st))))))
def iniB (t : Tabs) (r : IRow) : Bool := decide (nameOf t.Γ.cls r.k = r.x) && (decide (t.Γ.cls.lookup r.x = some r.k) && (decide ((t.pr.sup r.k).contains r.k = true) && (scC r.ps r.ps (fnScope r.st) && (decide (r.ps.length = (t.pr.fld r.k).length + 1) && (decide (t.pr.fld r.k ≠ []) && (decide ((t.pr.fld r.k).length ≤ 11) && (decide ((t.pr.fld r.k).map (nameOf t.Γ.flds)).Nodup && (plainA (fnArgs r.st) r.ps && ckI r.ps (fnScope r.st) ((t.pr.fld r.k).map (nameOf t.Γ.flds)) 1 (fnBody r.st)))))))))
/-- what is seen in the text alone -/
def Tabs.ok (t : Tabs) : Bool := decide (t.defs.map (·.k)).Nodup && (t.defs.all (rowB t) && (t.inits.all (iniB t) && ((t.Γ.fns.all fun p => t.defs.any fun r => decide (r.x = p.1) && r.k == p.2) && ((t.Γ.flds.all fun p => decide (nameOf t.Γ.flds p.2 = p.1)) && ((t.Γ.cls.all fun p => decide (nameOf t.Γ.cls p.2 = p.1)) && (t.sups.all fun p => !(p.2.contains p.1) || (t.Γ.cls.any fun q => q.2 == p.1)))))))
/-! ### the look -/
def gloB (K : PySem.W.Frag) (x : Str) : Bool := eqO (PySem.W.nsIn K mainGlobals x) (some (some (.ref (ga K x))))
def freeB (K : PySem.W.Frag) (x : Str) : Bool := eqO (PySem.W.nsIn K mainGlobals x) (some none)
def xkB (K : PySem.W.Frag) (C : Addr) : Bool := (PySem.W.clsIn K C).isSome && (eqO (PySem.W.findIn K (.ref C) "__getattribute__") (some (some (.builtin "BaseException.__getattribute__"))) && (eqO (PySem.W.findIn K (.ref C) "__getattr__") (some none) && (decide (PySem.W.subIn K (.ref C) (.type "BaseException") = some true) &&
  (PySem.W.hasDictIn K C && (eqO (PySem.W.findIn K (.ref C) "__class__") (some (some (.builtin "object.__class__"))) && decide (PySem.W.mroIn K C (.type "object") = some true))))))
theorem xkB_ok {K : PySem.W.Frag} {C : Addr} (h : xkB K C = true) : Xk K C := by
  obtain ⟨h1, h⟩ := ba h
  obtain ⟨h2, h⟩ := ba h
  obtain ⟨h3, h⟩ := ba h
  obtain ⟨h4, h⟩ := ba h
  obtain ⟨h5, h⟩ := ba h
  obtain ⟨h6, h7⟩ := ba h
  exact ⟨h1, eqO_ok h2, eqO_ok h3, of_decide_eq_true h4, h5, eqO_ok h6, of_decide_eq_true h7⟩
def oexB (K : PySem.W.Frag) (C : Addr) : Bool := (match K.lookup C with
  | some ⟨.type c, _, .cls cd, sl⟩ => (match cd.mro, sl.toList with
    | .ref C' :: bm, [_, _, _, _, some (.builtin n), _] => decide (c = "type") && (C' == C && (decide (n = "ValueError.__new__") && (!cd.hasDel && (cd.hasDict && PySem.HandSPX.refsVE bm))))
    | _, _ => false)
  | _ => false) && (eqO (PySem.W.findIn K (.ref C) "__setattr__") (some (some (.builtin "object.__setattr__"))) && (decide (PySem.W.subIn K (.ref C) (.type "BaseException") = some true) && (decide (PySem.W.typeIn K (.ref C) = some (.type "type")) && PySem.W.keepIn K (.ref C))))
theorem oexB_ok {K : PySem.W.Frag} {C : Addr} (h : oexB K C = true) : OexC K C := by
  obtain ⟨h1, h⟩ := ba h
  obtain ⟨h2, h⟩ := ba h
  obtain ⟨h3, h⟩ := ba h
  obtain ⟨h4, h5⟩ := ba h
  refine ⟨?_, eqO_ok h2, of_decide_eq_true h3, of_decide_eq_true h4, h5⟩
  split at h1
  · rename_i c dd cd sl ho
    split at h1
    · rename_i C' bm k0 k1 k2 k3 n k5 hm hs
      obtain ⟨g1, h1⟩ := ba h1
      obtain ⟨g2, h1⟩ := ba h1
      obtain ⟨g3, h1⟩ := ba h1
      obtain ⟨g4, h1⟩ := ba h1
      obtain ⟨g5, g6⟩ := ba h1
      have e1 : c = "type" := of_decide_eq_true g1
      have e2 : C' = C := eq_of_beq g2
      have e3 : n = "ValueError.__new__" := of_decide_eq_true g3
      subst e1 e2 e3
      obtain ⟨nm, bs, mro, ns, qn, hd, sn, sub, ab, col, del⟩ := cd
      dsimp only at hm g4 g5
      rw [Bool.not_eq_true'] at g4
      subst hm g4 g5
      have hsl : sl = #[k0, k1, k2, k3, some (.builtin "ValueError.__new__"), k5] := by
        obtain ⟨l⟩ := sl
        simp only at hs
        rw [hs]
      subst hsl
      exact ⟨nm, qn, ns, bs, bm, sn, sub, ab, col, dd, k0, k1, k2, k3, k5, ho, g6⟩
    · cases h1
  · cases h1
end Mp

set_option maxHeartbeats 4000000
/-! Part 35: the Hook; the program behind its top. -/
namespace Mp
open PySem PySem.Spec PyProof.Rows L2 C8 He
def okXB (t : Tabs) (k : Nat) : Bool := (t.pr.sup k).contains k
/-- what is seen of the classes -/
def clsB (t : Tabs) (K : PySem.W.Frag) (p : Str × Nat) : Bool := gloB K p.1 && (!okXB t p.2 || (xkB K (ga K p.1) && (decide (PySem.W.kitOne K (.ref (ga K p.1)) (.type "ValueError") = some true) && (decide (PySem.W.exmOne K (.ref (ga K p.1)) (.type "ValueError") = some true) &&
  (((t.pr.fld p.2).all fun f => eqO (PySem.W.findIn K (.ref (ga K p.1)) (nameOf t.Γ.flds f)) (some none)) &&
  (t.Γ.cls.all fun q => !okXB t q.2 || (decide (PySem.W.kitOne K (.ref (ga K p.1)) (.ref (ga K q.1)) = some ((t.pr.sup p.2).contains q.2)) && decide (PySem.W.exmOne K (.ref (ga K p.1)) (.ref (ga K q.1)) = some ((t.pr.sup p.2).contains q.2)))))))))
def glsB (t : Tabs) (K : PySem.W.Frag) (p : Str × Nat) : Bool := match t.pr.gl p.2, PySem.W.nsIn K mainGlobals p.1 with
  | some d, some (some v) => litB K d v
  | _, _ => false
def iniK (K : PySem.W.Frag) (r : IRow) : Bool := oexB K (ga K r.x) && (eqO (PySem.W.findIn K (.ref (ga K r.x)) "__init__") (some (some (.ref (ma K (ga K r.x) "__init__")))) && decide (PySem.W.typeIn K (.ref (ma K (ga K r.x) "__init__")) = some (.type "function")))
def allB (t : Tabs) (K : PySem.W.Frag) : Bool := eqO (PySem.W.specialIn K (.builtin "object.__class__") "__get__") (some (some (.builtin "getset_descriptor.__get__"))) && (decide (PySem.W.takesIn K (.builtin "object.__class__") = some true) && (t.Γ.cls.all (clsB t K) && (t.Γ.gls.all (glsB t K) && ((blts.all (freeB K)) && ((t.defs.all fun r => gloB K r.x) && t.inits.all (iniK K))))))
def fnD (r : DRow) : DefD := ⟨(r.x, none), r.x, r.x, fnArgs r.st, fnBody r.st, fnScope r.st, [], []⟩
def inD (r : IRow) : DefD := ⟨(r.x, some "__init__"), "__init__", r.x ++ ".__init__", fnArgs r.st, fnBody r.st, fnScope r.st, [], []⟩
def Tabs.fn (t : Tabs) : List DefD := t.defs.map fnD ++ t.inits.map inD
def obsM (t : Tabs) (K : PySem.W.Frag) : AlD := (allB t K && t.fn.all fun d => d.ok K, t.fn.map fun d => fnW K d.at_)
def valM (t : Tabs) : AlD := (true, t.fn.map DefD.val)
def SaysM (t : Tabs) (K : PySem.W.Frag) : Prop := obsM t K = valM t
def obsMG (n : Nat) (t : Tabs) (g : Addr → Option Obj) : AlD := obsM t (frG g (asD g n))
def hookM (n : Nat) (t : Tabs) : PySem.W.Hook where
  α := AlD
  obs := fun s => obsMG n t s.heap.get?
  val := fun _ => valM t
  says := fun _ h => ∃ K : PySem.W.Frag, K.In h ∧ SaysM t K
  of := fun _ _ e => ⟨_, frG_in, e⟩
  keeps := fun _ _ _ ⟨K, hK, c⟩ k => ⟨K, PySem.W.Frag.In.keeps hK k, c⟩
theorem obsMG_eq {n : Nat} {t : Tabs} {g : Addr → Option Obj} {s : Shared} (h : ∀ a, g a = s.heap.get? a) : obsMG n t g = (hookM n t).obs s := by
  have e : g = s.heap.get? := funext h
  rw [e] <;> rfl
section
variable {t : Tabs} {K : PySem.W.Frag}
theorem SaysM.all (c : SaysM t K) : allB t K = true := (ba (congrArg (fun z : AlD => z.1) c)).1
theorem SaysM.def_ (c : SaysM t K) {d : DefD} (h : d ∈ t.fn) : ∃ fd, FunD K d.name d.qual d.params d.body d.scope (d.dvs K) (d.kws K) (fAd K d.at_) fd := by
  have c2 := (ba (show (allB t K && t.fn.all fun d => d.ok K) = true from congrArg (fun z : AlD => z.1) c)).2
  have e : t.fn.map (fun d => fnW K d.at_) = t.fn.map DefD.val := congrArg (fun z : AlD => z.2) c
  exact DefD.funD (List.map_inj_left.mp e d h) (List.all_eq_true.mp c2 d h)
end
/-! ### arguments -/
theorem plainA_eq {a : Arguments} {ps : List Str} (h : plainA a ps = true) : ∃ as, a = ⟨[], as, none, [], [], none, []⟩ ∧ as.map (·.arg) = ps ∧ ps.length ≤ 12 := by
  unfold plainA at h
  split at h
  · obtain ⟨h1, h2⟩ := ba h
    exact ⟨_, rfl, of_decide_eq_true h1, of_decide_eq_true h2⟩
  · cases h
theorem fm_congr {α β : Type} {f g : α → Option β} : ∀ {l : List α}, (∀ n ∈ l, f n = g n) → l.filterMap f = l.filterMap g
  | [], _ => rfl
  | a :: l, h => by rw [List.filterMap_cons, List.filterMap_cons, h a List.mem_cons_self, fm_congr fun n hn => h n (List.mem_cons_of_mem _ hn)]
theorem zip_look {ps : List Str} {us : List Value} (nd : ps.Nodup) (h : us.length = ps.length) : (ps.filterMap fun n => ((ps.zip us).lookup n).map fun v => (n, v)) = ps.zip us := by
  induction ps generalizing us with
  | nil => cases us <;> first | rfl | cases h
  | cons p ps ih =>
    cases us with
    | nil => cases h
    | cons u us =>
      have nd' := List.nodup_cons.mp nd
      have e1 : ((p :: ps).zip (u :: us)).lookup p = some u := by simp [List.lookup]
      rw [List.filterMap_cons, e1]
      show (p, u) :: _ = (p, u) :: ps.zip us
      congr 1
      rw [← ih nd'.2 (by simpa using h)]
      refine fm_congr fun n hn => ?_
      have hne : (n == p) = false := by
        rw [beq_eq_false_iff_ne]
        intro z
        subst z
        exact nd'.1 hn
      simp [List.lookup, hne]
theorem zip_full {ps : List Str} {us : List Value} (h : us.length = ps.length) {n : Str} (hn : n ∈ ps) : ((ps.zip us).lookup n).isNone = false := by
  induction ps generalizing us with
  | nil => cases hn
  | cons p ps ih =>
    cases us with
    | nil => cases h
    | cons u us =>
      cases e : (n == p) with
      | true => simp [List.lookup, e]
      | false =>
        rcases List.mem_cons.mp hn with z | z
        · subst z; simp at e
        · simp only [List.zip_cons_cons, List.lookup, e]
          exact ih (by simpa using h) z
theorem bindArgs_plain {nm qual : Str} {as : List Arg} {b : List Stmt} {sc : Scope} {kV doc pm : Value} {an : Option Addr} {cdv ct : Value} {us : List Value} (nd : (as.map (·.arg)).Nodup) (h : us.length = (as.map (·.arg)).length) :
    bindArgs (PySem.W.fnOf nm qual ⟨[], as, none, [], [], none, []⟩ b sc .none kV doc pm an cdv ct) ⟨us, []⟩ = pure ((as.map (·.arg)).zip us) := by
  have e0 : (seqItems? Value.none : Sem (Option (Array Value))) = pure none := rfl
  have z := zip_look nd h
  have hm : ((as.map (·.arg)).filter fun n => (((as.map (·.arg)).zip us).lookup n).isNone) = [] := by
    rw [List.filter_eq_nil_iff]
    intro n hn
    rw [zip_full h hn]; decide
  unfold bindArgs
  simp only [e0, List.map_nil, List.nil_append, List.append_nil, List.forIn_nil, pure_bind, Option.getD_none]
  simp only [h, Nat.lt_irrefl, decide_false, Bool.false_and, Bool.false_eq_true, if_false, List.length_nil, Nat.zero_sub, List.drop_zero, Nat.sub_zero, List.take_length, hm, List.isEmpty_nil, Bool.not_true, List.drop_length, List.zip_nil_left, List.zip_nil_right, List.forIn_nil, pure_bind, gt_iff_lt, z]
end Mp

set_option maxHeartbeats 4000000
/-! Part 36: a law by its tables. -/
namespace Mp
open PySem PySem.Spec PyProof.Rows L2 C8 He
theorem look_mem {l : List (Str × Nat)} {x : Str} {k : Nat} (h : l.lookup x = some k) : (x, k) ∈ l := by
  induction l with
  | nil => cases h
  | cons p l ih =>
    obtain ⟨y, j⟩ := p
    rw [List.lookup_cons] at h
    split at h
    · rename_i e
      cases h
      rw [eq_of_beq e]
      exact List.mem_cons_self
    · exact List.mem_cons_of_mem _ (ih h)
theorem lookN_mem {α : Type} {l : List (Nat × α)} {x : Nat} {k : α} (h : l.lookup x = some k) : (x, k) ∈ l := by
  induction l with
  | nil => cases h
  | cons p l ih =>
    obtain ⟨y, j⟩ := p
    rw [List.lookup_cons] at h
    split at h
    · rename_i e
      cases h
      rw [eq_of_beq e]
      exact List.mem_cons_self
    · exact List.mem_cons_of_mem _ (ih h)
theorem find_row {l : List DRow} {r : DRow} (nd : (l.map (·.k)).Nodup) (h : r ∈ l) : (l.find? fun q => q.k == r.k) = some r := by
  induction l with
  | nil => cases h
  | cons q l ih =>
    rw [List.map_cons, List.nodup_cons] at nd
    rw [List.find?_cons]
    rcases List.mem_cons.mp h with z | z
    · subst z; simp
    · have hne : (q.k == r.k) = false := by
        rw [beq_eq_false_iff_ne]
        intro e
        exact nd.1 (by rw [e]; exact List.mem_map_of_mem z)
      rw [hne]
      exact ih nd.2 z
structure TabsOk (t : Tabs) : Prop where
  nd : (t.defs.map (·.k)).Nodup
  df : ∀ r ∈ t.defs, rowB t r = true
  ini : ∀ r ∈ t.inits, iniB t r = true
  fn : ∀ p ∈ t.Γ.fns, ∃ r ∈ t.defs, r.x = p.1 ∧ r.k = p.2
  fl : ∀ p ∈ t.Γ.flds, nameOf t.Γ.flds p.2 = p.1
  cl : ∀ p ∈ t.Γ.cls, nameOf t.Γ.cls p.2 = p.1
  sup : ∀ k, okX t.pr k → ∃ x, (x, k) ∈ t.Γ.cls
theorem tabsOk {t : Tabs} (h : t.ok = true) : TabsOk t := by
  obtain ⟨h1, h⟩ := ba h
  obtain ⟨h2, h⟩ := ba h
  obtain ⟨h3, h⟩ := ba h
  obtain ⟨h4, h⟩ := ba h
  obtain ⟨h5, h⟩ := ba h
  obtain ⟨h6, h7⟩ := ba h
  refine ⟨of_decide_eq_true h1, List.all_eq_true.mp h2, List.all_eq_true.mp h3, fun p hp => ?_, fun p hp => of_decide_eq_true (List.all_eq_true.mp h5 p hp), fun p hp => of_decide_eq_true (List.all_eq_true.mp h6 p hp), fun k hk => ?_⟩
  · obtain ⟨r, hr, e⟩ := List.any_eq_true.mp (List.all_eq_true.mp h4 p hp)
    obtain ⟨e1, e2⟩ := ba e
    exact ⟨r, hr, of_decide_eq_true e1, eq_of_beq e2⟩
  · unfold okX at hk
    have hk' : ((t.sups.lookup k).getD []).contains k = true := hk
    cases e : t.sups.lookup k with
    | none => rw [e] at hk'; cases hk'
    | some l =>
      rw [e] at hk'
      have z := List.all_eq_true.mp h7 _ (lookN_mem e)
      have hk2 : l.contains k = true := hk'
      dsimp only at z
      rw [hk2] at z
      obtain ⟨q, hq, eq⟩ := List.any_eq_true.mp (show (t.Γ.cls.any fun q => q.2 == k) = true from z)
      obtain ⟨y, j⟩ := q
      have ej : j = k := eq_of_beq eq
      subst ej
      exact ⟨y, hq⟩
theorem or2 {a b : Bool} (h : (!a || b) = true) (ha : a = true) : b = true := by subst ha; exact h
section
variable {t : Tabs} {K : PySem.W.Frag} {Pg : Program} {w : World} {mg : Str → Option Value} {base h : Heap}
theorem binds_row {x qual : Str} {st : Stmt} {f : Addr} {fd : FuncData} {ps : List Str} (F : FunD K x qual (fnArgs st) (fnBody st) (fnScope st) [] [] f fd) (hp : plainA (fnArgs st) ps = true) (nd : ps.Nodup) : Binds K fd ps [] := by
  obtain ⟨as, e, e2, _⟩ := plainA_eq hp
  refine F.bindsN fun kV doc pm an cdv ct us hl => ?_
  rw [e]
  subst e2
  exact bindArgs_plain nd hl
theorem fun_row {x qual : Str} {st : Stmt} {f : Addr} {fd : FuncData} (F : FunD K x qual (fnArgs st) (fnBody st) (fnScope st) [] [] f fd) : C8.Fun K x qual st f fd := by
  obtain ⟨oc, od, dV, kV, doc, pm, an, cdv, ct, osl, h1, h2, h3, _⟩ := F.ex
  exact ⟨oc, od, dV, kV, doc, pm, an, cdv, ct, osl, h1, h2, h3⟩
theorem ps_nodup {N ps : List Str} {sc : Scope} (h : scC N ps sc = true) : ps.Nodup := by
  have S := fnScope_by h
  rw [← S.pre]
  exact List.Sublist.nodup (List.take_sublist _ _) S.nd
theorem tx_of (hok : t.ok = true) (c : SaysM t K) (X : K.In h) (G : h.Ns mainGlobals mg) : Tx t.pr (tbOf K t.Γ) t.Γ t.rz Pg w K mg base := by
  have O := tabsOk hok
  obtain ⟨a1, a⟩ := ba c.all
  obtain ⟨a2, a⟩ := ba a
  obtain ⟨a3, a⟩ := ba a
  obtain ⟨a4, a⟩ := ba a
  obtain ⟨a5, a⟩ := ba a
  obtain ⟨a6, a7⟩ := ba a
  have C : ∀ p ∈ t.Γ.cls, clsB t K p = true := List.all_eq_true.mp a3
  have tcl : ∀ p ∈ t.Γ.cls, (tbOf K t.Γ).cl p.2 = ga K p.1 := fun p hp => by show ga K (nameOf t.Γ.cls p.2) = _; rw [O.cl p hp]
  refine { G := ⟨eqO_ok a1, of_decide_eq_true a2, fun k hk => ?_, fun k j hk hj => ?_, fun k hk => ?_, fun k j hk hj => ?_, fun k hk => ?_, fun k f hk hf => ?_⟩, cl := fun x k e => ?_, gl := fun x k e => ?_, fl := fun x k e => ?_, bl := fun x hx => ?_, fn := fun x k e => ?_, rs := fun k hk => ?_ }
  · obtain ⟨x, hx⟩ := O.sup k hk
    have z := or2 (ba (C _ hx)).2 hk
    rw [tcl _ hx]
    exact xkB_ok (ba z).1
  · obtain ⟨x, hx⟩ := O.sup k hk
    obtain ⟨y, hy⟩ := O.sup j hj
    have z := or2 (ba (C _ hx)).2 hk
    have z := (ba (ba (ba (ba z).2).2).2).2
    have z := or2 (List.all_eq_true.mp z _ hy) hj
    rw [tcl _ hx, tcl _ hy]
    exact of_decide_eq_true (ba z).1
  · obtain ⟨x, hx⟩ := O.sup k hk
    have z := or2 (ba (C _ hx)).2 hk
    rw [tcl _ hx]
    exact of_decide_eq_true (ba (ba z).2).1
  · obtain ⟨x, hx⟩ := O.sup k hk
    obtain ⟨y, hy⟩ := O.sup j hj
    have z := or2 (ba (C _ hx)).2 hk
    have z := (ba (ba (ba (ba z).2).2).2).2
    have z := or2 (List.all_eq_true.mp z _ hy) hj
    rw [tcl _ hx, tcl _ hy]
    exact of_decide_eq_true (ba z).2
  · obtain ⟨x, hx⟩ := O.sup k hk
    have z := or2 (ba (C _ hx)).2 hk
    rw [tcl _ hx]
    exact of_decide_eq_true (ba (ba (ba z).2).2).1
  · obtain ⟨x, hx⟩ := O.sup k hk
    have z := or2 (ba (C _ hx)).2 hk
    have z := (ba (ba (ba (ba z).2).2).2).1
    rw [tcl _ hx]
    exact eqO_ok (List.all_eq_true.mp z f (List.contains_iff_mem.mp hf))
  · have hm := look_mem e
    have z := (ba (C _ hm)).1
    rw [tcl _ hm]
    exact PySem.W.mg_of X G (eqO_ok z)
  · have z := List.all_eq_true.mp a4 _ (look_mem e)
    unfold glsB at z
    split at z
    · rename_i d v e1 e2
      obtain ⟨u, r, q⟩ := litB_ok z
      exact ⟨d, e1, u, v, PySem.W.mg_of X G e2, r, q⟩
    · cases z
  · exact O.fl _ (look_mem e)
  · exact PySem.W.mg_none_of X G (eqO_ok (List.all_eq_true.mp a5 x hx))
  · obtain ⟨r, hr, e1, e2⟩ := O.fn _ (look_mem e)
    dsimp only at e1 e2
    subst e1 e2
    obtain ⟨b1, b⟩ := ba (O.df r hr)
    obtain ⟨b2, b⟩ := ba b
    obtain ⟨b3, b⟩ := ba b
    obtain ⟨b4, b⟩ := ba b
    obtain ⟨b5, b⟩ := ba b
    obtain ⟨b6, b7⟩ := ba b
    obtain ⟨fd, F⟩ := c.def_ (d := fnD r) (List.mem_append_left _ (List.mem_map_of_mem hr))
    have ef : (tbOf K t.Γ).fn r.k = ga K r.x := by show ga K (nameOf t.Γ.fns r.k) = _; rw [of_decide_eq_true b2]
    have F' : FunD K r.x r.x (fnArgs r.st) (fnBody r.st) (fnScope r.st) [] [] (ga K r.x) fd := F
    refine ⟨r.f, r.N, r.ps, r.x, r.x, r.st, fd, ?_⟩
    rw [ef]
    refine ⟨fun_row F', by show Option.map _ (t.defs.find? fun q => q.k == r.k) = _; rw [find_row O.nd hr]; rfl, of_decide_eq_true b3, of_decide_eq_true b4, b5, b7, PySem.W.mg_of X G (eqO_ok (List.all_eq_true.mp a6 r hr)), F'.kp, binds_row F' b6 (ps_nodup b5)⟩
  · obtain ⟨r, hr, e1⟩ := List.mem_map.mp hk
    subst e1
    obtain ⟨b1, b⟩ := ba (O.ini r hr)
    obtain ⟨b2, b⟩ := ba b
    obtain ⟨b3, b⟩ := ba b
    obtain ⟨b4, b⟩ := ba b
    obtain ⟨b5, b⟩ := ba b
    obtain ⟨b6, b⟩ := ba b
    obtain ⟨b7, b⟩ := ba b
    obtain ⟨b8, b⟩ := ba b
    obtain ⟨b9, b10⟩ := ba b
    obtain ⟨c1, cc⟩ := ba (List.all_eq_true.mp a7 r hr)
    obtain ⟨c2, c3⟩ := ba cc
    obtain ⟨fd, F⟩ := c.def_ (d := inD r) (List.mem_append_right _ (List.mem_map_of_mem hr))
    have F' : FunD K "__init__" (r.x ++ ".__init__") (fnArgs r.st) (fnBody r.st) (fnScope r.st) [] [] (ma K (ga K r.x) "__init__") fd := F
    have ec : (tbOf K t.Γ).cl r.k = ga K r.x := by show ga K (nameOf t.Γ.cls r.k) = _; rw [of_decide_eq_true b1]
    have hm := look_mem (of_decide_eq_true b2)
    have hkx : okX t.pr r.k := by unfold okX; exact of_decide_eq_true b3
    have hl : (t.pr.fld r.k).length ≤ 11 := of_decide_eq_true b7
    have em : (t.pr.fld r.k).map (tbOf K t.Γ).fld = (t.pr.fld r.k).map (nameOf t.Γ.flds) := rfl
    refine ⟨ma K (ga K r.x) "__init__", fd, r.ps, ?_⟩
    rw [ec, em]
    refine ⟨oexB_ok c1, eqO_ok c2, of_decide_eq_true c3, ?_, binds_row F' b9 (ps_nodup b4), by omega⟩
    refine init_ok (fun_row F') (oexB_ok c1) b4 (by rw [List.length_map]; exact of_decide_eq_true b5) (fun z => of_decide_eq_true b6 (List.map_eq_nil_iff.mp z)) (by rw [List.length_map]; omega) (of_decide_eq_true b8) (fun f hf => ?_) b10
    obtain ⟨j, hj, rfl⟩ := List.mem_map.mp hf
    have z := or2 (ba (C _ hm)).2 hkx
    have z := (ba (ba (ba (ba z).2).2).2).1
    exact eqO_ok (List.all_eq_true.mp z j hj)
end
/-- a law: F gives the written part, the function object, the promise over every base -/
theorem walk_ofM {l : PySem.W.OpenLaw} {n k : Nat} {q : Program} {loose : List Str} {XP : (Str → Option Value) → Heap → Prop} {YP : World → Heap → Prop} {d : DefRec} {x : Str}
    (hn : l.most = some n) (hn2 : n ≤ sizeLine) (hdf : d.params.defaults = []) (hr : Room k callerA)
    (F : ∀ (w : World) (mg : Str → Option Value) (fa : Addr) (h : Heap), YP w h → h.Ns mainGlobals mg → mg d.name = some (.ref fa) →
      ∃ (K : PySem.W.Frag) (fd : FuncData) (sp : Sp), K.In h ∧ (∀ (s : Shared) (u : Value), BindsTo s fd ⟨[u], []⟩ [(x, u)]) ∧
        (∀ (H : Hp) (a : Addr) (ns : List Int), ns.length ≤ n → SqE K H a (ns.map V.int) → sp [.ref a] H (fun v _ => v = .bl true) fun _ _ _ => False) ∧
        ∀ base : Heap, K.In base → base.Ns mainGlobals mg → FnOk l.prog w K mg base (L2.CX l.prog w) k fa fd [x] sp) :
    PySem.W.WalkO q loose XP YP l.row.toRowW d [] (fun f vs => PySem.call f vs) := by
  refine Att.attach_call hn hdf fun w s₀ s₁ mg mb fa o pm cd doc a vs ns G Y ho hd hcd hmg hobj hints hlen hg => ?_
  obtain ⟨K, fd, sp, KX, hb, hsp, hF⟩ := F w mg fa _ Y G.T.g hmg
  exact law_call KX G.T.g G.T.b G.T.builtins G.T.nolimit hg hobj hints (Nat.le_trans hlen hn2) hr hF hb (fun H hO hS => hsp H a ns hlen (sqE_of KX hobj hS)) fun H e s' => cx_false
/-- THE END: a law by its tables -/
theorem law_walk {l : PySem.W.OpenLaw} {q : Program} {loose : List Str} {XP : (Str → Option Value) → Heap → Prop} {d : DefRec} {t : Tabs} {n m : Nat} {r : DRow}
    (hn : l.most = some 63) (hdf : d.params.defaults = []) (hok : t.ok = true) (hd : d.name = r.x) (hr : t.defs[m]? = some r) (hp : r.ps = [("script" : Str)])
    (he : ∀ ns : List Int, ns.length ≤ 63 → ∃ fin, callN t.pr 200 r.k [.fz (.list (ns.map PyData.int))] = .ok (.bool true, false) fin) :
    PySem.W.WalkO q loose XP (hookM n t).says l.row.toRowW d [] (fun f vs => PySem.call f vs) := by
  have hrm : r ∈ t.defs := List.mem_of_getElem? hr
  obtain ⟨b1, b⟩ := ba ((tabsOk hok).df r hrm)
  obtain ⟨b2, b⟩ := ba b
  obtain ⟨b3, b⟩ := ba b
  obtain ⟨b4, b⟩ := ba b
  obtain ⟨b5, b⟩ := ba b
  obtain ⟨b6, b7⟩ := ba b
  have hnp : r.f.np = 1 := by rw [← of_decide_eq_true b3, hp]; rfl
  refine walk_ofM (l := l) (n := 63) (k := 202) (x := "script") hn (by decide) hdf ⟨rfl, by decide, by decide⟩ ?F
  intro w mg fa h Y G hmg
  obtain ⟨K, KX, c⟩ := Y
  obtain ⟨fd, F⟩ := c.def_ (d := fnD r) (List.mem_append_left _ (List.mem_map_of_mem hrm))
  have F' : FunD K r.x r.x (fnArgs r.st) (fnBody r.st) (fnScope r.st) [] [] (ga K r.x) fd := F
  obtain ⟨a1, a⟩ := ba c.all
  obtain ⟨a2, a⟩ := ba a
  obtain ⟨a3, a⟩ := ba a
  obtain ⟨a4, a⟩ := ba a
  obtain ⟨a5, a⟩ := ba a
  obtain ⟨a6, a7⟩ := ba a
  have e1 : mg r.x = some (.ref (ga K r.x)) := PySem.W.mg_of KX G (eqO_ok (List.all_eq_true.mp a6 r hrm))
  have e2 : fa = ga K r.x := by
    rw [hd, e1] at hmg
    injection hmg with z
    injection z with z
    exact z.symm
  subst e2
  obtain ⟨as, ea, ea2, _⟩ := plainA_eq b6
  refine ⟨K, fd, SpC (tbOf K t.Γ) K 1 (callN t.pr 200 r.k), KX, fun s u => ?_, fun H a ns hl hS => law_sp hS hl (he ns hl), fun base hb hG => ?_⟩
  · have z := FunD.bindsA (ps := r.ps) F' (fun kV doc pm an cdv ct us hl => by
      rw [ea]
      have nd := ps_nodup b5
      rw [← ea2] at hl nd ⊢
      exact bindArgs_plain nd hl) s [u] (by rw [hp]; rfl)
    rw [hp] at z
    exact z
  · have L := lv_all (tx_of (Pg := l.prog) (w := w) (base := base) hok c hb hG) 199
    have ef : (tbOf K t.Γ).fn r.k = ga K r.x := by show ga K (nameOf t.Γ.fns r.k) = _; rw [of_decide_eq_true b2]
    have z := fn_lv (x := r.x) (L.at_ r.N) (fun_row F') (show t.pr.df r.k = some r.f by show Option.map _ (t.defs.find? fun q => q.k == r.k) = _; rw [find_row (tabsOk hok).nd hrm]; rfl) (of_decide_eq_true b3) (of_decide_eq_true b4) b5 b7
    rw [hnp, hp] at z
    exact z
end Mp

/-! Part 40: texts by lists. -/
namespace Mp
open PySem Builtin.Str
theorem S_len (l : List Nat) : (S l).length = l.length := by simp
theorem S_cps (l : List Nat) : (S l).cps = l.toArray := rfl
theorem S_ext {x : Str} : S (L x) = x := by simp
theorem subAt_S (a b : List Nat) (i : Nat) : subAt (S a) (S b) i = decide ((a.drop i).take b.length = b) := by
  unfold subAt
  rw [S_len]
  have e : (S a).cps.extract i (i + b.length) = ((a.drop i).take b.length).toArray := by
    apply Array.ext'
    simp [S, Array.toList_extract, List.extract]
  rw [e]
  by_cases h : (a.drop i).take b.length = b
  · rw [decide_eq_true h, h]; simp [S]
  · rw [decide_eq_false h]
    rw [beq_eq_false_iff_ne]
    intro z
    apply h
    have := congrArg Array.toList z
    simpa [S] using this
theorem starts_S (a b : List Nat) : Txt.startswith (S a) (S b) = decide (b <+: a) := by
  unfold Txt.startswith
  rw [subAt_S, S_len, S_len]
  by_cases h : b <+: a
  · rw [decide_eq_true h]
    have hl := h.length_le
    have e : List.take b.length (List.drop 0 a) = b := by rw [List.drop_zero]; exact (List.prefix_iff_eq_take.mp h).symm
    simp [hl, List.prefix_iff_eq_take.mp h |>.symm]
  · rw [decide_eq_false h]
    have : ¬ (List.take b.length (List.drop 0 a) = b) := by
      rw [List.drop_zero]
      intro z
      exact h (List.prefix_iff_eq_take.mpr z.symm)
    rw [decide_eq_false this, Bool.and_false]
theorem occ_find (s sub : Str) (hi : Nat) : ∀ (l : List Nat) (free : Nat), (∀ i ∈ l, free ≤ i) →
    (forIn l ((#[] : Array Nat), free) (StrLaws.occBody s sub hi 1)).run.fst.toList.head? = l.find? fun i => decide (i + sub.length ≤ hi) && subAt s sub i
  | [], free, _ => rfl
  | a :: l, free, hf => by
    rw [List.forIn_cons, List.find?_cons]
    unfold StrLaws.occBody
    have ha : free ≤ a := hf a List.mem_cons_self
    by_cases hc : a + sub.length ≤ hi ∧ subAt s sub a = true
    · have c1 : (((#[] : Array Nat), free).fst.size < 1 ∧ ((#[] : Array Nat), free).snd ≤ a) ∧ a + sub.length ≤ hi := ⟨⟨by simp, ha⟩, hc.1⟩
      rw [if_pos ⟨c1, hc.2⟩, hc.2, decide_eq_true hc.1]
      have key : ∀ (l : List Nat) (f : Nat), (forIn l ((#[a] : Array Nat), f) (StrLaws.occBody s sub hi 1)).run.fst = #[a] := by
        intro l
        induction l with
        | nil => intro f; rfl
        | cons b l ih =>
          intro f
          rw [List.forIn_cons]
          unfold StrLaws.occBody
          have c2 : ¬ (((((#[a] : Array Nat), f).fst.size < 1 ∧ ((#[a] : Array Nat), f).snd ≤ b) ∧ b + sub.length ≤ hi) ∧ subAt s sub b = true) := fun h => by simp at h
          rw [if_neg c2]
          exact ih f
      show (forIn l ((#[] : Array Nat).push a, a + sub.length) (StrLaws.occBody s sub hi 1)).run.fst.toList.head? = _
      have := key l (a + sub.length)
      show (forIn l ((#[a] : Array Nat), a + sub.length) (StrLaws.occBody s sub hi 1)).run.fst.toList.head? = _
      rw [this]; rfl
    · have c2 : ¬ (((((#[] : Array Nat), free).fst.size < 1 ∧ ((#[] : Array Nat), free).snd ≤ a) ∧ a + sub.length ≤ hi) ∧ subAt s sub a = true) := fun h => hc ⟨h.1.2, h.2⟩
      rw [if_neg c2]
      have e : (decide (a + sub.length ≤ hi) && subAt s sub a) = false := by
        cases h : (decide (a + sub.length ≤ hi) && subAt s sub a) with
        | false => rfl
        | true => rw [Bool.and_eq_true, decide_eq_true_eq] at h; exact absurd h hc
      rw [e]
      exact occ_find s sub hi l free fun i hi' => hf i (List.mem_cons_of_mem _ hi')
/-- the first place from lo on -/
def findL (a b : List Nat) (lo : Nat) : Int := match (List.range' lo (a.length + 1 - lo)).find? (fun i => decide (i + b.length ≤ a.length) && decide ((a.drop i).take b.length = b)) with
  | some k => k
  | none => -1
theorem find3_S (a b : List Nat) (i : Nat) : Txt.find3 (S a) (S b) (i : Int) = findL a b i := by
  unfold Txt.find3 findL
  have e1 : fromIndex (S a).length (i : Int) = i := by
    unfold fromIndex
    have : ¬ ((i : Int) < 0) := by omega
    rw [if_neg this]; omega
  rw [e1]
  have h := occ_find (S a) (S b) (S a).length (List.range' i ((S a).length + 1 - i)) i (fun j hj => by simp [List.mem_range'] at hj; omega)
  rw [← StrLaws.occ_eq] at h
  rw [S_len] at h ⊢
  simp only [subAt_S, S_len] at h
  rw [← h]
  cases Builtin.Str.occurrences (S a) (S b) i a.length 1 <;> rfl
theorem findL_some {a b : List Nat} {lo k : Nat} (h1 : lo ≤ k) (h2 : k + b.length ≤ a.length) (h3 : (a.drop k).take b.length = b) (h4 : ∀ j, lo ≤ j → j < k → (a.drop j).take b.length ≠ b) : findL a b lo = k := by
  unfold findL
  have e : (List.range' lo (a.length + 1 - lo)).find? (fun i => decide (i + b.length ≤ a.length) && decide ((a.drop i).take b.length = b)) = some k := by
    rw [List.find?_range'_eq_some]
    refine ⟨by simp [h2, h3], List.mem_range'_1.mpr (by omega), fun j hj hk => ?_⟩
    have := h4 j hj hk
    simp [this]
  rw [e]
theorem strip_nil (a b : List Nat) : Txt.stripChars (S a) (S b) = S [] ↔ ∀ c ∈ a, c ∈ b := by
  unfold Txt.stripChars
  rw [PyProof.Rows.stripBy_eq]
  obtain ⟨l1, l2, l3⟩ := PyProof.Rows.lo_facts (S b).cps.contains (S a)
  obtain ⟨g1, g2, g3, g4⟩ := PyProof.Rows.hi_facts (S b).cps.contains (S a) _ l1
  have hgoes : ∀ k, k < a.length → ((S b).cps.contains ((S a).cps.getD k 0) = true ↔ a.getD k 0 ∈ b) := fun k hk => by
    simp [S, Array.getD, hk]
  have hlen : (strSub (S a) (stripLo (S b).cps.contains true (S a)) (stripHi (S b).cps.contains true (S a) (stripLo (S b).cps.contains true (S a)))).length = stripHi (S b).cps.contains true (S a) (stripLo (S b).cps.contains true (S a)) - stripLo (S b).cps.contains true (S a) := by
    unfold strSub
    simp only [Str.length, Array.size_extract]
    have : (S a).cps.size = (S a).length := rfl
    omega
  generalize stripLo (S b).cps.contains true (S a) = lo at *
  generalize stripHi (S b).cps.contains true (S a) lo = hi at *
  rw [S_len] at l1 g2
  constructor
  · intro h
    rw [h, S_len] at hlen
    have e : hi = lo := by simp at hlen; omega
    intro c hc
    obtain ⟨k, hk, rfl⟩ := List.getElem_of_mem hc
    have e2 : a.getD k 0 = a[k] := by simp [hk]
    rw [← e2]
    refine (hgoes k hk).mp ?_
    by_cases h2 : k < lo
    · exact l2 k h2
    · exact g3 k (by omega) (by rw [S_len]; exact hk)
  · intro h
    have hall : ∀ k, k < a.length → (S b).cps.contains ((S a).cps.getD k 0) = true := fun k hk => (hgoes k hk).mpr (h _ (by simp [hk]))
    have e : lo = a.length := by
      rcases l3 with z | z
      · rw [S_len] at z; exact z
      · by_cases hl : lo < a.length
        · rw [hall lo hl] at z; cases z
        · omega
    have e2 : hi - lo = 0 := by omega
    rw [e2] at hlen
    have : L (strSub (S a) lo hi) = [] := List.eq_nil_of_length_eq_zero (by rw [← len_L]; exact hlen)
    rw [← S_ext (x := strSub (S a) lo hi), this]
/-! ### equality -/
theorem deq_str (a b : List Nat) : deq (.str (S a)) (.str (S b)) = decide (a = b) := by
  unfold deq
  simp only [PyData.eqv]
  rw [Bool.eq_iff_iff]
  simp
theorem deq_int (a b : Int) : deq (.int a) (.int b) = decide (a = b) := by
  unfold deq
  simp only [PyData.eqv]
  rw [Bool.eq_iff_iff]
  simp
theorem deq_bool (a b : Bool) : deq (.bool a) (.bool b) = (a == b) := by
  unfold deq
  simp [PyData.eqv]
theorem deq_tuple (a b : List D) : deq (.tuple a) (.tuple b) = PyData.eqvAll a b := by
  unfold deq
  simp [PyData.eqv]
theorem deq_list (a b : List D) : deq (.list a) (.list b) = PyData.eqvAll a b := by
  unfold deq
  simp [PyData.eqv]
end Mp

/-! Part 41: the evaluator's steps as rules for simp: each with all its arguments, so that nothing is opened ahead of its turn. -/
namespace Mp
open PySem
/-! ### what follows, by names: nothing is opened ahead of its turn -/
def shK (v : Rv) (t : St) : R Rv := .ok (v.1, false) t
@[simp] theorem shK_eq {v : Rv} {t : St} : shK v t = .ok (v.1, false) t := (rfl)
def opK (v : Rv) (t : St) : R Op := .ok (.v v.1) t
@[simp] theorem opK_eq {v : Rv} {t : St} : opK v t = .ok (.v v.1) t := (rfl)
def trK (v : Rv) (t : St) : R Bool := .ok (truth v.1) t
@[simp] theorem trK_eq {v : Rv} {t : St} : trK v t = .ok (truth v.1) t := (rfl)
def notK (b : Bool) (t : St) : R Bool := .ok (!b) t
@[simp] theorem notK_eq {b : Bool} {t : St} : notK b t = .ok (!b) t := (rfl)
def fz2 (d : D) : Rv := (d, false)
@[simp] theorem fz2_eq {d : D} : fz2 d = (d, false) := (rfl)
def boD (b : D) : Rv := (.bool (!truth b), false)
@[simp] theorem boD_eq {b : D} : boD b = (.bool (!truth b), false) := (rfl)
def tupK (l : List D) (t : St) : R Rv := if l.length ≤ 1000 then .ok (.tuple l, false) t else .bad
@[simp] theorem tupK_eq {l : List D} {t : St} : tupK l t = if l.length ≤ 1000 then .ok (.tuple l, false) t else .bad := (rfl)
def lstK (l : List D) (t : St) : R Rv := if l.length ≤ 1000 then .ok (.list l, true) t else .bad
@[simp] theorem lstK_eq {l : List D} {t : St} : lstK l t = if l.length ≤ 1000 then .ok (.list l, true) t else .bad := (rfl)
def consK (d : D) (l : List D) (t : St) : R (List D) := .ok (d :: l) t
@[simp] theorem consK_eq {d : D} {l : List D} {t : St} : consK d l t = .ok (d :: l) t := (rfl)
def consO (d : Op) (l : List Op) (t : St) : R (List Op) := .ok (d :: l) t
@[simp] theorem consO_eq {d : Op} {l : List Op} {t : St} : consO d l t = .ok (d :: l) t := (rfl)
def negD (d : D) : Option Rv := match d with
  | .int i => some (.int (-i), false)
  | _ => none
def endO (d : D) : Option (Option Int) := match d with
  | .int i => some (some i)
  | _ => none
def exK (o : Option Ex) (t : St) : Fl := match o with
  | some x => .rs x t
  | none => .bad
def mapI (l : Option Nat) (d : List D) : List D × Option Nat := (d, l)
@[simp] theorem mapI_eq {l : Option Nat} {d : List D} : mapI l d = (d, l) := (rfl)
def enumK  (w : List D × Option Nat) : List D × Option Nat := (enumD w.1, w.2)
@[simp] theorem enumK_eq {w : List D × Option Nat} : enumK  w = (enumD w.1, w.2) := (rfl)
noncomputable def binD (op : Bop) (u : D) (w : D) : Option Rv := (bop op u w).map flag
@[simp] theorem binD_eq {op : Bop} {u : D} {w : D} : binD op u w = (bop op u w).map flag := (rfl)
noncomputable def binC (op : Bop) (y : Op) (t : St) (u : D) : Option Rv := (rd y t).bind (binD op u)
@[simp] theorem binC_eq {op : Bop} {y : Op} {t : St} {u : D} : binC op y t u = (rd y t).bind (binD op u) := (rfl)
noncomputable def binL (op : Bop) (x : Op) (y : Op) (t : St) : R Rv := R.of ((rd x t).bind (binC op y t)) t
@[simp] theorem binL_eq {op : Bop} {x : Op} {y : Op} {t : St} : binL op x y t = R.of ((rd x t).bind (binC op y t)) t := (rfl)
noncomputable def binK (op : Bop) (b : St → R Op) (x : Op) (t : St) : R Rv := (b t).bind (binL op x)
@[simp] theorem binK_eq {op : Bop} {b : St → R Op} {x : Op} {t : St} : binK op b x t = (b t).bind (binL op x) := (rfl)
def negK  (x : Op) (t : St) : R Rv := R.of ((rd x t).bind negD) t
@[simp] theorem negK_eq {x : Op} {t : St} : negK  x t = R.of ((rd x t).bind negD) t := (rfl)
def notR  (x : Op) (t : St) : R Rv := R.of ((rd x t).map boD) t
@[simp] theorem notR_eq {x : Op} {t : St} : notR  x t = R.of ((rd x t).map boD) t := (rfl)
noncomputable def cmpD (op : Cop) (u : D) (w : D) : Option Rv := (cop op u w).map fz2
@[simp] theorem cmpD_eq {op : Cop} {u : D} {w : D} : cmpD op u w = (cop op u w).map fz2 := (rfl)
noncomputable def cmpC (op : Cop) (y : Op) (t : St) (u : D) : Option Rv := (rd y t).bind (cmpD op u)
@[simp] theorem cmpC_eq {op : Cop} {y : Op} {t : St} {u : D} : cmpC op y t u = (rd y t).bind (cmpD op u) := (rfl)
noncomputable def cmpL (op : Cop) (x : Op) (y : Op) (t : St) : R Rv := R.of ((rd x t).bind (cmpC op y t)) t
@[simp] theorem cmpL_eq {op : Cop} {x : Op} {y : Op} {t : St} : cmpL op x y t = R.of ((rd x t).bind (cmpC op y t)) t := (rfl)
noncomputable def cmpK (op : Cop) (b : St → R Op) (x : Op) (t : St) : R Rv := (b t).bind (cmpL op x)
@[simp] theorem cmpK_eq {op : Cop} {b : St → R Op} {x : Op} {t : St} : cmpK op b x t = (b t).bind (cmpL op x) := (rfl)
noncomputable def cmtD (op : Cop) (u : D) (w : D) : Option Bool := (cop op u w).map truth
@[simp] theorem cmtD_eq {op : Cop} {u : D} {w : D} : cmtD op u w = (cop op u w).map truth := (rfl)
noncomputable def cmtC (op : Cop) (y : Op) (t : St) (u : D) : Option Bool := (rd y t).bind (cmtD op u)
@[simp] theorem cmtC_eq {op : Cop} {y : Op} {t : St} {u : D} : cmtC op y t u = (rd y t).bind (cmtD op u) := (rfl)
noncomputable def cmtL (op : Cop) (x : Op) (y : Op) (t : St) : R Bool := R.of ((rd x t).bind (cmtC op y t)) t
@[simp] theorem cmtL_eq {op : Cop} {x : Op} {y : Op} {t : St} : cmtL op x y t = R.of ((rd x t).bind (cmtC op y t)) t := (rfl)
noncomputable def cmtK (op : Cop) (b : St → R Op) (x : Op) (t : St) : R Bool := (b t).bind (cmtL op x)
@[simp] theorem cmtK_eq {op : Cop} {b : St → R Op} {x : Op} {t : St} : cmtK op b x t = (b t).bind (cmtL op x) := (rfl)
noncomputable def cm2D (op : Cop) (u : D) (w : D) : Option D := cop op u w
@[simp] theorem cm2D_eq {op : Cop} {u : D} {w : D} : cm2D op u w = cop op u w := (rfl)
noncomputable def cm2C (op : Cop) (y : Op) (t : St) (u : D) : Option D := (rd y t).bind (cm2D op u)
@[simp] theorem cm2C_eq {op : Cop} {y : Op} {t : St} {u : D} : cm2C op y t u = (rd y t).bind (cm2D op u) := (rfl)
noncomputable def cm2I (op : Cop) (c : St → R Op) (y : Op) (b : Bool) (t : St) : R Rv := if b = true then (c t).bind (cmpL op y) else .ok (.bool false, false) t
@[simp] theorem cm2I_eq {op : Cop} {c : St → R Op} {y : Op} {b : Bool} {t : St} : cm2I op c y b t = if b = true then (c t).bind (cmpL op y) else .ok (.bool false, false) t := (rfl)
noncomputable def cm2J (op : Cop) (c : St → R Op) (y : Op) (d : D) (t : St) : R Rv := cm2I op c y (truth d) t
@[simp] theorem cm2J_eq {op : Cop} {c : St → R Op} {y : Op} {d : D} {t : St} : cm2J op c y d t = cm2I op c y (truth d) t := (rfl)
noncomputable def cm2L (op op2 : Cop) (c : St → R Op) (x : Op) (y : Op) (t : St) : R Rv := (R.of ((rd x t).bind (cm2C op y t)) t).bind (cm2J op2 c y)
@[simp] theorem cm2L_eq {op op2 : Cop} {c : St → R Op} {x : Op} {y : Op} {t : St} : cm2L op op2 c x y t = (R.of ((rd x t).bind (cm2C op y t)) t).bind (cm2J op2 c y) := (rfl)
noncomputable def cm2K (op op2 : Cop) (b c : St → R Op) (x : Op) (t : St) : R Rv := (b t).bind (cm2L op op2 c x)
@[simp] theorem cm2K_eq {op op2 : Cop} {b c : St → R Op} {x : Op} {t : St} : cm2K op op2 b c x t = (b t).bind (cm2L op op2 c x) := (rfl)
noncomputable def ct2I (op : Cop) (c : St → R Op) (y : Op) (b : Bool) (t : St) : R Bool := if b = true then (c t).bind (cmtL op y) else .ok false t
@[simp] theorem ct2I_eq {op : Cop} {c : St → R Op} {y : Op} {b : Bool} {t : St} : ct2I op c y b t = if b = true then (c t).bind (cmtL op y) else .ok false t := (rfl)
noncomputable def ct2J (op : Cop) (c : St → R Op) (y : Op) (d : D) (t : St) : R Bool := ct2I op c y (truth d) t
@[simp] theorem ct2J_eq {op : Cop} {c : St → R Op} {y : Op} {d : D} {t : St} : ct2J op c y d t = ct2I op c y (truth d) t := (rfl)
noncomputable def ct2L (op op2 : Cop) (c : St → R Op) (x : Op) (y : Op) (t : St) : R Bool := (R.of ((rd x t).bind (cm2C op y t)) t).bind (ct2J op2 c y)
@[simp] theorem ct2L_eq {op op2 : Cop} {c : St → R Op} {x : Op} {y : Op} {t : St} : ct2L op op2 c x y t = (R.of ((rd x t).bind (cm2C op y t)) t).bind (ct2J op2 c y) := (rfl)
noncomputable def ct2K (op op2 : Cop) (b c : St → R Op) (x : Op) (t : St) : R Bool := (b t).bind (ct2L op op2 c x)
@[simp] theorem ct2K_eq {op op2 : Cop} {b c : St → R Op} {x : Op} {t : St} : ct2K op op2 b c x t = (b t).bind (ct2L op op2 c x) := (rfl)
def ixDK (u : D) (w : D) : Option Rv := (ixD u w).map fz2
@[simp] theorem ixDK_eq {u : D} {w : D} : ixDK u w = (ixD u w).map fz2 := (rfl)
def ixC (y : Op) (t : St) (u : D) : Option Rv := (rd y t).bind (ixDK u)
@[simp] theorem ixC_eq {y : Op} {t : St} {u : D} : ixC y t u = (rd y t).bind (ixDK u) := (rfl)
def ixL (x : Op) (y : Op) (t : St) : R Rv := R.of ((rd x t).bind (ixC y t)) t
@[simp] theorem ixL_eq {x : Op} {y : Op} {t : St} : ixL x y t = R.of ((rd x t).bind (ixC y t)) t := (rfl)
def ixK (b : St → R Op) (x : Op) (t : St) : R Rv := (b t).bind (ixL x)
@[simp] theorem ixK_eq {b : St → R Op} {x : Op} {t : St} : ixK b x t = (b t).bind (ixL x) := (rfl)
def slC (l h : Option Int) (u : D) : Option Rv := (slD u l h).map flag
@[simp] theorem slC_eq {l h : Option Int} {u : D} : slC l h u = (slD u l h).map flag := (rfl)
def slM (x : Op) (l : Option Int) (h : Option Int) (t : St) : R Rv := R.of ((rd x t).bind (slC l h)) t
@[simp] theorem slM_eq {x : Op} {l : Option Int} {h : Option Int} {t : St} : slM x l h t = R.of ((rd x t).bind (slC l h)) t := (rfl)
def slL (hi : St → R (Option Int)) (x : Op) (l : Option Int) (t : St) : R Rv := (hi t).bind (slM x l)
@[simp] theorem slL_eq {hi : St → R (Option Int)} {x : Op} {l : Option Int} {t : St} : slL hi x l t = (hi t).bind (slM x l) := (rfl)
def slK (lo hi : St → R (Option Int)) (x : Op) (t : St) : R Rv := (lo t).bind (slL hi x)
@[simp] theorem slK_eq {lo hi : St → R (Option Int)} {x : Op} {t : St} : slK lo hi x t = (lo t).bind (slL hi x) := (rfl)
def revC  (u : D) : Option Rv := (revD u).map flag
@[simp] theorem revC_eq {u : D} : revC  u = (revD u).map flag := (rfl)
def revK  (x : Op) (t : St) : R Rv := R.of ((rd x t).bind revC) t
@[simp] theorem revK_eq {x : Op} {t : St} : revK  x t = R.of ((rd x t).bind revC) t := (rfl)
def okRv (v : Rv) (t : St) (u : St) : R Rv := .ok v t
@[simp] theorem okRv_eq {v : Rv} {t : St} {u : St} : okRv v t u = .ok v t := (rfl)
def callP (os : List Op) (t : St) (f : Df) : Option (St × List (Option Nat) × St) := passA f.keep os [] t
@[simp] theorem callP_eq {os : List Op} {t : St} {f : Df} : callP os t f = passA f.keep os [] t := (rfl)
def callF (c : St → CR) (p : St × List (Option Nat) × St) (t : St) : R Rv := kFin p.2.1 p.2.2 (c p.1)
@[simp] theorem callF_eq {c : St → CR} {p : St × List (Option Nat) × St} {t : St} : callF c p t = kFin p.2.1 p.2.2 (c p.1) := (rfl)
def callK (f : Option Df) (c : St → CR) (os : List Op) (t : St) : R Rv := (R.of (f.bind (callP os t)) t).bind (callF c)
@[simp] theorem callK_eq {f : Option Df} {c : St → CR} {os : List Op} {t : St} : callK f c os t = (R.of (f.bind (callP os t)) t).bind (callF c) := (rfl)
def consD (d : D) (l : List D) : List D := d :: l
@[simp] theorem consD_eq {d : D} {l : List D} : consD d l = d :: l := (rfl)
def rdAK (os : List Op) (t : St) (d : D) : Option (List D) := (rdA os t).map (consD d)
@[simp] theorem rdAK_eq {os : List Op} {t : St} {d : D} : rdAK os t d = (rdA os t).map (consD d) := (rfl)
def biC (f : Bf) (xs : List D) : Option Rv := (biD f xs).map flag
@[simp] theorem biC_eq {f : Bf} {xs : List D} : biC f xs = (biD f xs).map flag := (rfl)
def biK (f : Bf) (os : List Op) (t : St) : R Rv := R.of ((rdA os t).bind (biC f)) t
@[simp] theorem biK_eq {f : Bf} {os : List Op} {t : St} : biK f os t = R.of ((rdA os t).bind (biC f)) t := (rfl)
def meC (m : Mf) (s : Str) (xs : List D) : Option Rv := (meD m (.str s) xs).map flag
@[simp] theorem meC_eq {m : Mf} {s : Str} {xs : List D} : meC m s xs = (meD m (.str s) xs).map flag := (rfl)
def meM (m : Mf) (s : Str) (os : List Op) (t : St) : R Rv := R.of ((rdA os t).bind (meC m s)) t
@[simp] theorem meM_eq {m : Mf} {s : Str} {os : List Op} {t : St} : meM m s os t = R.of ((rdA os t).bind (meC m s)) t := (rfl)
def meL (m : Mf) (as : St → R (List Op)) (s : Str) (t : St) : R Rv := (as t).bind (meM m s)
@[simp] theorem meL_eq {m : Mf} {as : St → R (List Op)} {s : Str} {t : St} : meL m as s t = (as t).bind (meM m s) := (rfl)
def meK (m : Mf) (as : St → R (List Op)) (x : Op) (t : St) : R Rv := (R.of (strOp x t) t).bind (meL m as)
@[simp] theorem meK_eq {m : Mf} {as : St → R (List Op)} {x : Op} {t : St} : meK m as x t = (R.of (strOp x t) t).bind (meL m as) := (rfl)
def lstR  (l : List D) : Rv := (.list l, true)
@[simp] theorem lstR_eq {l : List D} : lstR  l = (.list l, true) := (rfl)
def keysC  (u : D) : Option Rv := (keysD u).map lstR
@[simp] theorem keysC_eq {u : D} : keysC  u = (keysD u).map lstR := (rfl)
def keysK  (x : Op) (t : St) : R Rv := R.of ((rd x t).bind keysC) t
@[simp] theorem keysK_eq {x : Op} {t : St} : keysK  x t = R.of ((rd x t).bind keysC) t := (rfl)
def valsC  (u : D) : Option Rv := (valsD u).map lstR
@[simp] theorem valsC_eq {u : D} : valsC  u = (valsD u).map lstR := (rfl)
def valsK  (x : Op) (t : St) : R Rv := R.of ((rd x t).bind valsC) t
@[simp] theorem valsK_eq {x : Op} {t : St} : valsK  x t = R.of ((rd x t).bind valsC) t := (rfl)
def appK (i : Nat) (a : St → R Rv) (u : Unit) (t : St) : R Rv := (a t).bind (appE i)
@[simp] theorem appK_eq {i : Nat} {a : St → R Rv} {u : Unit} {t : St} : appK i a u t = (a t).bind (appE i) := (rfl)
def extK (i : Nat) (a : St → R Rv) (u : Unit) (t : St) : R Rv := (a t).bind (extE i)
@[simp] theorem extK_eq {i : Nat} {a : St → R Rv} {u : Unit} {t : St} : extK i a u t = (a t).bind (extE i) := (rfl)
def isiK (P : Pr) (cl : List Cl) (x : Op) (t : St) : R Rv := R.of ((isiO P cl t x).map fz2) t
@[simp] theorem isiK_eq {P : Pr} {cl : List Cl} {x : Op} {t : St} : isiK P cl x t = R.of ((isiO P cl t x).map fz2) t := (rfl)
def varK (i : Nat) (p : D × Sl) (t : St) : R Rv := .ok (p.1, false) (t.set i p.2)
@[simp] theorem varK_eq {i : Nat} {p : D × Sl} {t : St} : varK i p t = .ok (p.1, false) (t.set i p.2) := (rfl)
def soK  (x : Op) (t : St) : R (Option Int) := R.of ((rd x t).bind endO) t
@[simp] theorem soK_eq {x : Op} {t : St} : soK  x t = R.of ((rd x t).bind endO) t := (rfl)
def itO  (x : Op) (t : St) : R (List D × Option Nat) := R.of (walkOp x t) t
@[simp] theorem itO_eq {x : Op} {t : St} : itO  x t = R.of (walkOp x t) t := (rfl)
def itE  (x : Op) (t : St) : R (List D × Option Nat) := R.of ((walkOp x t).map enumK) t
@[simp] theorem itE_eq {x : Op} {t : St} : itE  x t = R.of ((walkOp x t).map enumK) t := (rfl)
def rg1  (x : Op) (t : St) : R (List D × Option Nat) := rngE [x] t
@[simp] theorem rg1_eq {x : Op} {t : St} : rg1  x t = rngE [x] t := (rfl)
def rg2b (x : Op) (y : Op) (t : St) : R (List D × Option Nat) := rngE [x, y] t
@[simp] theorem rg2b_eq {x : Op} {y : Op} {t : St} : rg2b x y t = rngE [x, y] t := (rfl)
def rg2 (b : St → R Op) (x : Op) (t : St) : R (List D × Option Nat) := (b t).bind (rg2b x)
@[simp] theorem rg2_eq {b : St → R Op} {x : Op} {t : St} : rg2 b x t = (b t).bind (rg2b x) := (rfl)
def rg3c (x y : Op) (z : Op) (t : St) : R (List D × Option Nat) := rngE [x, y, z] t
@[simp] theorem rg3c_eq {x y : Op} {z : Op} {t : St} : rg3c x y z t = rngE [x, y, z] t := (rfl)
def rg3b (c : St → R Op) (x : Op) (y : Op) (t : St) : R (List D × Option Nat) := (c t).bind (rg3c x y)
@[simp] theorem rg3b_eq {c : St → R Op} {x : Op} {y : Op} {t : St} : rg3b c x y t = (c t).bind (rg3c x y) := (rfl)
def rg3 (b c : St → R Op) (x : Op) (t : St) : R (List D × Option Nat) := (b t).bind (rg3b c x)
@[simp] theorem rg3_eq {b c : St → R Op} {x : Op} {t : St} : rg3 b c x t = (b t).bind (rg3b c x) := (rfl)
def zpb (f : List D → List D) (x : Op) (y : Op) (t : St) : R (List D × Option Nat) := zipE f x y t
@[simp] theorem zpb_eq {f : List D → List D} {x : Op} {y : Op} {t : St} : zpb f x y t = zipE f x y t := (rfl)
def zp (f : List D → List D) (b : St → R Op) (x : Op) (t : St) : R (List D × Option Nat) := (b t).bind (zpb f x)
@[simp] theorem zp_eq {f : List D → List D} {b : St → R Op} {x : Op} {t : St} : zp f b x t = (b t).bind (zpb f x) := (rfl)
def zipB (f : List D → List D) (u : List D × Option Nat) (w : List D × Option Nat) : Option (List D × Option Nat) := if u.2 = none ∧ w.2 = none then some (f (zipD u.1 w.1), none) else none
@[simp] theorem zipB_eq {f : List D → List D} {u : List D × Option Nat} {w : List D × Option Nat} : zipB f u w = if u.2 = none ∧ w.2 = none then some (f (zipD u.1 w.1), none) else none := (rfl)
def zipA (f : List D → List D) (y : Op) (t : St) (u : List D × Option Nat) : Option (List D × Option Nat) := (walkOp y t).bind (zipB f u)
@[simp] theorem zipA_eq {f : List D → List D} {y : Op} {t : St} {u : List D × Option Nat} : zipA f y t u = (walkOp y t).bind (zipB f u) := (rfl)
def rngB  (xs : List D) : Option (List D × Option Nat) := (rngD xs).map (mapI none)
@[simp] theorem rngB_eq {xs : List D} : rngB  xs = (rngD xs).map (mapI none) := (rfl)
def asgTK (gs : List Tg) (ds : List D) (t : St) : Option St := asgTs gs ds t
@[simp] theorem asgTK_eq {gs : List Tg} {ds : List D} {t : St} : asgTK gs ds t = asgTs gs ds t := (rfl)
def passM (p : Sl × Option Nat × St) (q : St × List (Option Nat) × St) : St × List (Option Nat) × St := (p.1 :: q.1, p.2.1 :: q.2.1, q.2.2)
@[simp] theorem passM_eq {p : Sl × Option Nat × St} {q : St × List (Option Nat) × St} : passM p q = (p.1 :: q.1, p.2.1 :: q.2.1, q.2.2) := (rfl)
def passK (ks : List Bool) (os : List Op) (ls : List Nat) (p : Sl × Option Nat × St) : Option (St × List (Option Nat) × St) := (passA ks os (p.2.1.toList ++ ls) p.2.2).map (passM p)
@[simp] theorem passK_eq {ks : List Bool} {os : List Op} {ls : List Nat} {p : Sl × Option Nat × St} : passK ks os ls p = (passA ks os (p.2.1.toList ++ ls) p.2.2).map (passM p) := (rfl)
def backK (ls : List (Option Nat)) (ss : St) (t : St) : Option St := backA ls ss t
@[simp] theorem backK_eq {ls : List (Option Nat)} {ss : St} {t : St} : backK ls ss t = backA ls ss t := (rfl)
def asgK (i : Nat) (v : Rv) (t : St) : Fl := nxO (asgN i v t)
@[simp] theorem asgK_eq {i : Nat} {v : Rv} {t : St} : asgK i v t = nxO (asgN i v t) := (rfl)
def asgP (gs : List Tg) (v : Rv) (t : St) : Fl := nxO (asgT (.tp gs) v.1 t)
@[simp] theorem asgP_eq {gs : List Tg} {v : Rv} {t : St} : asgP gs v t = nxO (asgT (.tp gs) v.1 t) := (rfl)
def setC (i : Nat) (d : D) (y : Op) (t : St) : Fl := setE i d y t
@[simp] theorem setC_eq {i : Nat} {d : D} {y : Op} {t : St} : setC i d y t = setE i d y t := (rfl)
def setB (i : Nat) (b : St → R Op) (d : D) (u : Unit) (t : St) : Fl := (b t).fl (setC i d)
@[simp] theorem setB_eq {i : Nat} {b : St → R Op} {d : D} {u : Unit} {t : St} : setB i b d u t = (b t).fl (setC i d) := (rfl)
def setA (i : Nat) (b : St → R Op) (v : Rv) (t : St) : Fl := (R.of (isLs i t) t).fl (setB i b v.1)
@[simp] theorem setA_eq {i : Nat} {b : St → R Op} {v : Rv} {t : St} : setA i b v t = (R.of (isLs i t) t).fl (setB i b v.1) := (rfl)
def setT (t : St) (i : Nat) (l : List D) (v : D) (o : Bool) (j : Nat) : St := t.set i (if o = true then .ow (.list (l.set j v)) else .bw (.list (l.set j v)))
@[simp] theorem setT_eq {t : St} {i : Nat} {l : List D} {v : D} {o : Bool} {j : Nat} : setT t i l v o j = t.set i (if o = true then .ow (.list (l.set j v)) else .bw (.list (l.set j v))) := (rfl)
def nxK  (v : Rv) (t : St) : Fl := .nx t
@[simp] theorem nxK_eq {v : Rv} {t : St} : nxK  v t = .nx t := (rfl)
def rtK1  (v : Rv) (t : St) : Fl := .rt v t
@[simp] theorem rtK1_eq {v : Rv} {t : St} : rtK1  v t = .rt v t := (rfl)
def raiK (P : Pr) (k : Nat) (ds : List D) (t : St) : Fl := exK (mkEx (P.fld k) k ds) t
@[simp] theorem raiK_eq {P : Pr} {k : Nat} {ds : List D} {t : St} : raiK P k ds t = exK (mkEx (P.fld k) k ds) t := (rfl)
section
variable (P : Pr) (cs : Cs) (hot : Bool)
noncomputable def ifeK (a b : E) (k : Bool) (t : St) : R Rv := if k = true then kSh (evE P cs hot a) t else kSh (evE P cs hot b) t
noncomputable def evTAndK (es : Es) (b : Bool) (t : St) : R Bool := if b = true then evTAnd P cs hot es t else .ok false t
noncomputable def evTOrK (es : Es) (b : Bool) (t : St) : R Bool := if b = true then .ok true t else evTOr P cs hot es t
noncomputable def andK (es : Es) (v : Rv) (b : Bool) (t : St) : R Rv := if b = true then evAnd P cs hot es t else .ok (v.1, false) t
noncomputable def evAndK (es : Es) (v : Rv) (t : St) : R Rv := andK P cs hot es v (truth v.1) t
noncomputable def orK (es : Es) (v : Rv) (b : Bool) (t : St) : R Rv := if b = true then .ok (v.1, false) t else evOr P cs hot es t
noncomputable def evOrK (es : Es) (v : Rv) (t : St) : R Rv := orK P cs hot es v (truth v.1) t
noncomputable def evEsK (es : Es) (v : Rv) (t : St) : R (List D) := (evEs P cs hot es t).bind (consK v.1)
noncomputable def evAsK (es : Es) (o : Op) (t : St) : R (List Op) := (evAs P cs hot es t).bind (consO o)
noncomputable def iteK (a b : Ss) (k : Bool) (t : St) : Fl := if k = true then exSs P cs hot a t else exSs P cs hot b t
variable {P cs hot}
variable {t : St}
@[simp] theorem ifeK_t {a b : E} : ifeK P cs hot a b true t = kSh (evE P cs hot a) t := (rfl)
@[simp] theorem ifeK_f {a b : E} : ifeK P cs hot a b false t = kSh (evE P cs hot b) t := (rfl)
@[simp] theorem evTAndK_t {es : Es} : evTAndK P cs hot es true t = evTAnd P cs hot es t := (rfl)
@[simp] theorem evTAndK_f {es : Es} : evTAndK P cs hot es false t = .ok false t := (rfl)
@[simp] theorem evTOrK_t {es : Es} : evTOrK P cs hot es true t = .ok true t := (rfl)
@[simp] theorem evTOrK_f {es : Es} : evTOrK P cs hot es false t = evTOr P cs hot es t := (rfl)
@[simp] theorem andK_t {es : Es} {v : Rv} : andK P cs hot es v true t = evAnd P cs hot es t := (rfl)
@[simp] theorem andK_f {es : Es} {v : Rv} : andK P cs hot es v false t = .ok (v.1, false) t := (rfl)
@[simp] theorem evAndK_eq {es : Es} {v : Rv} : evAndK P cs hot es v t = andK P cs hot es v (truth v.1) t := (rfl)
@[simp] theorem orK_t {es : Es} {v : Rv} : orK P cs hot es v true t = .ok (v.1, false) t := (rfl)
@[simp] theorem orK_f {es : Es} {v : Rv} : orK P cs hot es v false t = evOr P cs hot es t := (rfl)
@[simp] theorem evOrK_eq {es : Es} {v : Rv} : evOrK P cs hot es v t = orK P cs hot es v (truth v.1) t := (rfl)
@[simp] theorem evEsK_eq {es : Es} {v : Rv} : evEsK P cs hot es v t = (evEs P cs hot es t).bind (consK v.1) := (rfl)
@[simp] theorem evAsK_eq {es : Es} {o : Op} : evAsK P cs hot es o t = (evAs P cs hot es t).bind (consO o) := (rfl)
@[simp] theorem iteK_t {a b : Ss} : iteK P cs hot a b true t = exSs P cs hot a t := (rfl)
@[simp] theorem iteK_f {a b : Ss} : iteK P cs hot a b false t = exSs P cs hot b t := (rfl)
end

@[simp high] theorem obind_some {α β : Type} {a : α} {f : α → Option β} : (some a).bind f = f a := (rfl)
@[simp high] theorem omap_some {α β : Type} {a : α} {f : α → β} : (some a).map f = some (f a) := (rfl)
section
variable {P : Pr} {cs : Cs} {hot : Bool} {t : St}

@[simp] theorem evE_var {i : Nat} : evE P cs hot (.var i) t = kVar i t := by rw [evE] <;> rfl
@[simp] theorem evE_c {d : D} : evE P cs hot (.c d) t = .ok (d, false) t := by rw [evE] <;> rfl
@[simp] theorem evE_g {k : Nat} : evE P cs hot (.g k) t = R.of ((P.gl k).map fz2) t := by rw [evE] <;> rfl
@[simp] theorem evE_bin {op : Bop} {a b : E} : evE P cs hot (.bin op a b) t = kBin op (opn a (evE P cs hot a)) (opn b (evE P cs hot b)) t := by rw [evE] <;> rfl
@[simp] theorem evE_neg {a : E} : evE P cs hot (.neg a) t = kNeg (opn a (evE P cs hot a)) t := by rw [evE] <;> rfl
@[simp] theorem evE_not {a : E} : evE P cs hot (.not a) t = kNot (opn a (evE P cs hot a)) t := by rw [evE] <;> rfl
@[simp] theorem evE_cmp {op : Cop} {a b : E} : evE P cs hot (.cmp op a b) t = kCmp op (opn a (evE P cs hot a)) (opn b (evE P cs hot b)) t := by rw [evE] <;> rfl
@[simp] theorem evE_cmp2 {op op2 : Cop} {a b c : E} : evE P cs hot (.cmp2 op op2 a b c) t = kCmp2 op op2 (opn a (evE P cs hot a)) (opn b (evE P cs hot b)) (opn c (evE P cs hot c)) t := by rw [evE] <;> rfl
@[simp] theorem evE_and {es : Es} : evE P cs hot (.and es) t = evAnd P cs hot es t := by rw [evE] <;> rfl
@[simp] theorem evE_or {es : Es} : evE P cs hot (.or es) t = evOr P cs hot es t := by rw [evE] <;> rfl
@[simp] theorem evE_ife {c a b : E} : evE P cs hot (.ife c a b) t = (evT P cs hot c t).bind (ifeK P cs hot a b) := by rw [evE] <;> rfl
@[simp] theorem evE_tup {es : Es} : evE P cs hot (.tup es) t = (evEs P cs hot es t).bind tupK := by rw [evE] <;> rfl
@[simp] theorem evE_lst {es : Es} : evE P cs hot (.lst es) t = (evEs P cs hot es t).bind lstK := by rw [evE] <;> rfl
@[simp] theorem evE_dic0 : evE P cs hot .dic0 t = .ok (.dict [], true) t := by rw [evE] <;> rfl
@[simp] theorem evE_ix {a b : E} : evE P cs hot (.ix a b) t = kIx (opn a (evE P cs hot a)) (opn b (evE P cs hot b)) t := by rw [evE] <;> rfl
@[simp] theorem evE_sl {a : E} {lo hi : O} : evE P cs hot (.sl a lo hi) t = kSl (opn a (evE P cs hot a)) (evO P cs hot lo) (evO P cs hot hi) t := by rw [evE] <;> rfl
@[simp] theorem evE_rev {a : E} : evE P cs hot (.rev a) t = kRev (opn a (evE P cs hot a)) t := by rw [evE] <;> rfl
@[simp] theorem evE_call {k : Nat} {es : Es} : evE P cs false (.call k es) t = kCall (P.df k) (cs k) (evAs P cs false es) t := by rw [evE] <;> rfl
@[simp] theorem evE_bi {f : Bf} {es : Es} : evE P cs false (.bi f es) t = kBi f (evAs P cs false es) t := by rw [evE] <;> rfl
@[simp] theorem evE_me {m : Mf} {a : E} {es : Es} : evE P cs false (.me m a es) t = kMe m (opn a (evE P cs false a)) (evAs P cs false es) t := by rw [evE] <;> rfl
@[simp] theorem evE_lkeys {a : E} : evE P cs false (.lkeys a) t = kKeys (opn a (evE P cs false a)) t := by rw [evE] <;> rfl
@[simp] theorem evE_lvals {a : E} : evE P cs false (.lvals a) t = kVals (opn a (evE P cs false a)) t := by rw [evE] <;> rfl
@[simp] theorem evE_pop {i : Nat} : evE P cs false (.pop i) t = kPop i t := by rw [evE] <;> rfl
@[simp] theorem evE_app {i : Nat} {a : E} : evE P cs false (.app i a) t = kApp i (kSh (evE P cs false a)) t := by rw [evE] <;> rfl
@[simp] theorem evE_ext {i : Nat} {a : E} : evE P cs false (.ext i a) t = kExt i (kSh (evE P cs false a)) t := by rw [evE] <;> rfl
@[simp] theorem evE_isi {a : E} {cl : List Cl} : evE P cs hot (.isi a cl) t = kIsi P (opn a (evE P cs hot a)) cl t := by rw [evE] <;> rfl
@[simp] theorem evE_fld {i f : Nat} : evE P cs hot (.fld i f) t = kFld P i f t := by rw [evE] <;> rfl
@[simp] theorem opn_var {i : Nat} {r : St → R Rv} : opn (.var i) r t = opnV i t := (rfl)
@[simp] theorem opn_c {d : D} {r : St → R Rv} : opn (.c d) r t = (r t).bind opK := (rfl)
@[simp] theorem opn_g {k : Nat} {r : St → R Rv} : opn (.g k) r t = (r t).bind opK := (rfl)
@[simp] theorem opn_bin {op : Bop} {a b : E} {r : St → R Rv} : opn (.bin op a b) r t = (r t).bind opK := (rfl)
@[simp] theorem opn_neg {a : E} {r : St → R Rv} : opn (.neg a) r t = (r t).bind opK := (rfl)
@[simp] theorem opn_not {a : E} {r : St → R Rv} : opn (.not a) r t = (r t).bind opK := (rfl)
@[simp] theorem opn_cmp {op : Cop} {a b : E} {r : St → R Rv} : opn (.cmp op a b) r t = (r t).bind opK := (rfl)
@[simp] theorem opn_cmp2 {op op2 : Cop} {a b c : E} {r : St → R Rv} : opn (.cmp2 op op2 a b c) r t = (r t).bind opK := (rfl)
@[simp] theorem opn_and {es : Es} {r : St → R Rv} : opn (.and es) r t = (r t).bind opK := (rfl)
@[simp] theorem opn_or {es : Es} {r : St → R Rv} : opn (.or es) r t = (r t).bind opK := (rfl)
@[simp] theorem opn_ife {c a b : E} {r : St → R Rv} : opn (.ife c a b) r t = (r t).bind opK := (rfl)
@[simp] theorem opn_tup {es : Es} {r : St → R Rv} : opn (.tup es) r t = (r t).bind opK := (rfl)
@[simp] theorem opn_lst {es : Es} {r : St → R Rv} : opn (.lst es) r t = (r t).bind opK := (rfl)
@[simp] theorem opn_dic0 {r : St → R Rv} : opn .dic0 r t = (r t).bind opK := (rfl)
@[simp] theorem opn_ix {a b : E} {r : St → R Rv} : opn (.ix a b) r t = (r t).bind opK := (rfl)
@[simp] theorem opn_sl {a : E} {lo hi : O} {r : St → R Rv} : opn (.sl a lo hi) r t = (r t).bind opK := (rfl)
@[simp] theorem opn_rev {a : E} {r : St → R Rv} : opn (.rev a) r t = (r t).bind opK := (rfl)
@[simp] theorem opn_call {k : Nat} {es : Es} {r : St → R Rv} : opn (.call k es) r t = (r t).bind opK := (rfl)
@[simp] theorem opn_bi {f : Bf} {es : Es} {r : St → R Rv} : opn (.bi f es) r t = (r t).bind opK := (rfl)
@[simp] theorem opn_me {m : Mf} {a : E} {es : Es} {r : St → R Rv} : opn (.me m a es) r t = (r t).bind opK := (rfl)
@[simp] theorem opn_lkeys {a : E} {r : St → R Rv} : opn (.lkeys a) r t = (r t).bind opK := (rfl)
@[simp] theorem opn_lvals {a : E} {r : St → R Rv} : opn (.lvals a) r t = (r t).bind opK := (rfl)
@[simp] theorem opn_pop {i : Nat} {r : St → R Rv} : opn (.pop i) r t = (r t).bind opK := (rfl)
@[simp] theorem opn_app {i : Nat} {a : E} {r : St → R Rv} : opn (.app i a) r t = (r t).bind opK := (rfl)
@[simp] theorem opn_ext {i : Nat} {a : E} {r : St → R Rv} : opn (.ext i a) r t = (r t).bind opK := (rfl)
@[simp] theorem opn_isi {a : E} {cl : List Cl} {r : St → R Rv} : opn (.isi a cl) r t = (r t).bind opK := (rfl)
@[simp] theorem opn_fld {i f : Nat} {r : St → R Rv} : opn (.fld i f) r t = (r t).bind opK := (rfl)
@[simp] theorem opn_lc {elt : E} {own : List Nat} {tg : Tg} {it : It} {c : Es} {r : St → R Rv} : opn (.lc elt own tg it c) r t = (r t).bind opK := (rfl)
@[simp] theorem evT_not {a : E} : evT P cs hot (.not a) t = (evT P cs hot a t).bind notK := by rw [evT] <;> rfl
@[simp] theorem evT_and {es : Es} : evT P cs hot (.and es) t = evTAnd P cs hot es t := by rw [evT] <;> rfl
@[simp] theorem evT_or {es : Es} : evT P cs hot (.or es) t = evTOr P cs hot es t := by rw [evT] <;> rfl
@[simp] theorem evT_var {i : Nat} : evT P cs hot (.var i) t = R.of (((t[i]?).bind rdS).map truth) t := by rw [evT] <;> rfl
@[simp] theorem evT_cmp {op : Cop} {a b : E} : evT P cs hot (.cmp op a b) t = kCmpT op (opn a (evE P cs hot a)) (opn b (evE P cs hot b)) t := by rw [evT] <;> rfl
@[simp] theorem evT_cmp2 {op op2 : Cop} {a b c : E} : evT P cs hot (.cmp2 op op2 a b c) t = kCmp2T op op2 (opn a (evE P cs hot a)) (opn b (evE P cs hot b)) (opn c (evE P cs hot c)) t := by rw [evT] <;> rfl
@[simp] theorem evT_c {d : D} : evT P cs hot (.c d) t = .ok (truth d) t := by rw [evT] <;> rfl
@[simp] theorem evT_g {k : Nat} : evT P cs hot (.g k) t = R.of ((P.gl k).map truth) t := by rw [evT] <;> rfl
@[simp] theorem evT_ix {a b : E} : evT P cs hot (.ix a b) t = trR (kIx (opn a (evE P cs hot a)) (opn b (evE P cs hot b)) t) := by rw [evT] <;> rfl
@[simp] theorem evT_call {k : Nat} {es : Es} : evT P cs false (.call k es) t = trR (kCall (P.df k) (cs k) (evAs P cs false es) t) := by rw [evT] <;> rfl
@[simp] theorem evT_bi {f : Bf} {es : Es} : evT P cs false (.bi f es) t = trR (kBi f (evAs P cs false es) t) := by rw [evT] <;> rfl
@[simp] theorem evT_me {m : Mf} {a : E} {es : Es} : evT P cs false (.me m a es) t = trR (kMe m (opn a (evE P cs false a)) (evAs P cs false es) t) := by rw [evT] <;> rfl
@[simp] theorem evT_isi {a : E} {cl : List Cl} : evT P cs hot (.isi a cl) t = trR (kIsi P (opn a (evE P cs hot a)) cl t) := by rw [evT] <;> rfl
@[simp] theorem evT_fld {i f : Nat} : evT P cs hot (.fld i f) t = trR (kFld P i f t) := by rw [evT] <;> rfl
@[simp] theorem evTAnd_one {e : E} : evTAnd P cs hot (.cons e .nil) t = evT P cs hot e t := by rw [evTAnd]
@[simp] theorem evTAnd_more {e e2 : E} {es : Es} : evTAnd P cs hot (.cons e (.cons e2 es)) t = (evT P cs hot e t).bind (evTAndK P cs hot (.cons e2 es)) := by rw [evTAnd]; rfl
@[simp] theorem evAnd_one {e : E} : evAnd P cs hot (.cons e .nil) t = kSh (evE P cs hot e) t := by rw [evAnd]
@[simp] theorem evAnd_more {e e2 : E} {es : Es} : evAnd P cs hot (.cons e (.cons e2 es)) t = (kSh (evE P cs hot e) t).bind (evAndK P cs hot (.cons e2 es)) := by rw [evAnd]; rfl
@[simp] theorem evTOr_one {e : E} : evTOr P cs hot (.cons e .nil) t = evT P cs hot e t := by rw [evTOr]
@[simp] theorem evTOr_more {e e2 : E} {es : Es} : evTOr P cs hot (.cons e (.cons e2 es)) t = (evT P cs hot e t).bind (evTOrK P cs hot (.cons e2 es)) := by rw [evTOr]; rfl
@[simp] theorem evOr_one {e : E} : evOr P cs hot (.cons e .nil) t = kSh (evE P cs hot e) t := by rw [evOr]
@[simp] theorem evOr_more {e e2 : E} {es : Es} : evOr P cs hot (.cons e (.cons e2 es)) t = (kSh (evE P cs hot e) t).bind (evOrK P cs hot (.cons e2 es)) := by rw [evOr]; rfl
@[simp] theorem evEs_nil : evEs P cs hot .nil t = .ok [] t := by rw [evEs]
@[simp] theorem evEs_cons {e : E} {es : Es} : evEs P cs hot (.cons e es) t = (kSh (evE P cs hot e) t).bind (evEsK P cs hot es) := by rw [evEs]; rfl
@[simp] theorem evAs_nil : evAs P cs hot .nil t = .ok [] t := by rw [evAs]
@[simp] theorem evAs_cons {e : E} {es : Es} : evAs P cs hot (.cons e es) t = (opn e (evE P cs hot e) t).bind (evAsK P cs hot es) := by rw [evAs]; rfl
@[simp] theorem evCs_nil : evCs P cs hot .nil t = .ok true t := by rw [evCs]
@[simp] theorem evCs_one {e : E} : evCs P cs hot (.cons e .nil) t = evT P cs hot e t := by rw [evCs]
@[simp] theorem endO_int {i : Int} : endO (.int i) = some (some i) := (rfl)
@[simp] theorem evO_no : evO P cs hot .no t = .ok none t := by rw [evO]
@[simp] theorem evO_so {e : E} : evO P cs hot (.so e) t = (opn e (evE P cs hot e) t).bind soK := by rw [evO]; rfl
@[simp] theorem evIt_of {e : E} : evIt P cs hot (.of e) t = (opn e (evE P cs hot e) t).bind itO := by rw [evIt]; rfl
@[simp] theorem evIt_rng1 {a : E} : evIt P cs hot (.rng1 a) t = (opn a (evE P cs hot a) t).bind rg1 := by rw [evIt]; rfl
@[simp] theorem evIt_rng2 {a b : E} : evIt P cs hot (.rng2 a b) t = (opn a (evE P cs hot a) t).bind (rg2 (opn b (evE P cs hot b))) := by rw [evIt]; rfl
@[simp] theorem evIt_rng3 {a b c : E} : evIt P cs hot (.rng3 a b c) t = (opn a (evE P cs hot a) t).bind (rg3 (opn b (evE P cs hot b)) (opn c (evE P cs hot c))) := by rw [evIt]; rfl
@[simp] theorem evIt_enum {e : E} : evIt P cs hot (.enum e) t = (opn e (evE P cs hot e) t).bind itE := by rw [evIt]; rfl
@[simp] theorem evIt_zip {a b : E} : evIt P cs hot (.zip a b) t = (opn a (evE P cs hot a) t).bind (zp id (opn b (evE P cs hot b))) := by rw [evIt]; rfl
@[simp] theorem evIt_enz {a b : E} : evIt P cs hot (.enz a b) t = (opn a (evE P cs hot a) t).bind (zp enumD (opn b (evE P cs hot b))) := by rw [evIt]; rfl
/-! ### operands -/
def opnS (o : Option Sl) (i : Nat) (t : St) : R Op := match o with
  | some .un => .bad
  | some _ => .ok (.i i) t
  | none => .bad
@[simp] theorem opnV_eq {i : Nat} : opnV i t = opnS (t[i]?) i t := (rfl)
@[simp] theorem opnS_fz {i : Nat} {d : D} : opnS (some (.fz d)) i t = .ok (.i i) t := (rfl)
@[simp] theorem opnS_ow {i : Nat} {d : D} : opnS (some (.ow d)) i t = .ok (.i i) t := (rfl)
@[simp] theorem opnS_bw {i : Nat} {d : D} : opnS (some (.bw d)) i t = .ok (.i i) t := (rfl)
@[simp] theorem opnS_bf {i : Nat} {d : D} : opnS (some (.bf d)) i t = .ok (.i i) t := (rfl)
@[simp] theorem opnS_ln {i : Nat} {b : Bool} {d : D} : opnS (some (.ln b d)) i t = .ok (.i i) t := (rfl)
@[simp] theorem opnS_ex {i : Nat} {x : Ex} : opnS (some (.ex x)) i t = .ok (.i i) t := (rfl)
@[simp] theorem rd_v {d : D} : rd (.v d) t = some d := (rfl)
@[simp] theorem rd_i {k : Nat} : rd (.i k) t = (t[k]?).bind rdS := (rfl)
@[simp] theorem rdS_fz {d : D} : rdS (.fz d) = some d := (rfl)
@[simp] theorem rdS_ow {d : D} : rdS (.ow d) = some d := (rfl)
@[simp] theorem rdS_bw {d : D} : rdS (.bw d) = some d := (rfl)
@[simp] theorem rdS_bf {d : D} : rdS (.bf d) = some d := (rfl)
@[simp] theorem rdS_ln {b : Bool} {d : D} : rdS (.ln b d) = some d := (rfl)
@[simp] theorem fzS_fz {d : D} : fzS (.fz d) = some (d, .fz d) := (rfl)
@[simp] theorem fzS_ow {d : D} : fzS (.ow d) = some (d, .fz d) := (rfl)
@[simp] theorem fzS_bw {d : D} : fzS (.bw d) = some (d, .bf d) := (rfl)
@[simp] theorem fzS_bf {d : D} : fzS (.bf d) = some (d, .bf d) := (rfl)
@[simp] theorem kVar_eq {i : Nat} : kVar i t = (R.of ((t[i]?).bind fzS) t).bind (varK i) := (rfl)
@[simp] theorem kSh_eq {a : St → R Rv} : kSh a t = (a t).bind shK := (rfl)
@[simp] theorem trR_eq {r : R Rv} : trR r = r.bind trK := (rfl)
@[simp] theorem kBin_eq {op : Bop} {a b : St → R Op} : kBin op a b t = (a t).bind (binK op b) := (rfl)
@[simp] theorem negD_int {i : Int} : negD (.int i) = some (.int (-i), false) := (rfl)
@[simp] theorem kNeg_eq {a : St → R Op} : kNeg a t = (a t).bind negK := (rfl)
@[simp] theorem kNot_eq {a : St → R Op} : kNot a t = (a t).bind notR := (rfl)
@[simp] theorem kCmp_eq {op : Cop} {a b : St → R Op} : kCmp op a b t = (a t).bind (cmpK op b) := (rfl)
@[simp] theorem kCmpT_eq {op : Cop} {a b : St → R Op} : kCmpT op a b t = (a t).bind (cmtK op b) := (rfl)
@[simp] theorem kCmp2_eq {op op2 : Cop} {a b c : St → R Op} : kCmp2 op op2 a b c t = (a t).bind (cm2K op op2 b c) := (rfl)
@[simp] theorem kCmp2T_eq {op op2 : Cop} {a b c : St → R Op} : kCmp2T op op2 a b c t = (a t).bind (ct2K op op2 b c) := (rfl)
@[simp] theorem kIx_eq {a b : St → R Op} : kIx a b t = (a t).bind (ixK b) := (rfl)
@[simp] theorem kSl_eq {a : St → R Op} {lo hi : St → R (Option Int)} : kSl a lo hi t = (a t).bind (slK lo hi) := (rfl)
@[simp] theorem kRev_eq {a : St → R Op} : kRev a t = (a t).bind revK := (rfl)
@[simp] theorem kFin_ok {ls : List (Option Nat)} {v : Rv} {fin : St} : kFin ls t (.ok v fin) = (R.of (backA ls fin t) t).bind (okRv v) := (rfl)
def rsK (o : Option St) (x : Ex) : R Rv := match o with
  | some t' => .rs x t'
  | none => .bad
@[simp] theorem rsK_some {x : Ex} : rsK (some t) x = .rs x t := (rfl)
@[simp] theorem kFin_rs {ls : List (Option Nat)} {x : Ex} {fin : St} : kFin ls t (.rs x fin) = rsK (backA ls fin t) x := by unfold kFin rsK; rfl
@[simp] theorem kCall_eq {f : Option Df} {c : St → CR} {as : St → R (List Op)} : kCall f c as t = (as t).bind (callK f c) := (rfl)
@[simp] theorem rdA_nil : rdA [] t = some [] := (rfl)
@[simp] theorem rdA_cons {o : Op} {os : List Op} : rdA (o :: os) t = (rd o t).bind (rdAK os t) := (rfl)
@[simp] theorem kBi_eq {f : Bf} {as : St → R (List Op)} : kBi f as t = (as t).bind (biK f) := (rfl)
def strD (o : Option D) : Option Str := match o with
  | some (.str a) => some a
  | _ => none
@[simp] theorem strD_str {a : Str} : strD (some (.str a)) = some a := (rfl)
@[simp] theorem strOp_eq {x : Op} : strOp x t = strD (rd x t) := (rfl)
@[simp] theorem kMe_eq {m : Mf} {a : St → R Op} {as : St → R (List Op)} : kMe m a as t = (a t).bind (meK m as) := (rfl)
@[simp] theorem kKeys_eq {a : St → R Op} : kKeys a t = (a t).bind keysK := (rfl)
@[simp] theorem kVals_eq {a : St → R Op} : kVals a t = (a t).bind valsK := (rfl)
def popS (o : Option Sl) (i : Nat) (t : St) : R Rv := match o with
  | some (.ow (.list l)) => (match l.getLast? with
    | some d => .ok (d, false) (t.set i (.ow (.list l.dropLast)))
    | none => .bad)
  | some (.bw (.list l)) => (match l.getLast? with
    | some d => .ok (d, false) (t.set i (.bw (.list l.dropLast)))
    | none => .bad)
  | _ => .bad
@[simp] theorem kPop_eq {i : Nat} : kPop i t = popS (t[i]?) i t := (rfl)
@[simp] theorem popS_ow {i : Nat} {l : List D} {d : D} : popS (some (.ow (.list (l ++ [d])))) i t = .ok (d, false) (t.set i (.ow (.list l))) := by simp [popS]
@[simp] theorem popS_bw {i : Nat} {l : List D} {d : D} : popS (some (.bw (.list (l ++ [d])))) i t = .ok (d, false) (t.set i (.bw (.list l))) := by simp [popS]
def lsS (o : Option Sl) : Option Unit := match o with
  | some (.ow (.list _)) => some ()
  | some (.bw (.list _)) => some ()
  | _ => none
@[simp] theorem isLs_eq {i : Nat} : isLs i t = lsS (t[i]?) := (rfl)
@[simp] theorem lsS_ow {l : List D} : lsS (some (.ow (.list l))) = some () := (rfl)
@[simp] theorem lsS_bw {l : List D} : lsS (some (.bw (.list l))) = some () := (rfl)
def appS (o : Option Sl) (i : Nat) (d : D) (t : St) : R Rv := match o with
  | some (.ow (.list l)) => if l.length < cap then .ok (.none, false) (t.set i (.ow (.list (l ++ [d])))) else .bad
  | some (.bw (.list l)) => if l.length < cap then .ok (.none, false) (t.set i (.bw (.list (l ++ [d])))) else .bad
  | _ => .bad
@[simp] theorem appE_eq {i : Nat} {v : Rv} : appE i v t = appS (t[i]?) i v.1 t := (rfl)
@[simp] theorem appS_ow {i : Nat} {l : List D} {d : D} : appS (some (.ow (.list l))) i d t = if l.length < cap then .ok (.none, false) (t.set i (.ow (.list (l ++ [d])))) else .bad := (rfl)
@[simp] theorem appS_bw {i : Nat} {l : List D} {d : D} : appS (some (.bw (.list l))) i d t = if l.length < cap then .ok (.none, false) (t.set i (.bw (.list (l ++ [d])))) else .bad := (rfl)
@[simp] theorem kApp_eq {i : Nat} {a : St → R Rv} : kApp i a t = (R.of (isLs i t) t).bind (appK i a) := (rfl)
def extS (o : Option Sl) (i : Nat) (d : D) (t : St) : R Rv := match o, d with
  | some (.ow (.list l)), .list m => if l.length + m.length ≤ cap then .ok (.none, false) (t.set i (.ow (.list (l ++ m)))) else .bad
  | some (.bw (.list l)), .list m => if l.length + m.length ≤ cap then .ok (.none, false) (t.set i (.bw (.list (l ++ m)))) else .bad
  | _, _ => .bad
@[simp] theorem extE_eq {i : Nat} {v : Rv} : extE i v t = extS (t[i]?) i v.1 t := (rfl)
@[simp] theorem extS_ow {i : Nat} {l m : List D} : extS (some (.ow (.list l))) i (.list m) t = if l.length + m.length ≤ cap then .ok (.none, false) (t.set i (.ow (.list (l ++ m)))) else .bad := (rfl)
@[simp] theorem extS_bw {i : Nat} {l m : List D} : extS (some (.bw (.list l))) i (.list m) t = if l.length + m.length ≤ cap then .ok (.none, false) (t.set i (.bw (.list (l ++ m)))) else .bad := (rfl)
@[simp] theorem kExt_eq {i : Nat} {a : St → R Rv} : kExt i a t = (R.of (isLs i t) t).bind (extK i a) := (rfl)
@[simp] theorem kIsi_eq {a : St → R Op} {cl : List Cl} : kIsi P a cl t = (a t).bind (isiK P cl) := (rfl)
@[simp] theorem isiO_v {cl : List Cl} {d : D} : isiO P cl t (.v d) = isClD cl d := (rfl)
@[simp] theorem isiO_i {cl : List Cl} {i : Nat} : isiO P cl t (.i i) = (t[i]?).bind (isClS P cl) := (rfl)
@[simp] theorem isClS_fz {cl : List Cl} {d : D} : isClS P cl (.fz d) = isClD cl d := (rfl)
@[simp] theorem isClS_ow {cl : List Cl} {d : D} : isClS P cl (.ow d) = isClD cl d := (rfl)
@[simp] theorem isClS_bw {cl : List Cl} {d : D} : isClS P cl (.bw d) = isClD cl d := (rfl)
@[simp] theorem isClS_bf {cl : List Cl} {d : D} : isClS P cl (.bf d) = isClD cl d := (rfl)
@[simp] theorem isClS_ex {cl : List Cl} {x : Ex} : isClS P cl (.ex x) = if cl.all (isX P) = true ∧ (P.sup x.c).contains x.c = true then some (.bool (cl.any (isExc P x.c))) else none := (rfl)
@[simp] theorem isClD_eq {cl : List Cl} {d : D} : isClD cl d = if cl.all isB = true then some (.bool (cl.any (isCl d))) else none := (rfl)
@[simp] theorem kFld_eq {i f : Nat} : kFld P i f t = R.of (((t[i]?).bind (fldD P f)).map fz2) t := (rfl)
@[simp] theorem fldD_ex {f : Nat} {x : Ex} : fldD P f (.ex x) = if (P.fld x.c).contains f = true ∧ (P.sup x.c).contains x.c = true then x.fs.lookup f else none := (rfl)

@[simp] theorem isB_int : isB .int = true := (rfl)
@[simp] theorem isB_bool : isB .bool = true := (rfl)
@[simp] theorem isB_str : isB .str = true := (rfl)
@[simp] theorem isB_list : isB .list = true := (rfl)
@[simp] theorem isB_tuple : isB .tuple = true := (rfl)
@[simp] theorem isB_dict : isB .dict = true := (rfl)
@[simp] theorem isCl_none_int : isCl .none .int = false := (rfl)
@[simp] theorem isCl_none_bool : isCl .none .bool = false := (rfl)
@[simp] theorem isCl_none_str : isCl .none .str = false := (rfl)
@[simp] theorem isCl_none_list : isCl .none .list = false := (rfl)
@[simp] theorem isCl_none_tuple : isCl .none .tuple = false := (rfl)
@[simp] theorem isCl_none_dict : isCl .none .dict = false := (rfl)
@[simp] theorem isCl_bool_int {b : Bool} : isCl (.bool b) .int = true := (rfl)
@[simp] theorem isCl_bool_bool {b : Bool} : isCl (.bool b) .bool = true := (rfl)
@[simp] theorem isCl_bool_str {b : Bool} : isCl (.bool b) .str = false := (rfl)
@[simp] theorem isCl_bool_list {b : Bool} : isCl (.bool b) .list = false := (rfl)
@[simp] theorem isCl_bool_tuple {b : Bool} : isCl (.bool b) .tuple = false := (rfl)
@[simp] theorem isCl_bool_dict {b : Bool} : isCl (.bool b) .dict = false := (rfl)
@[simp] theorem isCl_int_int {i : Int} : isCl (.int i) .int = true := (rfl)
@[simp] theorem isCl_int_bool {i : Int} : isCl (.int i) .bool = false := (rfl)
@[simp] theorem isCl_int_str {i : Int} : isCl (.int i) .str = false := (rfl)
@[simp] theorem isCl_int_list {i : Int} : isCl (.int i) .list = false := (rfl)
@[simp] theorem isCl_int_tuple {i : Int} : isCl (.int i) .tuple = false := (rfl)
@[simp] theorem isCl_int_dict {i : Int} : isCl (.int i) .dict = false := (rfl)
@[simp] theorem isCl_str_int {s : Str} : isCl (.str s) .int = false := (rfl)
@[simp] theorem isCl_str_bool {s : Str} : isCl (.str s) .bool = false := (rfl)
@[simp] theorem isCl_str_str {s : Str} : isCl (.str s) .str = true := (rfl)
@[simp] theorem isCl_str_list {s : Str} : isCl (.str s) .list = false := (rfl)
@[simp] theorem isCl_str_tuple {s : Str} : isCl (.str s) .tuple = false := (rfl)
@[simp] theorem isCl_str_dict {s : Str} : isCl (.str s) .dict = false := (rfl)
@[simp] theorem isCl_list_int {l : List D} : isCl (.list l) .int = false := (rfl)
@[simp] theorem isCl_list_bool {l : List D} : isCl (.list l) .bool = false := (rfl)
@[simp] theorem isCl_list_str {l : List D} : isCl (.list l) .str = false := (rfl)
@[simp] theorem isCl_list_list {l : List D} : isCl (.list l) .list = true := (rfl)
@[simp] theorem isCl_list_tuple {l : List D} : isCl (.list l) .tuple = false := (rfl)
@[simp] theorem isCl_list_dict {l : List D} : isCl (.list l) .dict = false := (rfl)
@[simp] theorem isCl_tuple_int {l : List D} : isCl (.tuple l) .int = false := (rfl)
@[simp] theorem isCl_tuple_bool {l : List D} : isCl (.tuple l) .bool = false := (rfl)
@[simp] theorem isCl_tuple_str {l : List D} : isCl (.tuple l) .str = false := (rfl)
@[simp] theorem isCl_tuple_list {l : List D} : isCl (.tuple l) .list = false := (rfl)
@[simp] theorem isCl_tuple_tuple {l : List D} : isCl (.tuple l) .tuple = true := (rfl)
@[simp] theorem isCl_tuple_dict {l : List D} : isCl (.tuple l) .dict = false := (rfl)
@[simp] theorem isCl_dict_int {l : List (D × D)} : isCl (.dict l) .int = false := (rfl)
@[simp] theorem isCl_dict_bool {l : List (D × D)} : isCl (.dict l) .bool = false := (rfl)
@[simp] theorem isCl_dict_str {l : List (D × D)} : isCl (.dict l) .str = false := (rfl)
@[simp] theorem isCl_dict_list {l : List (D × D)} : isCl (.dict l) .list = false := (rfl)
@[simp] theorem isCl_dict_tuple {l : List (D × D)} : isCl (.dict l) .tuple = false := (rfl)
@[simp] theorem isCl_dict_dict {l : List (D × D)} : isCl (.dict l) .dict = true := (rfl)
@[simp] theorem truth_none : truth .none = false := (rfl)
@[simp] theorem flag_none : flag .none = (.none, false) := (rfl)
@[simp] theorem isNo_none : isNo .none = true := (rfl)
@[simp] theorem lenNe_l_none {y : D} : lenNe .none y = false := (rfl)
@[simp] theorem lenNe_r_none {y : D} : lenNe y .none = false := by cases y <;> rfl
@[simp] theorem plain_none {n : Nat} : plain n .none = true := by cases n <;> rfl
@[simp] theorem truth_bool {b : Bool} : truth (.bool b) = b := (rfl)
@[simp] theorem flag_bool {b : Bool} : flag (.bool b) = ((.bool b), false) := (rfl)
@[simp] theorem isNo_bool {b : Bool} : isNo (.bool b) = false := (rfl)
@[simp] theorem lenNe_l_bool {b : Bool} {y : D} : lenNe (.bool b) y = false := (rfl)
@[simp] theorem lenNe_r_bool {b : Bool} {y : D} : lenNe y (.bool b) = false := by cases y <;> rfl
@[simp] theorem plain_bool {n : Nat} {b : Bool} : plain n (.bool b) = true := by cases n <;> rfl
@[simp] theorem truth_int {i : Int} : truth (.int i) = (i != 0) := (rfl)
@[simp] theorem flag_int {i : Int} : flag (.int i) = ((.int i), false) := (rfl)
@[simp] theorem isNo_int {i : Int} : isNo (.int i) = false := (rfl)
@[simp] theorem lenNe_l_int {i : Int} {y : D} : lenNe (.int i) y = false := (rfl)
@[simp] theorem lenNe_r_int {i : Int} {y : D} : lenNe y (.int i) = false := by cases y <;> rfl
@[simp] theorem plain_int {n : Nat} {i : Int} : plain n (.int i) = true := by cases n <;> rfl
@[simp] theorem truth_str {s : Str} : truth (.str s) = !(L s).isEmpty := (rfl)
@[simp] theorem flag_str {s : Str} : flag (.str s) = ((.str s), false) := (rfl)
@[simp] theorem isNo_str {s : Str} : isNo (.str s) = false := (rfl)
@[simp] theorem lenNe_l_str {s : Str} {y : D} : lenNe (.str s) y = false := (rfl)
@[simp] theorem lenNe_r_str {s : Str} {y : D} : lenNe y (.str s) = false := by cases y <;> rfl
@[simp] theorem plain_str {n : Nat} {s : Str} : plain n (.str s) = true := by cases n <;> rfl
@[simp] theorem truth_list {l : List D} : truth (.list l) = !l.isEmpty := (rfl)
@[simp] theorem flag_list {l : List D} : flag (.list l) = ((.list l), true) := (rfl)
@[simp] theorem isNo_list {l : List D} : isNo (.list l) = false := (rfl)
@[simp] theorem truth_tuple {l : List D} : truth (.tuple l) = !l.isEmpty := (rfl)
@[simp] theorem flag_tuple {l : List D} : flag (.tuple l) = ((.tuple l), false) := (rfl)
@[simp] theorem isNo_tuple {l : List D} : isNo (.tuple l) = false := (rfl)
@[simp] theorem lenNe_l_tuple {l : List D} {y : D} : lenNe (.tuple l) y = false := (rfl)
@[simp] theorem lenNe_r_tuple {l : List D} {y : D} : lenNe y (.tuple l) = false := by cases y <;> rfl
@[simp] theorem truth_dict {l : List (D × D)} : truth (.dict l) = !l.isEmpty := (rfl)
@[simp] theorem flag_dict {l : List (D × D)} : flag (.dict l) = ((.dict l), true) := (rfl)
@[simp] theorem isNo_dict {l : List (D × D)} : isNo (.dict l) = false := (rfl)
@[simp] theorem lenNe_l_dict {l : List (D × D)} {y : D} : lenNe (.dict l) y = false := (rfl)
@[simp] theorem lenNe_r_dict {l : List (D × D)} {y : D} : lenNe y (.dict l) = false := by cases y <;> rfl
@[simp] theorem plain_list {n : Nat} {l : List D} : plain (n + 1) (.list l) = plains n l := (rfl)
@[simp] theorem plain_tuple {n : Nat} {l : List D} : plain (n + 1) (.tuple l) = plains n l := (rfl)
@[simp] theorem plains_nil {n : Nat} : plains n [] = true := by cases n <;> rfl
@[simp] theorem plains_cons {n : Nat} {x : D} {l : List D} : plains n (x :: l) = (plain n x && plains n l) := by cases n <;> rfl
@[simp] theorem pl_eq {d : D} : pl d = plain 60 d := (rfl)
@[simp] theorem lenNe_list {a b : List D} : lenNe (.list a) (.list b) = (a.length != b.length) := (rfl)
/-! ### operations -/
@[simp] theorem bop_add_int {a b : Int} : bop .add (.int a) (.int b) = some (.int (a + b)) := (rfl)
@[simp] theorem bop_sub_int {a b : Int} : bop .sub (.int a) (.int b) = some (.int (a - b)) := (rfl)
@[simp] theorem bop_add_str {a b : Str} : bop .add (.str a) (.str b) = if (L a).length + (L b).length ≤ cap then some (.str (S (L a ++ L b))) else none := (rfl)
@[simp] theorem bop_add_list {a b : List D} : bop .add (.list a) (.list b) = if a.length + b.length ≤ cap then some (.list (a ++ b)) else none := (rfl)
@[simp] theorem bop_add_tuple {a b : List D} : bop .add (.tuple a) (.tuple b) = if a.length + b.length ≤ cap then some (.tuple (a ++ b)) else none := (rfl)
open Classical in
@[simp] theorem bop_mul_int {a b : Int} : bop .mul (.int a) (.int b) = if mulOk a b then some (.int (a * b)) else none := (rfl)
@[simp] theorem bop_mul_str {a : Str} {b : Int} : bop .mul (.str a) (.int b) = if (L a).length * b.toNat ≤ cap ∧ b.natAbs < 2 ^ 62 then some (.str (S (repL b.toNat (L a)))) else none := (rfl)
@[simp] theorem bop_mul_list {a : List D} {b : Int} : bop .mul (.list a) (.int b) = if a.length * b.toNat ≤ cap ∧ b.natAbs < 2 ^ 62 then some (.list (repL b.toNat a)) else none := (rfl)
def divOk (b : Int) : Prop := 0 < b ∧ b < 2 ^ 8000
instance {b : Int} : Decidable (divOk b) := inferInstanceAs (Decidable (_ ∧ _))
@[simp] theorem divOk_le {b : Int} (h1 : 0 < b) (h2 : b ≤ 18446744073709551616) : divOk b := ⟨h1, Int.lt_of_le_of_lt h2 (by decide +kernel)⟩
def powOk (a b : Int) : Prop := 0 ≤ a ∧ a < 2 ^ 2048 ∧ 0 ≤ b ∧ b < 128
instance {a b : Int} : Decidable (powOk a b) := inferInstanceAs (Decidable (_ ∧ _))
@[simp] theorem powOk_le {a b : Int} (h1 : 0 ≤ a) (h2 : a ≤ 115792089237316195423570985008687907853269984665640564039457584007913129639936) (h3 : 0 ≤ b) (h4 : b < 128) : powOk a b := ⟨h1, Int.lt_of_le_of_lt h2 (by decide +kernel), h3, h4⟩
@[simp] theorem bop_fdiv_int {a b : Int} : bop .fdiv (.int a) (.int b) = if divOk b then some (.int (a / b)) else none := (rfl)
@[simp] theorem bop_mod_int {a b : Int} : bop .mod (.int a) (.int b) = if 0 < b then some (.int (a % b)) else none := (rfl)
@[simp] theorem bop_pow_int {a b : Int} : bop .pow (.int a) (.int b) = if powOk a b then some (.int (a ^ b.toNat)) else none := (rfl)
@[simp] theorem cop_eq {x y : D} : cop .eq x y = if lenNe x y then some (.bool false) else if pl x && pl y then some (.bool (deq x y)) else none := (rfl)
@[simp] theorem cop_ne {x y : D} : cop .ne x y = if lenNe x y then some (.bool true) else if pl x && pl y then some (.bool (!deq x y)) else none := (rfl)
@[simp] theorem cop_lt_int {a b : Int} : cop .lt (.int a) (.int b) = some (.bool (decide (a < b))) := (rfl)
@[simp] theorem cop_le_int {a b : Int} : cop .le (.int a) (.int b) = some (.bool (decide (a ≤ b))) := (rfl)
@[simp] theorem cop_gt_int {a b : Int} : cop .gt (.int a) (.int b) = some (.bool (decide (b < a))) := (rfl)
@[simp] theorem cop_ge_int {a b : Int} : cop .ge (.int a) (.int b) = some (.bool (decide (b ≤ a))) := (rfl)
@[simp] theorem cop_lt_str {a b : Str} : cop .lt (.str a) (.str b) = some (.bool (decide (L a < L b))) := (rfl)
@[simp] theorem cop_gt_str {a b : Str} : cop .gt (.str a) (.str b) = some (.bool (decide (L b < L a))) := (rfl)
@[simp] theorem cop_isN {x : D} : cop .isN x .none = some (.bool (isNo x)) := (rfl)
@[simp] theorem cop_notN {x : D} : cop .notN x .none = some (.bool (!isNo x)) := (rfl)
@[simp] theorem cop_in_list {x : D} {ys : List D} : cop .isin x (.list ys) = if flatD x && ys.all flatD then some (.bool (ys.any fun z => deq z x)) else none := (rfl)
@[simp] theorem cop_in_tuple {x : D} {ys : List D} : cop .isin x (.tuple ys) = if flatD x && ys.all flatD then some (.bool (ys.any fun z => deq z x)) else none := (rfl)
@[simp] theorem cop_in_str {a b : Str} : cop .isin (.str a) (.str b) = some (.bool (subS a b)) := (rfl)
@[simp] theorem cop_notin_list {x : D} {ys : List D} : cop .notin x (.list ys) = if flatD x && ys.all flatD then some (.bool (!(ys.any fun z => deq z x))) else none := (rfl)
@[simp] theorem cop_notin_tuple {x : D} {ys : List D} : cop .notin x (.tuple ys) = if flatD x && ys.all flatD then some (.bool (!(ys.any fun z => deq z x))) else none := (rfl)
@[simp] theorem cop_notin_str {a b : Str} : cop .notin (.str a) (.str b) = some (.bool (!subS a b)) := (rfl)
/-- an item by its place -/
def itemL {α : Type} (l : List α) (i : Int) : Option α := (place l.length i).bind fun j => l[j]?
@[simp] theorem ixD_list {l : List D} {i : Int} : ixD (.list l) (.int i) = itemL l i := (rfl)
@[simp] theorem ixD_tuple {l : List D} {i : Int} : ixD (.tuple l) (.int i) = itemL l i := (rfl)
@[simp] theorem ixD_str {s : Str} {i : Int} : ixD (.str s) (.int i) = (itemL (L s) i).map fun c => .str (S [c]) := by
  show ((place (L s).length i).bind fun j => (L s)[j]?.map fun c => PyData.str (S [c])) = ((place (L s).length i).bind fun j => (L s)[j]?).map fun c => PyData.str (S [c])
  cases place (L s).length i <;> rfl
theorem itemL_nat {α : Type} {l : List α} {i : Nat} : itemL l (i : Int) = l[i]? := by
  unfold itemL place
  rw [if_pos (Int.natCast_nonneg i)]
  split
  · rfl
  · rw [List.getElem?_eq_none (by omega)]; rfl
@[simp] theorem itemL_pos {α : Type} {l : List α} {i : Int} (h : 0 ≤ i) : itemL l i = l[i.toNat]? := by
  obtain ⟨n, rfl⟩ := Int.eq_ofNat_of_zero_le h
  exact itemL_nat
@[simp] theorem itemL_last {α : Type} {l : List α} : itemL l (-1) = l.getLast? := by
  unfold itemL place
  rw [if_neg (by decide)]
  cases l with
  | nil => rfl
  | cons a l =>
    rw [if_pos (by simp only [List.length_cons]; omega), List.getLast?_eq_getElem?]
    have e : (-1 + ((a :: l).length : Int)).toNat = (a :: l).length - 1 := by omega
    rw [Option.bind_some, e]
@[simp] theorem slD_list {l : List D} {lo hi : Option Int} : slD (.list l) lo hi = some (.list (cut l lo hi)) := (rfl)
@[simp] theorem slD_tuple {l : List D} {lo hi : Option Int} : slD (.tuple l) lo hi = some (.tuple (cut l lo hi)) := (rfl)
@[simp] theorem slD_str {s : Str} {lo hi : Option Int} : slD (.str s) lo hi = some (.str (S (cut (L s) lo hi))) := (rfl)
theorem cut_take {α : Type} {l : List α} {i : Int} (h : 0 ≤ i) : cut l none (some i) = l.take i.toNat := by
  unfold cut sEnd
  simp only [List.drop_zero, Nat.sub_zero]
  rw [if_neg (by omega)]
  by_cases z : i.toNat ≤ l.length
  · rw [Nat.min_eq_left z]
  · rw [Nat.min_eq_right (by omega), List.take_length, List.take_of_length_le (by omega)]
theorem cut_drop {α : Type} {l : List α} {i : Int} (h : 0 ≤ i) : cut l (some i) none = l.drop i.toNat := by
  unfold cut sEnd
  dsimp only
  rw [if_neg (by omega)]
  by_cases z : i.toNat ≤ l.length
  · rw [Nat.min_eq_left z, List.take_of_length_le (by simp)]
  · rw [Nat.min_eq_right (by omega), List.drop_length, List.drop_of_length_le (by omega)]
    simp
@[simp] theorem cut_all {α : Type} {l : List α} : cut l none none = l := by
  unfold cut sEnd
  simp
@[simp] theorem revD_list {l : List D} : revD (.list l) = some (.list l.reverse) := (rfl)
@[simp] theorem biD_len_list {l : List D} : biD .len [.list l] = some (.int l.length) := (rfl)
@[simp] theorem biD_len_tuple {l : List D} : biD .len [.tuple l] = some (.int l.length) := (rfl)
@[simp] theorem biD_len_str {s : Str} : biD .len [.str s] = some (.int (L s).length) := (rfl)
@[simp] theorem biD_len_dict {l : List (D × D)} : biD .len [.dict l] = some (.int l.length) := (rfl)
@[simp] theorem biD_abs {i : Int} : biD .abs [.int i] = some (.int (if i < 0 then -i else i)) := (rfl)
@[simp] theorem biD_int {i : Int} : biD .int [.int i] = some (.int i) := (rfl)
@[simp] theorem biD_int_bool {b : Bool} : biD .int [.bool b] = some (.int (if b then 1 else 0)) := (rfl)
@[simp] theorem biD_min {i j : Int} : biD .min [.int i, .int j] = some (.int (if j < i then j else i)) := (rfl)
@[simp] theorem biD_max {i j : Int} : biD .max [.int i, .int j] = some (.int (if j > i then j else i)) := (rfl)
@[simp] theorem biD_list_list {l : List D} : biD .list [.list l] = some (.list l) := (rfl)
@[simp] theorem biD_list_tuple {l : List D} : biD .list [.tuple l] = some (.list l) := (rfl)
@[simp] theorem biD_tuple_list {l : List D} : biD .tuple [.list l] = some (.tuple l) := (rfl)
@[simp] theorem biD_tuple_tuple {l : List D} : biD .tuple [.tuple l] = some (.tuple l) := (rfl)
@[simp] theorem meD_start {a b : Str} : meD .startswith (.str a) [.str b] = some (.bool (Txt.startswith a b)) := (rfl)
@[simp] theorem meD_strip {a b : Str} : meD .strip (.str a) [.str b] = some (.str (Txt.stripChars a b)) := (rfl)
@[simp] theorem meD_find {a b : Str} {i : Int} : meD .find (.str a) [.str b, .int i] = some (.int (Txt.find3 a b i)) := (rfl)
@[simp] theorem keysD_dict {l : List (D × D)} : keysD (.dict l) = some (l.map (·.1)) := (rfl)
@[simp] theorem valsD_dict {l : List (D × D)} : valsD (.dict l) = some (l.map (·.2)) := (rfl)
@[simp] theorem sqD_list {l : List D} : sqD (.list l) = some l := (rfl)
@[simp] theorem sqD_tuple {l : List D} : sqD (.tuple l) = some l := (rfl)
@[simp] theorem sqD_str {s : Str} : sqD (.str s) = some ((L s).map fun c => .str (S [c])) := (rfl)
/-! ### walks -/
def walkS (o : Option Sl) (k : Nat) : Option (List D × Option Nat) := match o with
  | some (.fz d) => (sqD d).map fun l => (l, none)
  | some (.bf d) => (sqD d).map fun l => (l, none)
  | some (.ow d) => (sqD d).map fun l => (l, some k)
  | some (.bw d) => (sqD d).map fun l => (l, some k)
  | some (.ln _ d) => (sqD d).map fun l => (l, some k)
  | _ => none
@[simp] theorem walkS_ln {k : Nat} {b : Bool} {d : D} : walkS (some (.ln b d)) k = (sqD d).map (mapI (some k)) := (rfl)
@[simp] theorem walkOp_v {d : D} : walkOp (.v d) t = (sqD d).map (mapI none) := (rfl)
@[simp] theorem walkOp_i {k : Nat} : walkOp (.i k) t = walkS (t[k]?) k := (rfl)
@[simp] theorem walkS_fz {k : Nat} {d : D} : walkS (some (.fz d)) k = (sqD d).map (mapI none) := (rfl)
@[simp] theorem walkS_bf {k : Nat} {d : D} : walkS (some (.bf d)) k = (sqD d).map (mapI none) := (rfl)
@[simp] theorem walkS_ow {k : Nat} {d : D} : walkS (some (.ow d)) k = (sqD d).map (mapI (some k)) := (rfl)
@[simp] theorem walkS_bw {k : Nat} {d : D} : walkS (some (.bw d)) k = (sqD d).map (mapI (some k)) := (rfl)
@[simp] theorem rngE_eq {os : List Op} : rngE os t = R.of ((rdA os t).bind rngB) t := (rfl)
@[simp] theorem rngD_1 {j : Int} : rngD [.int j] = if small j then some (rangeD 0 j) else none := (rfl)
@[simp] theorem rngD_2 {i j : Int} : rngD [.int i, .int j] = if small i && small j then some (rangeD i j) else none := (rfl)
@[simp] theorem zipE_eq {f : List D → List D} {x y : Op} : zipE f x y t = R.of ((walkOp x t).bind (zipA f y t)) t := (rfl)
def lendS (o : Option Sl) (k : Nat) (t : St) : Option St := match o with
  | some (.ow d) => some (t.set k (.ln false d))
  | some (.bw d) => some (t.set k (.ln true d))
  | some (.ln _ _) => some t
  | _ => none
@[simp] theorem lendS_ln {k : Nat} {b : Bool} {d : D} : lendS (some (.ln b d)) k t = some t := (rfl)
@[simp] theorem lend_none : lend none t = some t := (rfl)
@[simp] theorem lend_some {k : Nat} : lend (some k) t = lendS (t[k]?) k t := (rfl)
@[simp] theorem lendS_ow {k : Nat} {d : D} : lendS (some (.ow d)) k t = some (t.set k (.ln false d)) := (rfl)
@[simp] theorem lendS_bw {k : Nat} {d : D} : lendS (some (.bw d)) k t = some (t.set k (.ln true d)) := (rfl)
open Classical in
noncomputable def unlendS (o : Option Sl) (k : Nat) (t : St) : Option St := match o with
  | some (.ow d) => if t[k]? = some (.ln false d) then some (t.set k (.ow d)) else none
  | some (.bw d) => if t[k]? = some (.ln true d) then some (t.set k (.bw d)) else none
  | some (.ln b d) => if t[k]? = some (.ln b d) then some t else none
  | _ => none
open Classical in
@[simp] theorem unlendS_ln {k : Nat} {b : Bool} {d : D} : unlendS (some (.ln b d)) k t = if t[k]? = some (.ln b d) then some t else none := (rfl)
@[simp] theorem unlend_none {t0 : St} : unlend none t0 t = some t := (rfl)
@[simp] theorem unlend_some {k : Nat} {t0 : St} : unlend (some k) t0 t = unlendS (t0[k]?) k t := (rfl)
open Classical in
@[simp] theorem unlendS_ow {k : Nat} {d : D} : unlendS (some (.ow d)) k t = if t[k]? = some (.ln false d) then some (t.set k (.ow d)) else none := (rfl)
open Classical in
@[simp] theorem unlendS_bw {k : Nat} {d : D} : unlendS (some (.bw d)) k t = if t[k]? = some (.ln true d) then some (t.set k (.bw d)) else none := (rfl)
/-! ### targets, calls -/
def asgS (o : Option Sl) (i : Nat) (s : Sl) (t : St) : Option St := match o with
  | some .un | some (.fz _) | some (.ow _) => some (t.set i s)
  | _ => none
@[simp] theorem asgS_un {i : Nat} {s : Sl} : asgS (some .un) i s t = some (t.set i s) := (rfl)
@[simp] theorem asgS_fz {i : Nat} {s : Sl} {d : D} : asgS (some (.fz d)) i s t = some (t.set i s) := (rfl)
@[simp] theorem asgS_ow {i : Nat} {s : Sl} {d : D} : asgS (some (.ow d)) i s t = some (t.set i s) := (rfl)
@[simp] theorem asgT_nm {i : Nat} {d : D} : asgT (.nm i) d t = asgS (t[i]?) i (.fz d) t := by unfold asgT asgS; rfl
@[simp] theorem asgT_tp {gs : List Tg} {l : List D} : asgT (.tp gs) (.tuple l) t = asgTs gs l t := by rw [asgT]
@[simp] theorem asgTs_nil : asgTs [] [] t = some t := by rw [asgTs]
@[simp] theorem asgTs_cons {g : Tg} {gs : List Tg} {d : D} {ds : List D} : asgTs (g :: gs) (d :: ds) t = (asgT g d t).bind (asgTK gs ds) := by rw [asgTs]; rfl
@[simp] theorem asgN_t {i : Nat} {d : D} : asgN i (d, true) t = asgS (t[i]?) i (.ow d) t := by unfold asgN asgS; rfl
@[simp] theorem asgN_f {i : Nat} {d : D} : asgN i (d, false) t = asgS (t[i]?) i (.fz d) t := by unfold asgN asgS; rfl
def passS (keep : Bool) (o : Option Sl) (k : Nat) (t : St) : Option (Sl × Option Nat × St) := match o with
  | some (.fz d) => some (.fz d, none, t)
  | some (.bf d) => some (.fz d, none, t)
  | some (.ow d) => if keep = true then some (.bw d, some k, t) else some (.fz d, none, t.set k (.fz d))
  | some (.bw d) => if keep = true then some (.bw d, some k, t) else some (.fz d, none, t.set k (.bf d))
  | _ => none
@[simp] theorem pass1_v {keep : Bool} {d : D} : pass1 keep (.v d) t = some (.fz d, none, t) := (rfl)
@[simp] theorem pass1_i {keep : Bool} {k : Nat} : pass1 keep (.i k) t = passS keep (t[k]?) k t := (rfl)
@[simp] theorem passS_fz {keep : Bool} {k : Nat} {d : D} : passS keep (some (.fz d)) k t = some (.fz d, none, t) := (rfl)
@[simp] theorem passS_bf {keep : Bool} {k : Nat} {d : D} : passS keep (some (.bf d)) k t = some (.fz d, none, t) := (rfl)
@[simp] theorem passS_ow_t {k : Nat} {d : D} : passS true (some (.ow d)) k t = some (.bw d, some k, t) := (rfl)
@[simp] theorem passS_bw_t {k : Nat} {d : D} : passS true (some (.bw d)) k t = some (.bw d, some k, t) := (rfl)
@[simp] theorem passS_ow_f {k : Nat} {d : D} : passS false (some (.ow d)) k t = some (.fz d, none, t.set k (.fz d)) := (rfl)
@[simp] theorem passS_bw_f {k : Nat} {d : D} : passS false (some (.bw d)) k t = some (.fz d, none, t.set k (.bf d)) := (rfl)
@[simp] theorem lentO_v {d : D} {ls : List Nat} : lentO (.v d) ls = false := (rfl)
@[simp] theorem lentO_i {k : Nat} {ls : List Nat} : lentO (.i k) ls = ls.contains k := (rfl)
@[simp] theorem passA_nil {ks : List Bool} {ls : List Nat} : passA ks [] ls t = some ([], [], t) := by unfold passA; rfl
@[simp] theorem passA_cons {ks : List Bool} {o : Op} {os : List Op} {ls : List Nat} : passA ks (o :: os) ls t = if lentO o ls = true then none else (pass1 (ks.headD false) o t).bind (passK ks.tail os ls) := by rw [passA]; rfl
def backS (o : Option Sl) (s : Sl) (k : Nat) (t : St) : Option St := match o, s with
  | some (.ow _), .bw d => some (t.set k (.ow d))
  | some (.ow _), .bf d => some (t.set k (.fz d))
  | some (.bw _), .bw d => some (t.set k (.bw d))
  | some (.bw _), .bf d => some (t.set k (.bf d))
  | _, _ => none
@[simp] theorem back1_none {s : Sl} : back1 none s t = some t := (rfl)
@[simp] theorem back1_some {k : Nat} {s : Sl} : back1 (some k) s t = backS (t[k]?) s k t := (rfl)
@[simp] theorem backS_oo {d e : D} {k : Nat} : backS (some (.ow d)) (.bw e) k t = some (t.set k (.ow e)) := (rfl)
@[simp] theorem backS_of {d e : D} {k : Nat} : backS (some (.ow d)) (.bf e) k t = some (t.set k (.fz e)) := (rfl)
@[simp] theorem backS_bo {d e : D} {k : Nat} : backS (some (.bw d)) (.bw e) k t = some (t.set k (.bw e)) := (rfl)
@[simp] theorem backS_bf {d e : D} {k : Nat} : backS (some (.bw d)) (.bf e) k t = some (t.set k (.bf e)) := (rfl)
@[simp] theorem backA_nil {f : St} : backA [] f t = some t := by unfold backA; rfl
@[simp] theorem backA_cons {l : Option Nat} {ls : List (Option Nat)} {s : Sl} {ss : St} : backA (l :: ls) (s :: ss) t = (back1 l s t).bind (backK ls ss) := by rw [backA]; rfl
/-! ### statements -/
@[simp] theorem exSs_nil : exSs P cs hot .nil t = .nx t := by rw [exSs]
@[simp] theorem exSs_cons {s : Sm} {r : Ss} : exSs P cs hot (.cons s r) t = (exS P cs hot s t).seq (exSs P cs hot r) := by rw [exSs]
@[simp] theorem exS_asg_nm {i : Nat} {e : E} : exS P cs hot (.asg (.nm i) e) t = (evE P cs hot e t).fl (asgK i) := by rw [exS]; rfl
@[simp] theorem exS_asg_tp {gs : List Tg} {e : E} : exS P cs hot (.asg (.tp gs) e) t = (kSh (evE P cs hot e) t).fl (asgP gs) := by rw [exS]; rfl
@[simp] theorem exS_set {i : Nat} {b e : E} : exS P cs false (.set i b e) t = (kSh (evE P cs false e) t).fl (setA i (opn b (evE P cs false b))) := by rw [exS]; rfl
def setS (o : Option Sl) (y : Option D) (i : Nat) (v : D) (t : St) : Fl := match o, y with
  | some (.ow (.list l)), some (.int z) => (match place l.length z with
    | some j => .nx (t.set i (.ow (.list (l.set j v))))
    | none => .bad)
  | some (.bw (.list l)), some (.int z) => (match place l.length z with
    | some j => .nx (t.set i (.bw (.list (l.set j v))))
    | none => .bad)
  | _, _ => .bad
@[simp] theorem setE_eq {i : Nat} {v : D} {y : Op} : setE i v y t = setS (t[i]?) (rd y t) i v t := (rfl)
@[simp] theorem place_pos {n : Nat} {i : Int} (h : 0 ≤ i) (h2 : i < n) : place n i = some i.toNat := by unfold place; rw [if_pos h, if_pos h2]
@[simp] theorem setS_ow {l : List D} {z : Int} {i : Nat} {v : D} : setS (some (.ow (.list l))) (some (.int z)) i v t = nxO ((place l.length z).map (setT t i l v true)) := by
  show (match place l.length z with
    | some j => Fl.nx (t.set i (.ow (.list (l.set j v))))
    | none => .bad) = _
  cases place l.length z <;> rfl
@[simp] theorem setS_bw {l : List D} {z : Int} {i : Nat} {v : D} : setS (some (.bw (.list l))) (some (.int z)) i v t = nxO ((place l.length z).map (setT t i l v false)) := by
  show (match place l.length z with
    | some j => Fl.nx (t.set i (.bw (.list (l.set j v))))
    | none => .bad) = _
  cases place l.length z <;> rfl
@[simp] theorem exS_ex {e : E} : exS P cs hot (.ex e) t = (evE P cs hot e t).fl nxK := by rw [exS]; rfl
def retS (o : Option Sl) (i : Nat) (t : St) : Fl := match o with
  | some (.ow d) => .rt (d, true) (t.set i .un)
  | _ => (kVar i t).fl fun v t => .rt v t
@[simp] theorem exS_ret_var {i : Nat} : exS P cs hot (.ret (.var i)) t = retS (t[i]?) i t := by rw [exS]; unfold retE retS; rfl
@[simp] theorem retS_ow {d : D} {i : Nat} : retS (some (.ow d)) i t = .rt (d, true) (t.set i .un) := (rfl)
@[simp] theorem retS_fz {d : D} {i : Nat} : retS (some (.fz d)) i t = (kVar i t).fl rtK1 := (rfl)
@[simp] theorem retS_bw {d : D} {i : Nat} : retS (some (.bw d)) i t = (kVar i t).fl rtK1 := (rfl)
@[simp] theorem retS_bf {d : D} {i : Nat} : retS (some (.bf d)) i t = (kVar i t).fl rtK1 := (rfl)

@[simp] theorem exS_ret_c {d : D} : exS P cs hot (.ret (.c d)) t = (evE P cs hot (.c d) t).fl rtK1 := by rw [exS]; rfl
@[simp] theorem exS_ret_g {k : Nat} : exS P cs hot (.ret (.g k)) t = (evE P cs hot (.g k) t).fl rtK1 := by rw [exS]; rfl
@[simp] theorem exS_ret_bin {op : Bop} {a b : E} : exS P cs hot (.ret (.bin op a b)) t = (evE P cs hot (.bin op a b) t).fl rtK1 := by rw [exS]; rfl
@[simp] theorem exS_ret_neg {a : E} : exS P cs hot (.ret (.neg a)) t = (evE P cs hot (.neg a) t).fl rtK1 := by rw [exS]; rfl
@[simp] theorem exS_ret_not {a : E} : exS P cs hot (.ret (.not a)) t = (evE P cs hot (.not a) t).fl rtK1 := by rw [exS]; rfl
@[simp] theorem exS_ret_cmp {op : Cop} {a b : E} : exS P cs hot (.ret (.cmp op a b)) t = (evE P cs hot (.cmp op a b) t).fl rtK1 := by rw [exS]; rfl
@[simp] theorem exS_ret_cmp2 {op op2 : Cop} {a b c : E} : exS P cs hot (.ret (.cmp2 op op2 a b c)) t = (evE P cs hot (.cmp2 op op2 a b c) t).fl rtK1 := by rw [exS]; rfl
@[simp] theorem exS_ret_and {es : Es} : exS P cs hot (.ret (.and es)) t = (evE P cs hot (.and es) t).fl rtK1 := by rw [exS]; rfl
@[simp] theorem exS_ret_or {es : Es} : exS P cs hot (.ret (.or es)) t = (evE P cs hot (.or es) t).fl rtK1 := by rw [exS]; rfl
@[simp] theorem exS_ret_ife {c a b : E} : exS P cs hot (.ret (.ife c a b)) t = (evE P cs hot (.ife c a b) t).fl rtK1 := by rw [exS]; rfl
@[simp] theorem exS_ret_tup {es : Es} : exS P cs hot (.ret (.tup es)) t = (evE P cs hot (.tup es) t).fl rtK1 := by rw [exS]; rfl
@[simp] theorem exS_ret_lst {es : Es} : exS P cs hot (.ret (.lst es)) t = (evE P cs hot (.lst es) t).fl rtK1 := by rw [exS]; rfl
@[simp] theorem exS_ret_dic0 : exS P cs hot (.ret .dic0) t = (evE P cs hot .dic0 t).fl rtK1 := by rw [exS]; rfl
@[simp] theorem exS_ret_ix {a b : E} : exS P cs hot (.ret (.ix a b)) t = (evE P cs hot (.ix a b) t).fl rtK1 := by rw [exS]; rfl
@[simp] theorem exS_ret_sl {a : E} {lo hi : O} : exS P cs hot (.ret (.sl a lo hi)) t = (evE P cs hot (.sl a lo hi) t).fl rtK1 := by rw [exS]; rfl
@[simp] theorem exS_ret_rev {a : E} : exS P cs hot (.ret (.rev a)) t = (evE P cs hot (.rev a) t).fl rtK1 := by rw [exS]; rfl
@[simp] theorem exS_ret_call {k : Nat} {es : Es} : exS P cs hot (.ret (.call k es)) t = (evE P cs hot (.call k es) t).fl rtK1 := by rw [exS]; rfl
@[simp] theorem exS_ret_bi {f : Bf} {es : Es} : exS P cs hot (.ret (.bi f es)) t = (evE P cs hot (.bi f es) t).fl rtK1 := by rw [exS]; rfl
@[simp] theorem exS_ret_me {m : Mf} {a : E} {es : Es} : exS P cs hot (.ret (.me m a es)) t = (evE P cs hot (.me m a es) t).fl rtK1 := by rw [exS]; rfl
@[simp] theorem exS_ret_lkeys {a : E} : exS P cs hot (.ret (.lkeys a)) t = (evE P cs hot (.lkeys a) t).fl rtK1 := by rw [exS]; rfl
@[simp] theorem exS_ret_lvals {a : E} : exS P cs hot (.ret (.lvals a)) t = (evE P cs hot (.lvals a) t).fl rtK1 := by rw [exS]; rfl
@[simp] theorem exS_ret_pop {i : Nat} : exS P cs hot (.ret (.pop i)) t = (evE P cs hot (.pop i) t).fl rtK1 := by rw [exS]; rfl
@[simp] theorem exS_ret_app {i : Nat} {a : E} : exS P cs hot (.ret (.app i a)) t = (evE P cs hot (.app i a) t).fl rtK1 := by rw [exS]; rfl
@[simp] theorem exS_ret_ext {i : Nat} {a : E} : exS P cs hot (.ret (.ext i a)) t = (evE P cs hot (.ext i a) t).fl rtK1 := by rw [exS]; rfl
@[simp] theorem exS_ret_isi {a : E} {cl : List Cl} : exS P cs hot (.ret (.isi a cl)) t = (evE P cs hot (.isi a cl) t).fl rtK1 := by rw [exS]; rfl
@[simp] theorem exS_ret_fld {i f : Nat} : exS P cs hot (.ret (.fld i f)) t = (evE P cs hot (.fld i f) t).fl rtK1 := by rw [exS]; rfl
@[simp] theorem exS_ret_lc {elt : E} {own : List Nat} {tg : Tg} {it : It} {c : Es} : exS P cs hot (.ret (.lc elt own tg it c)) t = (evE P cs hot (.lc elt own tg it c) t).fl rtK1 := by rw [exS]; rfl
@[simp] theorem exS_ret0 : exS P cs hot .ret0 t = .rt (.none, false) t := by rw [exS]
@[simp] theorem exS_ite {c : E} {a b : Ss} : exS P cs hot (.ite c a b) t = (evT P cs hot c t).fl (iteK P cs hot a b) := by rw [exS]; rfl
@[simp] theorem exS_whl {c : E} {b : Ss} : exS P cs false (.whl c b) t = whlLoop (evT P cs false c) (exSs P cs false b) wfuel t := by rw [exS]; rfl
def lendK (o : Option St) (k : St → Fl) : Fl := match o with
  | none => .bad
  | some t1 => k t1
@[simp] theorem lendK_some {k : St → Fl} : lendK (some t) k = k t := (rfl)
noncomputable def forB (turn : D → St → Fl) (l : Option Nat) (xs : List D) (t t1 : St) : Fl := unlendF l t (forLoop turn xs t1)
@[simp] theorem forB_eq {turn : D → St → Fl} {l : Option Nat} {xs : List D} {t1 : St} : forB turn l xs t t1 = unlendF l t (forLoop turn xs t1) := (rfl)
noncomputable def forA (turn : D → St → Fl) (w : List D × Option Nat) (t : St) : Fl := lendK (lend w.2 t) (forB turn w.2 w.1 t)
@[simp] theorem forA_eq {turn : D → St → Fl} {w : List D × Option Nat} : forA turn w t = lendK (lend w.2 t) (forB turn w.2 w.1 t) := (rfl)
@[simp] theorem exS_for {g : Tg} {it : It} {b : Ss} : exS P cs false (.for_ g it b) t = (evIt P cs false it t).fl (forA (forT g (exSs P cs false b))) := by rw [exS]; rfl
@[simp] theorem exS_brk : exS P cs hot .brk t = .bk t := by rw [exS]
@[simp] theorem exS_cnt : exS P cs hot .cnt t = .ct t := by rw [exS]
@[simp] theorem exS_pass : exS P cs hot .pass t = .nx t := by rw [exS]
@[simp] theorem exK_some {x : Ex} : exK (some x) t = .rs x t := (rfl)
@[simp] theorem mkEx_eq {fs : List Nat} {k : Nat} {ds : List D} : mkEx fs k ds = if ds.length = fs.length then some ⟨k, fs.zip ds⟩ else none := (rfl)
@[simp] theorem exS_raise {k : Nat} {es : Es} : exS P cs false (.raise k es) t = (evEs P cs false es t).fl (raiK P k) := by rw [exS]; rfl
def tryK (f : Fl) (hs : Ex → St → Fl) : Fl := match f with
  | .rs x t' => hs x t'
  | r => r
@[simp] theorem tryK_rs {x : Ex} {hs : Ex → St → Fl} : tryK (.rs x t) hs = hs x t := (rfl)
@[simp] theorem tryK_nx {hs : Ex → St → Fl} : tryK (.nx t) hs = .nx t := (rfl)
@[simp] theorem tryK_rt {v : Rv} {hs : Ex → St → Fl} : tryK (.rt v t) hs = .rt v t := (rfl)
@[simp] theorem tryK_bk {hs : Ex → St → Fl} : tryK (.bk t) hs = .bk t := (rfl)
@[simp] theorem tryK_ct {hs : Ex → St → Fl} : tryK (.ct t) hs = .ct t := (rfl)
@[simp] theorem exS_try {b : Ss} {hs : Hs} : exS P cs false (.try_ b hs) t = tryK (exSs P cs false b t) (exHs P cs hs) := by rw [exS]; rfl
@[simp] theorem exHs_nil {x : Ex} : exHs P cs .nil x t = .rs x t := by rw [exHs]
def inK (o : Option St) (nm : Option Nat) (suite : St → Fl) : Fl := match o with
  | some t' => offS nm (suite t')
  | none => .bad
@[simp] theorem inK_some {nm : Option Nat} {suite : St → Fl} : inK (some t) nm suite = offS nm (suite t) := (rfl)
@[simp] theorem exHs_cons {c : Cl} {nm : Option Nat} {b : Ss} {r : Hs} {x : Ex} : exHs P cs (.cons c nm b r) x t = if isX P c = true ∧ (P.sup x.c).contains x.c = true then (if isExc P x.c c = true then inK (exSl nm x t) nm (exSs P cs true b) else exHs P cs r x t) else .bad := by rw [exHs]; rfl
@[simp] theorem isX_own {k : Nat} : isX P (.own k) = (P.sup k).contains k := (rfl)
@[simp] theorem isX_VE : isX P .VE = true := (rfl)
@[simp] theorem isExc_own {k j : Nat} : isExc P k (.own j) = (P.sup k).contains j := (rfl)
@[simp] theorem isExc_VE {k : Nat} : isExc P k .VE = true := (rfl)
def exSlS (o : Option Sl) (i : Nat) (x : Ex) (t : St) : Option St := match o with
  | some .un => some (t.set i (.ex x))
  | _ => none
@[simp] theorem exSl_none {x : Ex} : exSl none x t = some t := (rfl)
@[simp] theorem exSl_some {x : Ex} {i : Nat} : exSl (some i) x t = exSlS (t[i]?) i x t := (rfl)
@[simp] theorem exSlS_un {x : Ex} {i : Nat} : exSlS (some .un) i x t = some (t.set i (.ex x)) := (rfl)
@[simp] theorem dropI_none : dropI none t = t := (rfl)
@[simp] theorem dropI_some {i : Nat} : dropI (some i) t = t.set i .un := (rfl)
@[simp] theorem offS_nx {i : Option Nat} : offS i (.nx t) = clS (dropI i t) (.nx (dropI i t)) := (rfl)
@[simp] theorem offS_bk {i : Option Nat} : offS i (.bk t) = clS (dropI i t) (.bk (dropI i t)) := (rfl)
@[simp] theorem offS_ct {i : Option Nat} : offS i (.ct t) = clS (dropI i t) (.ct (dropI i t)) := (rfl)
@[simp] theorem offS_rt {i : Option Nat} {v : Rv} : offS i (.rt v t) = clS (dropI i t) (.rt v (dropI i t)) := (rfl)
@[simp] theorem clS_eq {f : Fl} : clS t f = if noEx t = true then f else .bad := (rfl)
@[simp] theorem noEx_nil : noEx [] = true := (rfl)
@[simp] theorem noEx_cons {s : Sl} : noEx (s :: t) = (!isEx s && noEx t) := (rfl)
@[simp] theorem isEx_un : isEx .un = false := (rfl)
@[simp] theorem isEx_fz {d : D} : isEx (.fz d) = false := (rfl)
@[simp] theorem isEx_ow {d : D} : isEx (.ow d) = false := (rfl)
@[simp] theorem isEx_bw {d : D} : isEx (.bw d) = false := (rfl)
@[simp] theorem isEx_bf {d : D} : isEx (.bf d) = false := (rfl)
@[simp] theorem isEx_ln {b : Bool} {d : D} : isEx (.ln b d) = false := (rfl)
@[simp] theorem forT_nm {i : Nat} {body : St → Fl} {x : D} : forT (.nm i) body x t = lendK (asgS (t[i]?) i (.fz x) t) body := by
  unfold forT
  rw [asgT_nm]
  cases asgS (t[i]?) i (.fz x) t <;> rfl
@[simp] theorem forT_tp {gs : List Tg} {body : St → Fl} {x : D} : forT (.tp gs) body x t = lendK (asgT (.tp gs) x t) body := by
  unfold forT
  cases asgT (.tp gs) x t <;> rfl
@[simp] theorem unlendF_nx {l : Option Nat} {t0 : St} : unlendF l t0 (.nx t) = nxO (unlend l t0 t) := (rfl)
def rtK (o : Option St) (v : Rv) : Fl := match o with
  | some t' => .rt v t'
  | none => .bad
@[simp] theorem rtK_some {v : Rv} : rtK (some t) v = .rt v t := (rfl)
@[simp] theorem unlendF_rt {l : Option Nat} {t0 : St} {v : Rv} : unlendF l t0 (.rt v t) = rtK (unlend l t0 t) v := by unfold unlendF rtK; rfl
def rsF (o : Option St) (x : Ex) : Fl := match o with
  | some t' => .rs x t'
  | none => .bad
@[simp] theorem rsF_some {x : Ex} : rsF (some t) x = .rs x t := (rfl)
@[simp] theorem unlendF_rs {l : Option Nat} {t0 : St} {x : Ex} : unlendF l t0 (.rs x t) = rsF (unlend l t0 t) x := by unfold unlendF rsF; rfl
@[simp] theorem fins_nx {np : Nat} : fins np (.nx t) = .ok (.none, false) (t.take np) := (rfl)
@[simp] theorem fins_rt {np : Nat} {v : Rv} : fins np (.rt v t) = .ok v (t.take np) := (rfl)
@[simp] theorem fins_rs {np : Nat} {x : Ex} : fins np (.rs x t) = .rs x (t.take np) := (rfl)
theorem callN_eq {f : Df} {n k : Nat} {args : St} (h : P.df k = some f) (hl : args.length = f.np) : callN P (n + 1) k args = fins f.np (exSs P (callN P n) false f.body (args ++ List.replicate (f.ns - f.np) .un)) := by
  unfold callN
  rw [h]
  dsimp only
  rw [if_pos hl]
/-! ### loops -/
@[simp] theorem forLoop_nil {turn : D → St → Fl} : forLoop turn [] t = .nx t := (rfl)
theorem forLoop_nx {turn : D → St → Fl} {x : D} {xs : List D} {t' : St} (h : turn x t = .nx t') : forLoop turn (x :: xs) t = forLoop turn xs t' := by
  rw [forLoop, h]
theorem forLoop_ct {turn : D → St → Fl} {x : D} {xs : List D} {t' : St} (h : turn x t = .ct t') : forLoop turn (x :: xs) t = forLoop turn xs t' := by
  rw [forLoop, h]
theorem forLoop_bk {turn : D → St → Fl} {x : D} {xs : List D} {t' : St} (h : turn x t = .bk t') : forLoop turn (x :: xs) t = .nx t' := by
  rw [forLoop, h]
theorem forLoop_rt {turn : D → St → Fl} {x : D} {xs : List D} {v : Rv} {t' : St} (h : turn x t = .rt v t') : forLoop turn (x :: xs) t = .rt v t' := by
  rw [forLoop, h]
theorem forLoop_rs {turn : D → St → Fl} {x : D} {xs : List D} {v : Ex} {t' : St} (h : turn x t = .rs v t') : forLoop turn (x :: xs) t = .rs v t' := by
  rw [forLoop, h]
/-- a loop by its invariant -/
theorem forLoop_inv {turn : D → St → Fl} (I : Nat → St → Prop) : ∀ {xs : List D} {k : Nat} {t : St}, I k t → (∀ i x t, xs[i]? = some x → I (k + i) t → ∃ t', (turn x t = .nx t' ∨ turn x t = .ct t') ∧ I (k + i + 1) t') → ∃ t', forLoop turn xs t = .nx t' ∧ I (k + xs.length) t'
  | [], k, t, h, _ => ⟨t, rfl, h⟩
  | x :: xs, k, t, h, step => by
    obtain ⟨t', e, h'⟩ := step 0 x t rfl h
    obtain ⟨t2, e2, h2⟩ := forLoop_inv I (xs := xs) (k := k + 1) (t := t') h' fun i y u hy hu => by
      have := step (i + 1) y u (by simpa using hy) (by rw [show k + (i + 1) = k + 1 + i by omega]; exact hu)
      rw [show k + (i + 1) + 1 = k + 1 + i + 1 by omega] at this
      exact this
    refine ⟨t2, ?_, by rw [List.length_cons, show k + (xs.length + 1) = k + 1 + xs.length by omega]; exact h2⟩
    rcases e with e | e
    · rw [forLoop_nx e, e2]
    · rw [forLoop_ct e, e2]
/-- a comprehension whose turns leave the slots as they are -/
theorem lcLoop_map {turn : D → St → R (List D)} {g : D → List D} : ∀ {xs : List D}, (∀ x ∈ xs, turn x t = .ok (g x) t) → lcLoop turn xs t = .ok (xs.flatMap g) t
  | [], _ => rfl
  | x :: xs, h => by
    rw [lcLoop, h x List.mem_cons_self, R.bind_ok, lcLoop_map fun y hy => h y (List.mem_cons_of_mem _ hy)]
    rfl
end
end Mp

/-! Part 42: comprehensions as rules. -/
namespace Mp
open PySem
noncomputable section
def eltV (v : Rv) (t : St) : R (List D) := .ok [v.1] t
@[simp] theorem eltV_eq {v : Rv} {t : St} : eltV v t = .ok [v.1] t := (rfl)
def eltK (P : Pr) (cs : Cs) (e : E) (t : St) : R (List D) := (evE P cs false e t).bind eltV
@[simp] theorem eltK_eq {P : Pr} {cs : Cs} {e : E} {t : St} : eltK P cs e t = (evE P cs false e t).bind eltV := (rfl)
def lcC (ds : List D) (t3 t : St) : R Rv := if ds.length ≤ cap then .ok (.list ds, true) t3 else .bad
@[simp] theorem lcC_eq {ds : List D} {t3 t : St} : lcC ds t3 t = if ds.length ≤ cap then .ok (.list ds, true) t3 else .bad := (rfl)
def lcB (own : List Nat) (turn : D → St → R (List D)) (w : List D × Option Nat) (t t1 t2 : St) : R Rv := kLcEnd own w.2 t t1 (lcLoop turn w.1 (wipeS t1 own))
@[simp] theorem lcB_eq {own : List Nat} {turn : D → St → R (List D)} {w : List D × Option Nat} {t t1 t2 : St} : lcB own turn w t t1 t2 = kLcEnd own w.2 t t1 (lcLoop turn w.1 (wipeS t1 own)) := (rfl)
def lcA (own : List Nat) (turn : D → St → R (List D)) (w : List D × Option Nat) (t : St) : R Rv := (R.of (lend w.2 t) t).bind (lcB own turn w t)
@[simp] theorem lcA_eq {own : List Nat} {turn : D → St → R (List D)} {w : List D × Option Nat} {t : St} : lcA own turn w t = (R.of (lend w.2 t) t).bind (lcB own turn w t) := (rfl)
@[simp] theorem kLcEnd_ok {own : List Nat} {l : Option Nat} {t t1 t2 : St} {ds : List D} : kLcEnd own l t t1 (.ok ds t2) = (R.of (unlend l t (restS t2 t1 own)) t2).bind (lcC ds) := (rfl)
@[simp] theorem evE_lc {P : Pr} {cs : Cs} {t : St} {elt : E} {own : List Nat} {tg : Tg} {it : It} {c : Es} : evE P cs false (.lc elt own tg it c) t = (evIt P cs false it t).bind (lcA own (kTurn own tg (evCs P cs false c) (eltK P cs elt))) := by rw [evE]; rfl
@[simp] theorem wipeS_nil {t : St} : wipeS t [] = t := (rfl)
@[simp] theorem wipeS_cons {t : St} {v : Nat} {vs : List Nat} : wipeS t (v :: vs) = (wipeS t vs).set v .un := (rfl)
@[simp] theorem restS_nil {t t0 : St} : restS t t0 [] = t := (rfl)
@[simp] theorem restS_cons {t t0 : St} {v : Nat} {vs : List Nat} : restS t t0 (v :: vs) = (restS t t0 vs).set v (t0.getD v .un) := (rfl)
def tnC (own : List Nat) (l : List D) (t : St) : R (List D) := .ok l (wipeS t own)
@[simp] theorem tnC_eq {own : List Nat} {l : List D} {t : St} : tnC own l t = .ok l (wipeS t own) := (rfl)
def tnB (own : List Nat) (body : St → R (List D)) (b : Bool) (t : St) : R (List D) := if b = true then (body t).bind (tnC own) else .ok [] (wipeS t own)
@[simp] theorem tnB_t {own : List Nat} {body : St → R (List D)} {t : St} : tnB own body true t = (body t).bind (tnC own) := (rfl)
@[simp] theorem tnB_f {own : List Nat} {body : St → R (List D)} {t : St} : tnB own body false t = .ok [] (wipeS t own) := (rfl)
def tnA (own : List Nat) (cond : St → R Bool) (body : St → R (List D)) (t u : St) : R (List D) := (cond t).bind (tnB own body)
@[simp] theorem tnA_eq {own : List Nat} {cond : St → R Bool} {body : St → R (List D)} {t u : St} : tnA own cond body t u = (cond t).bind (tnB own body) := (rfl)
@[simp] theorem kTurn_eq {own : List Nat} {tg : Tg} {cond : St → R Bool} {body : St → R (List D)} {x : D} {t : St} : kTurn own tg cond body x t = (R.of (asgT tg x t) t).bind (tnA own cond body) := (rfl)
theorem lcLoop_map1 {turn : D → St → R (List D)} {f : D → D} {t : St} {xs : List D} (h : ∀ x ∈ xs, turn x t = .ok [f x] t) : lcLoop turn xs t = .ok (xs.map f) t := by
  rw [lcLoop_map (g := fun x => [f x]) h]
  congr 1
  induction xs with
  | nil => rfl
  | cons x xs ih => simp [List.flatMap_cons, List.map_cons, ih fun y hy => h y (List.mem_cons_of_mem _ hy)]
theorem lcLoop_id {turn : D → St → R (List D)} {t : St} {xs : List D} (h : ∀ x ∈ xs, turn x t = .ok [x] t) : lcLoop turn xs t = .ok xs t := by
  rw [lcLoop_map1 (f := id) h, List.map_id]
theorem lcLoop_filter {turn : D → St → R (List D)} {f : D → D} {p : D → Bool} {t : St} {xs : List D} (h : ∀ x ∈ xs, turn x t = .ok (if p x = true then [f x] else []) t) : lcLoop turn xs t = .ok ((xs.filter p).map f) t := by
  rw [lcLoop_map (g := fun x => if p x = true then [f x] else []) h]
  congr 1
  induction xs with
  | nil => rfl
  | cons x xs ih =>
    rw [List.flatMap_cons, ih fun y hy => h y (List.mem_cons_of_mem _ hy), List.filter_cons]
    split <;> simp
/-- a slot that a name may take -/
def Asg (sl : Sl) : Prop := sl = .un ∨ (∃ d, sl = .fz d) ∨ ∃ d, sl = .ow d
theorem Asg.un : Asg .un := .inl rfl
theorem Asg.fz {d : D} : Asg (.fz d) := .inr (.inl ⟨d, rfl⟩)
theorem Asg.ow {d : D} : Asg (.ow d) := .inr (.inr ⟨d, rfl⟩)
theorem asgS_asg {sl : Sl} {i : Nat} {s : Sl} {t : St} (h : Asg sl) : asgS (some sl) i s t = some (t.set i s) := by
  rcases h with rfl | ⟨d, rfl⟩ | ⟨d, rfl⟩ <;> rfl
@[simp] theorem small_le {i : Int} (h1 : -1000000000000 ≤ i) (h2 : i ≤ 1000000000000) : small i = true := by
  unfold small
  rw [decide_eq_true (show -(2 ^ 62) ≤ i by omega), decide_eq_true (show i < 2 ^ 62 by omega)]
  rfl
@[simp] theorem deq_int' {a b : Int} : deq (.int a) (.int b) = decide (a = b) := deq_int a b
@[simp] theorem deq_bool' {a b : Bool} : deq (.bool a) (.bool b) = (a == b) := deq_bool a b
@[simp] theorem deq_str' {a b : Str} : deq (.str a) (.str b) = decide (L a = L b) := by
  have := deq_str (L a) (L b)
  rwa [S_ext, S_ext] at this
@[simp] theorem deq_nil : deq (.list []) (.list []) = true := by
  rw [deq_list]; rfl
end
end Mp

/-! Part 43: pop(i), two-row comprehensions, x += n, a, b = c, d, str, all, any, sum, join as rules. -/
namespace Mp
open PySem
noncomputable section
section
variable {P : Pr} {cs : Cs} {hot : Bool} {t : St}
@[simp] theorem evE_popi {i : Nat} {a : E} : evE P cs false (.popi i a) t = kPopi i (kSh (evE P cs false a)) t := by rw [evE] <;> rfl
@[simp] theorem opn_popi {i : Nat} {a : E} {r : St → R Rv} : opn (.popi i a) r t = (r t).bind opK := (rfl)
@[simp] theorem exS_ret_popi {i : Nat} {a : E} : exS P cs hot (.ret (.popi i a)) t = (evE P cs hot (.popi i a) t).fl rtK1 := by rw [exS]; rfl
/-- what pop(z) gives and leaves -/
def popR (l : List D) (z : Int) : Option (D × List D) := (place l.length z).bind fun j => l[j]?.map fun d => (d, l.eraseIdx j)
def popW (w : Bool) (i : Nat) (p : D × List D) (t : St) : R Rv := .ok (p.1, false) (t.set i (if w = true then .ow (.list p.2) else .bw (.list p.2)))
@[simp] theorem popW_eq {w : Bool} {i : Nat} {p : D × List D} : popW w i p t = .ok (p.1, false) (t.set i (if w = true then .ow (.list p.2) else .bw (.list p.2))) := (rfl)
def popiS (o : Option Sl) (i : Nat) (d : D) (t : St) : R Rv := match o, d with
  | some (.ow (.list l)), .int z => (match place l.length z with
    | some j => (match l[j]? with
      | some d => .ok (d, false) (t.set i (.ow (.list (l.eraseIdx j))))
      | none => .bad)
    | none => .bad)
  | some (.bw (.list l)), .int z => (match place l.length z with
    | some j => (match l[j]? with
      | some d => .ok (d, false) (t.set i (.bw (.list (l.eraseIdx j))))
      | none => .bad)
    | none => .bad)
  | _, _ => .bad
@[simp] theorem popiE_eq {i : Nat} {v : Rv} : popiE i v t = popiS (t[i]?) i v.1 t := (rfl)
@[simp] theorem popiS_ow {i : Nat} {l : List D} {z : Int} : popiS (some (.ow (.list l))) i (.int z) t = (R.of (popR l z) t).bind (popW true i) := by
  show (match place l.length z with
    | some j => (match l[j]? with
      | some d => R.ok (d, false) (t.set i (.ow (.list (l.eraseIdx j))))
      | none => .bad)
    | none => .bad) = _
  unfold popR
  cases place l.length z with
  | none => rfl
  | some j =>
    rw [Option.bind_some]
    dsimp only
    cases h : l[j]? with
    | none => rfl
    | some d => rfl
@[simp] theorem popiS_bw {i : Nat} {l : List D} {z : Int} : popiS (some (.bw (.list l))) i (.int z) t = (R.of (popR l z) t).bind (popW false i) := by
  show (match place l.length z with
    | some j => (match l[j]? with
      | some d => R.ok (d, false) (t.set i (.bw (.list (l.eraseIdx j))))
      | none => .bad)
    | none => .bad) = _
  unfold popR
  cases place l.length z with
  | none => rfl
  | some j =>
    rw [Option.bind_some]
    dsimp only
    cases h : l[j]? with
    | none => rfl
    | some d => rfl
def popiK (i : Nat) (a : St → R Rv) (u : Unit) (t : St) : R Rv := (a t).bind (popiE i)
@[simp] theorem popiK_eq {i : Nat} {a : St → R Rv} {u : Unit} : popiK i a u t = (a t).bind (popiE i) := (rfl)
@[simp] theorem kPopi_eq {i : Nat} {a : St → R Rv} : kPopi i a t = (R.of (isLs i t) t).bind (popiK i a) := (rfl)
theorem popR_nat {l : List D} {n : Nat} {d : D} (h : l[n]? = some d) : popR l (n : Int) = some (d, l.eraseIdx n) := by
  have hn : n < l.length := (List.getElem?_eq_some_iff.mp h).1
  unfold popR place
  rw [if_pos (Int.natCast_nonneg n), if_pos (by omega)]
  simp [h]
/-! ### two rows -/
@[simp] theorem opn_lc2 {elt : E} {own own1 : List Nat} {tg tg1 : Tg} {it it1 : It} {c c1 : Es} {r : St → R Rv} : opn (.lc2 elt own tg it c own1 tg1 it1 c1) r t = (r t).bind opK := (rfl)
@[simp] theorem exS_ret_lc2 {elt : E} {own own1 : List Nat} {tg tg1 : Tg} {it it1 : It} {c c1 : Es} : exS P cs hot (.ret (.lc2 elt own tg it c own1 tg1 it1 c1)) t = (evE P cs hot (.lc2 elt own tg it c own1 tg1 it1 c1) t).fl rtK1 := by rw [exS]; rfl
@[simp] theorem evE_lc2 {elt : E} {own own1 : List Nat} {tg tg1 : Tg} {it it1 : It} {c c1 : Es} : evE P cs false (.lc2 elt own tg it c own1 tg1 it1 c1) t = (evIt P cs false it t).bind (lcA own (kTurn own tg (evCs P cs false c) (kLcIn own1 (evIt P cs false it1) (kTurn own1 tg1 (evCs P cs false c1) (eltK P cs elt))))) := by rw [evE]; rfl
def inS (own1 : List Nat) (turn : D → St → R (List D)) (l : List D) (o : Option Nat) (t : St) : R (List D) := match o with
  | none => lcLoop turn l (wipeS t own1)
  | some _ => .bad
@[simp] theorem inS_none {own1 : List Nat} {turn : D → St → R (List D)} {l : List D} : inS own1 turn l none t = lcLoop turn l (wipeS t own1) := (rfl)
def inA (own1 : List Nat) (turn : D → St → R (List D)) (w : List D × Option Nat) (t : St) : R (List D) := inS own1 turn w.1 w.2 t
@[simp] theorem inA_eq {own1 : List Nat} {turn : D → St → R (List D)} {w : List D × Option Nat} : inA own1 turn w t = inS own1 turn w.1 w.2 t := (rfl)
@[simp] theorem kLcIn_eq {own1 : List Nat} {it : St → R (List D × Option Nat)} {turn : D → St → R (List D)} : kLcIn own1 it turn t = (it t).bind (inA own1 turn) := (rfl)
/-! ### x += n; a, b = c, d -/
def augB (i : Nat) (op : Bop) (x : D) (v : Rv) (t : St) : Fl := (R.of (augD op x v.1) t).fl fun d t => nxO (asgN i (d, false) t)
def augC (i : Nat) (d : D) (t : St) : Fl := nxO (asgN i (d, false) t)
@[simp] theorem augC_eq {i : Nat} {d : D} : augC i d t = nxO (asgN i (d, false) t) := (rfl)
@[simp] theorem augB_eq {i : Nat} {op : Bop} {x : D} {v : Rv} : augB i op x v t = (R.of (augD op x v.1) t).fl (augC i) := (rfl)
def augA (i : Nat) (op : Bop) (ev : St → R Rv) (x : D) (t : St) : Fl := (kSh ev t).fl (augB i op x)
@[simp] theorem augA_eq {i : Nat} {op : Bop} {ev : St → R Rv} {x : D} : augA i op ev x t = (kSh ev t).fl (augB i op x) := (rfl)
@[simp] theorem exS_aug {i : Nat} {op : Bop} {e : E} : exS P cs false (.aug i op e) t = (R.of ((t[i]?).bind rdS) t).fl (augA i op (evE P cs false e)) := by rw [exS]; rfl
@[simp] theorem augD_add {a b : Int} : augD .add (.int a) (.int b) = some (.int (a + b)) := (rfl)
@[simp] theorem augD_sub {a b : Int} : augD .sub (.int a) (.int b) = some (.int (a - b)) := (rfl)
def parK (is : List Nat) (ds : List D) (t : St) : Fl := nxO (parA is ds t)
@[simp] theorem parK_eq {is : List Nat} {ds : List D} : parK is ds t = nxO (parA is ds t) := (rfl)
@[simp] theorem exS_par {is : List Nat} {es : Es} : exS P cs false (.par is es) t = (evEs P cs false es t).fl (parK is) := by rw [exS]; rfl
@[simp] theorem parA_nil : parA [] [] t = some t := (rfl)
@[simp] theorem parA_cons {i : Nat} {is : List Nat} {d : D} {ds : List D} : parA (i :: is) (d :: ds) t = (asgN i (d, false) t).bind (parA is ds) := (rfl)
end
/-! ### built-in functions -/
def numOk (i : Int) : Prop := 0 ≤ i ∧ i < 10 ^ 100
instance {i : Int} : Decidable (numOk i) := inferInstanceAs (Decidable (_ ∧ _))
@[simp] theorem numOk_le {i : Int} (h1 : 0 ≤ i) (h2 : i ≤ 18446744073709551616) : numOk i := ⟨h1, Int.lt_of_le_of_lt h2 (by decide +kernel)⟩
@[simp] theorem biD_str_int {i : Int} : biD .str [.int i] = if numOk i then some (.str (S (numI i.toNat))) else none := (rfl)
@[simp] theorem biD_str_str {a : Str} : biD .str [.str a] = some (.str a) := (rfl)
def allD (bs : List Bool) : D := .bool (bs.all id)
@[simp] theorem allD_eq {bs : List Bool} : allD bs = .bool (bs.all id) := (rfl)
def anyD (bs : List Bool) : D := .bool (bs.any id)
@[simp] theorem anyD_eq {bs : List Bool} : anyD bs = .bool (bs.any id) := (rfl)
def sumD (bs : List Int) : D := .int bs.sum
@[simp] theorem sumD_eq {bs : List Int} : sumD bs = .int bs.sum := (rfl)
@[simp] theorem biD_all {l : List D} : biD .all [.list l] = (boolsOf l).map allD := (rfl)
@[simp] theorem biD_any {l : List D} : biD .any [.list l] = (boolsOf l).map anyD := (rfl)
@[simp] theorem biD_sum {l : List D} : biD .sum [.list l] = (intsOf l).map sumD := (rfl)
@[simp] theorem boolsOf_map {α : Type} {f : α → Bool} {l : List α} : boolsOf (l.map fun x => .bool (f x)) = some (l.map f) := by
  induction l with
  | nil => rfl
  | cons a l ih => simp [boolsOf, ih]
@[simp] theorem intsOf_map {α : Type} {f : α → Int} {l : List α} : intsOf (l.map fun x => .int (f x)) = some (l.map f) := by
  induction l with
  | nil => rfl
  | cons a l ih => simp [intsOf, ih]
@[simp] theorem strsOf_map {α : Type} {f : α → Str} {l : List α} : strsOf (l.map fun x => .str (f x)) = some (l.map f) := by
  induction l with
  | nil => rfl
  | cons a l ih => simp [strsOf, ih]
@[simp] theorem meD_join_list {a : Str} {l : List D} : meD .join (.str a) [.list l] = joinD a l := (rfl)
@[simp] theorem meD_join_tuple {a : Str} {l : List D} : meD .join (.str a) [.tuple l] = joinD a l := (rfl)
theorem joinL_nil : ∀ {l : List (List Nat)}, joinL [] l = l.flatten
  | [] => rfl
  | [x] => by simp [joinL]
  | x :: y :: r => by rw [joinL, joinL_nil]; simp
end
end Mp

set_option maxHeartbeats 1000000
namespace Mp.Law
open PySem
/- _law_store (4) -/
def l__law_store_1_3 : Ss := .cons (.asg (.nm 3) (.bin .mod (.bi .int (.cons (.bin .add (.bin .add (.bin .add (.bin .mul (.var 3) (.c (.int 48271))) (.bin .mul (.bin .mod (.bi .int (.cons (.var 5) .nil)) (.c (.int 2147483647))) (.c (.int 2)))) (.var 6)) (.c (.int 1))) .nil)) (.c (.int 2147483629)))) .nil
def l__law_store_1_2 : Ss := .cons (.ex (.app 2 (.tup (.cons (.var 5) (.cons (.var 6) .nil))))) l__law_store_1_3
def l__law_store_1_1 : Ss := .cons (.asg (.nm 6) (.bi .int (.cons (.cmp .lt (.var 4) (.c (.int 0))) .nil))) l__law_store_1_2
def l__law_store_1 : Ss := .cons (.asg (.nm 5) (.bin .mod (.bi .int (.cons (.bi .abs (.cons (.var 4) .nil)) .nil)) (.var 1))) l__law_store_1_1
def t__law_store_4 : Ss := .cons (.ret (.lst (.cons (.var 2) (.cons (.c (.int 0)) (.cons (.c (.int 0)) (.cons (.c (.int 0)) (.cons (.var 3) (.cons (.c (.int 0)) (.cons (.var 3) .nil))))))))) .nil
def t__law_store_3 : Ss := .cons (.for_ (.nm 4) (.of (.sl (.var 0) .no (.so (.c (.int 63))))) l__law_store_1) t__law_store_4
def t__law_store_2 : Ss := .cons (.asg (.nm 3) (.c (.int 11))) t__law_store_3
def t__law_store_1 : Ss := .cons (.asg (.nm 2) (.lst .nil)) t__law_store_2
def b__law_store : Ss := .cons (.asg (.nm 1) (.bin .pow (.bin .pow (.c (.int 10)) (.c (.int 60))) (.c (.int 10)))) t__law_store_1
def d__law_store : Df := ⟨1, 7, [true], b__law_store⟩
/- _law_refill (5) -/
def t__law_refill_3 : Ss := .cons (.ite (.cmp .lt (.ix (.var 0) (.c (.int 1))) (.bi .len (.cons (.ix (.var 0) (.c (.int 0))) .nil))) (.cons (.asg (.nm 1) (.ix (.ix (.var 0) (.c (.int 0))) (.ix (.var 0) (.c (.int 1)))))
(.cons (.set 0 (.c (.int 1)) (.bin .add (.ix (.var 0) (.c (.int 1))) (.c (.int 1))))
(.cons (.set 0 (.c (.int 4)) (.bin .add (.bin .mul (.ix (.var 1) (.c (.int 0))) (.c (.int 2))) (.ix (.var 1) (.c (.int 1)))))
(.cons (.set 0 (.c (.int 5)) (.c (.int 4)))
(.cons (.ite (.cmp .ge (.ix (.var 1) (.c (.int 0))) (.bin .pow (.c (.int 10)) (.c (.int 18)))) (.cons (.set 0 (.c (.int 2)) (.bin .add (.bin .mul (.ix (.var 1) (.c (.int 0))) (.bin .add (.c (.int 1)) (.bin .mul (.c (.int 2)) (.ix (.var 1) (.c (.int 1)))))) (.ix (.var 1) (.c (.int 1)))))
(.cons (.set 0 (.c (.int 5)) (.c (.int 0)))
.nil)) .nil)
.nil))))) .nil) .nil
def t__law_refill_2 : Ss := .cons (.set 0 (.c (.int 5)) (.c (.int 1000))) t__law_refill_3
def t__law_refill_1 : Ss := .cons (.set 0 (.c (.int 4)) (.ix (.var 0) (.c (.int 6)))) t__law_refill_2
def b__law_refill : Ss := .cons (.set 0 (.c (.int 2)) (.c (.int 0))) t__law_refill_1
def d__law_refill : Df := ⟨1, 2, [true], b__law_refill⟩
/- _law_mix (6) -/
def t__law_mix_2 : Ss := .cons (.ret (.bin .mod (.bi .int (.cons (.bin .add (.bin .mul (.var 3) (.c (.int 48271))) (.bin .fdiv (.var 3) (.c (.int 2147483647)))) .nil)) (.c (.int 2147483629)))) .nil
def t__law_mix_1 : Ss := .cons (.asg (.nm 3) (.bin .mod (.bi .int (.cons (.bin .add (.bin .add (.bin .mul (.var 2) (.var 2)) (.bin .fdiv (.var 2) (.c (.int 4099)))) (.bin .mul (.var 1) (.c (.int 69621)))) .nil)) (.c (.int 2305843009213693921)))) t__law_mix_2
def b__law_mix : Ss := .cons (.asg (.nm 2) (.bin .mod (.bi .int (.cons (.bin .add (.bin .add (.bin .mul (.var 0) (.c (.int 6364136223846793005))) (.bin .mul (.var 1) (.c (.int 1442695040888963407)))) (.c (.int 1013904223))) .nil)) (.c (.int 2305843009213693951)))) t__law_mix_1
def d__law_mix : Df := ⟨2, 4, [true, true], b__law_mix⟩
/- _law_take (7) -/
def l__law_take_1 : Ss := .cons (.ite (.cmp .lt (.var 3) (.var 1)) (.cons (.asg (.nm 2) (.bin .add (.bin .mul (.var 2) (.c (.int 2147483629))) (.call 6 (.cons (.ix (.var 0) (.c (.int 4))) (.cons (.ix (.var 0) (.c (.int 3))) .nil)))))
(.cons (.asg (.nm 3) (.bin .mul (.var 3) (.c (.int 2147483629))))
(.cons (.set 0 (.c (.int 3)) (.bin .add (.ix (.var 0) (.c (.int 3))) (.c (.int 1))))
.nil))) .nil) .nil
def t__law_take_7 : Ss := .cons (.ret (.bin .mod (.bi .int (.cons (.var 2) .nil)) (.var 1))) .nil
def t__law_take_6 : Ss := .cons (.for_ (.nm 4) (.rng1 (.c (.int 6))) l__law_take_1) t__law_take_7
def t__law_take_5 : Ss := .cons (.asg (.nm 3) (.c (.int 1))) t__law_take_6
def t__law_take_4 : Ss := .cons (.asg (.nm 2) (.c (.int 0))) t__law_take_5
def t__law_take_3 : Ss := .cons (.set 0 (.c (.int 5)) (.bin .sub (.ix (.var 0) (.c (.int 5))) (.c (.int 1)))) t__law_take_4
def t__law_take_2 : Ss := .cons (.ite (.cmp .gt (.ix (.var 0) (.c (.int 2))) (.c (.int 1))) (.cons (.asg (.nm 2) (.bin .mod (.bi .int (.cons (.ix (.var 0) (.c (.int 2))) .nil)) (.var 1)))
(.cons (.set 0 (.c (.int 2)) (.bin .fdiv (.ix (.var 0) (.c (.int 2))) (.var 1)))
(.cons (.ret (.var 2))
.nil))) .nil) t__law_take_3
def t__law_take_1 : Ss := .cons (.ite (.and (.cons (.cmp .lt (.ix (.var 0) (.c (.int 2))) (.c (.int 2))) (.cons (.cmp .lt (.ix (.var 0) (.c (.int 5))) (.c (.int 1))) .nil))) (.cons (.ex (.call 5 (.cons (.var 0) .nil)))
.nil) .nil) t__law_take_2
def b__law_take : Ss := .cons (.ite (.cmp .lt (.var 1) (.c (.int 2))) (.cons (.ret (.c (.int 0)))
.nil) .nil) t__law_take_1
def d__law_take : Df := ⟨2, 5, [true, true], b__law_take⟩
/- _law_near (8) -/
def t__law_near_1 : Ss := .cons (.ret (.bin .add (.var 1) (.call 7 (.cons (.var 0) (.cons (.bin .add (.bin .sub (.var 2) (.var 1)) (.c (.int 1))) .nil))))) .nil
def b__law_near : Ss := .cons (.ite (.cmp .eq (.call 7 (.cons (.var 0) (.cons (.c (.int 3)) .nil))) (.c (.int 0))) (.cons (.asg (.nm 3) (.ix (.lst (.cons (.var 1) (.cons (.var 2) (.cons (.bin .add (.var 1) (.c (.int 1))) (.cons (.bin .sub (.var 2) (.c (.int 1))) .nil))))) (.call 7 (.cons (.var 0) (.cons (.c (.int 4)) .nil)))))
(.cons (.ret (.bi .max (.cons (.var 1) (.cons (.bi .min (.cons (.var 2) (.cons (.var 3) .nil))) .nil))))
.nil)) .nil) t__law_near_1
def d__law_near : Df := ⟨3, 4, [true, true, true], b__law_near⟩
/- _law_pick (9) -/
def b__law_pick : Ss := .cons (.ret (.ix (.var 1) (.call 7 (.cons (.var 0) (.cons (.bi .len (.cons (.var 1) .nil)) .nil))))) .nil
def d__law_pick : Df := ⟨2, 2, [true, true], b__law_pick⟩
def CellOk (d : D) : Prop := ∃ a b : Int, d = .tuple [.int a, .int b] ∧ 0 ≤ a ∧ a < 10 ^ 600 ∧ (b = 0 ∨ b = 1)
/-- the law's store of numbers -/
structure Sto (b : Nat) (d : D) : Prop where
  ex : ∃ (cells : List D) (at_ big turn n left seed : Int), d = .list [.list cells, .int at_, .int big, .int turn, .int n, .int left, .int seed] ∧ (∀ c ∈ cells, CellOk c) ∧ 0 ≤ at_ ∧ 0 ≤ big ∧ big < 2 ^ 2100 ∧ 0 ≤ turn ∧ turn ≤ b ∧ 0 ≤ n ∧ n < 2 ^ 2100 ∧ 0 ≤ seed ∧ seed < 2 ^ 31
theorem mulOk_of {a b : Int} (h1 : a.natAbs < 2 ^ 4000) (h2 : b.natAbs < 2 ^ 4000) : mulOk a b := ⟨h1, h2⟩
theorem mulOk_le {a b x y : Int} (h1 : 0 ≤ a) (h2 : a ≤ x) (h3 : 0 ≤ b) (h4 : b ≤ y) (k : mulOk x y) : mulOk a b := ⟨by have := k.1; omega, by have := k.2; omega⟩
theorem refill_ok {P : Pr} (h : P.df 5 = some d__law_refill) (n : Nat) {b : Nat} {s : D} (hs : Sto b s) : ∃ s', callN P (n + 1) 5 [.bw s] = .ok (.none, false) [.bw s'] ∧ Sto b s' := by
  obtain ⟨cells, at_, big, turn, nn, left, seed, rfl, hc, ha, hb0, hb1, ht0, ht1, hn0, hn1, hs0, hs1⟩ := hs.ex
  have p2 : (2 : Int) ^ 31 < 2 ^ 2100 := by decide +kernel
  have z : seed < 2 ^ 2100 := Int.lt_trans hs1 p2
  by_cases c1 : at_ < (cells.length : Int)
  · have hl : at_.toNat < cells.length := by omega
    obtain ⟨x, y, e, hx0, hx1, hy⟩ := hc _ (List.getElem_mem hl)
    have hp : (10 : Int) ^ 600 < 2 ^ 2000 := by decide +kernel
    have hp2 : (4 : Int) * 2 ^ 2000 < 2 ^ 2100 := by decide +kernel
    have m1 : mulOk x 2 := mulOk_le hx0 (Int.le_of_lt (Int.lt_trans hx1 hp)) (by decide) (Int.le_refl 2) ⟨by decide +kernel, by decide +kernel⟩
    have m2 : mulOk 2 y := mulOk_le (by decide) (Int.le_refl 2) (by omega) (show y ≤ 1 by omega) ⟨by decide +kernel, by decide +kernel⟩
    have m3 : mulOk x (1 + 2 * y) := mulOk_le hx0 (Int.le_of_lt (Int.lt_trans hx1 hp)) (by omega) (show 1 + 2 * y ≤ 3 by omega) ⟨by decide +kernel, by decide +kernel⟩
    have hx2 := Int.lt_trans hx1 hp
    have hx3 : x * (1 + 2 * y) + y < 2 ^ 2100 ∧ 0 ≤ x * (1 + 2 * y) + y := by
      rcases hy with rfl | rfl <;> omega
    by_cases c2 : (10 : Int) ^ 18 ≤ x
    · have c2' : 1000000000000000000 ≤ x := c2
      refine ⟨_, by rw [callN_eq h rfl]; simp [d__law_refill, b__law_refill, t__law_refill_1, t__law_refill_2, t__law_refill_3, ha, c1, hl, e, m1, m2, m3, c2'], ⟨cells, at_ + 1, x * (1 + 2 * y) + y, turn, x * 2 + y, 0, seed, rfl, hc, ?_⟩⟩
      refine ⟨by omega, hx3.2, hx3.1, ht0, ht1, by omega, by omega, hs0, hs1⟩
    · have c2' : ¬ 1000000000000000000 ≤ x := c2
      refine ⟨_, by rw [callN_eq h rfl]; simp [d__law_refill, b__law_refill, t__law_refill_1, t__law_refill_2, t__law_refill_3, ha, c1, hl, e, m1, m2, m3, c2'], ⟨cells, at_ + 1, 0, turn, x * 2 + y, 4, seed, rfl, hc, ?_⟩⟩
      refine ⟨by omega, by omega, by omega, ht0, ht1, by omega, by omega, hs0, hs1⟩
  · refine ⟨_, by rw [callN_eq h rfl]; simp [d__law_refill, b__law_refill, t__law_refill_1, t__law_refill_2, t__law_refill_3, ha, c1], ⟨cells, at_, 0, turn, seed, 1000, seed, rfl, hc, ?_⟩⟩
    refine ⟨by omega, by omega, by omega, ht0, ht1, by omega, by omega, hs0, hs1⟩
theorem mix_ok {P : Pr} (h : P.df 6 = some d__law_mix) (n : Nat) {x y : Int} (hx0 : 0 ≤ x) (hx : x < 2 ^ 2100) (hy0 : 0 ≤ y) (hy : y < 2 ^ 2100) : ∃ r, callN P (n + 1) 6 [.fz (.int x), .fz (.int y)] = .ok (.int r, false) [.fz (.int x), .fz (.int y)] ∧ 0 ≤ r ∧ r < 2147483629 := by
  have p1 : (0 : Int) < 2305843009213693951 := by decide
  have m1 : mulOk x 6364136223846793005 := mulOk_le hx0 (Int.le_of_lt hx) (by decide) (Int.le_refl _) ⟨by decide +kernel, by decide +kernel⟩
  have m2 : mulOk y 1442695040888963407 := mulOk_le hy0 (Int.le_of_lt hy) (by decide) (Int.le_refl _) ⟨by decide +kernel, by decide +kernel⟩
  have m3 : mulOk y 69621 := mulOk_le hy0 (Int.le_of_lt hy) (by decide) (Int.le_refl _) ⟨by decide +kernel, by decide +kernel⟩
  have g1 := Int.emod_nonneg (x * 6364136223846793005 + y * 1442695040888963407 + 1013904223) (b := 2305843009213693951) (by decide)
  have g2 := Int.emod_lt_of_pos (x * 6364136223846793005 + y * 1442695040888963407 + 1013904223) (b := 2305843009213693951) (by decide)
  generalize e1 : (x * 6364136223846793005 + y * 1442695040888963407 + 1013904223) % 2305843009213693951 = one at g1 g2
  have m4 : mulOk one one := mulOk_le g1 (Int.le_of_lt g2) g1 (Int.le_of_lt g2) ⟨by decide +kernel, by decide +kernel⟩
  have g3 := Int.emod_nonneg (one * one + one / 4099 + y * 69621) (b := 2305843009213693921) (by decide)
  have g4 := Int.emod_lt_of_pos (one * one + one / 4099 + y * 69621) (b := 2305843009213693921) (by decide)
  generalize e2 : (one * one + one / 4099 + y * 69621) % 2305843009213693921 = two at g3 g4
  have m5 : mulOk two 48271 := mulOk_le g3 (Int.le_of_lt g4) (by decide) (Int.le_refl _) ⟨by decide +kernel, by decide +kernel⟩
  have q1 : (4099 : Int) < 2 ^ 8000 := by decide +kernel
  have q2 : (2147483647 : Int) < 2 ^ 8000 := by decide +kernel
  refine ⟨(two * 48271 + two / 2147483647) % 2147483629, ?_, Int.emod_nonneg _ (by decide), Int.emod_lt_of_pos _ (by decide)⟩
  rw [callN_eq h rfl]
  simp [d__law_mix, b__law_mix, t__law_mix_1, t__law_mix_2, m1, m2, m3, e1, m4, e2, m5]
theorem powW {i j : Nat} (h : i ≤ j) : (4294967296 : Int) ^ i ≤ 4294967296 ^ j := by
  have e : ∀ k : Nat, (4294967296 : Int) ^ k = ((4294967296 ^ k : Nat) : Int) := fun k => by
    induction k with
    | zero => rfl
    | succ k ih => rw [Int.pow_succ, Nat.pow_succ, Int.natCast_mul, ih]; rfl
  rw [e, e]
  exact Int.ofNat_le.mpr (Nat.pow_le_pow_right (by decide) h)
theorem pow_step {x : Int} {i : Nat} (h0 : 0 ≤ x) (h : x ≤ 4294967296 ^ i) {r : Int} (h1 : 0 ≤ r) (h2 : r < 2147483629) : 0 ≤ x * 2147483629 + r ∧ x * 2147483629 + r ≤ 4294967296 ^ (i + 1) := by
  have p : (1 : Int) ≤ 4294967296 ^ i := by
    have := powW (Nat.zero_le i)
    simpa using this
  rw [Int.pow_succ]
  generalize (4294967296 : Int) ^ i = q at *
  omega
theorem pow_mulOk {x : Int} {i : Nat} (h0 : 0 ≤ x) (h : x ≤ 4294967296 ^ i) (hi : i ≤ 6) : mulOk x 2147483629 := by
  have q : (4294967296 : Int) ^ i ≤ 4294967296 ^ 6 := powW hi
  exact mulOk_le h0 (Int.le_trans h q) (by decide) (Int.le_refl _) ⟨by decide +kernel, by decide +kernel⟩
theorem take_ok {P : Pr} (h7 : P.df 7 = some d__law_take) (h5 : P.df 5 = some d__law_refill) (h6 : P.df 6 = some d__law_mix) (n : Nat) {b : Nat} {s : D} {m : Int} (hs : Sto b s) (hb : b ≤ 2 ^ 60) (hm : m ≤ 2 ^ 1000) :
    ∃ r s', callN P (n + 2) 7 [.bw s, .fz (.int m)] = .ok (.int r, false) [.bw s', .fz (.int m)] ∧ Sto (b + 6) s' ∧ 0 ≤ r ∧ (m < 2 → r = 0) ∧ (2 ≤ m → r < m) := by
  by_cases c0 : m < 2
  · refine ⟨0, s, ?_, ?_, by decide, fun _ => rfl, fun z => by omega⟩
    · rw [callN_eq h7 rfl]
      simp [d__law_take, b__law_take, t__law_take_1, t__law_take_2, t__law_take_3, t__law_take_4, t__law_take_5, t__law_take_6, t__law_take_7, c0]
    · obtain ⟨cells, at_, big, turn, nn, left, seed, rfl, hc, ha, hb0, hb1, ht0, ht1, hr⟩ := hs.ex
      exact ⟨cells, at_, big, turn, nn, left, seed, rfl, hc, ha, hb0, hb1, ht0, by omega, hr⟩
  have c0' : 2 ≤ m := by omega
  have hdm : divOk m := ⟨by omega, Int.lt_of_le_of_lt hm (by decide +kernel)⟩
  have hm0 : 0 < m := by omega
  -- behind the refilling
  have tail : ∀ s, Sto b s → ∃ r s', fins 2 (exSs P (callN P (n + 1)) false t__law_take_2 [.bw s, .fz (.int m), .un, .un, .un]) = .ok (.int r, false) [.bw s', .fz (.int m)] ∧ Sto (b + 6) s' ∧ 0 ≤ r ∧ r < m := by
    intro s hs
    obtain ⟨cells, at_, big, turn, nn, left, seed, rfl, hc, ha, hb0, hb1, ht0, ht1, hn0, hn1, hs0, hs1⟩ := hs.ex
    by_cases c1 : 1 < big
    · refine ⟨big % m, _, by simp [t__law_take_2, t__law_take_3, c1, hm0, hdm], ⟨cells, at_, big / m, turn, nn, left, seed, rfl, hc, ha, ?_⟩, Int.emod_nonneg _ (by omega), Int.emod_lt_of_pos _ hm0⟩
      have q1 : big / m ≤ big := Int.ediv_le_self _ hb0
      have q0 : 0 ≤ big / m := Int.ediv_nonneg hb0 (by omega)
      exact ⟨q0, by omega, ht0, by omega, hn0, hn1, hs0, hs1⟩
    · have loop : ∃ t', forLoop (forT (.nm 4) (exSs P (callN P (n + 1)) false l__law_take_1)) (rangeD 0 6) [.bw (.list [.list cells, .int at_, .int big, .int turn, .int nn, .int (left - 1), .int seed]), .fz (.int m), .fz (.int 0), .fz (.int 1), .un] = .nx t' ∧
          ∃ (told size tu : Int) (sl : Sl), t' = [.bw (.list [.list cells, .int at_, .int big, .int tu, .int nn, .int (left - 1), .int seed]), .fz (.int m), .fz (.int told), .fz (.int size), sl] ∧ Asg sl ∧ 0 ≤ told ∧ told ≤ 4294967296 ^ 6 ∧ 0 ≤ size ∧ size ≤ 4294967296 ^ 6 ∧ 0 ≤ tu ∧ tu ≤ turn + 6 := by
        refine forLoop_inv (fun i t' => i ≤ 6 → ∃ (told size tu : Int) (sl : Sl), t' = [.bw (.list [.list cells, .int at_, .int big, .int tu, .int nn, .int (left - 1), .int seed]), .fz (.int m), .fz (.int told), .fz (.int size), sl] ∧ Asg sl ∧ 0 ≤ told ∧ told ≤ 4294967296 ^ i ∧ 0 ≤ size ∧ size ≤ 4294967296 ^ i ∧ 0 ≤ tu ∧ tu ≤ turn + i) (k := 0) ?_ ?_ |>.imp fun t' h => ⟨h.1, h.2 (by decide)⟩
        · exact fun _ => ⟨0, 1, turn, .un, rfl, .un, by decide, by decide, by decide, by decide, ht0, by simp⟩
        · intro i x t' hx hi
          have hi6 : i < 6 := by
            have := (List.getElem?_eq_some_iff.mp hx).1
            simpa [rangeD] using this
          obtain ⟨told, size, tu, sl, rfl, hsl, h1, h2, h3, h4, h5', h6'⟩ := hi (by omega)
          rw [Nat.zero_add] at h2 h4 h6'
          by_cases c2 : size < m
          · obtain ⟨r, er, r0, r1⟩ := mix_ok h6 n hn0 hn1 h5' (y := tu) (Int.lt_of_le_of_lt (b := 2 ^ 61) (by omega) (by decide +kernel))
            have m1 := pow_mulOk h1 h2 (by omega)
            have m2 := pow_mulOk h3 h4 (by omega)
            have b1 := pow_step h1 h2 r0 r1
            have b2 := pow_step (r := 0) h3 h4 (by decide) (by decide)
            rw [Int.add_zero] at b2
            refine ⟨_, .inl (by simp [l__law_take_1, asgS_asg hsl, c2, m1, m2, h6, er, d__law_mix, b__law_mix]), fun _ => ⟨told * 2147483629 + r, size * 2147483629, tu + 1, .fz x, rfl, .fz, b1.1, ?_, b2.1, ?_, by omega, by omega⟩⟩
            · rw [Nat.zero_add]; exact b1.2
            · rw [Nat.zero_add]; exact b2.2
          · have b1 := pow_step (r := 0) h1 h2 (by decide) (by decide)
            have b2 := pow_step (r := 0) h3 h4 (by decide) (by decide)
            refine ⟨_, .inl (by simp [l__law_take_1, asgS_asg hsl, c2]), fun _ => ⟨told, size, tu, .fz x, rfl, .fz, h1, ?_, h3, ?_, by omega, by omega⟩⟩
            · rw [Nat.zero_add]; omega
            · rw [Nat.zero_add]; omega
      obtain ⟨t', e, told, size, tu, sl, rfl, hsl, h1, h2, h3, h4, h5', h6'⟩ := loop
      refine ⟨told % m, _, by simp [t__law_take_2, t__law_take_3, t__law_take_4, t__law_take_5, t__law_take_6, t__law_take_7, c1, hm0, hdm, small, e], ⟨cells, at_, big, tu, nn, left - 1, seed, rfl, hc, ha, hb0, hb1, h5', by omega, hn0, hn1, hs0, hs1⟩, Int.emod_nonneg _ (by omega), Int.emod_lt_of_pos _ hm0⟩
  rw [callN_eq h7 rfl]
  obtain ⟨cells, at_, big, turn, nn, left, seed, rfl, hc, ha, hb0, hb1, ht0, ht1, hn0, hn1, hs0, hs1⟩ := id hs.ex
  by_cases c1 : big < 2 ∧ left < 1
  · obtain ⟨s1, e1, hs1'⟩ := refill_ok h5 n hs
    obtain ⟨r, s', e, h1, h2, h3⟩ := tail s1 hs1'
    refine ⟨r, s', ?_, h1, h2, fun z => absurd z c0, fun _ => h3⟩
    rw [← e]
    simp [d__law_take, b__law_take, t__law_take_1, c0, c1.1, c1.2, h5, e1, d__law_refill, b__law_refill]
  · obtain ⟨r, s', e, h1, h2, h3⟩ := tail _ hs
    refine ⟨r, s', ?_, h1, h2, fun z => absurd z c0, fun _ => h3⟩
    rw [← e]
    by_cases c2 : big < 2
    · have c3 : ¬ left < 1 := fun z => c1 ⟨c2, z⟩
      simp [d__law_take, b__law_take, t__law_take_1, c0, c2, c3]
    · simp [d__law_take, b__law_take, t__law_take_1, c0, c2]
/-- a draw: it tells a value, the store goes on -/
def Draws (P : Pr) (n k c : Nat) (args : List Sl) (Q : Rv → Prop) : Prop := ∀ (b : Nat) (s : D), Sto b s → b + c ≤ 2 ^ 60 → ∃ v s', callN P n k (.bw s :: args) = .ok v (.bw s' :: args) ∧ Sto (b + c) s' ∧ Q v
theorem Sto.mono {b c : Nat} {s : D} (h : Sto b s) (hc : b ≤ c) : Sto c s := by
  obtain ⟨cells, at_, big, turn, nn, left, seed, rfl, h1, h2, h3, h4, h5, h6, h7⟩ := h.ex
  exact ⟨cells, at_, big, turn, nn, left, seed, rfl, h1, h2, h3, h4, h5, by omega, h7⟩
def TakeOk (P : Pr) : Prop := ∀ (n : Nat) (m : Int), m ≤ 2 ^ 1000 → Draws P (n + 2) 7 6 [.fz (.int m)] fun v => ∃ r : Int, v = (.int r, false) ∧ 0 ≤ r ∧ (m < 2 → r = 0) ∧ (2 ≤ m → r < m)
theorem takeOk {P : Pr} (h7 : P.df 7 = some d__law_take) (h5 : P.df 5 = some d__law_refill) (h6 : P.df 6 = some d__law_mix) : TakeOk P := fun n m hm b s hs hb => by
  obtain ⟨r, s', e, h1, h2⟩ := take_ok h7 h5 h6 n hs (by omega) hm
  exact ⟨_, s', e, h1, r, rfl, h2⟩
theorem small1000 {m : Int} (h : m ≤ 2 ^ 64) : m ≤ 2 ^ 1000 := Int.le_trans h (by decide +kernel)
/-- a written number of choices -/
theorem TakeOk.at {P : Pr} (T : TakeOk P) (n : Nat) {m : Int} (h : 2 ≤ m) (h2 : m ≤ 2 ^ 64) {b : Nat} {s : D} (hs : Sto b s) (hb : b + 6 ≤ 2 ^ 60) : ∃ (r : Int) (s' : D), callN P (n + 2) 7 [.bw s, .fz (.int m)] = .ok (.int r, false) [.bw s', .fz (.int m)] ∧ Sto (b + 6) s' ∧ 0 ≤ r ∧ r < m := by
  obtain ⟨v, s', e, h1, r, rfl, h3, _, h4⟩ := T n m (small1000 h2) b s hs hb
  exact ⟨r, s', e, h1, h3, h4 h⟩
/-- any number of choices from 1 on -/
theorem TakeOk.at1 {P : Pr} (T : TakeOk P) (n : Nat) {m : Int} (h : 1 ≤ m) (h2 : m ≤ 2 ^ 64) {b : Nat} {s : D} (hs : Sto b s) (hb : b + 6 ≤ 2 ^ 60) : ∃ (r : Int) (s' : D), callN P (n + 2) 7 [.bw s, .fz (.int m)] = .ok (.int r, false) [.bw s', .fz (.int m)] ∧ Sto (b + 6) s' ∧ 0 ≤ r ∧ r < m := by
  obtain ⟨v, s', e, h1, r, rfl, h3, h5, h4⟩ := T n m (small1000 h2) b s hs hb
  refine ⟨r, s', e, h1, h3, ?_⟩
  by_cases z : m < 2
  · rw [h5 z]; omega
  · exact h4 (by omega)
def NearOk (P : Pr) : Prop := ∀ (n : Nat) (lo hi : Int), lo ≤ hi → hi - lo + 1 ≤ 2 ^ 64 → Draws P (n + 3) 8 12 [.fz (.int lo), .fz (.int hi)] fun v => ∃ r : Int, v = (.int r, false) ∧ lo ≤ r ∧ r ≤ hi
theorem nearOk {P : Pr} (h8 : P.df 8 = some d__law_near) (h7 : P.df 7 = some d__law_take) (T : TakeOk P) : NearOk P := fun n lo hi hlh hw b s hs hb => by
  obtain ⟨r, s1, e1, hs1, r0, r1⟩ := T.at n (m := 3) (by decide) (by decide) hs (by omega)
  by_cases c : r = 0
  · subst c
    obtain ⟨q, s2, e2, hs2, q0, q1⟩ := T.at n (m := 4) (by decide) (by decide) hs1 (by omega)
    have hq : q = 0 ∨ q = 1 ∨ q = 2 ∨ q = 3 := by omega
    have : ∃ z : Int, callN P (n + 3) 8 [.bw s, .fz (.int lo), .fz (.int hi)] = .ok (.int z, false) [.bw s2, .fz (.int lo), .fz (.int hi)] ∧ lo ≤ z ∧ z ≤ hi := by
      rcases hq with rfl | rfl | rfl | rfl
      · by_cases c1 : lo < hi
        · refine ⟨_, by rw [callN_eq h8 rfl]; simp [d__law_near, b__law_near, t__law_near_1, h7, d__law_take, b__law_take, e1, e2, c1] <;> rfl, ?_⟩
          (repeat' split) <;> omega
        · refine ⟨_, by rw [callN_eq h8 rfl]; simp [d__law_near, b__law_near, t__law_near_1, h7, d__law_take, b__law_take, e1, e2, c1] <;> rfl, ?_⟩
          (repeat' split) <;> omega
      all_goals
        refine ⟨_, by rw [callN_eq h8 rfl]; simp [d__law_near, b__law_near, t__law_near_1, h7, d__law_take, b__law_take, e1, e2] <;> rfl, ?_⟩
        (repeat' split) <;> omega
    obtain ⟨z, e, z0, z1⟩ := this
    exact ⟨_, s2, e, hs2.mono (by omega), z, rfl, z0, z1⟩
  · obtain ⟨q, s2, e2, hs2, q0, q1⟩ := T.at1 n (m := hi - lo + 1) (by omega) hw hs1 (by omega)
    refine ⟨_, s2, by rw [callN_eq h8 rfl]; simp [d__law_near, b__law_near, t__law_near_1, h7, d__law_take, b__law_take, e1, e2, c], hs2.mono (by omega), lo + q, rfl, by omega, by omega⟩
def PickOk (P : Pr) : Prop := ∀ (n : Nat) (l : List D), l ≠ [] → l.length ≤ 1000000 → Draws P (n + 3) 9 6 [.fz (.list l)] fun v => ∃ x ∈ l, v = (x, false)
theorem pickOk {P : Pr} (h9 : P.df 9 = some d__law_pick) (h7 : P.df 7 = some d__law_take) (T : TakeOk P) : PickOk P := fun n l hl hn b s hs hb => by
  have hpos : 0 < l.length := List.length_pos_iff.mpr hl
  obtain ⟨r, s1, e1, hs1, r0, r1⟩ := T.at1 n (m := (l.length : Int)) (by omega) (by omega) hs (by omega)
  have hr : r.toNat < l.length := by omega
  exact ⟨(l[r.toNat], false), s1, by rw [callN_eq h9 rfl]; simp [d__law_pick, b__law_pick, h7, d__law_take, b__law_take, e1, r0, hr], hs1, _, List.getElem_mem hr, rfl⟩
def StoreOk (P : Pr) : Prop := ∀ (n : Nat) (ns : List Int), ns.length ≤ 63 → ∃ s, callN P (n + 1) 4 [.fz (.list (ns.map PyData.int))] = .ok (s, true) [.fz (.list (ns.map PyData.int))] ∧ Sto 0 s
theorem storeOk {P : Pr} (h4 : P.df 4 = some d__law_store) : StoreOk P := fun n ns hn => by
  have hcut : cut (ns.map PyData.int) none (some 63) = ns.map PyData.int := by
    rw [cut_take (by decide), List.take_of_length_le (by simpa using hn)]
  have hT : (10 : Int) ^ 600 = (10 ^ 60) ^ 10 := by decide +kernel
  have p4 : powOk 10 60 := by decide +kernel
  have p3 : powOk (10 ^ 60) 10 := by decide +kernel
  have loop : ∃ t', forLoop (forT (.nm 4) (exSs P (callN P n) false l__law_store_1)) (ns.map PyData.int) [.fz (.list (ns.map PyData.int)), .fz (.int ((10 ^ 60) ^ 10)), .ow (.list []), .fz (.int 11), .un, .un, .un] = .nx t' ∧
      ∃ (cells : List D) (seed : Int) (s4 s5 s6 : Sl), t' = [.fz (.list (ns.map PyData.int)), .fz (.int ((10 ^ 60) ^ 10)), .ow (.list cells), .fz (.int seed), s4, s5, s6] ∧ Asg s4 ∧ Asg s5 ∧ Asg s6 ∧ cells.length = ns.length ∧ (∀ c ∈ cells, CellOk c) ∧ 0 ≤ seed ∧ seed < 2 ^ 31 := by
    refine forLoop_inv (fun i t' => ∃ (cells : List D) (seed : Int) (s4 s5 s6 : Sl), t' = [.fz (.list (ns.map PyData.int)), .fz (.int ((10 ^ 60) ^ 10)), .ow (.list cells), .fz (.int seed), s4, s5, s6] ∧ Asg s4 ∧ Asg s5 ∧ Asg s6 ∧ cells.length = i ∧ (∀ c ∈ cells, CellOk c) ∧ 0 ≤ seed ∧ seed < 2 ^ 31) (k := 0) ?_ ?_ |>.imp fun t' h => ⟨h.1, by simpa using h.2⟩
    · exact ⟨[], 11, .un, .un, .un, rfl, .un, .un, .un, rfl, by simp, by decide, by decide⟩
    · intro i x t' hx hi
      obtain ⟨cells, seed, s4, s5, s6, rfl, a4, a5, a6, hl, hc, h0, h1⟩ := hi
      have hi63 : i < ns.length := by
        have := (List.getElem?_eq_some_iff.mp hx).1
        simpa using this
      obtain ⟨z, rfl⟩ : ∃ z : Int, x = .int z := by
        rw [List.getElem?_map] at hx
        cases e : ns[i]? with
        | none => rw [e] at hx; cases hx
        | some z => rw [e] at hx; exact ⟨z, (Option.some.inj hx).symm⟩
      generalize hsz : (if z < 0 then -z else z) % ((10 ^ 60) ^ 10 : Int) = size
      have b0 : 0 ≤ size := by rw [← hsz]; exact Int.emod_nonneg _ (by decide +kernel)
      have b1 : size < 10 ^ 600 := by
        rw [← hsz, hT]
        exact Int.emod_lt_of_pos _ (by decide +kernel)
      have hp : (0 : Int) < (10 ^ 60) ^ 10 := by decide +kernel
      generalize hsg : (if z < 0 then (1 : Int) else 0) = sign
      have hsg2 : sign = 0 ∨ sign = 1 := by rw [← hsg]; split <;> simp
      have g1 := Int.emod_nonneg size (b := 2147483647) (by decide)
      have g2 := Int.emod_lt_of_pos size (b := 2147483647) (by decide)
      have m1 : mulOk seed 48271 := mulOk_le h0 (Int.le_of_lt h1) (by decide) (Int.le_refl _) ⟨by decide +kernel, by decide +kernel⟩
      have m2 : mulOk (size % 2147483647) 2 := mulOk_le g1 (Int.le_of_lt g2) (by decide) (Int.le_refl _) ⟨by decide +kernel, by decide +kernel⟩
      have hcap : cells.length < cap := by
        have : (63 : Nat) < cap := by decide
        omega
      refine ⟨_, .inl (by simp [-Int.reducePow, l__law_store_1, l__law_store_1_1, l__law_store_1_2, l__law_store_1_3, asgS_asg a4, asgS_asg a5, asgS_asg a6, hp, hsz, hsg, m1, m2, hcap]), ⟨cells ++ [.tuple [.int size, .int sign]], (seed * 48271 + size % 2147483647 * 2 + sign + 1) % 2147483629, .fz (.int z), .fz (.int size), .fz (.int sign), rfl, .fz, .fz, .fz, by simp [hl], ?_, Int.emod_nonneg _ (by decide), Int.lt_trans (Int.emod_lt_of_pos _ (by decide)) (by decide)⟩⟩
      intro c hc'
      rcases List.mem_append.mp hc' with q | q
      · exact hc c q
      · rw [List.mem_singleton.mp q]
        exact ⟨size, sign, rfl, b0, b1, hsg2⟩
  obtain ⟨t', e, cells, seed, s4, s5, s6, rfl, a4, a5, a6, hl, hc, h0, h1⟩ := loop
  have p2 : (2 : Int) ^ 31 < 2 ^ 2100 := by decide +kernel
  refine ⟨.list [.list cells, .int 0, .int 0, .int 0, .int seed, .int 0, .int seed], by rw [callN_eq h4 rfl]; simp [-Int.reducePow, d__law_store, b__law_store, t__law_store_1, t__law_store_2, t__law_store_3, t__law_store_4, p3, p4, hcut, e], ⟨cells, 0, 0, 0, seed, 0, seed, rfl, hc, by decide, by decide, by decide +kernel, by decide, by decide, h0, by omega, h0, h1⟩⟩
end Mp.Law

set_option maxHeartbeats 1000000
namespace Mp.Law
open PySem
/- _law_same (10) -/
def l__law_same_2 : Ss := .cons (.ex (.app 2 (.tup (.cons (.ix (.var 0) (.var 4)) (.cons (.ix (.var 1) (.var 4)) .nil))))) .nil
def l__law_same_1_2 : Ss := .cons (.ite (.or (.cons (.cmp .isN (.var 0) (.c .none)) (.cons (.cmp .isN (.var 1) (.c .none)) .nil))) (.cons (.ite (.or (.cons (.cmp .notN (.var 0) (.c .none)) (.cons (.cmp .notN (.var 1) (.c .none)) .nil))) (.cons (.ret (.c (.bool false)))
.nil) .nil)
.nil) (.cons (.ite (.or (.cons (.isi (.var 0) [.bool]) (.cons (.isi (.var 1) [.bool]) .nil))) (.cons (.ite (.or (.cons (.not (.isi (.var 0) [.bool])) (.cons (.not (.isi (.var 1) [.bool])) (.cons (.cmp .ne (.var 0) (.var 1)) .nil)))) (.cons (.ret (.c (.bool false)))
.nil) .nil)
.nil) (.cons (.ite (.or (.cons (.isi (.var 0) [.int]) (.cons (.isi (.var 0) [.str]) .nil))) (.cons (.ite (.or (.cons (.cmp .ne (.isi (.var 0) [.int]) (.isi (.var 1) [.int])) (.cons (.cmp .ne (.isi (.var 0) [.str]) (.isi (.var 1) [.str])) .nil))) (.cons (.ret (.c (.bool false)))
.nil) .nil)
(.cons (.ite (.cmp .ne (.var 0) (.var 1)) (.cons (.ret (.c (.bool false)))
.nil) .nil)
.nil)) (.cons (.ite (.and (.cons (.isi (.var 0) [.dict]) (.cons (.isi (.var 1) [.dict]) .nil))) (.cons (.ex (.app 2 (.tup (.cons (.lkeys (.var 0)) (.cons (.lkeys (.var 1)) .nil)))))
(.cons (.ex (.app 2 (.tup (.cons (.lvals (.var 0)) (.cons (.lvals (.var 1)) .nil)))))
.nil)) (.cons (.ite (.or (.cons (.cmp .ne (.isi (.var 0) [.tuple]) (.isi (.var 1) [.tuple])) (.cons (.cmp .ne (.isi (.var 0) [.list]) (.isi (.var 1) [.list])) .nil))) (.cons (.ret (.c (.bool false)))
.nil) (.cons (.ite (.and (.cons (.not (.isi (.var 0) [.tuple])) (.cons (.not (.isi (.var 0) [.list])) .nil))) (.cons (.ret (.c (.bool false)))
.nil) (.cons (.ite (.cmp .ne (.bi .len (.cons (.var 0) .nil)) (.bi .len (.cons (.var 1) .nil))) (.cons (.ret (.c (.bool false)))
.nil) (.cons (.for_ (.nm 4) (.rng1 (.bi .len (.cons (.var 0) .nil))) l__law_same_2)
.nil))
.nil))
.nil))
.nil))
.nil))
.nil))
.nil)) .nil
def l__law_same_1_1 : Ss := .cons (.asg (.tp [(.nm 0), (.nm 1)]) (.pop 2)) l__law_same_1_2
def l__law_same_1 : Ss := .cons (.ite (.cmp .eq (.var 2) (.lst .nil)) (.cons (.ret (.c (.bool true)))
.nil) .nil) l__law_same_1_1
def t__law_same_2 : Ss := .cons (.ret (.c (.bool false))) .nil
def t__law_same_1 : Ss := .cons (.for_ (.nm 3) (.rng1 (.c (.int 400000))) l__law_same_1) t__law_same_2
def b__law_same : Ss := .cons (.asg (.nm 2) (.lst (.cons (.tup (.cons (.var 0) (.cons (.var 1) .nil))) .nil))) t__law_same_1
def d__law_same : Df := ⟨2, 5, [false, false], b__law_same⟩
mutual
/-- the parts of a thing, as the law's comparison counts them -/
def sz : D → Nat
  | .list l => 1 + szs l
  | .tuple l => 1 + szs l
  | .dict l => 3 + szk l
  | _ => 1
def szs : List D → Nat
  | [] => 0
  | x :: r => sz x + szs r
def szk : List (D × D) → Nat
  | [] => 0
  | (k, v) :: r => sz k + sz v + szk r
end
theorem szs_append (a b : List D) : szs (a ++ b) = szs a + szs b := by
  induction a with
  | nil => simp [szs]
  | cons x a ih => simp only [List.cons_append, szs, ih]; omega
theorem sz_pos (d : D) : 1 ≤ sz d := by cases d <;> simp [sz] <;> omega
theorem szs_len (l : List D) : l.length ≤ szs l := by
  induction l with
  | nil => simp [szs]
  | cons x l ih => have := sz_pos x; simp only [List.length_cons, szs]; omega
theorem szk_split (l : List (D × D)) : szs (l.map (·.1)) + szs (l.map (·.2)) = szk l := by
  induction l with
  | nil => simp [szs, szk]
  | cons p l ih => obtain ⟨k, v⟩ := p; simp only [List.map_cons, szs, szk, ← ih]; omega
theorem szk_two (v : List (D × D)) : szs [.list (v.map (·.1)), .list (v.map (·.2))] + 1 = sz (.dict v) := by
  have := szk_split v
  simp only [szs, sz]
  omega
theorem small_nat {n : Nat} (h : n ≤ 1000000000) : small (n : Int) = true := by
  unfold small
  rw [decide_eq_true (show -(2 ^ 62) ≤ (n : Int) by omega), decide_eq_true (show (n : Int) < 2 ^ 62 by omega)]
  rfl
def dup (x : D) : D := .tuple [x, x]
theorem cap_big : (400001 : Nat) < cap := by decide
section
variable {P : Pr} {cs : Cs}
/-- the inner loop puts all items on the pile -/
theorem same_push {l st : List D} {a : D} {sk si : Sl} (ha : ∀ i : Nat, (hi : i < l.length) → ixD a (.int i) = some l[i]) (hsi : Asg si) (hb : st.length + l.length ≤ 400000) :
    ∃ si', forLoop (forT (.nm 4) (exSs P cs false l__law_same_2)) (rangeD 0 l.length) [.fz a, .fz a, .ow (.list (st.map dup)), sk, si] = .nx [.fz a, .fz a, .ow (.list ((st ++ l).map dup)), sk, si'] ∧ Asg si' := by
  obtain ⟨t', e, h⟩ := forLoop_inv (turn := forT (.nm 4) (exSs P cs false l__law_same_2)) (fun i t' => i ≤ l.length → ∃ si', t' = [.fz a, .fz a, .ow (.list ((st ++ l.take i).map dup)), sk, si'] ∧ Asg si') (xs := rangeD 0 l.length) (k := 0) (t := [.fz a, .fz a, .ow (.list (st.map dup)), sk, si])
    (fun _ => ⟨si, by simp, hsi⟩) (fun i x t' hx hi => by
      have hil : i < l.length := by
        have := (List.getElem?_eq_some_iff.mp hx).1
        simpa [rangeD] using this
      have ex : x = .int i := by
        rw [List.getElem?_eq_some_iff] at hx
        obtain ⟨_, e⟩ := hx
        rw [← e]
        simp [rangeD]
      subst ex
      obtain ⟨si', rfl, h2⟩ := hi (by omega)
      have hcap : (st ++ l.take (0 + i)).length < cap := by
        have := cap_big
        rw [List.length_append, List.length_take]
        omega
      rw [Nat.zero_add] at hcap ⊢
      have hcap' : st.length + min i l.length < cap := by simpa using hcap
      refine ⟨_, .inl (by simp [l__law_same_2, asgS_asg h2, ha i hil, hcap']; rfl), fun _ => ⟨.fz (.int i), ?_, .fz⟩⟩
      have e := List.take_succ_eq_append_getElem hil
      rw [e]
      simp only [List.map_append, List.map_cons, List.map_nil, List.append_assoc, List.map_take, dup])
  obtain ⟨si', rfl, h2⟩ := h (by simp [rangeD])
  exact ⟨si', by rw [e]; simp [rangeD], h2⟩
/-- one turn: an empty pile ends it -/
theorem same_end {a b : D} {sk si : Sl} {x : D} (hk : Asg sk) : forT (.nm 3) (exSs P cs false l__law_same_1) x [.fz a, .fz b, .ow (.list []), sk, si] = .rt (.bool true, false) [.fz a, .fz b, .ow (.list []), .fz x, si] := by
  simp [l__law_same_1, l__law_same_1_1, l__law_same_1_2, asgS_asg hk]
theorem same_turn {a b x y : D} {st : List D} {sk si : Sl} (hk : Asg sk) (hi : Asg si) (hb : szs st + sz x ≤ 400000) :
    ∃ st' si', forT (.nm 3) (exSs P cs false l__law_same_1) y [.fz a, .fz b, .ow (.list ((st ++ [x]).map dup)), sk, si] = .nx [.fz x, .fz x, .ow (.list (st'.map dup)), .fz y, si'] ∧ Asg si' ∧ szs st' + 1 ≤ szs st + sz x := by
  have hlen := szs_len st
  have hcap : st.length < cap := by have := cap_big; omega
  have hcap2 : st.length + 1 < cap := by have := cap_big; have := sz_pos x; omega
  have e1 : (st ++ [x]).map dup = st.map dup ++ [dup x] := by simp
  rw [e1]
  have e2 : lenNe (.list (st.map dup ++ [dup x])) (.list []) = true := by simp [lenNe]
  cases x with
  | none => exact ⟨st, si, by simp [l__law_same_1, l__law_same_1_1, l__law_same_1_2, asgS_asg hk, e2, dup], hi, by simp [sz]⟩
  | bool v => exact ⟨st, si, by simp [l__law_same_1, l__law_same_1_1, l__law_same_1_2, asgS_asg hk, e2, dup], hi, by simp [sz]⟩
  | int v => exact ⟨st, si, by simp [l__law_same_1, l__law_same_1_1, l__law_same_1_2, asgS_asg hk, e2, dup], hi, by simp [sz]⟩
  | str v => exact ⟨st, si, by simp [l__law_same_1, l__law_same_1_1, l__law_same_1_2, asgS_asg hk, e2, dup], hi, by simp [sz]⟩
  | dict v =>
    refine ⟨st ++ [.list (v.map (·.1)), .list (v.map (·.2))], si, by simp [l__law_same_1, l__law_same_1_1, l__law_same_1_2, asgS_asg hk, e2, dup, hcap, hcap2], hi, ?_⟩
    have h2 : szs [.list (v.map (·.1)), .list (v.map (·.2))] + 1 = sz (.dict v) := szk_two v
    rw [szs_append]
    omega
  | list v =>
    have hv := szs_len v
    have hsv : small (v.length : Int) = true := by
      simp only [sz] at hb
      exact small_nat (by omega)
    obtain ⟨si', e, h⟩ := same_push (P := P) (cs := cs) (l := v) (st := st) (a := .list v) (sk := .fz y) (si := si) (fun i hi => by simp [ixD_list, itemL_nat, hi]) hi (by simp only [sz] at hb; omega)
    refine ⟨st ++ v, si', by simp [l__law_same_1, l__law_same_1_1, l__law_same_1_2, asgS_asg hk, e2, dup, hsv, e], h, ?_⟩
    rw [szs_append]
    simp only [sz]
    omega
  | tuple v =>
    have hv := szs_len v
    have hsv : small (v.length : Int) = true := by
      simp only [sz] at hb
      exact small_nat (by omega)
    obtain ⟨si', e, h⟩ := same_push (P := P) (cs := cs) (l := v) (st := st) (a := .tuple v) (sk := .fz y) (si := si) (fun i hi => by simp [ixD_tuple, itemL_nat, hi]) hi (by simp only [sz] at hb; omega)
    refine ⟨st ++ v, si', by simp [l__law_same_1, l__law_same_1_1, l__law_same_1_2, asgS_asg hk, e2, dup, hsv, e], h, ?_⟩
    rw [szs_append]
    simp only [sz]
    omega
theorem same_loop : ∀ (ys : List D) (st : List D) (a b : D) (sk si : Sl), Asg sk → Asg si → szs st ≤ 400000 → szs st < ys.length →
    ∃ a' b' s2 s3 s4, forLoop (forT (.nm 3) (exSs P cs false l__law_same_1)) ys [.fz a, .fz b, .ow (.list (st.map dup)), sk, si] = .rt (.bool true, false) [.fz a', .fz b', s2, s3, s4]
  | [], st, a, b, sk, si, _, _, _, h => by simp at h
  | y :: ys, st, a, b, sk, si, hk, hi, hb, h => by
    rcases List.eq_nil_or_concat st with rfl | ⟨st2, x, rfl⟩
    · exact ⟨_, _, _, _, _, by rw [List.map_nil, forLoop_rt (same_end (P := P) (cs := cs) (a := a) (b := b) (si := si) (x := y) hk)]⟩
    · rw [List.concat_eq_append] at *
      rw [szs_append] at hb h
      simp only [szs, Nat.add_zero] at hb h
      obtain ⟨st', si', e, h1, h2⟩ := same_turn (P := P) (cs := cs) (a := a) (b := b) (x := x) (y := y) (st := st2) hk hi hb
      obtain ⟨a', b', q2, q3, q4, e'⟩ := same_loop ys st' x x (.fz y) si' .fz h1 (by omega) (by simp only [List.length_cons] at h; omega)
      exact ⟨a', b', q2, q3, q4, by rw [forLoop_nx e, e']⟩
end
def SameOk (P : Pr) : Prop := ∀ (n : Nat) (x : D), sz x ≤ 399990 → ∃ a b : D, callN P (n + 1) 10 [.fz x, .fz x] = .ok (.bool true, false) [.fz a, .fz b]
theorem sameOk {P : Pr} (h : P.df 10 = some d__law_same) : SameOk P := fun n x hx => by
  obtain ⟨a', b', q2, q3, q4, e⟩ := same_loop (P := P) (cs := callN P n) (rangeD 0 400000) [x] x x .un .un .un .un (by simp [szs]; omega) (by simp [szs, rangeD]; omega)
  have e' : forLoop (forT (.nm 3) (exSs P (callN P n) false l__law_same_1)) (rangeD 0 400000) [.fz x, .fz x, .ow (.list [.tuple [x, x]]), .un, .un] = .rt (.bool true, false) [.fz a', .fz b', q2, q3, q4] := e
  exact ⟨a', b', by rw [callN_eq h rfl]; simp [d__law_same, b__law_same, t__law_same_1, t__law_same_2, e']⟩
end Mp.Law

set_option maxHeartbeats 1000000
namespace Mp.Law
open PySem
/- _law_copy (11) -/
def c__law_copy_1 : E := (.lc (.call 11 (.cons (.var 3) .nil)) [3] (.nm 3) (.of (.var 0)) .nil)
def c__law_copy_2 : E := (.lc (.call 11 (.cons (.var 3) .nil)) [3] (.nm 3) (.of (.var 0)) .nil)
def l__law_copy_1 : Ss := .cons (.set 1 (.var 2) (.call 11 (.cons (.ix (.var 0) (.var 2)) .nil))) .nil
def t__law_copy_3 : Ss := .cons (.ret (.var 0)) .nil
def t__law_copy_2 : Ss := .cons (.ite (.isi (.var 0) [.dict]) (.cons (.asg (.nm 1) .dic0)
(.cons (.for_ (.nm 2) (.of (.lkeys (.var 0))) l__law_copy_1)
(.cons (.ret (.var 1))
.nil))) .nil) t__law_copy_3
def t__law_copy_1 : Ss := .cons (.ite (.isi (.var 0) [.tuple]) (.cons (.ret (.bi .tuple (.cons c__law_copy_2 .nil)))
.nil) .nil) t__law_copy_2
def b__law_copy : Ss := .cons (.ite (.isi (.var 0) [.list]) (.cons (.ret c__law_copy_1)
.nil) .nil) t__law_copy_1
def d__law_copy : Df := ⟨1, 4, [true], b__law_copy⟩
/- _law_word (12) -/
def l__law_word_1 : Ss := .cons (.asg (.nm 6) (.bin .add (.var 6) (.ix (.var 3) (.call 7 (.cons (.var 0) (.cons (.var 1) .nil)))))) .nil
def t__law_word_5 : Ss := .cons (.ret (.var 6)) .nil
def t__law_word_4 : Ss := .cons (.ite (.cmp .gt (.var 5) (.c (.int 12))) (.cons (.asg (.nm 6) (.bin .add (.sl (.bin .mul (.var 6) (.bin .add (.bin .fdiv (.var 5) (.c (.int 12))) (.c (.int 1)))) .no (.so (.bin .sub (.var 5) (.c (.int 1))))) (.ix (.var 3) (.call 7 (.cons (.var 0) (.cons (.var 1) .nil))))))
.nil) .nil) t__law_word_5
def t__law_word_3 : Ss := .cons (.for_ (.nm 7) (.rng1 (.bi .min (.cons (.var 5) (.cons (.c (.int 12)) .nil)))) l__law_word_1) t__law_word_4
def t__law_word_2 : Ss := .cons (.asg (.nm 6) (.c (.str (S [])))) t__law_word_3
def t__law_word_1 : Ss := .cons (.ite (.cmp .eq (.call 7 (.cons (.var 0) (.cons (.c (.int 3)) .nil))) (.c (.int 0))) (.cons (.asg (.nm 4) (.call 7 (.cons (.var 0) (.cons (.c (.int 3)) .nil))))
(.cons (.ite (.or (.cons (.cmp .eq (.var 4) (.c (.int 0))) (.cons (.cmp .eq (.var 2) (.c (.int 0))) .nil))) (.cons (.ret (.c (.str (S []))))
.nil) .nil)
(.cons (.ite (.cmp .eq (.var 4) (.c (.int 1))) (.cons (.ret (.bin .mul (.ix (.var 3) (.call 7 (.cons (.var 0) (.cons (.var 1) .nil)))) (.bin .add (.c (.int 1)) (.call 7 (.cons (.var 0) (.cons (.var 2) .nil))))))
.nil) .nil)
(.cons (.asg (.nm 5) (.var 2))
.nil)))) (.cons (.asg (.nm 5) (.call 7 (.cons (.var 0) (.cons (.bin .add (.var 2) (.c (.int 1))) .nil))))
.nil)) t__law_word_2
def b__law_word : Ss := .cons (.asg (.nm 3) (.sl (.c (.str (S [97, 98, 99, 100, 101, 102, 103, 104]))) .no (.so (.var 1)))) t__law_word_1
def d__law_word : Df := ⟨3, 8, [true, true, true], b__law_word⟩
/- _law_bad_word (13) -/
def t__law_bad_word_4 : Ss := .cons (.ret (.bin .add (.bin .add (.sl (.var 1) .no (.so (.var 2))) (.var 3)) (.sl (.var 1) (.so (.var 2)) .no))) .nil
def t__law_bad_word_3 : Ss := .cons (.asg (.nm 3) (.call 9 (.cons (.var 0) (.cons (.lst (.cons (.c (.str (S [105]))) (.cons (.c (.str (S [65]))) (.cons (.c (.str (S [72]))) (.cons (.c (.str (S [122]))) (.cons (.c (.str (S [48]))) (.cons (.c (.str (S [32]))) (.cons (.c (.str (S [45]))) (.cons (.c (.str (S [126]))) (.cons (.c (.str (S [40]))) (.cons (.c (.str (S [33]))) (.cons (.c (.str (S [46]))) .nil)))))))))))) .nil)))) t__law_bad_word_4
def t__law_bad_word_2 : Ss := .cons (.asg (.nm 2) (.call 7 (.cons (.var 0) (.cons (.bin .add (.bi .len (.cons (.var 1) .nil)) (.c (.int 1))) .nil)))) t__law_bad_word_3
def t__law_bad_word_1 : Ss := .cons (.asg (.nm 1) (.call 12 (.cons (.var 0) (.cons (.c (.int 8)) (.cons (.c (.int 6)) .nil))))) t__law_bad_word_2
def b__law_bad_word : Ss := .cons (.ite (.cmp .eq (.call 7 (.cons (.var 0) (.cons (.c (.int 3)) .nil))) (.c (.int 0))) (.cons (.ret (.call 9 (.cons (.var 0) (.cons (.lst (.cons (.c .none) (.cons (.c (.bool true)) (.cons (.c (.bool false)) (.cons (.c (.int 0)) (.cons (.c (.int 7)) (.cons (.tup .nil) (.cons (.tup (.cons (.c (.str (S [97]))) .nil)) (.cons (.lst .nil) (.cons (.lst (.cons (.c (.str (S [97]))) .nil)) (.cons .dic0 (.cons (.tup (.cons (.c (.str (S []))) (.cons (.c (.str (S [97]))) .nil))) (.cons (.neg (.c (.int 1))) .nil))))))))))))) .nil))))
.nil) .nil) t__law_bad_word_1
def d__law_bad_word : Df := ⟨1, 4, [true], b__law_bad_word⟩
/-- a word over the first m letters -/
def Wd (m : Int) (a : List Nat) : Prop := ∀ c ∈ a, 97 ≤ c ∧ (c : Int) < 97 + m
theorem Wd.nil {m : Int} : Wd m [] := by simp [Wd]
theorem Wd.append {m : Int} {a b : List Nat} (h : Wd m a) (g : Wd m b) : Wd m (a ++ b) := fun c hc => by
  rcases List.mem_append.mp hc with q | q
  · exact h c q
  · exact g c q
theorem Wd.sub {m : Int} {a b : List Nat} (h : Wd m a) (g : ∀ c ∈ b, c ∈ a) : Wd m b := fun c hc => h c (g c hc)
theorem Wd.take {m : Int} {a : List Nat} (h : Wd m a) (n : Nat) : Wd m (a.take n) := h.sub fun c hc => List.mem_of_mem_take hc
theorem Wd.drop {m : Int} {a : List Nat} (h : Wd m a) (n : Nat) : Wd m (a.drop n) := h.sub fun c hc => List.mem_of_mem_drop hc
theorem Wd.rep {m : Int} {a : List Nat} (h : Wd m a) (n : Nat) : Wd m (repL n a) := fun c hc => by
  unfold repL at hc
  obtain ⟨l, hl, hc⟩ := List.mem_flatten.mp hc
  rw [List.eq_of_mem_replicate hl] at hc
  exact h c hc
theorem Wd.mono {m k : Int} {a : List Nat} (h : Wd m a) (g : m ≤ k) : Wd k a := fun c hc => ⟨(h c hc).1, by have := (h c hc).2; omega⟩
theorem repL_length {α : Type} (n : Nat) (l : List α) : (repL n l).length = n * l.length := by
  unfold repL
  simp [List.length_flatten]
/-- the menu of letters -/
def menu (m : Int) : List Nat := [97, 98, 99, 100, 101, 102, 103, 104].take m.toNat
theorem menu_get {m r : Int} (h : m ≤ 8) (r0 : 0 ≤ r) (r1 : r < m) : itemL (menu m) r = some (97 + r.toNat) := by
  rw [itemL_pos r0]
  unfold menu
  have e : r.toNat < m.toNat := by omega
  have e8 : r.toNat < 8 := by omega
  rw [List.getElem?_take_of_lt e]
  have : r.toNat = 0 ∨ r.toNat = 1 ∨ r.toNat = 2 ∨ r.toNat = 3 ∨ r.toNat = 4 ∨ r.toNat = 5 ∨ r.toNat = 6 ∨ r.toNat = 7 := by omega
  rcases this with h | h | h | h | h | h | h | h <;> rw [h] <;> rfl
theorem wd_one {m r : Int} (r0 : 0 ≤ r) (r1 : r < m) : Wd m [97 + r.toNat] := fun c hc => by
  rw [List.mem_singleton.mp hc]
  omega
def WordOk (P : Pr) : Prop := ∀ (n : Nat) (much most : Int), 1 ≤ much → much ≤ 8 → 0 ≤ most → most ≤ 400 → Draws P (n + 3) 12 100 [.fz (.int much), .fz (.int most)] fun v => ∃ a : List Nat, v = (.str (S a), false) ∧ Wd much a ∧ (a.length : Int) ≤ most
theorem min12 {size : Int} (h : 0 ≤ size) : small (if 12 < size then 12 else size) = true := by
  split
  · rfl
  · unfold small
    rw [decide_eq_true (show -(2 ^ 62) ≤ size by omega), decide_eq_true (show size < 2 ^ 62 by omega)]
    rfl
theorem word_tail {P : Pr} (h7 : P.df 7 = some d__law_take) (T : TakeOk P) (n : Nat) {much most size : Int} (m0 : 1 ≤ much) (m1 : much ≤ 8) (s0 : 0 ≤ size) (s1 : size ≤ most) (hm : most ≤ 400) {b : Nat} {s : D} {s4 : Sl} (h4 : Asg s4) (hs : Sto b s) (hb : b + 78 ≤ 2 ^ 60) :
    ∃ a s', fins 3 (exSs P (callN P (n + 2)) false t__law_word_2 [.bw s, .fz (.int much), .fz (.int most), .fz (.str (S (menu much))), s4, .fz (.int size), .un, .un]) = .ok (.str (S a), false) [.bw s', .fz (.int much), .fz (.int most)] ∧ Sto (b + 78) s' ∧ Wd much a ∧ (a.length : Int) ≤ most := by
  generalize hz : (if 12 < size then (12 : Int) else size) = z
  have z0 : 0 ≤ z ∧ z ≤ 12 ∧ z ≤ size ∧ (size ≤ 12 → z = size) ∧ (12 < size → z = 12) := by rw [← hz]; split <;> omega
  have hsm : small z = true := by rw [← hz]; exact min12 s0
  obtain ⟨t', e, a, s2, s7, rfl, h7', hs2, hw, hl⟩ : ∃ t', forLoop (forT (.nm 7) (exSs P (callN P (n + 2)) false l__law_word_1)) (rangeD 0 z) [.bw s, .fz (.int much), .fz (.int most), .fz (.str (S (menu much))), s4, .fz (.int size), .fz (.str (S [])), .un] = .nx t' ∧
      ∃ (a : List Nat) (s2 : D) (s7 : Sl), t' = [.bw s2, .fz (.int much), .fz (.int most), .fz (.str (S (menu much))), s4, .fz (.int size), .fz (.str (S a)), s7] ∧ Asg s7 ∧ Sto (b + 72) s2 ∧ Wd much a ∧ a.length = z.toNat := by
    refine forLoop_inv (fun i t' => i ≤ 12 → ∃ (a : List Nat) (s2 : D) (s7 : Sl), t' = [.bw s2, .fz (.int much), .fz (.int most), .fz (.str (S (menu much))), s4, .fz (.int size), .fz (.str (S a)), s7] ∧ Asg s7 ∧ Sto (b + 6 * i) s2 ∧ Wd much a ∧ a.length = i) (k := 0) ?_ ?_ |>.imp fun t' h => ⟨h.1, ?_⟩
    · exact fun _ => ⟨[], s, .un, rfl, .un, hs, Wd.nil, rfl⟩
    · intro i x t' hx hi
      have hi12 : i < 12 := by
        have := (List.getElem?_eq_some_iff.mp hx).1
        simp [rangeD] at this
        omega
      obtain ⟨a, s2, s7, rfl, a7, hs2, hw, hl⟩ := hi (by omega)
      obtain ⟨r, s3, e3, hs3, r0, r1⟩ := T.at1 n m0 (Int.le_trans m1 (by decide)) hs2 (by omega)
      have hc : a.length + 1 ≤ cap := by
        have : (100 : Nat) ≤ cap := by decide
        omega
      refine ⟨_, .inl (by simp [l__law_word_1, asgS_asg a7, h7, d__law_take, b__law_take, e3, menu_get m1 r0 r1, hc]), fun _ => ⟨a ++ [97 + r.toNat], s3, .fz x, rfl, .fz, hs3.mono (by omega), hw.append (wd_one r0 r1), by simp [hl]⟩⟩
    · obtain ⟨a, s2, s7, e, a7, hs2, hw, hl⟩ := h.2 (by simp [rangeD]; omega)
      have hl2 : a.length = z.toNat := by simpa [rangeD] using hl
      have : (rangeD 0 z).length ≤ 12 := by simp [rangeD]; omega
      exact ⟨a, s2, s7, e, a7, hs2.mono (by omega), hw, hl2⟩
  by_cases c : 12 < size
  · obtain ⟨r, s3, e3, hs3, r0, r1⟩ := T.at1 n m0 (Int.le_trans m1 (by decide)) hs2 (by omega)
    have q0 : 0 ≤ size / 12 := Int.ediv_nonneg s0 (by decide)
    have q1 : size / 12 ≤ 33 := by omega
    have c1 : a.length * (size / 12 + 1).toNat ≤ cap ∧ (size / 12 + 1).natAbs < 2 ^ 62 := by
      have h1 : (size / 12 + 1).toNat ≤ 34 := by omega
      have h2 : a.length ≤ 12 := by omega
      have h3 := Nat.mul_le_mul h2 h1
      have h4 : (1000 : Nat) ≤ cap := by decide
      exact ⟨by omega, by omega⟩
    have c2 : (List.take (size - 1).toNat (repL (size / 12 + 1).toNat a)).length + 1 ≤ cap := by
      have h4 : (1000 : Nat) ≤ cap := by decide
      rw [List.length_take]
      omega
    have c3 : 0 ≤ size - 1 := by omega
    have c4 : min (size.toNat - 1) (repL (size / 12 + 1).toNat a).length + 1 ≤ cap := by simpa using c2
    have hz12 : z = 12 := z0.2.2.2.2 c
    rw [hz12] at e
    refine ⟨List.take (size - 1).toNat (repL (size / 12 + 1).toNat a) ++ [97 + r.toNat], s3, ?_, hs3.mono (by omega), ((hw.rep _).take _).append (wd_one r0 r1), ?_⟩
    · simp [t__law_word_2, t__law_word_3, t__law_word_4, t__law_word_5, e, c, c1.1, c1.2, cut_take c3, h7, d__law_take, b__law_take, e3, menu_get m1 r0 r1, c4]
    · simp only [List.length_append, List.length_take, List.length_singleton]
      omega
  · refine ⟨a, s2, ?_, hs2.mono (by omega), hw, by omega⟩
    have hzs : z = size := z0.2.2.2.1 (by omega)
    rw [hzs] at e hsm
    simp [t__law_word_2, t__law_word_3, t__law_word_4, t__law_word_5, hsm, e, c]
theorem wordOk {P : Pr} (h12 : P.df 12 = some d__law_word) (h7 : P.df 7 = some d__law_take) (T : TakeOk P) : WordOk P := fun n much most m0 m1 k0 k1 b s hs hb => by
  have hcut : cut [97, 98, 99, 100, 101, 102, 103, 104] none (some much) = menu much := cut_take (by omega)
  obtain ⟨r, s1, e1, hs1, r0, r1⟩ := T.at n (m := 3) (by decide) (by decide) hs (by omega)
  rw [callN_eq h12 rfl]
  by_cases c : r = 0
  · subst c
    obtain ⟨q, s2, e2, hs2, q0, q1⟩ := T.at n (m := 3) (by decide) (by decide) hs1 (by omega)
    by_cases c1 : q = 0
    · subst c1
      exact ⟨_, s2, by simp [d__law_word, b__law_word, t__law_word_1, t__law_word_2, t__law_word_3, t__law_word_4, t__law_word_5, hcut, h7, d__law_take, b__law_take, e1, e2] <;> rfl, hs2.mono (by omega), [], rfl, Wd.nil, by simpa using k0⟩
    by_cases c2 : most = 0
    · subst c2
      exact ⟨_, s2, by simp [d__law_word, b__law_word, t__law_word_1, t__law_word_2, t__law_word_3, t__law_word_4, t__law_word_5, hcut, h7, d__law_take, b__law_take, e1, e2, c1] <;> rfl, hs2.mono (by omega), [], rfl, Wd.nil, by simp⟩
    by_cases c3 : q = 1
    · subst c3
      obtain ⟨u, s3, e3, hs3, u0, u1⟩ := T.at1 n m0 (Int.le_trans m1 (by decide)) hs2 (by omega)
      obtain ⟨w, s4, e4, hs4, w0, w1⟩ := T.at1 n (m := most) (by omega) (Int.le_trans k1 (by decide)) hs3 (by omega)
      have c4 : (1 + w).toNat ≤ cap ∧ (1 + w).natAbs < 4611686018427387904 := by
        have h4 : (1000 : Nat) ≤ cap := by decide
        exact ⟨by omega, by omega⟩
      refine ⟨(.str (S (repL (1 + w).toNat [97 + u.toNat])), false), s4, by simp [d__law_word, b__law_word, t__law_word_1, t__law_word_2, t__law_word_3, t__law_word_4, t__law_word_5, hcut, h7, d__law_take, b__law_take, e1, e2, e3, e4, c2, menu_get m1 u0 u1, c4.1, c4.2], hs4.mono (by omega), _, rfl, (wd_one u0 u1).rep _, ?_⟩
      rw [repL_length]
      simp
      omega
    · obtain ⟨a, s3, e3, hs3, hw, hl⟩ := word_tail h7 T n (s4 := .fz (.int q)) m0 m1 k0 (Int.le_refl _) k1 .fz hs2 (by omega)
      exact ⟨_, s3, by rw [← e3]; simp [d__law_word, b__law_word, t__law_word_1, hcut, h7, d__law_take, b__law_take, e1, e2, c1, c2, c3], hs3.mono (by omega), a, rfl, hw, hl⟩
  · obtain ⟨q, s2, e2, hs2, q0, q1⟩ := T.at1 n (m := most + 1) (by omega) (by omega) hs1 (by omega)
    obtain ⟨a, s3, e3, hs3, hw, hl⟩ := word_tail h7 T n (s4 := .un) m0 m1 q0 (show q ≤ most by omega) k1 .un hs2 (by omega)
    exact ⟨_, s3, by rw [← e3]; simp [d__law_word, b__law_word, t__law_word_1, hcut, h7, d__law_take, b__law_take, e1, e2, c], hs3.mono (by omega), a, rfl, hw, hl⟩
/-! ### things that are no words -/
def isWordL (a : List Nat) : Bool := a.all fun c => decide (97 ≤ c) && decide (c ≤ 104)
def isWordD : D → Bool
  | .str s => isWordL (L s)
  | _ => false
theorem wd_isWord {m : Int} {a : List Nat} (h : Wd m a) (hm : m ≤ 8) : isWordL a = true := by
  unfold isWordL
  rw [List.all_eq_true]
  intro c hc
  have := h c hc
  rw [Bool.and_eq_true, decide_eq_true_eq, decide_eq_true_eq]
  omega
theorem isWordL_append (a b : List Nat) : isWordL (a ++ b) = (isWordL a && isWordL b) := by simp [isWordL]
mutual
/-- no dict that holds something -/
def flatK : D → Bool
  | .list l => flatKs l
  | .tuple l => flatKs l
  | .dict l => l.isEmpty
  | _ => true
def flatKs : List D → Bool
  | [] => true
  | x :: r => flatK x && flatKs r
end
mutual
def dep : D → Nat
  | .list l => 1 + deps l
  | .tuple l => 1 + deps l
  | _ => 0
def deps : List D → Nat
  | [] => 0
  | x :: r => max (dep x) (deps r)
end
theorem deps_mem {l : List D} {x : D} (h : x ∈ l) : dep x ≤ deps l := by
  induction l with
  | nil => cases h
  | cons y l ih =>
    simp only [deps]
    rcases List.mem_cons.mp h with rfl | h
    · omega
    · have := ih h; omega
theorem flatKs_mem {l : List D} (hl : flatKs l = true) {x : D} (h : x ∈ l) : flatK x = true := by
  induction l with
  | nil => cases h
  | cons y l ih =>
    simp only [flatKs, Bool.and_eq_true] at hl
    rcases List.mem_cons.mp h with rfl | h
    · exact hl.1
    · exact ih hl.2 h
theorem szs_mem {l : List D} {x : D} (h : x ∈ l) : sz x ≤ szs l := by
  induction l with
  | nil => cases h
  | cons y l ih =>
    simp only [szs]
    rcases List.mem_cons.mp h with rfl | h
    · omega
    · have := ih h; omega
def CopyOk (P : Pr) : Prop := ∀ (m n : Nat) (d : D), dep d ≤ m → flatK d = true → sz d ≤ 1000000 → callN P (n + m + 1) 11 [.fz d] = .ok (d, isMut d) [.fz d]
theorem copyOk {P : Pr} (h : P.df 11 = some d__law_copy) : CopyOk P := fun m => by
  induction m with
  | zero =>
    intro n d hd hf hz
    rw [callN_eq h rfl]
    cases d with
    | list l => simp [dep] at hd
    | tuple l => simp [dep] at hd
    | dict l =>
      have e : l = [] := by simpa [flatK] using hf
      subst e
      simp [d__law_copy, b__law_copy, t__law_copy_1, t__law_copy_2, t__law_copy_3, isMut]
    | _ => simp [d__law_copy, b__law_copy, t__law_copy_1, t__law_copy_2, t__law_copy_3, isMut]
  | succ m ih =>
    intro n d hd hf hz
    have hcap : (1000000 : Nat) ≤ cap := by decide
    rw [callN_eq h rfl]
    cases d with
    | list l =>
      have e : lcLoop (kTurn [3] (.nm 3) (evCs P (callN P (n + (m + 1))) false .nil) (eltK P (callN P (n + (m + 1))) (.call 11 (.cons (.var 3) .nil)))) l [.fz (.list l), .un, .un, .un] = .ok l [.fz (.list l), .un, .un, .un] := lcLoop_id fun x hx => by
        have := ih n x (by have := deps_mem hx; simp only [dep] at hd; omega) (flatKs_mem hf hx) (by have := szs_mem hx; simp only [sz] at hz; omega)
        simp [h, d__law_copy, b__law_copy, Nat.add_assoc] at this ⊢
        simp [this]
      have hl : l.length ≤ cap := by have := szs_len l; simp only [sz] at hz; omega
      simp [d__law_copy, b__law_copy, c__law_copy_1, e, hl, isMut]
    | tuple l =>
      have e : lcLoop (kTurn [3] (.nm 3) (evCs P (callN P (n + (m + 1))) false .nil) (eltK P (callN P (n + (m + 1))) (.call 11 (.cons (.var 3) .nil)))) l [.fz (.tuple l), .un, .un, .un] = .ok l [.fz (.tuple l), .un, .un, .un] := lcLoop_id fun x hx => by
        have := ih n x (by have := deps_mem hx; simp only [dep] at hd; omega) (flatKs_mem hf hx) (by have := szs_mem hx; simp only [sz] at hz; omega)
        simp [h, d__law_copy, b__law_copy, Nat.add_assoc] at this ⊢
        simp [this]
      have hl : l.length ≤ cap := by have := szs_len l; simp only [sz] at hz; omega
      simp [d__law_copy, b__law_copy, t__law_copy_1, c__law_copy_2, e, hl, isMut]
    | dict l =>
      have e : l = [] := by simpa [flatK] using hf
      subst e
      simp [d__law_copy, b__law_copy, t__law_copy_1, t__law_copy_2, t__law_copy_3, isMut]
    | _ => simp [d__law_copy, b__law_copy, t__law_copy_1, t__law_copy_2, t__law_copy_3, isMut]
mutual
/-- the longest text of a thing -/
def tx : D → Nat
  | .str s => (L s).length
  | .list l => txl l
  | .tuple l => txl l
  | _ => 0
def txl : List D → Nat
  | [] => 0
  | x :: l => max (tx x) (txl l)
end
/-- what the law takes for a thing that is no word -/
structure NoWord (x : D) : Prop where
  w : isWordD x = false
  f : flatK x = true
  d : dep x ≤ 3
  z : sz x ≤ 20
  p : ∀ s, x = .str s → (L s).length ≤ 400
  q : tx x ≤ 400
def BadWordOk (P : Pr) : Prop := ∀ (n : Nat), Draws P (n + 4) 13 118 [] fun v => NoWord v.1 ∧ v.2 = false
theorem badWordOk {P : Pr} (h13 : P.df 13 = some d__law_bad_word) (h12 : P.df 12 = some d__law_word) (h9 : P.df 9 = some d__law_pick) (h7 : P.df 7 = some d__law_take) (T : TakeOk P) (W : WordOk P) (K : PickOk P) : BadWordOk P := fun n b s hs hb => by
  obtain ⟨r, s1, e1, hs1, r0, r1⟩ := T.at (n + 1) (m := 3) (by decide) (by decide) hs (by omega)
  by_cases c : r = 0
  · subst c
    obtain ⟨v, s2, e2, hs2, x, hx, rfl⟩ := K n [.none, .bool true, .bool false, .int 0, .int 7, .tuple [], .tuple [.str (S [97])], .list [], .list [.str (S [97])], .dict [], .tuple [.str (S []), .str (S [97])], .int (-1)] (by simp) (by decide) _ s1 hs1 (by omega)
    refine ⟨_, s2, by rw [callN_eq h13 rfl]; simp [d__law_bad_word, b__law_bad_word, t__law_bad_word_1, t__law_bad_word_2, t__law_bad_word_3, t__law_bad_word_4, h7, d__law_take, b__law_take, h9, d__law_pick, b__law_pick, e1, e2] <;> rfl, hs2.mono (by omega), ?_, rfl⟩
    simp only [List.mem_cons, List.not_mem_nil, or_false] at hx
    rcases hx with rfl | rfl | rfl | rfl | rfl | rfl | rfl | rfl | rfl | rfl | rfl | rfl <;>
      exact ⟨rfl, rfl, by decide, by decide, fun s h => (by cases h), by simp [tx, txl]⟩
  · obtain ⟨v, s2, e2, hs2, a, rfl, hw, hl⟩ := W (n) 8 6 (by decide) (by decide) (by decide) (by decide) _ s1 hs1 (by omega)
    obtain ⟨q, s3, e3, hs3, q0, q1⟩ := T.at1 (n + 1) (m := (a.length : Int) + 1) (by omega) (by omega) hs2 (by omega)
    obtain ⟨v, s4, e4, hs4, x, hx, rfl⟩ := K n [.str (S [105]), .str (S [65]), .str (S [72]), .str (S [122]), .str (S [48]), .str (S [32]), .str (S [45]), .str (S [126]), .str (S [40]), .str (S [33]), .str (S [46])] (by simp) (by decide) _ s3 hs3 (by omega)
    obtain ⟨z, rfl, hz⟩ : ∃ z : Nat, x = .str (S [z]) ∧ isWordL [z] = false := by
      simp only [List.mem_cons, List.not_mem_nil, or_false] at hx
      rcases hx with rfl | rfl | rfl | rfl | rfl | rfl | rfl | rfl | rfl | rfl | rfl <;> exact ⟨_, rfl, rfl⟩
    have hcap : (1000 : Nat) ≤ cap := by decide
    have g1 : min q.toNat a.length + 1 ≤ cap := by omega
    have g2 : min q.toNat a.length + 1 + (a.length - q.toNat) ≤ cap := by omega
    refine ⟨(.str (S (a.take q.toNat ++ [z] ++ a.drop q.toNat)), false), s4, ?_, hs4.mono (by omega), ?_, rfl⟩
    · rw [callN_eq h13 rfl]
      simp [d__law_bad_word, b__law_bad_word, t__law_bad_word_1, t__law_bad_word_2, t__law_bad_word_3, t__law_bad_word_4, h7, d__law_take, b__law_take, h9, d__law_pick, b__law_pick, h12, d__law_word, b__law_word, e1, e2, e3, e4, c, cut_take q0, cut_drop q0, g1, g2]
    · refine ⟨?_, rfl, by simp [dep], by simp [sz], fun s h => ?_, by simp [tx]; omega⟩
      · show isWordL (L (S (a.take q.toNat ++ [z] ++ a.drop q.toNat))) = false
        rw [L_S, isWordL_append, isWordL_append, hz, Bool.and_false, Bool.false_and]
      · cases h
        rw [L_S]
        simp only [List.length_append, List.length_take, List.length_drop, List.length_singleton]
        omega
end Mp.Law

set_option maxHeartbeats 1000000
namespace Mp.Law
open PySem
@[simp] theorem lookup_if {β : Type} {a k : Nat} {b : β} {l : List (Nat × β)} : List.lookup a ((k, b) :: l) = if (a == k) = true then some b else l.lookup a := by
  rw [List.lookup_cons]
  cases (a == k) <;> rfl
/-- what a law copies and compares -/
structure Thing (x : D) : Prop where
  f : flatK x = true
  d : dep x ≤ 3
  z : sz x ≤ 1000
theorem NoWord.thing {x : D} (h : NoWord x) : Thing x := ⟨h.f, h.d, Nat.le_trans h.z (by decide)⟩
theorem thing_str {a : List Nat} : Thing (.str (S a)) := ⟨rfl, by simp [dep], by simp [sz]⟩
theorem thing_int {a : Int} : Thing (.int a) := ⟨rfl, by simp [dep], by simp [sz]⟩
/-- a number within its bounds -/
def inR (lo hi : Int) : D → Bool
  | .int i => decide (lo ≤ i) && decide (i ≤ hi)
  | _ => false
theorem inR_int {lo hi : Int} {d : D} (h : inR lo hi d = true) : ∃ i, d = .int i ∧ lo ≤ i ∧ i ≤ hi := by
  unfold inR at h
  split at h
  · simp at h
    exact ⟨_, rfl, h.1, h.2⟩
  · cases h
/- check_number (21) -/
def t_check_number_1 : Ss := .cons (.ite (.or (.cons (.cmp .lt (.var 1) (.var 2)) (.cons (.cmp .gt (.var 1) (.var 3)) .nil))) (.cons (.raise 5 (.cons (.var 0) (.cons (.var 2) (.cons (.var 3) .nil))))
.nil) .nil) .nil
def b_check_number : Ss := .cons (.ite (.or (.cons (.not (.isi (.var 1) [.int])) (.cons (.isi (.var 1) [.bool]) .nil))) (.cons (.raise 5 (.cons (.var 0) (.cons (.var 2) (.cons (.var 3) .nil))))
.nil) .nil) t_check_number_1
def d_check_number : Df := ⟨4, 4, [true, true, true, true], b_check_number⟩
/- _law_beyond (23) -/
def t__law_beyond_2 : Ss := .cons (.ret (.call 9 (.cons (.var 0) (.cons (.var 4) .nil)))) .nil
def t__law_beyond_1 : Ss := .cons (.asg (.nm 4) (.lst (.cons (.bin .sub (.var 1) (.c (.int 1))) (.cons (.bin .add (.var 2) (.c (.int 1))) (.cons (.bin .sub (.var 1) (.c (.int 1))) (.cons (.bin .add (.var 2) (.c (.int 1))) (.cons (.neg (.var 3)) (.cons (.var 3) (.cons (.c (.bool true)) (.cons (.c (.bool false)) (.cons (.c .none) (.cons (.bi .str (.cons (.var 1) .nil)) (.cons (.lst (.cons (.var 1) .nil)) (.cons (.tup (.cons (.var 2) .nil)) (.cons (.c (.str (S []))) .nil))))))))))))))) t__law_beyond_2
def b__law_beyond : Ss := .cons (.asg (.nm 3) (.bin .add (.bin .pow (.c (.int 10)) (.c (.int 30))) (.call 7 (.cons (.var 0) (.cons (.bin .pow (.c (.int 10)) (.c (.int 6))) .nil))))) t__law_beyond_1
def d__law_beyond : Df := ⟨3, 5, [true, true, true], b__law_beyond⟩
def oorX (w : Str) (lo hi : Int) : Ex := ⟨5, [(4, .str w), (5, .int lo), (6, .int hi)]⟩
/-- check_number: the number, or OutOfRange -/
def NumberOk (P : Pr) : Prop := ∀ (n : Nat) (w : Str) (lo hi : Int) (d : D) (s : Sl), (s = .fz d ∨ s = .bw d) → callN P (n + 1) 21 [.fz (.str w), s, .fz (.int lo), .fz (.int hi)] = if inR lo hi d = true then .ok (.none, false) [.fz (.str w), s, .fz (.int lo), .fz (.int hi)] else .rs (oorX w lo hi) [.fz (.str w), s, .fz (.int lo), .fz (.int hi)]
theorem numberOk {P : Pr} (h : P.df 21 = some d_check_number) (hf : P.fld 5 = [4, 5, 6]) : NumberOk P := fun n w lo hi d s hs => by
  rw [callN_eq h rfl]
  cases d with
  | int i =>
    by_cases c1 : i < lo
    · have c2 : ¬ lo ≤ i := by omega
      rcases hs with rfl | rfl <;> simp [d_check_number, b_check_number, t_check_number_1, inR, c1, c2, hf, oorX]
    · have c2 : lo ≤ i := by omega
      by_cases c3 : hi < i
      · have c4 : ¬ i ≤ hi := by omega
        rcases hs with rfl | rfl <;> simp [d_check_number, b_check_number, t_check_number_1, inR, c1, c2, c3, c4, hf, oorX]
      · have c4 : i ≤ hi := by omega
        rcases hs with rfl | rfl <;> simp [d_check_number, b_check_number, t_check_number_1, inR, c1, c2, c3, c4, hf, oorX]
  | _ => rcases hs with rfl | rfl <;> simp [d_check_number, b_check_number, t_check_number_1, inR, hf, oorX]
/-- one of a list that stands in a slot of the caller's -/
def PickBOk (P : Pr) : Prop := ∀ (n : Nat) (l : List D), l ≠ [] → l.length ≤ 1000000 → Draws P (n + 3) 9 6 [.bw (.list l)] fun v => ∃ x ∈ l, v = (x, false)
theorem pickBOk {P : Pr} (h9 : P.df 9 = some d__law_pick) (h7 : P.df 7 = some d__law_take) (T : TakeOk P) : PickBOk P := fun n l hl hn b s hs hb => by
  have h0 : 0 < l.length := List.length_pos_iff.mpr hl
  obtain ⟨r, s1, e1, hs1, r0, r1⟩ := T.at1 n (m := (l.length : Int)) (by omega) (by omega) hs (by omega)
  have hr : r.toNat < l.length := by omega
  refine ⟨(l[r.toNat], false), s1, ?_, hs1, _, List.getElem_mem hr, rfl⟩
  rw [callN_eq h9 rfl]
  simp [d__law_pick, b__law_pick, h7, d__law_take, b__law_take, e1, itemL_pos r0, List.getElem?_eq_getElem hr]
/-- a thing beyond the bounds -/
def BeyondOk (P : Pr) : Prop := ∀ (n : Nat) (lo hi : Int), 0 ≤ lo → lo ≤ hi → hi ≤ 1000000000 → Draws P (n + 4) 23 12 [.fz (.int lo), .fz (.int hi)] fun v => ∃ x, v = (x, false) ∧ Thing x ∧ inR lo hi x = false
theorem beyondOk {P : Pr} (h : P.df 23 = some d__law_beyond) (h7 : P.df 7 = some d__law_take) (h9 : P.df 9 = some d__law_pick) (T : TakeOk P) (K : PickBOk P) : BeyondOk P := fun n lo hi l0 l1 l2 b s hs hb => by
  obtain ⟨r, s1, e1, hs1, r0, r1⟩ := T.at (n + 1) (m := 1000000) (by decide) (by decide) hs (by omega)
  obtain ⟨v, s2, e2, hs2, x, hx, rfl⟩ := K n [.int (lo - 1), .int (hi + 1), .int (lo - 1), .int (hi + 1), .int (-(1000000000000000000000000000000 + r)), .int (1000000000000000000000000000000 + r), .bool true, .bool false, .none, .str (S (numI lo.toNat)), .list [.int lo], .tuple [.int hi], .str (S [])] (by simp) (by simp) _ s1 hs1 (by omega)
  refine ⟨_, s2, ?_, hs2.mono (by omega), x, rfl, ?_⟩
  · rw [callN_eq h rfl]
    simp [d__law_beyond, b__law_beyond, t__law_beyond_1, t__law_beyond_2, h7, d__law_take, b__law_take, h9, d__law_pick, b__law_pick, e1, e2, numOk_le l0 (show lo ≤ 18446744073709551616 by omega)]
  · simp only [List.mem_cons, List.not_mem_nil, or_false] at hx
    have w1 : ¬ lo ≤ lo - 1 := by omega
    have w2 : ¬ hi + 1 ≤ hi := by omega
    have w3 : ¬ lo ≤ -(1000000000000000000000000000000 + r) := by omega
    have w4 : ¬ 1000000000000000000000000000000 + r ≤ hi := by omega
    rcases hx with rfl | rfl | rfl | rfl | rfl | rfl | rfl | rfl | rfl | rfl | rfl | rfl | rfl <;> exact ⟨⟨by simp [flatK, flatKs], by simp [dep, deps], by simp [sz, szs]⟩, by simp [inR, w1, w2, w3, w4]⟩
end Mp.Law

set_option maxHeartbeats 1000000
namespace Mp.Law
open PySem
/- is_word (0) -/
def b_is_word : Ss := .cons (.ret (.and (.cons (.isi (.var 0) [.str]) (.cons (.cmp .eq (.me .strip (.var 0) (.cons (.g 0) .nil)) (.c (.str (S [])))) .nil)))) .nil
def d_is_word : Df := ⟨1, 1, [true], b_is_word⟩
/- check_word (1) -/
def b_check_word : Ss := .cons (.ite (.not (.call 0 (.cons (.var 0) .nil))) (.cons (.raise 1 (.cons (.var 0) .nil))
.nil) .nil) .nil
def d_check_word : Df := ⟨1, 1, [true], b_check_word⟩
/- common (2) -/
def l_common_1 : Ss := .cons (.ite (.cmp .ne (.var 3) (.var 4)) (.cons (.ret (.var 2))
.nil) .nil) .nil
def t_common_4 : Ss := .cons (.ret (.bi .len (.cons (.var 1) .nil))) .nil
def t_common_3 : Ss := .cons (.for_ (.tp [(.nm 2), (.tp [(.nm 3), (.nm 4)])]) (.enz (.var 0) (.var 1)) l_common_1) t_common_4
def t_common_2 : Ss := .cons (.ite (.me .startswith (.var 1) (.cons (.var 0) .nil)) (.cons (.ret (.bi .len (.cons (.var 0) .nil)))
.nil) .nil) t_common_3
def t_common_1 : Ss := .cons (.ex (.call 1 (.cons (.var 1) .nil))) t_common_2
def b_common : Ss := .cons (.ex (.call 1 (.cons (.var 0) .nil))) t_common_1
def d_common : Df := ⟨2, 5, [true, true], b_common⟩
/- root_of (3) -/
def t_root_of_2 : Ss := .cons (.ret (.sl (.var 0) .no (.so (.me .find (.bin .add (.var 0) (.var 0)) (.cons (.var 0) (.cons (.c (.int 1)) .nil)))))) .nil
def t_root_of_1 : Ss := .cons (.ite (.cmp .eq (.var 0) (.c (.str (S [])))) (.cons (.ret (.c (.str (S []))))
.nil) .nil) t_root_of_2
def b_root_of : Ss := .cons (.ex (.call 1 (.cons (.var 0) .nil))) t_root_of_1
def d_root_of : Df := ⟨1, 1, [true], b_root_of⟩
theorem strip_word (a : List Nat) : decide (L (Txt.stripChars (S a) (S [97, 98, 99, 100, 101, 102, 103, 104])) = []) = isWordL a := by
  have e : (L (Txt.stripChars (S a) (S [97, 98, 99, 100, 101, 102, 103, 104])) = []) ↔ ∀ c ∈ a, c ∈ [97, 98, 99, 100, 101, 102, 103, 104] := by
    rw [← strip_nil]
    constructor
    · intro h
      rw [← S_ext (x := Txt.stripChars _ _), h]
    · intro h
      rw [h, L_S]
  rw [Bool.eq_iff_iff, decide_eq_true_eq, e]
  unfold isWordL
  rw [List.all_eq_true]
  refine forall_congr' fun c => forall_congr' fun _ => ?_
  rw [Bool.and_eq_true, decide_eq_true_eq, decide_eq_true_eq]
  simp only [List.mem_cons, List.not_mem_nil, or_false]
  omega
def LettersOk (P : Pr) : Prop := P.gl 0 = some (.str (S [97, 98, 99, 100, 101, 102, 103, 104]))
/-- an argument: frozen, or the caller's own -/
def Ar (x : D) (sl : Sl) : Prop := sl = .fz x ∨ sl = .bw x
theorem Ar.fz {x : D} : Ar x (.fz x) := .inl rfl
theorem Ar.bw {x : D} : Ar x (.bw x) := .inr rfl
/-- .. that has been shared -/
def frS : Sl → Sl
  | .bw d => .bf d
  | s => s
@[simp] theorem frS_fz {x : D} : frS (.fz x) = .fz x := rfl
@[simp] theorem frS_bw {x : D} : frS (.bw x) = .bf x := rfl
def IsWordOk (P : Pr) : Prop := ∀ (n : Nat) (x : D) (sl : Sl), Ar x sl → callN P (n + 1) 0 [sl] = .ok (.bool (isWordD x), false) [sl]
theorem isWordOk {P : Pr} (h0 : P.df 0 = some d_is_word) (hg : LettersOk P) : IsWordOk P := fun n x sl hx => by
  unfold LettersOk at hg
  rw [callN_eq h0 rfl]
  rcases hx with rfl | rfl
  all_goals
    cases x with
    | str s =>
      have e := strip_word (L s)
      rw [S_ext] at e
      simp [d_is_word, b_is_word, hg, isWordD, e]
    | _ => simp [d_is_word, b_is_word, isWordD]
def CheckWordOk (P : Pr) : Prop := ∀ (n : Nat) (x : D) (sl : Sl), Ar x sl → callN P (n + 2) 1 [sl] = if isWordD x = true then .ok (.none, false) [sl] else .rs ⟨1, [(0, x)]⟩ [frS sl]
theorem checkWordOk {P : Pr} (h1 : P.df 1 = some d_check_word) (h0 : P.df 0 = some d_is_word) (hf : P.fld 1 = [0]) (W : IsWordOk P) : CheckWordOk P := fun n x sl hx => by
  have e := W n x sl hx
  rw [callN_eq h1 rfl]
  rcases hx with rfl | rfl <;> cases c : isWordD x <;> rw [c] at e <;> simp [d_check_word, b_check_word, h0, d_is_word, b_is_word, e, hf]
/-- how many letters are equal -/
def commonL : List Nat → List Nat → Nat
  | a :: u, b :: v => if a = b then commonL u v + 1 else 0
  | _, _ => 0
theorem isWordD_str {x : D} (h : isWordD x = true) : ∃ a, x = .str (S a) ∧ isWordL a = true := by
  cases x with
  | str s => exact ⟨L s, by rw [S_ext], h⟩
  | _ => cases h
theorem common_pre : ∀ {u v : List Nat}, u <+: v → commonL u v = u.length
  | [], v, _ => by cases v <;> rfl
  | a :: u, [], h => by simp at h
  | a :: u, b :: v, h => by
    rw [List.cons_prefix_cons] at h
    rw [commonL, if_pos h.1, common_pre h.2, List.length_cons]
/-- the loop of common -/
theorem common_loop {P : Pr} {cs : Cs} {x y : D} : ∀ (u v : List Nat) (k : Nat) (s2 s3 s4 : Sl), Asg s2 → Asg s3 → Asg s4 → ¬ u <+: v →
    (∃ t', forLoop (forT (.tp [.nm 2, .tp [.nm 3, .nm 4]]) (exSs P cs false l_common_1)) ((zipD (u.map fun c => .str (S [c])) (v.map fun c => .str (S [c]))).mapIdx fun i z => .tuple [.int ((i + k : Nat) : Int), z]) [.fz x, .fz y, s2, s3, s4] = .rt (.int ((commonL u v + k : Nat) : Int), false) t' ∧ t'.take 2 = [.fz x, .fz y] ∧ commonL u v < v.length) ∨
    (∃ q2 q3 q4 : Sl, forLoop (forT (.tp [.nm 2, .tp [.nm 3, .nm 4]]) (exSs P cs false l_common_1)) ((zipD (u.map fun c => .str (S [c])) (v.map fun c => .str (S [c]))).mapIdx fun i z => .tuple [.int ((i + k : Nat) : Int), z]) [.fz x, .fz y, s2, s3, s4] = .nx [.fz x, .fz y, q2, q3, q4] ∧ commonL u v = v.length)
  | [], v, k, s2, s3, s4, _, _, _, h => absurd (List.nil_prefix) h
  | a :: u, [], k, s2, s3, s4, _, _, _, h => .inr ⟨s2, s3, s4, rfl, rfl⟩
  | a :: u, b :: v, k, s2, s3, s4, h2, h3, h4, h => by
    have ez : ((zipD ((a :: u).map fun c => .str (S [c])) ((b :: v).map fun c => .str (S [c]))).mapIdx fun i z => PyData.tuple [.int ((i + k : Nat) : Int), z]) = .tuple [.int (k : Int), .tuple [.str (S [a]), .str (S [b])]] :: ((zipD (u.map fun c => .str (S [c])) (v.map fun c => .str (S [c]))).mapIdx fun i z => .tuple [.int ((i + (k + 1) : Nat) : Int), z]) := by
      simp [zipD, List.mapIdx_cons, Nat.add_assoc, Nat.add_comm 1 k]
      refine congrArg (fun f => List.mapIdx f _) ?_
      funext i z
      rw [show (i : Int) + 1 + k = i + (k + 1) by omega]
    rw [ez]
    by_cases c : a = b
    · subst c
      have h' : ¬ u <+: v := fun z => h (List.cons_prefix_cons.mpr ⟨rfl, z⟩)
      have et : forT (.tp [.nm 2, .tp [.nm 3, .nm 4]]) (exSs P cs false l_common_1) (.tuple [.int (k : Int), .tuple [.str (S [a]), .str (S [a])]]) [.fz x, .fz y, s2, s3, s4] = .nx [.fz x, .fz y, .fz (.int k), .fz (.str (S [a])), .fz (.str (S [a]))] := by
        simp [l_common_1, asgS_asg h2, asgS_asg h3, asgS_asg h4]
      rw [forLoop_nx et]
      rw [show commonL (a :: u) (a :: v) = commonL u v + 1 by rw [commonL, if_pos rfl]]
      rcases common_loop u v (k + 1) _ _ _ .fz .fz .fz h' with ⟨t', e1, e2, e3⟩ | ⟨q2, q3, q4, e1, e2⟩
      · refine .inl ⟨t', ?_, e2, by simp only [List.length_cons]; omega⟩
        rw [e1, show commonL u v + (k + 1) = commonL u v + 1 + k by omega]
      · exact .inr ⟨q2, q3, q4, e1, by simp only [List.length_cons]; omega⟩
    · refine .inl ⟨[.fz x, .fz y, .fz (.int k), .fz (.str (S [a])), .fz (.str (S [b]))], ?_, rfl, ?_⟩
      · have et : forT (.tp [.nm 2, .tp [.nm 3, .nm 4]]) (exSs P cs false l_common_1) (.tuple [.int (k : Int), .tuple [.str (S [a]), .str (S [b])]]) [.fz x, .fz y, s2, s3, s4] = .rt (.int k, false) [.fz x, .fz y, .fz (.int k), .fz (.str (S [a])), .fz (.str (S [b]))] := by
          simp [l_common_1, asgS_asg h2, asgS_asg h3, asgS_asg h4, c]
        rw [forLoop_rt et, commonL, if_neg c, Nat.zero_add]
      · rw [commonL, if_neg c]; simp
def CommonOk (P : Pr) : Prop := (∀ (n : Nat) (u v : List Nat), isWordL u = true → isWordL v = true → callN P (n + 3) 2 [.fz (.str (S u)), .fz (.str (S v))] = .ok (.int (commonL u v : Int), false) [.fz (.str (S u)), .fz (.str (S v))]) ∧
  (∀ (n : Nat) (x y : D) (s1 s2 : Sl), Ar x s1 → Ar y s2 → isWordD x = false → callN P (n + 3) 2 [s1, s2] = .rs ⟨1, [(0, x)]⟩ [frS s1, s2]) ∧
  (∀ (n : Nat) (x y : D) (s2 : Sl), Ar y s2 → isWordD x = true → isWordD y = false → callN P (n + 3) 2 [.fz x, s2] = .rs ⟨1, [(0, y)]⟩ [.fz x, frS s2])
theorem commonOk {P : Pr} (h2 : P.df 2 = some d_common) (h1 : P.df 1 = some d_check_word) (C : CheckWordOk P) : CommonOk P := by
  refine ⟨fun n u v hu hv => ?_, fun n x y s1 s2 a1 a2 hx => ?_, fun n x y s2 a2 hx hy => ?_⟩
  · have e1 := C n (.str (S u)) _ .fz
    have e2 := C n (.str (S v)) _ .fz
    have w1 : isWordD (.str (S u)) = true := by simpa [isWordD] using hu
    have w2 : isWordD (.str (S v)) = true := by simpa [isWordD] using hv
    rw [if_pos w1] at e1
    rw [if_pos w2] at e2
    rw [callN_eq h2 rfl]
    by_cases c : u <+: v
    · rw [common_pre c]
      simp [d_common, b_common, t_common_1, t_common_2, t_common_3, t_common_4, h1, d_check_word, b_check_word, e1, e2, starts_S, c]
    · have ez : ((zipD (u.map fun c => .str (S [c])) (v.map fun c => .str (S [c]))).mapIdx fun i z => PyData.tuple [.int ((i + 0 : Nat) : Int), z]) = enumD (zipD (u.map fun c => .str (S [c])) (v.map fun c => .str (S [c]))) := rfl
      rcases common_loop (P := P) (cs := callN P (n + 2)) (x := .str (S u)) (y := .str (S v)) u v 0 .un .un .un .un .un .un c with ⟨t', e3, e4, e5⟩ | ⟨q2, q3, q4, e3, e4⟩
      · rw [ez, Nat.add_zero] at e3
        simp [d_common, b_common, t_common_1, t_common_2, t_common_3, t_common_4, h1, d_check_word, b_check_word, e1, e2, starts_S, c, e3, e4]
      · rw [ez] at e3
        simp [d_common, b_common, t_common_1, t_common_2, t_common_3, t_common_4, h1, d_check_word, b_check_word, e1, e2, starts_S, c, e3, e4]
  · have e1 := C n x s1 a1
    rw [if_neg (by simp [hx])] at e1
    rw [callN_eq h2 rfl]
    rcases a1 with rfl | rfl <;> rcases a2 with rfl | rfl <;> simp at e1 <;> simp [d_common, b_common, t_common_1, t_common_2, t_common_3, t_common_4, h1, d_check_word, b_check_word, e1]
  · have e1 := C n x _ .fz
    have e2 := C n y s2 a2
    rw [if_pos hx] at e1
    rw [if_neg (by simp [hy])] at e2
    rw [callN_eq h2 rfl]
    rcases a2 with rfl | rfl <;> simp at e2 <;> simp [d_common, b_common, t_common_1, t_common_2, t_common_3, t_common_4, h1, d_check_word, b_check_word, e1, e2]
/-- the shortest beginning that repeats to the word: word[: (word + word).find(word, 1)] -/
def rootL (a : List Nat) : List Nat := a.take (findL (a ++ a) a 1).toNat
def RootOk (P : Pr) : Prop := (∀ (n : Nat) (a : List Nat), isWordL a = true → a.length ≤ 100000 → callN P (n + 3) 3 [.fz (.str (S a))] = .ok (.str (S (rootL a)), false) [.fz (.str (S a))]) ∧
  (∀ (n : Nat) (x : D) (s1 : Sl), Ar x s1 → isWordD x = false → callN P (n + 3) 3 [s1] = .rs ⟨1, [(0, x)]⟩ [frS s1])
/-- a + a holds a behind its first letter -/
theorem find_twice {a : List Nat} (h : a ≠ []) : 1 ≤ findL (a ++ a) a 1 ∧ findL (a ++ a) a 1 ≤ a.length := by
  have hp : 0 < a.length := List.length_pos_iff.mpr h
  unfold findL
  cases e : (List.range' 1 ((a ++ a).length + 1 - 1)).find? fun i => decide (i + a.length ≤ (a ++ a).length) && decide (((a ++ a).drop i).take a.length = a) with
  | none =>
    rw [List.find?_eq_none] at e
    have := e a.length (List.mem_range'_1.mpr (by simp; omega))
    simp at this
  | some k =>
    have h1 := List.find?_some e
    have h2 := List.mem_range'_1.mp (List.mem_of_find?_eq_some e)
    simp only [List.length_append, Bool.and_eq_true, decide_eq_true_eq] at h1 h2
    show 1 ≤ (k : Int) ∧ (k : Int) ≤ a.length
    omega
theorem rootOk {P : Pr} (h3 : P.df 3 = some d_root_of) (h1 : P.df 1 = some d_check_word) (C : CheckWordOk P) : RootOk P := by
  refine ⟨fun n a ha hl => ?_, fun n x s1 a1 hx => ?_⟩
  · have e1 := C n (.str (S a)) _ .fz
    have w1 : isWordD (.str (S a)) = true := by simpa [isWordD] using ha
    rw [if_pos w1] at e1
    rw [callN_eq h3 rfl]
    by_cases c : a = []
    · subst c
      simp [d_root_of, b_root_of, t_root_of_1, t_root_of_2, h1, d_check_word, b_check_word, e1, rootL]
    · have hcap : a.length + a.length ≤ cap := by
        have : (200000 : Nat) ≤ cap := by decide
        omega
      have ef : Txt.find3 (S (a ++ a)) (S a) 1 = findL (a ++ a) a 1 := find3_S _ _ 1
      have h0 := find_twice c
      simp [d_root_of, b_root_of, t_root_of_1, t_root_of_2, h1, d_check_word, b_check_word, e1, c, hcap, ef, cut_take (show 0 ≤ findL (a ++ a) a 1 by omega), rootL]
  · have e1 := C n x s1 a1
    rw [if_neg (by simp [hx])] at e1
    rw [callN_eq h3 rfl]
    rcases a1 with rfl | rfl <;> simp at e1 <;> simp [d_root_of, b_root_of, t_root_of_1, t_root_of_2, h1, d_check_word, b_check_word, e1]
end Mp.Law

namespace Mp.Law
open PySem
/-! plain: the least turn of a word -/
/-- turned by k letters it is itself -/
def Rot (a : List Nat) (k : Nat) : Prop := ∀ i, i < a.length → a[(i + k) % a.length]? = a[i]?
theorem Rot.add {a : List Nat} {j k : Nat} (h : Rot a j) (g : Rot a k) : Rot a (j + k) := fun i hi => by
  have hp : 0 < a.length := by omega
  rw [← Nat.add_assoc, ← Nat.mod_add_mod, g _ (Nat.mod_lt _ hp), h i hi]
theorem Rot.mul {a : List Nat} {k : Nat} (h : Rot a k) : ∀ q : Nat, Rot a (k * q)
  | 0 => fun i hi => by rw [Nat.mul_zero, Nat.add_zero, Nat.mod_eq_of_lt hi]
  | q + 1 => by rw [Nat.mul_succ]; exact (h.mul q).add h
theorem Rot.sub {a : List Nat} {j k : Nat} (h : Rot a j) (g : Rot a (k + j)) : Rot a k := fun i hi => by
  have hp : 0 < a.length := by omega
  have e1 := g i hi
  rw [← Nat.add_assoc, ← Nat.mod_add_mod, h _ (Nat.mod_lt _ hp)] at e1
  exact e1
theorem Rot.full {a : List Nat} : Rot a a.length := fun i hi => by rw [Nat.add_mod_right, Nat.mod_eq_of_lt hi]
/-- turning, by the doubled word -/
theorem rot_iff {a : List Nat} {k : Nat} (hk : k ≤ a.length) : ((a ++ a).drop k).take a.length = a ↔ Rot a k := by
  have hlen : (((a ++ a).drop k).take a.length).length = a.length := by simp; omega
  constructor
  · intro h i hi
    have e : (((a ++ a).drop k).take a.length)[i]? = a[i]? := by rw [h]
    rw [List.getElem?_take_of_lt hi, List.getElem?_drop] at e
    rw [← e]
    by_cases c : k + i < a.length
    · rw [List.getElem?_append_left c, Nat.add_comm i k, Nat.mod_eq_of_lt c]
    · rw [List.getElem?_append_right (by omega), Nat.add_comm i k, Nat.mod_eq_sub_mod (by omega), Nat.mod_eq_of_lt (by omega)]
  · intro h
    refine List.ext_getElem? fun i => ?_
    by_cases hi : i < a.length
    · rw [List.getElem?_take_of_lt hi, List.getElem?_drop, ← h i hi]
      by_cases c : k + i < a.length
      · rw [List.getElem?_append_left c, Nat.add_comm i k, Nat.mod_eq_of_lt c]
      · rw [List.getElem?_append_right (by omega), Nat.add_comm i k, Nat.mod_eq_sub_mod (by omega), Nat.mod_eq_of_lt (by omega)]
    · rw [List.getElem?_eq_none (by omega), List.getElem?_eq_none (by omega)]
theorem repL_get {p : List Nat} : ∀ (q i : Nat), i < q * p.length → (repL q p)[i]? = p[i % p.length]?
  | 0, i, h => by omega
  | q + 1, i, h => by
    have e : repL (q + 1) p = p ++ repL q p := by unfold repL; rw [List.replicate_succ, List.flatten_cons]
    rw [e]
    by_cases c : i < p.length
    · rw [List.getElem?_append_left c, Nat.mod_eq_of_lt c]
    · have h2 : (q + 1) * p.length = q * p.length + p.length := Nat.succ_mul _ _
      have e2 : i % p.length = (i - p.length) % p.length := Nat.mod_eq_sub_mod (by omega)
      rw [e2, List.getElem?_append_right (by omega), repL_get q (i - p.length) (by omega)]
/-- a number of letters that divides: repeated, or turned -/
theorem rep_iff {a : List Nat} {k : Nat} (h0 : 0 < k) (hk : k ≤ a.length) (hd : a.length % k = 0) : repL (a.length / k) (a.take k) = a ↔ Rot a k := by
  have hm : a.length / k * k = a.length := Nat.div_mul_cancel (Nat.dvd_of_mod_eq_zero hd)
  have hl : (a.take k).length = k := by simp; omega
  constructor
  · intro h i hi
    have get : ∀ j, j < a.length → a[j]? = (a.take k)[j % k]? := fun j hj => by
      have := repL_get (p := a.take k) (a.length / k) j (by rw [hl, hm]; exact hj)
      rw [h, hl] at this
      exact this
    have hp : 0 < a.length := by omega
    rw [get _ (Nat.mod_lt _ hp), get i hi, Nat.mod_mod_of_dvd _ (Nat.dvd_of_mod_eq_zero hd), Nat.add_mod_right]
  · intro h
    refine List.ext_getElem? fun i => ?_
    by_cases hi : i < a.length
    · have hi2 : i < a.length / k * (a.take k).length := by rw [hl, hm]; exact hi
      rw [repL_get _ _ hi2, hl]
      have hik : i % k < k := Nat.mod_lt _ h0
      rw [List.getElem?_take_of_lt hik]
      have e := h.mul (i / k) (i % k) (by omega)
      rw [Nat.mod_add_div, Nat.mod_eq_of_lt hi] at e
      exact e.symm
    · rw [List.getElem?_eq_none (by rw [repL_length, hl, hm]; omega), List.getElem?_eq_none (by omega)]
/-- the least turn -/
structure Least (a : List Nat) (k : Nat) : Prop where
  pos : 0 < k
  le : k ≤ a.length
  rot : Rot a k
  min : ∀ j, 0 < j → j < k → ¬ Rot a j
theorem Least.div {a : List Nat} {k : Nat} (h : Least a k) : a.length % k = 0 := by
  have e : a.length % k + k * (a.length / k) = a.length := Nat.mod_add_div _ _
  have r : Rot a (a.length % k) := (h.rot.mul (a.length / k)).sub (by rw [e]; exact Rot.full)
  cases z : a.length % k with
  | zero => rfl
  | succ j =>
    rw [z] at r
    exact absurd r (h.min _ (Nat.succ_pos _) (by rw [← z]; exact Nat.mod_lt _ h.pos))
theorem Least.uniq {a : List Nat} {j k : Nat} (h : Least a j) (g : Least a k) : j = k := by
  rcases Nat.lt_trichotomy j k with c | c | c
  · exact absurd h.rot (g.min j h.pos c)
  · exact c
  · exact absurd g.rot (h.min k g.pos c)
theorem root_least {a : List Nat} (h : a ≠ []) : ∃ k, Least a k ∧ findL (a ++ a) a 1 = k ∧ rootL a = a.take k := by
  have hp : 0 < a.length := List.length_pos_iff.mpr h
  unfold rootL findL
  cases e : (List.range' 1 ((a ++ a).length + 1 - 1)).find? fun i => decide (i + a.length ≤ (a ++ a).length) && decide (((a ++ a).drop i).take a.length = a) with
  | none =>
    rw [List.find?_eq_none] at e
    have := e a.length (List.mem_range'_1.mpr (by simp; omega))
    simp at this
  | some k =>
    rw [List.find?_range'_eq_some] at e
    obtain ⟨e1, e2, e3⟩ := e
    rw [List.mem_range'_1] at e2
    simp only [List.length_append, Bool.and_eq_true, decide_eq_true_eq] at e1
    have hk : k ≤ a.length := by omega
    refine ⟨k, ⟨by omega, hk, (rot_iff hk).mp e1.2, fun j j0 j1 r => ?_⟩, rfl, rfl⟩
    have := e3 j (by omega) j1
    simp only [List.length_append, Bool.not_eq_true', Bool.and_eq_false_iff, decide_eq_false_iff_not] at this
    rcases this with z | z
    · omega
    · exact z ((rot_iff (by omega)).mpr r)
/-- the root's own root -/
theorem root_root (a : List Nat) : rootL (rootL a) = rootL a := by
  by_cases h : a = []
  · subst h; rfl
  · obtain ⟨k, L, _, e⟩ := root_least h
    rw [e]
    have hl : (a.take k).length = k := by have := L.le; simp; omega
    have hne : a.take k ≠ [] := fun z => by rw [z] at hl; have := L.pos; simp at hl; omega
    obtain ⟨j, M, _, e2⟩ := root_least hne
    rw [e2]
    have hd := L.div
    have hrep := (rep_iff L.pos L.le hd).mpr L.rot
    have hm : a.length / k * k = a.length := Nat.div_mul_cancel (Nat.dvd_of_mod_eq_zero hd)
    have get : ∀ i, i < a.length → a[i]? = (a.take k)[i % k]? := fun i hi => by
      have := repL_get (p := a.take k) (a.length / k) i (by rw [hl, hm]; exact hi)
      rw [hrep, hl] at this
      exact this
    have r : Rot a j := fun i hi => by
      have hp : 0 < a.length := by omega
      rw [get _ (Nat.mod_lt _ hp), get i hi, Nat.mod_mod_of_dvd _ (Nat.dvd_of_mod_eq_zero hd)]
      have := M.rot (i % k) (by rw [hl]; exact Nat.mod_lt _ L.pos)
      rw [hl, Nat.mod_add_mod] at this
      exact this
    have : j = k := by
      have h1 := M.le
      rw [hl] at h1
      rcases Nat.lt_or_ge j k with c | c
      · exact absurd r (L.min j M.pos c)
      · omega
    rw [this, List.take_take, Nat.min_self]
theorem rootL_word {a : List Nat} (h : isWordL a = true) : isWordL (rootL a) = true := by
  unfold isWordL at *
  rw [List.all_eq_true] at *
  exact fun c hc => h c (List.mem_of_mem_take hc)
theorem rootL_le (a : List Nat) : (rootL a).length ≤ a.length := by
  unfold rootL
  rw [List.length_take]
  omega
/-! plain: equal letters -/
theorem commonL_comm : ∀ u v : List Nat, commonL u v = commonL v u
  | [], [] => rfl
  | [], _ :: _ => rfl
  | _ :: _, [] => rfl
  | a :: u, b :: v => by
    rw [commonL, commonL, commonL_comm u v]
    by_cases c : a = b
    · rw [if_pos c, if_pos c.symm]
    · rw [if_neg c, if_neg fun z => c z.symm]
theorem commonL_self (u : List Nat) : commonL u u = u.length := common_pre (List.prefix_refl u)
theorem commonL_le : ∀ u v : List Nat, commonL u v ≤ u.length ∧ commonL u v ≤ v.length
  | [], v => by cases v <;> simp [commonL]
  | _ :: _, [] => by simp [commonL]
  | a :: u, b :: v => by
    have := commonL_le u v
    rw [commonL]
    split <;> simp <;> omega
theorem common_take : ∀ (u v : List Nat) (k : Nat), k ≤ u.length → k ≤ v.length → (u.take k = v.take k ↔ k ≤ commonL u v)
  | _, _, 0, _, _ => by simp
  | [], v, k + 1, h, _ => by simp at h
  | _ :: _, [], k + 1, _, h => by simp at h
  | a :: u, b :: v, k + 1, h, g => by
    rw [List.take_succ_cons, List.take_succ_cons, List.cons.injEq, common_take u v k (by simpa using h) (by simpa using g), commonL]
    by_cases c : a = b
    · rw [if_pos c]; simp [c]
    · rw [if_neg c]; simp [c]
theorem count_le (m c : Nat) (h : c ≤ m) : ((List.range m).filter fun i => decide (i + 1 ≤ c)).length = c := by
  induction m with
  | zero => simp; omega
  | succ m ih =>
    rw [List.range_succ, List.filter_append, List.length_append]
    by_cases g : c ≤ m
    · rw [ih g]
      have : ¬ (m + 1 ≤ c) := by omega
      simp [this]
    · have e : c = m + 1 := by omega
      subst e
      have : (List.range m).filter (fun i => decide (i + 1 ≤ m + 1)) = List.range m := List.filter_eq_self.mpr fun i hi => by
        have := List.mem_range.mp hi
        simp; omega
      rw [this]
      simp
end Mp.Law

namespace Mp.Law
open PySem
/-! plain: endless words and their normal form -/
theorem prim_iff {v : List Nat} (h : v ≠ []) : rootL v = v ↔ Least v v.length := by
  obtain ⟨k, hk, _, e⟩ := root_least h
  rw [e]
  constructor
  · intro z
    have := congrArg List.length z
    rw [List.length_take] at this
    have := hk.le
    rw [show v.length = k by omega]
    exact hk
  · intro z
    rw [hk.uniq z, List.take_length]
theorem root_ne {v : List Nat} (h : v ≠ []) : rootL v ≠ [] := by
  obtain ⟨k, hk, _, e⟩ := root_least h
  rw [e]
  intro z
  have h1 : (v.take k).length = 0 := by rw [z]; rfl
  rw [List.length_take] at h1
  have := hk.pos
  have := hk.le
  omega
theorem rot_get {w : List Nat} {c i : Nat} (hi : i < w.length + 1) : (c :: w)[i]? = (w ++ [c])[(i + w.length) % (w.length + 1)]? := by
  cases i with
  | zero =>
    rw [Nat.zero_add, Nat.mod_eq_of_lt (by omega), List.getElem?_append_right (Nat.le_refl _)]
    simp
  | succ j =>
    rw [show j + 1 + w.length = j + (w.length + 1) by omega, Nat.add_mod_right, Nat.mod_eq_of_lt (by omega), List.getElem?_append_left (by omega)]
    simp
theorem rot_get' {w : List Nat} {c i : Nat} (hi : i < w.length + 1) : (w ++ [c])[i]? = (c :: w)[(i + 1) % (w.length + 1)]? := by
  by_cases h : i = w.length
  · subst h
    rw [Nat.mod_self, List.getElem?_append_right (Nat.le_refl _)]
    simp
  · rw [Nat.mod_eq_of_lt (by omega), List.getElem?_append_left (by omega)]
    simp
theorem rot_Rot {w : List Nat} {c k : Nat} (h : Rot (w ++ [c]) k) : Rot (c :: w) k := fun i hi => by
  have hl : (w ++ [c]).length = w.length + 1 := by simp
  have hi' : i < w.length + 1 := hi
  show (c :: w)[(i + k) % (w.length + 1)]? = _
  rw [rot_get (Nat.mod_lt _ (Nat.succ_pos _)), rot_get hi', Nat.mod_add_mod]
  have := h ((i + w.length) % (w.length + 1)) (by rw [hl]; exact Nat.mod_lt _ (Nat.succ_pos _))
  rw [hl, Nat.mod_add_mod] at this
  rw [show i + k + w.length = i + w.length + k by omega]
  exact this
theorem rot_Rot' {w : List Nat} {c k : Nat} (h : Rot (c :: w) k) : Rot (w ++ [c]) k := fun i hi => by
  have hl : (w ++ [c]).length = w.length + 1 := by simp
  rw [hl] at hi ⊢
  rw [rot_get' (Nat.mod_lt _ (Nat.succ_pos _)), rot_get' hi, Nat.mod_add_mod]
  have := h ((i + 1) % (w.length + 1)) (Nat.mod_lt _ (Nat.succ_pos _))
  rw [show (c :: w).length = w.length + 1 from rfl, Nat.mod_add_mod] at this
  rw [show i + k + 1 = i + 1 + k by omega]
  exact this
theorem prim_rot {w : List Nat} {c : Nat} (h : rootL (w ++ [c]) = w ++ [c]) : rootL (c :: w) = c :: w := by
  have a := (prim_iff (by simp)).mp h
  refine (prim_iff (by simp)).mpr ⟨by simp, Nat.le_refl _, Rot.full, fun j j0 j1 r => a.min j j0 (by simpa using j1) (rot_Rot' r)⟩
/-- the i-th letter of u v v v .. -/
def sq (u v : List Nat) (i : Nat) : Nat := if i < u.length then u.getD i 0 else v.getD ((i - u.length) % v.length) 0
theorem sq_step {u w : List Nat} {c : Nat} : sq (u ++ [c]) (w ++ [c]) = sq u (c :: w) := by
  funext i
  unfold sq
  have hl : (u ++ [c]).length = u.length + 1 := by simp
  have hw : (w ++ [c]).length = w.length + 1 := by simp
  rw [hl, hw, show (c :: w).length = w.length + 1 from rfl]
  by_cases h1 : i < u.length
  · rw [if_pos (by omega), if_pos h1, List.getD_eq_getElem?_getD, List.getElem?_append_left h1, ← List.getD_eq_getElem?_getD]
  rw [if_neg h1]
  by_cases h2 : i = u.length
  · subst h2
    rw [if_pos (by omega), Nat.sub_self, Nat.zero_mod, List.getD_eq_getElem?_getD, List.getElem?_append_right (Nat.le_refl _)]
    simp
  · rw [if_neg (by omega), List.getD_eq_getElem?_getD, List.getD_eq_getElem?_getD, rot_get' (Nat.mod_lt _ (Nat.succ_pos _)), Nat.mod_add_mod, show i - (u.length + 1) + 1 = i - u.length by omega]
/-- a normal form -/
structure NF (u v : List Nat) : Prop where
  ne : v ≠ []
  root : rootL v = v
  last : u = [] ∨ u.getLast? ≠ v.getLast?
theorem NF.least {u v : List Nat} (h : NF u v) : Least v v.length := (prim_iff h.ne).mp h.root
theorem NF.pos {u v : List Nat} (h : NF u v) : 0 < v.length := List.length_pos_iff.mpr h.ne
/-- two periods -/
theorem per_gcd {g : Nat → Nat} : ∀ (a b : Nat), (∀ i, g (i + a) = g i) → (∀ i, g (i + b) = g i) → ∀ i, g (i + Nat.gcd a b) = g i := by
  intro a b
  induction a, b using Nat.gcd.induction with
  | H0 n => intro _ h; simpa using h
  | H1 m n hm ih =>
    intro h1 h2
    rw [Nat.gcd_rec]
    have hk : ∀ k i, g (i + m * k) = g i := by
      intro k
      induction k with
      | zero => intro i; rfl
      | succ k ihk => intro i; rw [Nat.mul_succ, ← Nat.add_assoc, h1, ihk]
    refine ih (fun i => ?_) h1
    rw [← hk (n / m) (i + n % m), Nat.add_assoc, Nat.mod_add_div, h2]
theorem sq_per {u v : List Nat} {i : Nat} (h : u.length ≤ i) : sq u v (i + v.length) = sq u v i := by
  unfold sq
  rw [if_neg (by omega), if_neg (by omega), show i + v.length - u.length = i - u.length + v.length by omega, Nat.add_mod_right]
theorem sq_at {u v : List Nat} {i : Nat} : sq u v (u.length + i) = v.getD (i % v.length) 0 := by
  unfold sq
  rw [if_neg (by omega), Nat.add_sub_cancel_left]
/-- any period is a multiple of the root's -/
theorem NF.dvd {u v : List Nat} (h : NF u v) {n q : Nat} (hq : 0 < q) (p : ∀ i, n ≤ i → sq u v (i + q) = sq u v i) : v.length ∣ q := by
  have hv := h.pos
  have e0 : ∀ i, v.getD ((i + v.length) % v.length) 0 = v.getD (i % v.length) 0 := fun i => by rw [Nat.add_mod_right]
  have ek : ∀ k i, v.getD ((i + v.length * k) % v.length) 0 = v.getD (i % v.length) 0 := fun k i => by rw [Nat.add_mul_mod_self_left]
  have e1 : ∀ i, v.getD ((i + q) % v.length) 0 = v.getD (i % v.length) 0 := fun i => by
    rw [← ek n (i + q), ← ek n i]
    have hn : n ≤ v.length * n := Nat.le_mul_of_pos_left n hv
    have := p (u.length + (i + v.length * n)) (by omega)
    rw [show u.length + (i + v.length * n) + q = u.length + (i + q + v.length * n) by omega, sq_at, sq_at] at this
    exact this
  have e2 := per_gcd (g := fun i => v.getD (i % v.length) 0) v.length q e0 e1
  have hd : Nat.gcd v.length q ∣ v.length := Nat.gcd_dvd_left _ _
  have hpos : 0 < Nat.gcd v.length q := Nat.gcd_pos_of_pos_left _ hv
  have r : Rot v (Nat.gcd v.length q) := fun i hi => by
    have := e2 i
    simp only [List.getD_eq_getElem?_getD, Nat.mod_eq_of_lt hi] at this
    have hj : (i + Nat.gcd v.length q) % v.length < v.length := Nat.mod_lt _ hv
    rw [List.getElem?_eq_getElem hj, List.getElem?_eq_getElem hi] at this ⊢
    simpa using this
  have hle := Nat.le_of_dvd hv hd
  have : Nat.gcd v.length q = v.length := Classical.byContradiction fun z => h.least.min _ hpos (by omega) r
  rw [← this]
  exact Nat.gcd_dvd_right _ _
theorem getLast?_getD {l : List Nat} (h : l ≠ []) : l.getLast? = some (l.getD (l.length - 1) 0) := by
  rw [List.getLast?_eq_getElem?, List.getD_eq_getElem?_getD]
  have : l.length - 1 < l.length := by have := List.length_pos_iff.mpr h; omega
  rw [List.getElem?_eq_getElem this]
  rfl
theorem NF.pre {u v : List Nat} (h : NF u v) {n : Nat} (p : ∀ i, n ≤ i → sq u v (i + v.length) = sq u v i) : u.length ≤ n := by
  refine Classical.byContradiction fun z => ?_
  have hv := h.pos
  have hu : u ≠ [] := by rintro rfl; exact z (Nat.zero_le _)
  have hup := List.length_pos_iff.mpr hu
  rcases h.last with l | l
  · exact hu l
  have := p (u.length - 1) (by omega)
  rw [show u.length - 1 + v.length = u.length + (v.length - 1) by omega, sq_at, Nat.mod_eq_of_lt (by omega)] at this
  unfold sq at this
  rw [if_pos (by omega)] at this
  exact l (by rw [getLast?_getD hu, getLast?_getD h.ne, this])
/-- one normal form -/
theorem NF.uniq {u v a b : List Nat} (h : NF u v) (g : NF a b) (e : sq u v = sq a b) : u = a ∧ v = b := by
  have e1 : v.length = b.length := Nat.dvd_antisymm (h.dvd (n := a.length) g.pos fun i hi => by rw [e]; exact sq_per hi) (g.dvd (n := u.length) h.pos fun i hi => by rw [← e]; exact sq_per hi)
  have l1 : u.length ≤ a.length := h.pre fun i hi => by rw [e, e1]; exact sq_per hi
  have l2 : a.length ≤ u.length := g.pre fun i hi => by rw [← e, ← e1]; exact sq_per hi
  have e2 : u.length = a.length := by omega
  constructor
  · refine List.ext_getElem e2 fun i hi hj => ?_
    have := congrFun e i
    unfold sq at this
    rw [if_pos hi, if_pos hj, List.getD_eq_getElem?_getD, List.getD_eq_getElem?_getD, List.getElem?_eq_getElem hi, List.getElem?_eq_getElem hj] at this
    exact this
  · refine List.ext_getElem e1 fun i hi hj => ?_
    have := congrFun e (u.length + i)
    rw [sq_at, e2, sq_at, Nat.mod_eq_of_lt hi, Nat.mod_eq_of_lt hj, List.getD_eq_getElem?_getD, List.getD_eq_getElem?_getD, List.getElem?_eq_getElem hi, List.getElem?_eq_getElem hj] at this
    exact this
/-! ### the way to it: letter by letter -/
def nz : Nat → List Nat → List Nat → List Nat × List Nat
  | 0, u, v => (u, v)
  | n + 1, u, v => if u ≠ [] ∧ u.getLast? = v.getLast? then nz n u.dropLast (v.getLast?.toList ++ v.dropLast) else (u, v)
theorem snoc_of {l : List Nat} (h : l ≠ []) : ∃ w c, l = w ++ [c] := ⟨l.dropLast, l.getLast h, (List.dropLast_concat_getLast h).symm⟩
theorem nz_ok : ∀ (n : Nat) (u v : List Nat), v ≠ [] → rootL v = v → u.length ≤ n → NF (nz n u v).1 (nz n u v).2 ∧ sq (nz n u v).1 (nz n u v).2 = sq u v ∧ (nz n u v).1.length ≤ u.length ∧ (nz n u v).2.length = v.length ∧ (∀ c ∈ (nz n u v).1, c ∈ u) ∧ ∀ c ∈ (nz n u v).2, c ∈ v
  | 0, u, v, hv, hr, hl => by
    have hu : u = [] := List.length_eq_zero_iff.mp (by omega)
    exact ⟨⟨hv, hr, .inl hu⟩, rfl, Nat.le_refl _, rfl, fun _ h => h, fun _ h => h⟩
  | n + 1, u, v, hv, hr, hl => by
    unfold nz
    by_cases h : u ≠ [] ∧ u.getLast? = v.getLast?
    · rw [if_pos h]
      obtain ⟨x, c, rfl⟩ := snoc_of h.1
      obtain ⟨w, d, rfl⟩ := snoc_of hv
      have e := h.2
      simp only [List.getLast?_append, List.getLast?_singleton, Option.some_or, Option.some.injEq] at e
      subst e
      have i := nz_ok n x (c :: w) (by simp) (prim_rot hr) (by simpa using hl)
      simp only [List.dropLast_concat, List.getLast?_append, List.getLast?_singleton, Option.some_or, Option.toList_some, List.singleton_append]
      obtain ⟨i1, i2, i3, i4, i5, i6⟩ := i
      refine ⟨i1, i2.trans sq_step.symm, by simp; omega, by simpa using i4, fun z hz => List.mem_append_left _ (i5 z hz), fun z hz => ?_⟩
      have := i6 z hz
      simp at this ⊢
      rcases this with h | h
      · exact .inr h
      · exact .inl h
    · rw [if_neg h]
      refine ⟨⟨hv, hr, ?_⟩, rfl, Nat.le_refl _, rfl, fun _ h => h, fun _ h => h⟩
      by_cases z : u = []
      · exact .inl z
      · exact .inr fun q => h ⟨z, q⟩
/-- the normal form of u v v v .. -/
def nfL (u v : List Nat) : List Nat × List Nat := nz u.length u (rootL v)
/-- the root stands for the word -/
theorem sq_root {u v : List Nat} (h : v ≠ []) : sq u (rootL v) = sq u v := by
  obtain ⟨k, hk, _, e⟩ := root_least h
  rw [e]
  funext i
  unfold sq
  split
  · rfl
  have hle := hk.le
  have hpos := hk.pos
  rw [List.length_take, Nat.min_eq_left hle, List.getD_eq_getElem?_getD, List.getD_eq_getElem?_getD, List.getElem?_take_of_lt (Nat.mod_lt _ hpos)]
  generalize i - u.length = j
  have hd : k ∣ v.length := Nat.dvd_of_mod_eq_zero hk.div
  have e1 : j % v.length % k = j % k := Nat.mod_mod_of_dvd j hd
  have hj : j % v.length < v.length := Nat.mod_lt _ (by omega)
  have r := hk.rot.mul (j % v.length / k) (j % k) (Nat.lt_of_lt_of_le (Nat.mod_lt _ hpos) hle)
  rw [← e1, Nat.mod_add_div, Nat.mod_eq_of_lt hj] at r
  rw [← e1, r]
theorem nfL_ok {u v : List Nat} (h : v ≠ []) : NF (nfL u v).1 (nfL u v).2 ∧ sq (nfL u v).1 (nfL u v).2 = sq u v ∧ (nfL u v).1.length ≤ u.length ∧ (nfL u v).2.length ≤ v.length := by
  obtain ⟨a, b, c, d, _⟩ := nz_ok u.length u (rootL v) (root_ne h) (root_root v) (Nat.le_refl _)
  exact ⟨a, b.trans (sq_root h), c, by rw [show (nfL u v).2.length = _ from d]; exact rootL_le v⟩
/-- the same endless word, the same normal form -/
theorem nfL_eq {u v a b : List Nat} (h : v ≠ []) (g : b ≠ []) (e : sq u v = sq a b) : nfL u v = nfL a b := by
  obtain ⟨a1, a2, _⟩ := nfL_ok (u := u) h
  obtain ⟨b1, b2, _⟩ := nfL_ok (u := a) g
  obtain ⟨h1, h2⟩ := a1.uniq b1 (by rw [a2, b2, e])
  exact Prod.ext h1 h2
theorem NF.self {u v : List Nat} (h : NF u v) : nfL u v = (u, v) := by
  obtain ⟨a1, a2, _⟩ := nfL_ok (u := u) h.ne
  obtain ⟨h1, h2⟩ := a1.uniq h a2
  exact Prod.ext h1 h2
end Mp.Law

set_option maxHeartbeats 2000000
namespace Mp.Law
open PySem
/- is_limit (28) -/
def t_is_limit_5 : Ss := .cons (.ret (.cmp .eq (.call 3 (.cons (.var 2) .nil)) (.var 2))) .nil
def t_is_limit_4 : Ss := .cons (.ite (.and (.cons (.cmp .ne (.var 1) (.c (.str (S [])))) (.cons (.cmp .eq (.ix (.var 1) (.neg (.c (.int 1)))) (.ix (.var 2) (.neg (.c (.int 1))))) .nil))) (.cons (.ret (.c (.bool false)))
.nil) .nil) t_is_limit_5
def t_is_limit_3 : Ss := .cons (.ite (.or (.cons (.not (.call 0 (.cons (.var 1) .nil))) (.cons (.not (.call 0 (.cons (.var 2) .nil))) (.cons (.cmp .eq (.var 2) (.c (.str (S [])))) .nil)))) (.cons (.ret (.c (.bool false)))
.nil) .nil) t_is_limit_4
def t_is_limit_2 : Ss := .cons (.asg (.tp [(.nm 1), (.nm 2)]) (.var 0)) t_is_limit_3
def t_is_limit_1 : Ss := .cons (.ite (.or (.cons (.not (.isi (.var 0) [.tuple])) (.cons (.cmp .ne (.bi .len (.cons (.var 0) .nil)) (.c (.int 2))) .nil))) (.cons (.ret (.c (.bool false)))
.nil) .nil) t_is_limit_2
def b_is_limit : Ss := .cons (.ite (.isi (.var 0) [.str]) (.cons (.ret (.call 0 (.cons (.var 0) .nil)))
.nil) .nil) t_is_limit_1
def d_is_limit : Df := ⟨1, 3, [true], b_is_limit⟩
/- check_limit (29) -/
def b_check_limit : Ss := .cons (.ite (.not (.call 28 (.cons (.var 0) .nil))) (.cons (.raise 2 (.cons (.var 0) .nil))
.nil) .nil) .nil
def d_check_limit : Df := ⟨1, 1, [true], b_check_limit⟩
/- normal (30) -/
def l_normal_1 : Ss := .cons (.aug 4 .add (.c (.int 1))) .nil
def t_normal_5 : Ss := .cons (.ret (.tup (.cons (.sl (.var 0) .no (.so (.bin .sub (.bi .len (.cons (.var 0) .nil)) (.var 4)))) (.cons (.bin .add (.sl (.var 2) (.so (.var 5)) .no) (.sl (.var 2) .no (.so (.var 5)))) .nil)))) .nil
def t_normal_4 : Ss := .cons (.asg (.nm 5) (.bin .sub (.var 3) (.bin .mod (.var 4) (.var 3)))) t_normal_5
def t_normal_3 : Ss := .cons (.whl (.and (.cons (.cmp .lt (.var 4) (.bi .len (.cons (.var 0) .nil))) (.cons (.cmp .eq (.ix (.var 0) (.bin .sub (.neg (.c (.int 1))) (.var 4))) (.ix (.var 2) (.bin .sub (.neg (.c (.int 1))) (.bin .mod (.var 4) (.var 3))))) .nil))) l_normal_1) t_normal_4
def t_normal_2 : Ss := .cons (.asg (.nm 4) (.c (.int 0))) t_normal_3
def t_normal_1 : Ss := .cons (.asg (.nm 3) (.bi .len (.cons (.var 2) .nil))) t_normal_2
def b_normal : Ss := .cons (.asg (.nm 2) (.call 3 (.cons (.var 1) .nil))) t_normal_1
def d_normal : Df := ⟨2, 6, [true, true], b_normal⟩
/- endless (31) -/
def t_endless_3 : Ss := .cons (.ret (.call 30 (.cons (.var 0) (.cons (.var 1) .nil)))) .nil
def t_endless_2 : Ss := .cons (.ite (.cmp .eq (.var 1) (.c (.str (S [])))) (.cons (.raise 1 (.cons (.var 1) .nil))
.nil) .nil) t_endless_3
def t_endless_1 : Ss := .cons (.ex (.call 1 (.cons (.var 1) .nil))) t_endless_2
def b_endless : Ss := .cons (.ex (.call 1 (.cons (.var 0) .nil))) t_endless_1
def d_endless : Df := ⟨2, 2, [true, true], b_endless⟩
/- ahead (32) -/
def t_ahead_4 : Ss := .cons (.ret (.call 30 (.cons (.bin .add (.var 0) (.var 2)) (.cons (.var 3) .nil)))) .nil
def t_ahead_3 : Ss := .cons (.asg (.tp [(.nm 2), (.nm 3)]) (.var 1)) t_ahead_4
def t_ahead_2 : Ss := .cons (.ite (.isi (.var 1) [.str]) (.cons (.ret (.bin .add (.var 0) (.var 1)))
.nil) .nil) t_ahead_3
def t_ahead_1 : Ss := .cons (.ex (.call 29 (.cons (.var 1) .nil))) t_ahead_2
def b_ahead : Ss := .cons (.ex (.call 1 (.cons (.var 0) .nil))) t_ahead_1
def d_ahead : Df := ⟨2, 4, [true, true], b_ahead⟩
/- leading (33) -/
def t_leading_2 : Ss := .cons (.ret (.sl (.bin .add (.var 2) (.bin .mul (.var 3) (.bin .add (.bin .fdiv (.var 1) (.bi .len (.cons (.var 3) .nil))) (.c (.int 1))))) .no (.so (.var 1)))) .nil
def t_leading_1 : Ss := .cons (.asg (.tp [(.nm 2), (.nm 3)]) (.var 0)) t_leading_2
def b_leading : Ss := .cons (.ite (.isi (.var 0) [.str]) (.cons (.ret (.sl (.var 0) .no (.so (.var 1))))
.nil) .nil) t_leading_1
def d_leading : Df := ⟨2, 4, [true, true], b_leading⟩
/- beginning (34) -/
def t_beginning_2 : Ss := .cons (.ret (.call 33 (.cons (.var 0) (.cons (.var 1) .nil)))) .nil
def t_beginning_1 : Ss := .cons (.ex (.call 21 (.cons (.c (.str (S [110]))) (.cons (.var 1) (.cons (.c (.int 0)) (.cons (.g 2) .nil)))))) t_beginning_2
def b_beginning : Ss := .cons (.ex (.call 29 (.cons (.var 0) .nil))) t_beginning_1
def d_beginning : Df := ⟨2, 2, [true, true], b_beginning⟩
/-! ### while, negative places -/
theorem whl_nx {test : St → R Bool} {body : St → Fl} {n : Nat} {t t1 t2 : St} (h : test t = .ok true t1) (g : body t1 = .nx t2) : whlLoop test body (n + 1) t = whlLoop test body n t2 := by
  rw [whlLoop, h, R.fl_ok, if_pos rfl, g]
theorem whl_end {test : St → R Bool} {body : St → Fl} {n : Nat} {t t1 : St} (h : test t = .ok false t1) : whlLoop test body (n + 1) t = .nx t1 := by
  rw [whlLoop, h, R.fl_ok, if_neg Bool.false_ne_true]
theorem itemL_back {α : Type} {l : List α} {k : Nat} : itemL l (-1 - (k : Int)) = if k < l.length then l[l.length - 1 - k]? else none := by
  unfold itemL place
  rw [if_neg (by omega)]
  split
  · rename_i h
    rw [if_pos (by omega), Option.bind_some, show (-1 - (k : Int) + (l.length : Int)).toNat = l.length - 1 - k by omega]
  · rename_i h
    rw [if_neg (by omega)]; rfl
/-! ### limits -/
def nfB (u v : List Nat) : Bool := !(v.isEmpty) && (u.isEmpty || !(decide (u.getLast? = v.getLast?))) && decide (rootL v = v)
theorem nfB_iff {u v : List Nat} : nfB u v = true ↔ NF u v := by
  unfold nfB
  constructor
  · intro h
    simp at h
    obtain ⟨⟨h1, h2⟩, h3⟩ := h
    exact ⟨h1, h3, h2⟩
  · intro h
    have := h.ne
    have := h.root
    have := h.last
    simp_all
def isLimD : D → Bool
  | .str s => isWordL (L s)
  | .tuple [x, y] => isWordD x && isWordD y && (match x, y with
    | .str a, .str b => nfB (L a) (L b)
    | _, _ => false)
  | _ => false
theorem isLim_cases {d : D} (h : isLimD d = true) : (∃ a, d = .str (S a) ∧ isWordL a = true) ∨ ∃ u v, d = .tuple [.str (S u), .str (S v)] ∧ isWordL u = true ∧ isWordL v = true ∧ NF u v := by
  unfold isLimD at h
  split at h
  · exact .inl ⟨L _, by rw [S_L], h⟩
  · rename_i x y
    rw [Bool.and_eq_true, Bool.and_eq_true] at h
    obtain ⟨⟨h1, h2⟩, h3⟩ := h
    obtain ⟨u, rfl, hu⟩ := isWordD_str h1
    obtain ⟨v, rfl, hv⟩ := isWordD_str h2
    dsimp only at h3
    rw [L_S, L_S] at h3
    exact .inr ⟨u, v, rfl, hu, hv, nfB_iff.mp h3⟩
  · cases h
/-- no endless text stands in it -/
def LimSz (d : D) : Prop := ∀ x s, d = .tuple [x, .str s] → (L s).length ≤ 100000
theorem last_get {l : List Nat} (h : l ≠ []) : itemL l (-1) = some (l.getD (l.length - 1) 0) := by
  rw [itemL_last, getLast?_getD h]
def IsLimitOk (P : Pr) : Prop := ∀ (n : Nat) (d : D), LimSz d → callN P (n + 4) 28 [.fz d] = .ok (.bool (isLimD d), false) [.fz d]
theorem isLimitOk {P : Pr} (h : P.df 28 = some d_is_limit) (h0 : P.df 0 = some d_is_word) (h3 : P.df 3 = some d_root_of) (W : IsWordOk P) (R : RootOk P) : IsLimitOk P := fun n d hz => by
  rw [callN_eq h rfl]
  cases d with
  | str s =>
    have e := W (n + 2) (.str s) _ .fz
    simp [d_is_limit, b_is_limit, t_is_limit_1, t_is_limit_2, t_is_limit_3, t_is_limit_4, t_is_limit_5, h0, d_is_word, b_is_word, e, isLimD, isWordD]
  | tuple l =>
    match l with
    | [] => simp [d_is_limit, b_is_limit, t_is_limit_1, t_is_limit_2, t_is_limit_3, t_is_limit_4, t_is_limit_5, isLimD]
    | [x] => simp [d_is_limit, b_is_limit, t_is_limit_1, t_is_limit_2, t_is_limit_3, t_is_limit_4, t_is_limit_5, isLimD]
    | x :: y :: z :: r => simp [d_is_limit, b_is_limit, t_is_limit_1, t_is_limit_2, t_is_limit_3, t_is_limit_4, t_is_limit_5, isLimD, show ¬ ((r.length : Int) + 1 + 1 + 1 = 2) by omega]
    | [x, y] =>
      have e1 := W (n + 2) x _ .fz
      have e2 := W (n + 2) y _ .fz
      cases c1 : isWordD x with
      | false =>
        rw [c1] at e1
        simp [d_is_limit, b_is_limit, t_is_limit_1, t_is_limit_2, t_is_limit_3, t_is_limit_4, t_is_limit_5, isLimD, h0, d_is_word, b_is_word, e1, c1]
      | true =>
        rw [c1] at e1
        cases c2 : isWordD y with
        | false =>
          rw [c2] at e2
          simp [d_is_limit, b_is_limit, t_is_limit_1, t_is_limit_2, t_is_limit_3, t_is_limit_4, t_is_limit_5, isLimD, h0, d_is_word, b_is_word, e1, e2, c1, c2]
        | true =>
          rw [c2] at e2
          obtain ⟨u, rfl, hu⟩ := isWordD_str c1
          obtain ⟨v, rfl, hv⟩ := isWordD_str c2
          have hs := hz _ _ rfl
          rw [L_S] at hs
          have e3 := R.1 n v hv hs
          by_cases v0 : v = []
          · subst v0
            simp [d_is_limit, b_is_limit, t_is_limit_1, t_is_limit_2, t_is_limit_3, t_is_limit_4, t_is_limit_5, isLimD, h0, d_is_word, b_is_word, e1, e2, c1, c2, nfB]
          by_cases u0 : u = []
          · subst u0
            simp [d_is_limit, b_is_limit, t_is_limit_1, t_is_limit_2, t_is_limit_3, t_is_limit_4, t_is_limit_5, isLimD, h0, d_is_word, b_is_word, e1, e2, c1, c2, nfB, v0, h3, d_root_of, b_root_of, e3]
          obtain ⟨u', c, rfl⟩ := snoc_of u0
          obtain ⟨v', d, rfl⟩ := snoc_of v0
          by_cases l0 : c = d
          · subst l0
            simp [d_is_limit, b_is_limit, t_is_limit_1, t_is_limit_2, t_is_limit_3, t_is_limit_4, t_is_limit_5, isLimD, h0, d_is_word, b_is_word, e1, e2, c1, c2, nfB]
          · simp [d_is_limit, b_is_limit, t_is_limit_1, t_is_limit_2, t_is_limit_3, t_is_limit_4, t_is_limit_5, isLimD, h0, d_is_word, b_is_word, e1, e2, c1, c2, nfB, l0, h3, d_root_of, b_root_of, e3]
  | _ => simp [d_is_limit, b_is_limit, t_is_limit_1, t_is_limit_2, t_is_limit_3, t_is_limit_4, t_is_limit_5, isLimD]
def CheckLimitOk (P : Pr) : Prop := ∀ (n : Nat) (d : D), LimSz d → callN P (n + 5) 29 [.fz d] = if isLimD d = true then .ok (.none, false) [.fz d] else .rs ⟨2, [(1, d)]⟩ [.fz d]
theorem checkLimitOk {P : Pr} (h : P.df 29 = some d_check_limit) (h28 : P.df 28 = some d_is_limit) (hf : P.fld 2 = [1]) (I : IsLimitOk P) : CheckLimitOk P := fun n d hz => by
  have e := I n d hz
  rw [callN_eq h rfl]
  cases c : isLimD d <;> rw [c] at e <;> simp [d_check_limit, b_check_limit, h28, d_is_limit, b_is_limit, e, hf]
/-! ### normal -/
/-- turned about by k letters from the back -/
def rotR (k : Nat) (r : List Nat) : List Nat := r.drop (r.length - k % r.length) ++ r.take (r.length - k % r.length)
theorem rotR_zero (r : List Nat) : rotR 0 r = r := by simp [rotR]
theorem rotR_snoc {k : Nat} {r : List Nat} (h : r ≠ []) : ∃ w c, rotR k r = w ++ [c] ∧ r[r.length - 1 - k % r.length]? = some c ∧ rotR (k + 1) r = c :: w := by
  have hp := List.length_pos_iff.mpr h
  have hk := Nat.mod_lt k hp
  obtain ⟨m, hm⟩ : ∃ m, r.length - k % r.length = m + 1 := ⟨r.length - k % r.length - 1, by omega⟩
  have hml : m < r.length := by omega
  refine ⟨r.drop (m + 1) ++ r.take m, r[m], ?_, ?_, ?_⟩
  · unfold rotR
    rw [hm, List.take_succ_eq_append_getElem hml, List.append_assoc]
  · rw [show r.length - 1 - k % r.length = m by omega, List.getElem?_eq_getElem hml]
  · have e : r[m] :: (r.drop (m + 1) ++ r.take m) = r.drop m ++ r.take m := by rw [List.drop_eq_getElem_cons hml, List.cons_append]
    rw [e]
    unfold rotR
    by_cases z : m = 0
    · subst z
      have : (k + 1) % r.length = 0 := by
        rw [← Nat.mod_add_mod, show k % r.length + 1 = r.length by omega, Nat.mod_self]
      rw [this]
      simp
    · have : (k + 1) % r.length = k % r.length + 1 := by
        rw [← Nat.mod_add_mod, Nat.mod_eq_of_lt (by omega)]
      rw [this, show r.length - (k % r.length + 1) = m by omega]
theorem nz_step {m : Nat} {u w : List Nat} {c : Nat} : nz (m + 1) (u ++ [c]) (w ++ [c]) = nz m u (c :: w) := by
  rw [nz, if_pos (by simp)]
  simp
theorem nz_stop {m : Nat} {u v : List Nat} (h : u = [] ∨ u.getLast? ≠ v.getLast?) : nz m u v = (u, v) := by
  cases m with
  | zero => rfl
  | succ m => rw [nz, if_neg (fun z => h.elim z.1 (fun q => q z.2))]
/-- the loop of normal -/
theorem normal_loop {P : Pr} {cs : Cs} (u r : List Nat) (s1 : Sl) (hr : r ≠ []) (hu : u.length ≤ 100000) (hrl : r.length ≤ 100000) : ∀ (d k fuel : Nat), u.length = d + k → d < fuel → ∃ b : Nat, whlLoop (evT P cs false (.and (.cons (.cmp .lt (.var 4) (.bi .len (.cons (.var 0) .nil))) (.cons (.cmp .eq (.ix (.var 0) (.bin .sub (.neg (.c (.int 1))) (.var 4))) (.ix (.var 2) (.bin .sub (.neg (.c (.int 1))) (.bin .mod (.var 4) (.var 3))))) .nil)))) (exSs P cs false l_normal_1) fuel [.fz (.str (S u)), s1, .fz (.str (S r)), .fz (.int r.length), .fz (.int (k : Int)), .un] = .nx [.fz (.str (S u)), s1, .fz (.str (S r)), .fz (.int r.length), .fz (.int (b : Int)), .un] ∧ b ≤ u.length ∧ (u.take (u.length - b), rotR b r) = nz d (u.take (u.length - k)) (rotR k r) := by
  have hp := List.length_pos_iff.mpr hr
  intro d
  induction d with
  | zero =>
    intro k fuel e hf
    obtain ⟨f, rfl⟩ : ∃ f, fuel = f + 1 := ⟨fuel - 1, by omega⟩
    refine ⟨k, ?_, by omega, rfl⟩
    refine whl_end ?_
    have c : ¬ k < u.length := by omega
    simp [c]
  | succ d ih =>
    intro k fuel e hf
    obtain ⟨f, rfl⟩ : ∃ f, fuel = f + 1 := ⟨fuel - 1, by omega⟩
    obtain ⟨w, c, e1, e2, e3⟩ := rotR_snoc (k := k) hr
    have hk : u.length - 1 - k < u.length := by omega
    have e4 : u.take (u.length - k) = u.take (u.length - (k + 1)) ++ [u[u.length - 1 - k]] := by
      rw [show u.length - k = (u.length - 1 - k) + 1 by omega, List.take_succ_eq_append_getElem hk, show u.length - (k + 1) = u.length - 1 - k by omega]
    have c0 : k < u.length := by omega
    have i1 : itemL u (-1 - (k : Int)) = some u[u.length - 1 - k] := by rw [itemL_back, if_pos c0, List.getElem?_eq_getElem hk]
    have i2 : itemL r (-1 - (k : Int) % (r.length : Int)) = some c := by
      rw [← Int.natCast_emod, itemL_back, if_pos (Nat.mod_lt _ hp), e2]
    have test : evT P cs false (.and (.cons (.cmp .lt (.var 4) (.bi .len (.cons (.var 0) .nil))) (.cons (.cmp .eq (.ix (.var 0) (.bin .sub (.neg (.c (.int 1))) (.var 4))) (.ix (.var 2) (.bin .sub (.neg (.c (.int 1))) (.bin .mod (.var 4) (.var 3))))) .nil))) [.fz (.str (S u)), s1, .fz (.str (S r)), .fz (.int r.length), .fz (.int (k : Int)), .un] = .ok (decide (u[u.length - 1 - k] = c)) [.fz (.str (S u)), s1, .fz (.str (S r)), .fz (.int r.length), .fz (.int (k : Int)), .un] := by
      simp [c0, i1, i2, hp]
    by_cases q : u[u.length - 1 - k] = c
    · obtain ⟨b, b1, b2, b3⟩ := ih (k + 1) f (by omega) (by omega)
      refine ⟨b, ?_, b2, ?_⟩
      · rw [decide_eq_true q] at test
        have body : exSs P cs false l_normal_1 [.fz (.str (S u)), s1, .fz (.str (S r)), .fz (.int r.length), .fz (.int (k : Int)), .un] = .nx [.fz (.str (S u)), s1, .fz (.str (S r)), .fz (.int r.length), .fz (.int ((k + 1 : Nat) : Int)), .un] := by
          simp [l_normal_1]
        rw [whl_nx test body]
        exact b1
      · rw [b3, e4, e1, e3, q, nz_step]
    · refine ⟨k, ?_, by omega, ?_⟩
      · rw [decide_eq_false q] at test
        exact whl_end test
      · rw [nz_stop (.inr ?_)]
        rw [e4, e1]
        simp [q]
def NormalOk (P : Pr) : Prop := ∀ (n : Nat) (u v : List Nat), v ≠ [] → isWordL v = true → u.length ≤ 50000 → v.length ≤ 50000 → callN P (n + 4) 30 [.fz (.str (S u)), .fz (.str (S v))] = .ok (.tuple [.str (S (nfL u v).1), .str (S (nfL u v).2)], false) [.fz (.str (S u)), .fz (.str (S v))]
theorem normalOk {P : Pr} (h : P.df 30 = some d_normal) (h3 : P.df 3 = some d_root_of) (R : RootOk P) : NormalOk P := fun n u v hv hw hu hvl => by
  have e1 := R.1 n v hw (by omega)
  have hr := root_ne hv
  have hrp := List.length_pos_iff.mpr hr
  have hrl := rootL_le v
  obtain ⟨b, e2, b1, b2⟩ := normal_loop (P := P) (cs := callN P (n + 3)) u (rootL v) (.fz (.str (S v))) hr (by omega) (by omega) u.length 0 wfuel (by omega) (by unfold wfuel; omega)
  rw [Nat.sub_zero, List.take_length, rotR_zero] at b2
  have b3 : nfL u v = (u.take (u.length - b), rotR b (rootL v)) := b2.symm
  rw [b3]
  have hcap : (1000000 : Nat) ≤ cap := by decide
  have hm := Nat.mod_lt b hrp
  have t1 : (0 : Int) ≤ (u.length : Int) - b := by omega
  have t2 : ((u.length : Int) - b).toNat = u.length - b := by omega
  have t3 : (0 : Int) ≤ ((rootL v).length : Int) - (b : Int) % ((rootL v).length : Int) := by rw [← Int.natCast_emod]; omega
  have t4 : (((rootL v).length : Int) - (b : Int) % ((rootL v).length : Int)).toNat = (rootL v).length - b % (rootL v).length := by rw [← Int.natCast_emod]; omega
  rw [callN_eq h rfl]
  simp [d_normal, b_normal, t_normal_1, t_normal_2, t_normal_3, t_normal_4, t_normal_5, h3, d_root_of, b_root_of, e1]
  simp at e2
  simp [e2, cut_take t1, cut_take t3, cut_drop t3, t2, t4, hrp, show (rootL v).length ≤ cap by omega, rotR]
/-! ### letters -/
def letL (u v : List Nat) (n : Nat) : List Nat := (u ++ repL (n / v.length + 1) v).take n
theorem letL_sq {u v : List Nat} (h : v ≠ []) (n : Nat) : letL u v n = (List.range n).map (sq u v) := by
  have hp := List.length_pos_iff.mpr h
  have hn : n < (n / v.length + 1) * v.length := by
    have := Nat.lt_div_mul_add hp (a := n)
    rw [Nat.add_mul, Nat.one_mul]
    exact this
  have hl : (letL u v n).length = n := by
    unfold letL
    rw [List.length_take, List.length_append, repL_length]
    omega
  refine List.ext_getElem (by rw [hl]; simp) fun i h1 h2 => ?_
  rw [hl] at h1
  refine Option.some.inj ?_
  rw [← List.getElem?_eq_getElem, ← List.getElem?_eq_getElem]
  unfold letL
  rw [List.getElem?_take_of_lt h1, List.getElem?_map, List.getElem?_range h1, Option.map_some]
  unfold sq
  by_cases c : i < u.length
  · rw [if_pos c, List.getElem?_append_left c, List.getD_eq_getElem?_getD, List.getElem?_eq_getElem c]
    rfl
  · rw [if_neg c, List.getElem?_append_right (by omega), repL_get _ _ (by omega), List.getD_eq_getElem?_getD]
    have := Nat.mod_lt (i - u.length) hp
    rw [List.getElem?_eq_getElem this]
    rfl
theorem letL_eq {u v a b : List Nat} (h : v ≠ []) (g : b ≠ []) (e : sq u v = sq a b) (n : Nat) : letL u v n = letL a b n := by
  rw [letL_sq h, letL_sq g, e]
theorem letL_len {u v : List Nat} (h : v ≠ []) (n : Nat) : (letL u v n).length = n := by rw [letL_sq h]; simp
theorem pairD (u v : List Nat) : isLimD (.tuple [.str (S u), .str (S v)]) = (isWordL u && isWordL v && nfB u v) := by
  simp [isLimD, isWordD]
def EndlessOk (P : Pr) : Prop := (∀ (n : Nat) (u v : List Nat), v ≠ [] → isWordL u = true → isWordL v = true → u.length ≤ 50000 → v.length ≤ 50000 → callN P (n + 5) 31 [.fz (.str (S u)), .fz (.str (S v))] = .ok (.tuple [.str (S (nfL u v).1), .str (S (nfL u v).2)], false) [.fz (.str (S u)), .fz (.str (S v))]) ∧
  (∀ (n : Nat) (x y : D), isWordD x = false → callN P (n + 5) 31 [.fz x, .fz y] = .rs ⟨1, [(0, x)]⟩ [.fz x, .fz y]) ∧
  (∀ (n : Nat) (x y : D), isWordD x = true → isWordD y = false → callN P (n + 5) 31 [.fz x, .fz y] = .rs ⟨1, [(0, y)]⟩ [.fz x, .fz y]) ∧
  (∀ (n : Nat) (x : D), isWordD x = true → callN P (n + 5) 31 [.fz x, .fz (.str (S []))] = .rs ⟨1, [(0, .str (S []))]⟩ [.fz x, .fz (.str (S []))])
theorem endlessOk {P : Pr} (h : P.df 31 = some d_endless) (h1 : P.df 1 = some d_check_word) (h30 : P.df 30 = some d_normal) (hf : P.fld 1 = [0]) (C : CheckWordOk P) (N : NormalOk P) : EndlessOk P := by
  refine ⟨fun n u v hv wu wv hu hvl => ?_, fun n x y hx => ?_, fun n x y hx hy => ?_, fun n x hx => ?_⟩
  · have e1 := C (n + 2) (.str (S u)) _ .fz
    have e2 := C (n + 2) (.str (S v)) _ .fz
    rw [if_pos (by simpa [isWordD] using wu)] at e1
    rw [if_pos (by simpa [isWordD] using wv)] at e2
    have e3 := N n u v hv wv hu hvl
    rw [callN_eq h rfl]
    simp [d_endless, b_endless, t_endless_1, t_endless_2, t_endless_3, h1, d_check_word, b_check_word, e1, e2, hv, h30, d_normal, b_normal, e3]
  · have e1 := C (n + 2) x _ .fz
    rw [if_neg (by rw [hx]; exact Bool.false_ne_true)] at e1
    simp at e1
    rw [callN_eq h rfl]
    simp [d_endless, b_endless, t_endless_1, t_endless_2, t_endless_3, h1, d_check_word, b_check_word, e1]
  · have e1 := C (n + 2) x _ .fz
    rw [if_pos hx] at e1
    have e2 := C (n + 2) y _ .fz
    rw [if_neg (by rw [hy]; exact Bool.false_ne_true)] at e2
    simp at e2
    rw [callN_eq h rfl]
    simp [d_endless, b_endless, t_endless_1, t_endless_2, t_endless_3, h1, d_check_word, b_check_word, e1, e2]
  · have e1 := C (n + 2) x _ .fz
    rw [if_pos hx] at e1
    have e2 := C (n + 2) (.str (S [])) _ .fz
    rw [if_pos (by decide)] at e2
    rw [callN_eq h rfl]
    simp [d_endless, b_endless, t_endless_1, t_endless_2, t_endless_3, h1, d_check_word, b_check_word, e1, e2, hf]
def AheadOk (P : Pr) : Prop := (∀ (n : Nat) (w u v : List Nat), isWordL w = true → isWordL u = true → isWordL v = true → NF u v → w.length + u.length ≤ 50000 → v.length ≤ 50000 → callN P (n + 6) 32 [.fz (.str (S w)), .fz (.tuple [.str (S u), .str (S v)])] = .ok (.tuple [.str (S (nfL (w ++ u) v).1), .str (S (nfL (w ++ u) v).2)], false) [.fz (.str (S w)), .fz (.tuple [.str (S u), .str (S v)])]) ∧
  (∀ (n : Nat) (w u : List Nat), isWordL w = true → isWordL u = true → w.length + u.length ≤ 50000 → callN P (n + 6) 32 [.fz (.str (S w)), .fz (.str (S u))] = .ok (.str (S (w ++ u)), false) [.fz (.str (S w)), .fz (.str (S u))]) ∧
  (∀ (n : Nat) (x y : D), isWordD x = false → callN P (n + 6) 32 [.fz x, .fz y] = .rs ⟨1, [(0, x)]⟩ [.fz x, .fz y]) ∧
  (∀ (n : Nat) (x y : D), isWordD x = true → isLimD y = false → LimSz y → callN P (n + 6) 32 [.fz x, .fz y] = .rs ⟨2, [(1, y)]⟩ [.fz x, .fz y])
theorem limSz_pair {u v : List Nat} (h : v.length ≤ 100000) : LimSz (.tuple [.str (S u), .str (S v)]) := fun x s e => by
  simp at e
  rw [← e.2, L_S]
  exact h
theorem limSz_str {s : Str} : LimSz (.str s) := fun x s e => by cases e
theorem aheadOk {P : Pr} (h : P.df 32 = some d_ahead) (h1 : P.df 1 = some d_check_word) (h29 : P.df 29 = some d_check_limit) (h30 : P.df 30 = some d_normal) (C : CheckWordOk P) (I : CheckLimitOk P) (N : NormalOk P) : AheadOk P := by
  have hcap : (1000000 : Nat) ≤ cap := by decide
  refine ⟨fun n w u v ww wu wv hn hl hv => ?_, fun n w u ww wu hl => ?_, fun n x y hx => ?_, fun n x y hx hy hz => ?_⟩
  · have e1 := C (n + 3) (.str (S w)) _ .fz
    rw [if_pos (by simpa [isWordD] using ww)] at e1
    have e2 := I n (.tuple [.str (S u), .str (S v)]) (limSz_pair (by omega))
    rw [if_pos (by rw [pairD, wu, wv, nfB_iff.mpr hn]; rfl)] at e2
    have e3 := N (n + 1) (w ++ u) v hn.ne wv (by simpa using hl) hv
    rw [callN_eq h rfl]
    simp [d_ahead, b_ahead, t_ahead_1, t_ahead_2, t_ahead_3, t_ahead_4, h1, d_check_word, b_check_word, e1, h29, d_check_limit, b_check_limit, e2, h30, d_normal, b_normal, e3, show w.length + u.length ≤ cap by omega]
  · have e1 := C (n + 3) (.str (S w)) _ .fz
    rw [if_pos (by simpa [isWordD] using ww)] at e1
    have e2 := I n (.str (S u)) limSz_str
    rw [if_pos (by simpa [isLimD] using wu)] at e2
    rw [callN_eq h rfl]
    simp [d_ahead, b_ahead, t_ahead_1, t_ahead_2, t_ahead_3, t_ahead_4, h1, d_check_word, b_check_word, e1, h29, d_check_limit, b_check_limit, e2, show w.length + u.length ≤ cap by omega]
  · have e1 := C (n + 3) x _ .fz
    rw [if_neg (by rw [hx]; exact Bool.false_ne_true)] at e1
    simp at e1
    rw [callN_eq h rfl]
    simp [d_ahead, b_ahead, t_ahead_1, t_ahead_2, t_ahead_3, t_ahead_4, h1, d_check_word, b_check_word, e1]
  · have e1 := C (n + 3) x _ .fz
    rw [if_pos hx] at e1
    have e2 := I n y hz
    rw [if_neg (by rw [hy]; exact Bool.false_ne_true)] at e2
    rw [callN_eq h rfl]
    simp [d_ahead, b_ahead, t_ahead_1, t_ahead_2, t_ahead_3, t_ahead_4, h1, d_check_word, b_check_word, e1, h29, d_check_limit, b_check_limit, e2]
def LeadingOk (P : Pr) : Prop := (∀ (m : Nat) (u v : List Nat) (n : Nat), v ≠ [] → u.length ≤ 100000 → v.length ≤ 100000 → n ≤ 100000 → callN P (m + 1) 33 [.fz (.tuple [.str (S u), .str (S v)]), .fz (.int (n : Int))] = .ok (.str (S (letL u v n)), false) [.fz (.tuple [.str (S u), .str (S v)]), .fz (.int (n : Int))]) ∧
  ∀ (m : Nat) (u : List Nat) (n : Nat), callN P (m + 1) 33 [.fz (.str (S u)), .fz (.int (n : Int))] = .ok (.str (S (u.take n)), false) [.fz (.str (S u)), .fz (.int (n : Int))]
theorem leadingOk {P : Pr} (h : P.df 33 = some d_leading) : LeadingOk P := by
  refine ⟨fun m u v n hv hu hvl hn => ?_, fun m u n => ?_⟩
  · have hp := List.length_pos_iff.mpr hv
    have hcap : (10000000 : Nat) ≤ cap := by decide
    have d1 : divOk (v.length : Int) := divOk_le (by omega) (by omega)
    have e1 : ((n : Int) / (v.length : Int) + 1).toNat = n / v.length + 1 := by rw [← Int.natCast_ediv]; generalize n / v.length = q; omega
    have e2 : ((n : Int) / (v.length : Int) + 1).natAbs = n / v.length + 1 := by rw [← Int.natCast_ediv]; generalize n / v.length = q; omega
    have q1 : n / v.length * v.length ≤ n := Nat.div_mul_le_self n v.length
    have q2 : v.length * (n / v.length + 1) ≤ 200000 := by rw [Nat.mul_comm, Nat.add_mul]; omega
    have q3 : n / v.length ≤ n := Nat.div_le_self _ _
    have q4 : (n / v.length + 1) * v.length ≤ 200000 := by rw [Nat.mul_comm]; exact q2
    rw [callN_eq h rfl]
    simp [d_leading, b_leading, t_leading_1, t_leading_2, d1, e1, e2, show v.length * (n / v.length + 1) ≤ cap by omega, show n / v.length + 1 < 4611686018427387904 by omega, repL_length, show u.length + (n / v.length + 1) * v.length ≤ cap by omega, cut_take, letL]
  · rw [callN_eq h rfl]
    simp [d_leading, b_leading, t_leading_1, t_leading_2, cut_take]
def BeginOk (P : Pr) : Prop := (∀ (m : Nat) (x y : D), isLimD x = false → LimSz x → callN P (m + 6) 34 [.fz x, .fz y] = .rs ⟨2, [(1, x)]⟩ [.fz x, .fz y]) ∧
  (∀ (m : Nat) (x y : D), isLimD x = true → LimSz x → inR 0 2000 y = false → callN P (m + 6) 34 [.fz x, .fz y] = .rs (oorX (S [110]) 0 2000) [.fz x, .fz y]) ∧
  (∀ (m : Nat) (x z : D) (n : Nat), isLimD x = true → LimSz x → n ≤ 2000 → callN P (m + 5) 33 [.fz x, .fz (.int (n : Int))] = .ok (z, false) [.fz x, .fz (.int (n : Int))] → callN P (m + 6) 34 [.fz x, .fz (.int (n : Int))] = .ok (z, false) [.fz x, .fz (.int (n : Int))])
theorem beginOk {P : Pr} (h : P.df 34 = some d_beginning) (h29 : P.df 29 = some d_check_limit) (h21 : P.df 21 = some d_check_number) (h33 : P.df 33 = some d_leading) (hg : P.gl 2 = some (.int 2000)) (I : CheckLimitOk P) (N : NumberOk P) : BeginOk P := by
  refine ⟨fun m x y hx hz => ?_, fun m x y hx hz hy => ?_, fun m x z n hx hz hn e3 => ?_⟩
  · have e1 := I m x hz
    rw [if_neg (by rw [hx]; exact Bool.false_ne_true)] at e1
    rw [callN_eq h rfl]
    simp [d_beginning, b_beginning, t_beginning_1, t_beginning_2, h29, d_check_limit, b_check_limit, e1]
  · have e1 := I m x hz
    rw [if_pos hx] at e1
    have e2 := N (m + 4) (S [110]) 0 2000 y _ (.inl rfl)
    rw [if_neg (by rw [hy]; exact Bool.false_ne_true)] at e2
    rw [callN_eq h rfl]
    simp [d_beginning, b_beginning, t_beginning_1, t_beginning_2, h29, d_check_limit, b_check_limit, e1, h21, d_check_number, b_check_number, e2, hg]
  · have e1 := I m x hz
    rw [if_pos hx] at e1
    have e2 := N (m + 4) (S [110]) 0 2000 (.int (n : Int)) _ (.inl rfl)
    rw [if_pos (by simp [inR]; omega)] at e2
    rw [callN_eq h rfl]
    simp [d_beginning, b_beginning, t_beginning_1, t_beginning_2, h29, d_check_limit, b_check_limit, e1, h21, d_check_number, b_check_number, e2, hg, h33, d_leading, b_leading, e3]
end Mp.Law

set_option maxHeartbeats 2000000
namespace Mp.Law
open PySem
/- _law_is_word (35) -/
def l__law_is_word_1 : Ss := .cons (.ite (.cmp .notin (.var 2) (.sl (.c (.str (S [97, 98, 99, 100, 101, 102, 103, 104]))) .no (.so (.var 1)))) (.cons (.ret (.c (.bool false)))
.nil) .nil) .nil
def t__law_is_word_2 : Ss := .cons (.ret (.c (.bool true))) .nil
def t__law_is_word_1 : Ss := .cons (.for_ (.nm 2) (.of (.var 0)) l__law_is_word_1) t__law_is_word_2
def b__law_is_word : Ss := .cons (.ite (.not (.isi (.var 0) [.str])) (.cons (.ret (.c (.bool false)))
.nil) .nil) t__law_is_word_1
def d__law_is_word : Df := ⟨2, 3, [true, true], b__law_is_word⟩
/- _law_root (36) -/
def b__law_root : Ss := .cons (.ret (.sl (.var 0) .no (.so (.me .find (.bin .add (.var 0) (.var 0)) (.cons (.var 0) (.cons (.c (.int 1)) .nil)))))) .nil
def d__law_root : Df := ⟨1, 1, [true], b__law_root⟩
/- _law_endless (37) -/
def l__law_endless_1_2 : Ss := .cons (.asg (.nm 0) (.sl (.var 0) .no (.so (.neg (.c (.int 1)))))) .nil
def l__law_endless_1_1 : Ss := .cons (.asg (.nm 1) (.bin .add (.ix (.var 1) (.neg (.c (.int 1)))) (.sl (.var 1) .no (.so (.neg (.c (.int 1))))))) l__law_endless_1_2
def l__law_endless_1 : Ss := .cons (.ite (.or (.cons (.cmp .eq (.var 0) (.c (.str (S [])))) (.cons (.cmp .ne (.ix (.var 0) (.neg (.c (.int 1)))) (.ix (.var 1) (.neg (.c (.int 1))))) .nil))) (.cons .brk
.nil) .nil) l__law_endless_1_1
def t__law_endless_2 : Ss := .cons (.ret (.tup (.cons (.var 0) (.cons (.var 1) .nil)))) .nil
def t__law_endless_1 : Ss := .cons (.for_ (.nm 2) (.rng1 (.bi .len (.cons (.var 0) .nil))) l__law_endless_1) t__law_endless_2
def b__law_endless : Ss := .cons (.asg (.nm 1) (.call 36 (.cons (.var 1) .nil))) t__law_endless_1
def d__law_endless : Df := ⟨2, 3, [false, false], b__law_endless⟩
/- _law_bad_limit (38) -/
def t__law_bad_limit_6 : Ss := .cons (.ret (.tup (.cons (.bin .add (.var 2) (.ix (.var 3) (.c (.int 0)))) (.cons (.bin .add (.sl (.var 3) (.so (.c (.int 1))) .no) (.ix (.var 3) (.c (.int 0)))) .nil)))) .nil
def t__law_bad_limit_5 : Ss := .cons (.ite (.cmp .eq (.var 1) (.c (.int 3))) (.cons (.ret (.tup (.cons (.bin .add (.var 2) (.var 3)) (.cons (.var 3) .nil))))
.nil) .nil) t__law_bad_limit_6
def t__law_bad_limit_4 : Ss := .cons (.ite (.cmp .eq (.var 1) (.c (.int 2))) (.cons (.ret (.tup (.cons (.var 2) (.cons (.bin .add (.var 3) (.var 3)) .nil))))
.nil) .nil) t__law_bad_limit_5
def t__law_bad_limit_3 : Ss := .cons (.ite (.cmp .eq (.var 1) (.c (.int 1))) (.cons (.ret (.call 9 (.cons (.var 0) (.cons (.lst (.cons (.lst (.cons (.var 2) (.cons (.var 3) .nil))) (.cons (.tup (.cons (.var 2) (.cons (.var 3) (.cons (.c (.str (S []))) .nil)))) (.cons (.tup (.cons (.var 2) .nil)) (.cons (.tup (.cons (.var 2) (.cons (.c (.str (S []))) .nil))) (.cons (.tup (.cons (.c (.str (S []))) (.cons (.c (.str (S []))) .nil))) (.cons (.tup (.cons (.c .none) (.cons (.var 3) .nil))) (.cons (.tup (.cons (.var 2) (.cons (.c .none) .nil))) (.cons (.tup (.cons (.var 2) (.cons (.lst (.cons (.var 3) .nil)) .nil))) (.cons (.tup (.cons (.c (.int 0)) (.cons (.c (.int 1)) .nil))) .nil)))))))))) .nil))))
.nil) .nil) t__law_bad_limit_4
def t__law_bad_limit_2 : Ss := .cons (.asg (.tp [(.nm 2), (.nm 3)]) (.call 37 (.cons (.call 12 (.cons (.var 0) (.cons (.c (.int 3)) (.cons (.c (.int 3)) .nil)))) (.cons (.bin .add (.call 12 (.cons (.var 0) (.cons (.c (.int 3)) (.cons (.c (.int 2)) .nil)))) (.c (.str (S [98])))) .nil)))) t__law_bad_limit_3
def t__law_bad_limit_1 : Ss := .cons (.ite (.cmp .eq (.var 1) (.c (.int 0))) (.cons (.ret (.call 13 (.cons (.var 0) .nil)))
.nil) .nil) t__law_bad_limit_2
def b__law_bad_limit : Ss := .cons (.asg (.nm 1) (.call 7 (.cons (.var 0) (.cons (.c (.int 5)) .nil)))) t__law_bad_limit_1
def d__law_bad_limit : Df := ⟨1, 4, [true], b__law_bad_limit⟩
/- _law_is_limit (39) -/
def t__law_is_limit_3 : Ss := .cons (.ret (.cmp .eq (.var 0) (.call 37 (.cons (.ix (.var 0) (.c (.int 0))) (.cons (.ix (.var 0) (.c (.int 1))) .nil))))) .nil
def t__law_is_limit_2 : Ss := .cons (.ite (.or (.cons (.not (.call 35 (.cons (.ix (.var 0) (.c (.int 1))) (.cons (.c (.int 8)) .nil)))) (.cons (.cmp .eq (.ix (.var 0) (.c (.int 1))) (.c (.str (S [])))) .nil))) (.cons (.ret (.c (.bool false)))
.nil) .nil) t__law_is_limit_3
def t__law_is_limit_1 : Ss := .cons (.ite (.or (.cons (.not (.isi (.var 0) [.tuple])) (.cons (.cmp .ne (.bi .len (.cons (.var 0) .nil)) (.c (.int 2))) (.cons (.not (.call 35 (.cons (.ix (.var 0) (.c (.int 0))) (.cons (.c (.int 8)) .nil)))) .nil)))) (.cons (.ret (.c (.bool false)))
.nil) .nil) t__law_is_limit_2
def b__law_is_limit : Ss := .cons (.ite (.call 35 (.cons (.var 0) (.cons (.c (.int 8)) .nil))) (.cons (.ret (.c (.bool true)))
.nil) .nil) t__law_is_limit_1
def d__law_is_limit : Df := ⟨1, 1, [true], b__law_is_limit⟩
/- _law_letters (41) -/
def b__law_letters : Ss := .cons (.ret (.sl (.bin .add (.var 0) (.bin .mul (.var 1) (.bin .add (.bin .fdiv (.var 2) (.bi .len (.cons (.var 1) .nil))) (.c (.int 1))))) .no (.so (.var 2)))) .nil
def d__law_letters : Df := ⟨3, 3, [true, true, true], b__law_letters⟩
/- _law_is_normal (42) -/
def l__law_is_normal_1 : Ss := .cons (.ite (.and (.cons (.cmp .eq (.bin .mod (.bi .int (.cons (.bi .len (.cons (.var 2) .nil)) .nil)) (.var 3)) (.c (.int 0))) (.cons (.cmp .eq (.bin .mul (.sl (.var 2) .no (.so (.var 3))) (.bin .fdiv (.bi .len (.cons (.var 2) .nil)) (.var 3))) (.var 2)) .nil))) (.cons (.ret (.c (.bool false)))
.nil) .nil) .nil
def t__law_is_normal_4 : Ss := .cons (.ret (.or (.cons (.cmp .eq (.var 1) (.c (.str (S [])))) (.cons (.cmp .ne (.ix (.var 1) (.neg (.c (.int 1)))) (.ix (.var 2) (.neg (.c (.int 1))))) .nil)))) .nil
def t__law_is_normal_3 : Ss := .cons (.for_ (.nm 3) (.rng2 (.c (.int 1)) (.bi .len (.cons (.var 2) .nil))) l__law_is_normal_1) t__law_is_normal_4
def t__law_is_normal_2 : Ss := .cons (.asg (.tp [(.nm 1), (.nm 2)]) (.var 0)) t__law_is_normal_3
def t__law_is_normal_1 : Ss := .cons (.ite (.or (.cons (.not (.call 35 (.cons (.ix (.var 0) (.c (.int 0))) (.cons (.c (.int 8)) .nil)))) (.cons (.not (.call 35 (.cons (.ix (.var 0) (.c (.int 1))) (.cons (.c (.int 8)) .nil)))) (.cons (.cmp .eq (.ix (.var 0) (.c (.int 1))) (.c (.str (S [])))) .nil)))) (.cons (.ret (.c (.bool false)))
.nil) .nil) t__law_is_normal_2
def b__law_is_normal : Ss := .cons (.ite (.or (.cons (.not (.isi (.var 0) [.tuple])) (.cons (.cmp .ne (.bi .len (.cons (.var 0) .nil)) (.c (.int 2))) .nil))) (.cons (.ret (.c (.bool false)))
.nil) .nil) t__law_is_normal_1
def d__law_is_normal : Df := ⟨1, 4, [true], b__law_is_normal⟩
/- _law_stands_for (43) -/
def t__law_stands_for_2 : Ss := .cons (.ret (.cmp .eq (.call 41 (.cons (.ix (.var 0) (.c (.int 0))) (.cons (.ix (.var 0) (.c (.int 1))) (.cons (.var 3) .nil)))) (.call 41 (.cons (.var 1) (.cons (.var 2) (.cons (.var 3) .nil)))))) .nil
def t__law_stands_for_1 : Ss := .cons (.asg (.nm 3) (.bin .add (.bin .add (.bin .add (.bin .add (.bi .len (.cons (.var 1) .nil)) (.bi .len (.cons (.var 2) .nil))) (.bi .len (.cons (.ix (.var 0) (.c (.int 0))) .nil))) (.bi .len (.cons (.ix (.var 0) (.c (.int 1))) .nil))) (.c (.int 1)))) t__law_stands_for_2
def b__law_stands_for : Ss := .cons (.ite (.not (.call 42 (.cons (.var 0) .nil))) (.cons (.ret (.c (.bool false)))
.nil) .nil) t__law_stands_for_1
def d__law_stands_for : Df := ⟨3, 4, [true, true, true], b__law_stands_for⟩
/- _law_no_limit (45) -/
def t__law_no_limit_1 : Ss := .cons (.ret (.ife (.call 39 (.cons (.var 1) .nil)) (.tup (.cons (.c (.str (S []))) (.cons (.c (.str (S []))) .nil))) (.var 1))) .nil
def b__law_no_limit : Ss := .cons (.asg (.nm 1) (.call 38 (.cons (.var 0) .nil))) t__law_no_limit_1
def d__law_no_limit : Df := ⟨1, 2, [true], b__law_no_limit⟩
@[simp] theorem subS_one (a : List Nat) (c : Nat) : subS (S [c]) (S a) = decide (c ∈ a) := StrLaws.found_one (S a) c
theorem isWordL_cons (c : Nat) (a : List Nat) : isWordL (c :: a) = (decide (c ∈ [97, 98, 99, 100, 101, 102, 103, 104]) && isWordL a) := by
  unfold isWordL
  rw [List.all_cons]
  congr 1
  rw [← Bool.decide_and, decide_eq_decide]
  simp only [List.mem_cons, List.not_mem_nil, or_false]
  omega
/-- the law's own is_word, over all letters -/
def LIsWordOk (P : Pr) : Prop := ∀ (n : Nat) (x : D), callN P (n + 1) 35 [.fz x, .fz (.int 8)] = .ok (.bool (isWordD x), false) [.fz x, .fz (.int 8)]
theorem lIsWordOk {P : Pr} (h : P.df 35 = some d__law_is_word) : LIsWordOk P := fun n x => by
  have hc : cut [97, 98, 99, 100, 101, 102, 103, 104] none (some 8) = [97, 98, 99, 100, 101, 102, 103, 104] := by decide
  rw [callN_eq h rfl]
  cases x with
  | str s =>
    have loop : ∀ (l : List Nat) (s2 : Sl), Asg s2 → ∃ s2', forLoop (forT (.nm 2) (exSs P (callN P n) false l__law_is_word_1)) (l.map fun c => .str (S [c])) [.fz (.str s), .fz (.int 8), s2] = if isWordL l = true then .nx [.fz (.str s), .fz (.int 8), s2'] else .rt (.bool false, false) [.fz (.str s), .fz (.int 8), s2'] := by
      intro l
      induction l with
      | nil => intro s2 _; exact ⟨s2, rfl⟩
      | cons c l ih =>
        intro s2 h2
        rw [List.map_cons, isWordL_cons]
        by_cases q : c ∈ [97, 98, 99, 100, 101, 102, 103, 104]
        · obtain ⟨s2', e⟩ := ih (.fz (.str (S [c]))) .fz
          refine ⟨s2', ?_⟩
          rw [decide_eq_true q, Bool.true_and]
          have et : forT (.nm 2) (exSs P (callN P n) false l__law_is_word_1) (.str (S [c])) [.fz (.str s), .fz (.int 8), s2] = .nx [.fz (.str s), .fz (.int 8), .fz (.str (S [c]))] := by
            simp only [List.mem_cons, List.not_mem_nil, or_false] at q
            simp [l__law_is_word_1, asgS_asg h2, hc, q]
          rw [forLoop_nx et]
          exact e
        · refine ⟨.fz (.str (S [c])), ?_⟩
          rw [decide_eq_false q, Bool.false_and, if_neg Bool.false_ne_true]
          have et : forT (.nm 2) (exSs P (callN P n) false l__law_is_word_1) (.str (S [c])) [.fz (.str s), .fz (.int 8), s2] = .rt (.bool false, false) [.fz (.str s), .fz (.int 8), .fz (.str (S [c]))] := by
            simp only [List.mem_cons, List.not_mem_nil, or_false] at q
            simp [l__law_is_word_1, asgS_asg h2, hc, q]
          exact forLoop_rt et
    obtain ⟨s2', e⟩ := loop (L s) .un .un
    cases c : isWordL (L s) <;> rw [c] at e <;> simp at e <;> simp [d__law_is_word, b__law_is_word, t__law_is_word_1, t__law_is_word_2, e, isWordD, c]
  | _ => simp [d__law_is_word, b__law_is_word, t__law_is_word_1, t__law_is_word_2, isWordD]
def LRootOk (P : Pr) : Prop := ∀ (n : Nat) (a : List Nat), a ≠ [] → a.length ≤ 100000 → callN P (n + 1) 36 [.fz (.str (S a))] = .ok (.str (S (rootL a)), false) [.fz (.str (S a))]
theorem lRootOk {P : Pr} (h : P.df 36 = some d__law_root) : LRootOk P := fun n a ha hl => by
  have hcap : a.length + a.length ≤ cap := by
    have : (200000 : Nat) ≤ cap := by decide
    omega
  have ef : Txt.find3 (S (a ++ a)) (S a) 1 = findL (a ++ a) a 1 := find3_S _ _ 1
  have h0 := find_twice ha
  rw [callN_eq h rfl]
  simp [d__law_root, b__law_root, hcap, ef, cut_take (show 0 ≤ findL (a ++ a) a 1 by omega), rootL]
theorem cut_last {w : List Nat} {c : Nat} : cut (w ++ [c]) none (some (-1)) = w := by
  unfold cut sEnd
  simp
  rw [show (-1 + ((w.length : Int) + 1)).toNat = w.length by omega]
  simp
/-- the loop of the law's endless -/
theorem endless_loop {P : Pr} {cs : Cs} : ∀ (xs : List D) (u v : List Nat) (s2 : Sl), Asg s2 → v ≠ [] → u.length = xs.length → v.length ≤ 100000 → ∃ s2', forLoop (forT (.nm 2) (exSs P cs false l__law_endless_1)) xs [.fz (.str (S u)), .fz (.str (S v)), s2] = .nx [.fz (.str (S (nz xs.length u v).1)), .fz (.str (S (nz xs.length u v).2)), s2'] := by
  intro xs
  induction xs with
  | nil => intro u v s2 _ _ hl _; exact ⟨s2, rfl⟩
  | cons x xs ih =>
    intro u v s2 h2 hv hl hvl
    have hcap : (1000000 : Nat) ≤ cap := by decide
    have u0 : u ≠ [] := by rintro rfl; simp at hl
    obtain ⟨u', c, rfl⟩ := snoc_of u0
    obtain ⟨v', d, rfl⟩ := snoc_of hv
    have hvl' : 1 + v'.length ≤ cap := by simp at hvl; omega
    by_cases q : c = d
    · subst q
      obtain ⟨s2', e⟩ := ih u' (c :: v') (.fz x) .fz (by simp) (by simpa using hl) (by simpa using hvl)
      refine ⟨s2', ?_⟩
      have et : forT (.nm 2) (exSs P cs false l__law_endless_1) x [.fz (.str (S (u' ++ [c]))), .fz (.str (S (v' ++ [c]))), s2] = .nx [.fz (.str (S u')), .fz (.str (S (c :: v'))), .fz x] := by
        simp [l__law_endless_1, l__law_endless_1_1, l__law_endless_1_2, asgS_asg h2, cut_last, hvl']
      rw [forLoop_nx et, e, List.length_cons, nz_step]
    · refine ⟨.fz x, ?_⟩
      have et : forT (.nm 2) (exSs P cs false l__law_endless_1) x [.fz (.str (S (u' ++ [c]))), .fz (.str (S (v' ++ [d]))), s2] = .bk [.fz (.str (S (u' ++ [c]))), .fz (.str (S (v' ++ [d]))), .fz x] := by
        simp [l__law_endless_1, l__law_endless_1_1, l__law_endless_1_2, asgS_asg h2, q]
      rw [forLoop_bk et, nz_stop (.inr (by simp [q]))]
def LEndlessOk (P : Pr) : Prop := ∀ (n : Nat) (u v : List Nat), v ≠ [] → u.length ≤ 100000 → v.length ≤ 100000 → ∃ a b : D, callN P (n + 2) 37 [.fz (.str (S u)), .fz (.str (S v))] = .ok (.tuple [.str (S (nfL u v).1), .str (S (nfL u v).2)], false) [.fz a, .fz b]
theorem lEndlessOk {P : Pr} (h : P.df 37 = some d__law_endless) (h36 : P.df 36 = some d__law_root) (R : LRootOk P) : LEndlessOk P := fun n u v hv hu hvl => by
  have e1 := R n v hv hvl
  have hr := rootL_le v
  obtain ⟨s2, e2⟩ := endless_loop (P := P) (cs := callN P (n + 1)) (rangeD 0 (u.length : Int)) u (rootL v) .un .un (root_ne hv) (by simp [rangeD]) (by omega)
  rw [show (rangeD 0 (u.length : Int)).length = u.length by simp [rangeD]] at e2
  have hs : small (u.length : Int) = true := small_nat (by omega)
  rw [show nz u.length u (rootL v) = nfL u v from rfl] at e2
  refine ⟨.str (S (nfL u v).1), .str (S (nfL u v).2), ?_⟩
  rw [callN_eq h rfl]
  simp [d__law_endless, b__law_endless, t__law_endless_1, t__law_endless_2, h36, d__law_root, b__law_root, e1, hs, e2]
/-- the texts of a pair are not too long -/
def PairSz (x : D) : Prop := ∀ a b, x = .tuple [.str (S a), .str (S b)] → a.length ≤ 100000 ∧ b.length ≤ 100000
def LIsLimitOk (P : Pr) : Prop := ∀ (n : Nat) (x : D), PairSz x → callN P (n + 3) 39 [.fz x] = .ok (.bool (isLimD x), false) [.fz x]
theorem isWordD_empty {x : D} (h : isWordD x = true) (g : x ≠ .str (S [])) : ∃ a, x = .str (S a) ∧ isWordL a = true ∧ a ≠ [] := by
  obtain ⟨a, rfl, ha⟩ := isWordD_str h
  exact ⟨a, rfl, ha, fun z => g (by rw [z])⟩
theorem lIsLimitOk {P : Pr} (h : P.df 39 = some d__law_is_limit) (h35 : P.df 35 = some d__law_is_word) (h37 : P.df 37 = some d__law_endless) (W : LIsWordOk P) (E : LEndlessOk P) : LIsLimitOk P := fun n x hx => by
  have e0 := W (n + 1) x
  rw [callN_eq h rfl]
  cases x with
  | tuple l =>
    rw [show isWordD (.tuple l) = false from rfl] at e0
    match l with
    | [] => simp [d__law_is_limit, b__law_is_limit, t__law_is_limit_1, t__law_is_limit_2, t__law_is_limit_3, h35, d__law_is_word, b__law_is_word, e0, isLimD]
    | [x] => simp [d__law_is_limit, b__law_is_limit, t__law_is_limit_1, t__law_is_limit_2, t__law_is_limit_3, h35, d__law_is_word, b__law_is_word, e0, isLimD]
    | x :: y :: z :: r => simp [d__law_is_limit, b__law_is_limit, t__law_is_limit_1, t__law_is_limit_2, t__law_is_limit_3, h35, d__law_is_word, b__law_is_word, e0, isLimD, show ¬ ((r.length : Int) + 1 + 1 + 1 = 2) by omega]
    | [x, y] =>
      have e1 := W (n + 1) x
      have e2 := W (n + 1) y
      cases c1 : isWordD x with
      | false =>
        rw [c1] at e1
        simp [d__law_is_limit, b__law_is_limit, t__law_is_limit_1, t__law_is_limit_2, t__law_is_limit_3, h35, d__law_is_word, b__law_is_word, e0, isLimD, e1, c1]
      | true =>
        rw [c1] at e1
        cases c2 : isWordD y with
        | false =>
          rw [c2] at e2
          simp [d__law_is_limit, b__law_is_limit, t__law_is_limit_1, t__law_is_limit_2, t__law_is_limit_3, h35, d__law_is_word, b__law_is_word, e0, isLimD, e1, e2, c1, c2]
        | true =>
          rw [c2] at e2
          obtain ⟨u, rfl, hu⟩ := isWordD_str c1
          obtain ⟨v, rfl, hv⟩ := isWordD_str c2
          obtain ⟨z1, z2⟩ := hx _ _ rfl
          by_cases v0 : v = []
          · subst v0
            simp [d__law_is_limit, b__law_is_limit, t__law_is_limit_1, t__law_is_limit_2, t__law_is_limit_3, h35, d__law_is_word, b__law_is_word, e0, isLimD, e1, e2, c1, c2, nfB]
          obtain ⟨a, b, e3⟩ := E n u v v0 z1 z2
          have e4 : isLimD (.tuple [.str (S u), .str (S v)]) = (decide (u = (nfL u v).1) && decide (v = (nfL u v).2)) := by
            rw [pairD, hu, hv, Bool.true_and, Bool.true_and, Bool.eq_iff_iff, nfB_iff, Bool.and_eq_true, decide_eq_true_eq, decide_eq_true_eq]
            constructor
            · intro z
              rw [z.self]
              exact ⟨rfl, rfl⟩
            · intro z
              have := (nfL_ok (u := u) v0).1
              rw [← z.1, ← z.2] at this
              exact this
          rw [e4]
          simp [d__law_is_limit, b__law_is_limit, t__law_is_limit_1, t__law_is_limit_2, t__law_is_limit_3, h35, d__law_is_word, b__law_is_word, e0, e1, e2, c1, c2, v0, h37, d__law_endless, b__law_endless, e3, deq_tuple, PyData.eqvAll]
          show (deq (.str (S u)) (.str (S (nfL u v).1)) && deq (.str (S v)) (.str (S (nfL u v).2))) = _
          rw [deq_str, deq_str]
  | str s =>
    cases c : isWordD (.str s) <;> rw [c] at e0 <;> simp [d__law_is_limit, b__law_is_limit, t__law_is_limit_1, t__law_is_limit_2, t__law_is_limit_3, h35, d__law_is_word, b__law_is_word, e0, isLimD, isWordD] <;> simpa [isWordD] using c
  | _ =>
    rw [show isWordD _ = false from rfl] at e0
    simp [d__law_is_limit, b__law_is_limit, t__law_is_limit_1, t__law_is_limit_2, t__law_is_limit_3, h35, d__law_is_word, b__law_is_word, e0, isLimD]
/-! ### things that are no limits -/
theorem PairSz.lim {x : D} (h : PairSz x) : ∀ a b, x = .tuple [.str (S a), .str (S b)] → b.length ≤ 100000 := fun a b e => (h a b e).2
theorem tx_pair {x : D} (h : tx x ≤ 100000) : PairSz x := fun a b e => by
  subst e
  simp [tx, txl] at h
  omega
theorem tx_lim {x : D} (h : tx x ≤ 100000) : LimSz x := fun a s e => by
  subst e
  simp [tx, txl] at h
  omega
structure NoLim (x : D) : Prop where
  l : isLimD x = false
  t : Thing x
  z : tx x ≤ 1000
def BadLimitOk (P : Pr) : Prop := ∀ (n : Nat), Draws P (n + 5) 38 400 [] fun v => ∃ x, v = (x, false) ∧ Thing x ∧ tx x ≤ 1000
def NoLimitOk (P : Pr) : Prop := ∀ (n : Nat), Draws P (n + 6) 45 400 [] fun v => ∃ x, v = (x, false) ∧ NoLim x
theorem noLimitOk {P : Pr} (h : P.df 45 = some d__law_no_limit) (h38 : P.df 38 = some d__law_bad_limit) (h39 : P.df 39 = some d__law_is_limit) (B : BadLimitOk P) (I : LIsLimitOk P) : NoLimitOk P := fun n b s hs hb => by
  obtain ⟨v, s1, e1, hs1, x, rfl, hx, hz⟩ := B n b s hs hb
  have e2 := I (n + 2) x (tx_pair (by omega))
  rw [callN_eq h rfl]
  cases c : isLimD x <;> rw [c] at e2
  · exact ⟨(x, false), s1, by simp [d__law_no_limit, b__law_no_limit, t__law_no_limit_1, h38, d__law_bad_limit, b__law_bad_limit, e1, h39, d__law_is_limit, b__law_is_limit, e2], hs1, x, rfl, c, hx, hz⟩
  · exact ⟨(.tuple [.str (S []), .str (S [])], false), s1, by simp [d__law_no_limit, b__law_no_limit, t__law_no_limit_1, h38, d__law_bad_limit, b__law_bad_limit, e1, h39, d__law_is_limit, b__law_is_limit, e2], hs1, _, rfl, by simp [isLimD, isWordD, nfB], ⟨by simp [flatK, flatKs], by simp [dep, deps], by simp [sz, szs]⟩, by simp [tx, txl]⟩
end Mp.Law

set_option maxHeartbeats 2000000
namespace Mp.Law
open PySem
theorem badLimitOk {P : Pr} (h : P.df 38 = some d__law_bad_limit) (h7 : P.df 7 = some d__law_take) (h9 : P.df 9 = some d__law_pick) (h12 : P.df 12 = some d__law_word) (h13 : P.df 13 = some d__law_bad_word) (h37 : P.df 37 = some d__law_endless) (T : TakeOk P) (K : PickOk P) (W : WordOk P) (B : BadWordOk P) (E : LEndlessOk P) : BadLimitOk P := fun n b s hs hb => by
  have hcap : (1000 : Nat) ≤ cap := by decide
  obtain ⟨r, s1, e1, hs1, r0, r1⟩ := T.at (n + 2) (m := 5) (by decide) (by decide) hs (by omega)
  by_cases c0 : r = 0
  · subst c0
    obtain ⟨⟨x, f⟩, s2, e2, hs2, hx, hf⟩ := B n _ s1 hs1 (by omega)
    dsimp only at hx hf
    subst hf
    exact ⟨(x, false), s2, by rw [callN_eq h rfl]; simp [d__law_bad_limit, b__law_bad_limit, t__law_bad_limit_1, t__law_bad_limit_2, t__law_bad_limit_3, t__law_bad_limit_4, t__law_bad_limit_5, t__law_bad_limit_6, h7, d__law_take, b__law_take, e1, h13, d__law_bad_word, b__law_bad_word, e2], hs2.mono (by omega), x, rfl, hx.thing, Nat.le_trans hx.q (by decide)⟩
  obtain ⟨v, s2, e2, hs2, a, rfl, ha, hal⟩ := W (n + 1) 3 3 (by decide) (by decide) (by decide) (by decide) _ s1 hs1 (by omega)
  obtain ⟨v, s3, e3, hs3, q, rfl, hq, hql⟩ := W (n + 1) 3 2 (by decide) (by decide) (by decide) (by decide) _ s2 hs2 (by omega)
  obtain ⟨a1, a2, e4⟩ := E (n + 2) a (q ++ [98]) (by simp) (by omega) (by simp; omega)
  obtain ⟨nf, _, l1, l2⟩ := nfL_ok (u := a) (v := q ++ [98]) (by simp)
  generalize (nfL a (q ++ [98])).1 = u at e4 nf l1
  generalize (nfL a (q ++ [98])).2 = w at e4 nf l2
  obtain ⟨d, w', rfl⟩ : ∃ d w', w = d :: w' := by
    cases w with
    | nil => exact absurd rfl nf.ne
    | cons d w' => exact ⟨d, w', rfl⟩
  have hw' : w'.length ≤ 2 := by simp at l2; omega
  have k1 : q.length + 1 ≤ cap := by omega
  have k2 : (d :: w').length + (d :: w').length ≤ cap := by simp; omega
  have k3 : u.length + (d :: w').length ≤ cap := by simp; omega
  have k4 : u.length + 1 ≤ cap := by omega
  have k5 : w'.length + 1 ≤ cap := by omega
  simp at k2 k3
  by_cases c1 : r = 1
  · subst c1
    obtain ⟨v, s4, e5, hs4, x, hx, rfl⟩ := K (n + 1) [.list [.str (S u), .str (S (d :: w'))], .tuple [.str (S u), .str (S (d :: w')), .str (S [])], .tuple [.str (S u)], .tuple [.str (S u), .str (S [])], .tuple [.str (S []), .str (S [])], .tuple [.none, .str (S (d :: w'))], .tuple [.str (S u), .none], .tuple [.str (S u), .list [.str (S (d :: w'))]], .tuple [.int 0, .int 1]] (by simp) (by simp) _ s3 hs3 (by omega)
    refine ⟨(x, false), s4, by rw [callN_eq h rfl]; simp [d__law_bad_limit, b__law_bad_limit, t__law_bad_limit_1, t__law_bad_limit_2, t__law_bad_limit_3, t__law_bad_limit_4, t__law_bad_limit_5, t__law_bad_limit_6, h7, d__law_take, b__law_take, e1, h12, d__law_word, b__law_word, e2, e3, k1, h37, d__law_endless, b__law_endless, e4, h9, d__law_pick, b__law_pick, e5], hs4.mono (by omega), x, rfl, ?_⟩
    simp only [List.mem_cons, List.not_mem_nil, or_false] at hx
    rcases hx with rfl | rfl | rfl | rfl | rfl | rfl | rfl | rfl | rfl <;> exact ⟨⟨by simp [flatK, flatKs], by simp [dep, deps], by simp [sz, szs]⟩, by simp [tx, txl] <;> omega⟩
  by_cases c2 : r = 2
  · subst c2
    exact ⟨(.tuple [.str (S u), .str (S ((d :: w') ++ (d :: w')))], false), s3, by rw [callN_eq h rfl]; simp [d__law_bad_limit, b__law_bad_limit, t__law_bad_limit_1, t__law_bad_limit_2, t__law_bad_limit_3, t__law_bad_limit_4, t__law_bad_limit_5, t__law_bad_limit_6, h7, d__law_take, b__law_take, e1, h12, d__law_word, b__law_word, e2, e3, k1, h37, d__law_endless, b__law_endless, e4, k2], hs3.mono (by omega), _, rfl, ⟨by simp [flatK, flatKs], by simp [dep, deps], by simp [sz, szs]⟩, by simp [tx, txl]; omega⟩
  by_cases c3 : r = 3
  · subst c3
    exact ⟨(.tuple [.str (S (u ++ (d :: w'))), .str (S (d :: w'))], false), s3, by rw [callN_eq h rfl]; simp [d__law_bad_limit, b__law_bad_limit, t__law_bad_limit_1, t__law_bad_limit_2, t__law_bad_limit_3, t__law_bad_limit_4, t__law_bad_limit_5, t__law_bad_limit_6, h7, d__law_take, b__law_take, e1, h12, d__law_word, b__law_word, e2, e3, k1, h37, d__law_endless, b__law_endless, e4, k3], hs3.mono (by omega), _, rfl, ⟨by simp [flatK, flatKs], by simp [dep, deps], by simp [sz, szs]⟩, by simp [tx, txl]; omega⟩
  · exact ⟨(.tuple [.str (S (u ++ [d])), .str (S (w' ++ [d]))], false), s3, by rw [callN_eq h rfl]; simp [d__law_bad_limit, b__law_bad_limit, t__law_bad_limit_1, t__law_bad_limit_2, t__law_bad_limit_3, t__law_bad_limit_4, t__law_bad_limit_5, t__law_bad_limit_6, h7, d__law_take, b__law_take, e1, c0, c1, c2, c3, h12, d__law_word, b__law_word, e2, e3, k1, h37, d__law_endless, b__law_endless, e4, k4, k5, cut_drop], hs3.mono (by omega), _, rfl, ⟨by simp [flatK, flatKs], by simp [dep, deps], by simp [sz, szs]⟩, by simp [tx, txl]; omega⟩
/-! ### letters, by the law -/
def LLettersOk (P : Pr) : Prop := ∀ (m : Nat) (u v : List Nat) (n : Nat), v ≠ [] → u.length ≤ 100000 → v.length ≤ 100000 → n ≤ 300000 → callN P (m + 1) 41 [.fz (.str (S u)), .fz (.str (S v)), .fz (.int (n : Int))] = .ok (.str (S (letL u v n)), false) [.fz (.str (S u)), .fz (.str (S v)), .fz (.int (n : Int))]
theorem lLettersOk {P : Pr} (h : P.df 41 = some d__law_letters) : LLettersOk P := fun m u v n hv hu hvl hn => by
  have hp := List.length_pos_iff.mpr hv
  have hcap : (10000000 : Nat) ≤ cap := by decide
  have d1 : divOk (v.length : Int) := divOk_le (by omega) (by omega)
  have e1 : ((n : Int) / (v.length : Int) + 1).toNat = n / v.length + 1 := by rw [← Int.natCast_ediv]; generalize n / v.length = q; omega
  have e2 : ((n : Int) / (v.length : Int) + 1).natAbs = n / v.length + 1 := by rw [← Int.natCast_ediv]; generalize n / v.length = q; omega
  have q1 : n / v.length * v.length ≤ n := Nat.div_mul_le_self n v.length
  have q2 : v.length * (n / v.length + 1) ≤ 400000 := by rw [Nat.mul_comm, Nat.add_mul]; omega
  have q3 : n / v.length ≤ n := Nat.div_le_self _ _
  have q4 : (n / v.length + 1) * v.length ≤ 400000 := by rw [Nat.mul_comm]; exact q2
  rw [callN_eq h rfl]
  simp [d__law_letters, b__law_letters, d1, e1, e2, show v.length * (n / v.length + 1) ≤ cap by omega, show n / v.length + 1 < 4611686018427387904 by omega, repL_length, show u.length + (n / v.length + 1) * v.length ≤ cap by omega, cut_take, letL]
/-- a normal form is one by the law's own test -/
def LIsNormalOk (P : Pr) : Prop := ∀ (n : Nat) (u v : List Nat), isWordL u = true → isWordL v = true → NF u v → u.length ≤ 100000 → v.length ≤ 100000 → callN P (n + 2) 42 [.fz (.tuple [.str (S u), .str (S v)])] = .ok (.bool true, false) [.fz (.tuple [.str (S u), .str (S v)])]
theorem lIsNormalOk {P : Pr} (h : P.df 42 = some d__law_is_normal) (h35 : P.df 35 = some d__law_is_word) (W : LIsWordOk P) : LIsNormalOk P := fun n u v wu wv hn hu hv => by
  have hcap : (1000000 : Nat) ≤ cap := by decide
  have e1 := W n (.str (S u))
  have e2 := W n (.str (S v))
  rw [show isWordD (.str (S u)) = true by simpa [isWordD] using wu] at e1
  rw [show isWordD (.str (S v)) = true by simpa [isWordD] using wv] at e2
  have hp := hn.pos
  have hx : rangeD 1 (v.length : Int) = (List.range (v.length - 1)).map fun (i : Nat) => .int (1 + (i : Int)) := by unfold rangeD; rw [show ((v.length : Int) - 1).toNat = v.length - 1 by omega]
  have turn : ∀ (i : Nat) (s3 : Sl), Asg s3 → i + 1 < v.length → forT (.nm 3) (exSs P (callN P (n + 1)) false l__law_is_normal_1) (.int (1 + (i : Int))) [.fz (.tuple [.str (S u), .str (S v)]), .fz (.str (S u)), .fz (.str (S v)), s3] = .nx [.fz (.tuple [.str (S u), .str (S v)]), .fz (.str (S u)), .fz (.str (S v)), .fz (.int (1 + (i : Int)))] := fun i s3 h3 hi => by
    have p1 : (0 : Int) < 1 + (i : Int) := by omega
    have p2 : divOk (1 + (i : Int)) := divOk_le p1 (by omega)
    have e3 : (1 + (i : Int)).toNat = i + 1 := by omega
    have ed : (v.length : Int) / (1 + (i : Int)) = ((v.length / (i + 1) : Nat) : Int) := by rw [Int.natCast_ediv]; rw [show ((i + 1 : Nat) : Int) = 1 + (i : Int) by omega]
    have em : (v.length : Int) % (1 + (i : Int)) = ((v.length % (i + 1) : Nat) : Int) := by rw [Int.natCast_emod]; rw [show ((i + 1 : Nat) : Int) = 1 + (i : Int) by omega]
    have e4 : ((v.length : Int) / ((i : Int) + 1)).toNat = v.length / (i + 1) := by rw [show (i : Int) + 1 = 1 + (i : Int) by omega, ed]; rfl
    have e5 : ((v.length : Int) / ((i : Int) + 1)).natAbs = v.length / (i + 1) := by rw [show (i : Int) + 1 = 1 + (i : Int) by omega, ed]; rfl
    have e6 : ((v.length : Int) / (1 + (i : Int))).toNat = v.length / (i + 1) := by rw [ed]; rfl
    have e7 : ((v.length : Int) / (1 + (i : Int))).natAbs = v.length / (i + 1) := by rw [ed]; rfl
    by_cases c1 : v.length % (i + 1) = 0
    · have hm : v.length / (i + 1) * (i + 1) = v.length := Nat.div_mul_cancel (Nat.dvd_of_mod_eq_zero c1)
      have g1 : min (i + 1) v.length * (v.length / (i + 1)) ≤ cap := by
        rw [Nat.min_eq_left (by omega), Nat.mul_comm, hm]
        omega
      have g2 : v.length / (i + 1) < 4611686018427387904 := by
        have : v.length / (i + 1) ≤ v.length := Nat.div_le_self _ _
        omega
      have g3 := rep_iff (a := v) (k := i + 1) (by omega) (by omega) c1
      have g4 : ¬ repL (v.length / (i + 1)) (v.take (i + 1)) = v := fun z => hn.least.min (i + 1) (by omega) hi (g3.mp z)
      simp [l__law_is_normal_1, asgS_asg h3, p1, p2, em, c1, cut_take (show 0 ≤ 1 + (i : Int) by omega), e3, e4, e5, e6, e7, g1, g2, g4]
    · have c2 : ¬ (v.length : Int) % (1 + (i : Int)) = 0 := by rw [em]; omega
      simp [l__law_is_normal_1, asgS_asg h3, p1, p2, c2]
  have loop : ∀ (r j : Nat) (s3 : Sl), Asg s3 → j + r + 1 = v.length → ∃ s3', forLoop (forT (.nm 3) (exSs P (callN P (n + 1)) false l__law_is_normal_1)) ((List.range' j r).map fun (i : Nat) => .int (1 + (i : Int))) [.fz (.tuple [.str (S u), .str (S v)]), .fz (.str (S u)), .fz (.str (S v)), s3] = .nx [.fz (.tuple [.str (S u), .str (S v)]), .fz (.str (S u)), .fz (.str (S v)), s3'] := by
    intro r
    induction r with
    | zero => intro j s3 h3 e; exact ⟨s3, rfl⟩
    | succ r ih =>
      intro j s3 h3 e
      rw [List.range'_succ, List.map_cons, forLoop_nx (turn j s3 h3 (by omega))]
      exact ih (j + 1) _ .fz (by omega)
  obtain ⟨s3, e3⟩ := loop (v.length - 1) 0 .un .un (by omega)
  rw [← List.range_eq_range', ← hx] at e3
  have hs : small (v.length : Int) = true := small_nat (by omega)
  have v0 := hn.ne
  rw [callN_eq h rfl]
  by_cases u0 : u = []
  · subst u0
    simp [d__law_is_normal, b__law_is_normal, t__law_is_normal_1, t__law_is_normal_2, t__law_is_normal_3, t__law_is_normal_4, h35, d__law_is_word, b__law_is_word, e1, e2, v0, hs, e3]
  · obtain ⟨u', c, rfl⟩ := snoc_of u0
    obtain ⟨v', d, rfl⟩ := snoc_of v0
    have q : ¬ c = d := fun z => hn.last.elim u0 (fun k => k (by simp [z]))
    simp at hs e3
    simp [d__law_is_normal, b__law_is_normal, t__law_is_normal_1, t__law_is_normal_2, t__law_is_normal_3, t__law_is_normal_4, h35, d__law_is_word, b__law_is_word, e1, e2, hs, e3, q]
def LStandsOk (P : Pr) : Prop := ∀ (n : Nat) (a b u v : List Nat), isWordL a = true → isWordL b = true → NF a b → v ≠ [] → sq a b = sq u v → a.length ≤ 50000 → b.length ≤ 50000 → u.length ≤ 50000 → v.length ≤ 50000 → callN P (n + 3) 43 [.fz (.tuple [.str (S a), .str (S b)]), .fz (.str (S u)), .fz (.str (S v))] = .ok (.bool true, false) [.fz (.tuple [.str (S a), .str (S b)]), .fz (.str (S u)), .fz (.str (S v))]
theorem lStandsOk {P : Pr} (h : P.df 43 = some d__law_stands_for) (h41 : P.df 41 = some d__law_letters) (h42 : P.df 42 = some d__law_is_normal) (N : LIsNormalOk P) (Lt : LLettersOk P) : LStandsOk P := fun n a b u v wa wb hn hv hs la lb lu lv => by
  have e1 := N n a b wa wb hn (by omega) (by omega)
  have e2 := Lt (n + 1) a b (u.length + v.length + a.length + b.length + 1) hn.ne (by omega) (by omega) (by omega)
  have e3 := Lt (n + 1) u v (u.length + v.length + a.length + b.length + 1) hv (by omega) (by omega) (by omega)
  rw [letL_eq hn.ne hv hs] at e2
  rw [callN_eq h rfl]
  simp at e2 e3
  simp [d__law_stands_for, b__law_stands_for, t__law_stands_for_1, t__law_stands_for_2, h42, d__law_is_normal, b__law_is_normal, e1, h41, d__law_letters, b__law_letters, e2, e3]
end Mp.Law

set_option maxHeartbeats 2000000
namespace Mp.Law
open PySem
/- letters_in (49) -/
def t_letters_in_2 : Ss := .cons (.ret (.bin .add (.bi .len (.cons (.var 1) .nil)) (.bi .len (.cons (.var 2) .nil)))) .nil
def t_letters_in_1 : Ss := .cons (.asg (.tp [(.nm 1), (.nm 2)]) (.var 0)) t_letters_in_2
def b_letters_in : Ss := .cons (.ite (.isi (.var 0) [.str]) (.cons (.ret (.bi .len (.cons (.var 0) .nil)))
.nil) .nil) t_letters_in_1
def d_letters_in : Df := ⟨1, 3, [true], b_letters_in⟩
/- spread (50) -/
def t_spread_1 : Ss := .cons (.ret (.tup (.cons (.call 33 (.cons (.var 0) (.cons (.var 2) .nil))) (.cons (.call 33 (.cons (.var 1) (.cons (.var 2) .nil))) .nil)))) .nil
def b_spread : Ss := .cons (.asg (.nm 2) (.bin .add (.bin .add (.call 49 (.cons (.var 0) .nil)) (.call 49 (.cons (.var 1) .nil))) (.c (.int 1)))) t_spread_1
def d_spread : Df := ⟨2, 3, [true, true], b_spread⟩
/- order_of (51) -/
def t_order_of_2 : Ss := .cons (.ret (.ife (.cmp .lt (.var 2) (.var 3)) (.neg (.c (.int 1))) (.c (.int 1)))) .nil
def t_order_of_1 : Ss := .cons (.ite (.cmp .eq (.var 2) (.var 3)) (.cons (.ret (.c (.int 0)))
.nil) .nil) t_order_of_2
def b_order_of : Ss := .cons (.asg (.tp [(.nm 2), (.nm 3)]) (.call 50 (.cons (.var 0) (.cons (.var 1) .nil)))) t_order_of_1
def d_order_of : Df := ⟨2, 4, [true, true], b_order_of⟩
/- compare (52) -/
def t_compare_2 : Ss := .cons (.ret (.call 51 (.cons (.var 0) (.cons (.var 1) .nil)))) .nil
def t_compare_1 : Ss := .cons (.ex (.call 29 (.cons (.var 1) .nil))) t_compare_2
def b_compare : Ss := .cons (.ex (.call 29 (.cons (.var 0) .nil))) t_compare_1
def d_compare : Df := ⟨2, 2, [true, true], b_compare⟩
/-- a limit: a word, or u v v v .. -/
inductive Lm where
  | w (a : List Nat)
  | p (u v : List Nat)
def Lm.d : Lm → D
  | .w a => .str (S a)
  | .p u v => .tuple [.str (S u), .str (S v)]
def Lm.len : Lm → Nat
  | .w a => a.length
  | .p u v => u.length + v.length
def Lm.lead : Lm → Nat → List Nat
  | .w a, n => a.take n
  | .p u v, n => letL u v n
/-- a limit of at most M letters in each part -/
def Lm.Ok (M : Nat) : Lm → Prop
  | .w a => isWordL a = true ∧ a.length ≤ M
  | .p u v => isWordL u = true ∧ isWordL v = true ∧ NF u v ∧ u.length ≤ M ∧ v.length ≤ M
theorem Lm.Ok.lim {M : Nat} {l : Lm} (h : l.Ok M) : isLimD l.d = true := by
  cases l with
  | w a => simpa [Lm.d, isLimD] using h.1
  | p u v => rw [Lm.d, pairD, h.1, h.2.1, nfB_iff.mpr h.2.2.1]; rfl
theorem Lm.Ok.mono {M K : Nat} {l : Lm} (h : l.Ok M) (g : M ≤ K) : l.Ok K := by
  cases l with
  | w a => exact ⟨h.1, Nat.le_trans h.2 g⟩
  | p u v => exact ⟨h.1, h.2.1, h.2.2.1, Nat.le_trans h.2.2.2.1 g, Nat.le_trans h.2.2.2.2 g⟩
theorem Lm.Ok.len_le {M : Nat} {l : Lm} (h : l.Ok M) : l.len ≤ 2 * M := by
  cases l with
  | w a => have := h.2; show a.length ≤ _; omega
  | p u v => have := h.2.2.2; show u.length + v.length ≤ _; omega
theorem Lm.Ok.sz {M : Nat} {l : Lm} (h : l.Ok M) (g : M ≤ 100000) : LimSz l.d := by
  cases l with
  | w a => exact limSz_str
  | p u v => exact limSz_pair (Nat.le_trans h.2.2.2.2 g)
theorem Lm.thing (l : Lm) : Thing l.d := by
  cases l with
  | w a => exact thing_str
  | p u v => exact ⟨by simp [Lm.d, flatK, flatKs], by simp [Lm.d, dep, deps], by simp [Lm.d, Mp.Law.sz, szs]⟩
theorem Lm.lead_len {M : Nat} {l : Lm} (h : l.Ok M) (n : Nat) : (l.lead n).length ≤ n := by
  cases l with
  | w a => show (a.take n).length ≤ n; rw [List.length_take]; omega
  | p u v => rw [Lm.lead, letL_len h.2.2.1.ne]; exact Nat.le_refl _
theorem Lm.lead_word {M : Nat} {l : Lm} (h : l.Ok M) (n : Nat) : isWordL (l.lead n) = true := by
  cases l with
  | w a => 
    have h1 := h.1
    unfold isWordL at h1 ⊢
    rw [List.all_eq_true] at h1 ⊢
    exact fun c hc => h1 c (List.mem_of_mem_take hc)
  | p u v =>
    have h1 := h.1
    have h2 := h.2.1
    unfold isWordL at h1 h2 ⊢
    rw [List.all_eq_true] at h1 h2 ⊢
    intro c hc
    have hc := List.mem_of_mem_take hc
    rcases List.mem_append.mp hc with z | z
    · exact h1 c z
    · unfold repL at z
      obtain ⟨l, hl, hc⟩ := List.mem_flatten.mp z
      rw [List.eq_of_mem_replicate hl] at hc
      exact h2 c hc
/-- the order of two words: -1, 0 or 1 -/
def ordL (a b : List Nat) : Int := if a = b then 0 else if a < b then -1 else 1
/-- how far two limits are looked at -/
def farL (s t : Lm) : Nat := s.len + t.len + 1
def cmpL (s t : Lm) : Int := ordL (s.lead (farL s t)) (t.lead (farL s t))
def InOk (P : Pr) : Prop := ∀ (n : Nat) (l : Lm), callN P (n + 1) 49 [.fz l.d] = .ok (.int (l.len : Int), false) [.fz l.d]
theorem inOk {P : Pr} (h : P.df 49 = some d_letters_in) : InOk P := fun n l => by
  rw [callN_eq h rfl]
  cases l <;> simp [d_letters_in, b_letters_in, t_letters_in_1, t_letters_in_2, Lm.d, Lm.len]
theorem Lm.leading {P : Pr} (L : LeadingOk P) {M : Nat} {l : Lm} (h : l.Ok M) (g : M ≤ 100000) (m n : Nat) (hn : n ≤ 100000) : callN P (m + 1) 33 [.fz l.d, .fz (.int (n : Int))] = .ok (.str (S (l.lead n)), false) [.fz l.d, .fz (.int (n : Int))] := by
  cases l with
  | w a => exact L.2 m a n
  | p u v => exact L.1 m u v n h.2.2.1.ne (by have := h.2.2.2.1; omega) (by have := h.2.2.2.2; omega) hn
def SpreadOk (P : Pr) : Prop := ∀ (n : Nat) (s t : Lm), s.Ok 10000 → t.Ok 10000 → callN P (n + 2) 50 [.fz s.d, .fz t.d] = .ok (.tuple [.str (S (s.lead (farL s t))), .str (S (t.lead (farL s t)))], false) [.fz s.d, .fz t.d]
theorem spreadOk {P : Pr} (h : P.df 50 = some d_spread) (h49 : P.df 49 = some d_letters_in) (h33 : P.df 33 = some d_leading) (I : InOk P) (L : LeadingOk P) : SpreadOk P := fun n s t hs ht => by
  have a := hs.len_le
  have b := ht.len_le
  have hz : farL s t ≤ 100000 := by unfold farL; omega
  have e1 := I n s
  have e2 := I n t
  have e3 := Lm.leading L hs (by decide) n (farL s t) hz
  have e4 := Lm.leading L ht (by decide) n (farL s t) hz
  have ez : ((s.len : Int) + (t.len : Int) + 1) = ((farL s t : Nat) : Int) := by unfold farL; omega
  rw [callN_eq h rfl]
  simp [d_spread, b_spread, t_spread_1, h49, d_letters_in, b_letters_in, e1, e2, ez, h33, d_leading, b_leading, e3, e4]
def OrderOk (P : Pr) : Prop := ∀ (n : Nat) (s t : Lm), s.Ok 10000 → t.Ok 10000 → callN P (n + 3) 51 [.fz s.d, .fz t.d] = .ok (.int (cmpL s t), false) [.fz s.d, .fz t.d]
theorem orderOk {P : Pr} (h : P.df 51 = some d_order_of) (h50 : P.df 50 = some d_spread) (Sp : SpreadOk P) : OrderOk P := fun n s t hs ht => by
  have e1 := Sp n s t hs ht
  rw [callN_eq h rfl]
  unfold cmpL ordL
  by_cases c1 : s.lead (farL s t) = t.lead (farL s t)
  · rw [if_pos c1]
    simp [d_order_of, b_order_of, t_order_of_1, t_order_of_2, h50, d_spread, b_spread, e1, c1]
  · rw [if_neg c1]
    by_cases c2 : s.lead (farL s t) < t.lead (farL s t)
    · rw [if_pos c2]
      simp [d_order_of, b_order_of, t_order_of_1, t_order_of_2, h50, d_spread, b_spread, e1, c1, c2]
    · rw [if_neg c2]
      simp [d_order_of, b_order_of, t_order_of_1, t_order_of_2, h50, d_spread, b_spread, e1, c1, c2]
def CompareOk (P : Pr) : Prop := (∀ (n : Nat) (s t : Lm), s.Ok 10000 → t.Ok 10000 → callN P (n + 6) 52 [.fz s.d, .fz t.d] = .ok (.int (cmpL s t), false) [.fz s.d, .fz t.d]) ∧
  (∀ (n : Nat) (x y : D), isLimD x = false → LimSz x → callN P (n + 6) 52 [.fz x, .fz y] = .rs ⟨2, [(1, x)]⟩ [.fz x, .fz y]) ∧
  (∀ (n : Nat) (s : Lm) (y : D), s.Ok 10000 → isLimD y = false → LimSz y → callN P (n + 6) 52 [.fz s.d, .fz y] = .rs ⟨2, [(1, y)]⟩ [.fz s.d, .fz y])
theorem compareOk {P : Pr} (h : P.df 52 = some d_compare) (h29 : P.df 29 = some d_check_limit) (h51 : P.df 51 = some d_order_of) (C : CheckLimitOk P) (O : OrderOk P) : CompareOk P := by
  refine ⟨fun n s t hs ht => ?_, fun n x y hx hz => ?_, fun n s y hs hy hz => ?_⟩
  · have e1 := C n s.d (hs.sz (by decide))
    rw [if_pos hs.lim] at e1
    have e2 := C n t.d (ht.sz (by decide))
    rw [if_pos ht.lim] at e2
    have e3 := O (n + 2) s t hs ht
    rw [callN_eq h rfl]
    simp [d_compare, b_compare, t_compare_1, t_compare_2, h29, d_check_limit, b_check_limit, e1, e2, h51, d_order_of, b_order_of, e3]
  · have e1 := C n x hz
    rw [if_neg (by rw [hx]; exact Bool.false_ne_true)] at e1
    rw [callN_eq h rfl]
    simp [d_compare, b_compare, t_compare_1, t_compare_2, h29, d_check_limit, b_check_limit, e1]
  · have e1 := C n s.d (hs.sz (by decide))
    rw [if_pos hs.lim] at e1
    have e2 := C n y hz
    rw [if_neg (by rw [hy]; exact Bool.false_ne_true)] at e2
    rw [callN_eq h rfl]
    simp [d_compare, b_compare, t_compare_1, t_compare_2, h29, d_check_limit, b_check_limit, e1, e2]
end Mp.Law

set_option maxHeartbeats 2000000
namespace Mp.Law
open PySem
/- _law_mixed (56) -/
def l__law_mixed_1 : Ss := .cons (.ex (.app 3 (.popi 2 (.call 7 (.cons (.var 0) (.cons (.bi .len (.cons (.var 2) .nil)) .nil)))))) .nil
def t__law_mixed_3 : Ss := .cons (.ret (.var 3)) .nil
def t__law_mixed_2 : Ss := .cons (.for_ (.nm 4) (.rng1 (.bi .len (.cons (.var 1) .nil))) l__law_mixed_1) t__law_mixed_3
def t__law_mixed_1 : Ss := .cons (.asg (.nm 3) (.lst .nil)) t__law_mixed_2
def b__law_mixed : Ss := .cons (.asg (.nm 2) (.bi .list (.cons (.var 1) .nil))) t__law_mixed_1
def d__law_mixed : Df := ⟨2, 5, [true, true], b__law_mixed⟩
/- _law_begin (57) -/
def t__law_begin_1 : Ss := .cons (.ret (.sl (.bin .add (.ix (.var 0) (.c (.int 0))) (.bin .mul (.ix (.var 0) (.c (.int 1))) (.bin .add (.bin .fdiv (.var 1) (.bi .len (.cons (.ix (.var 0) (.c (.int 1))) .nil))) (.c (.int 1))))) .no (.so (.var 1)))) .nil
def b__law_begin : Ss := .cons (.ite (.isi (.var 0) [.str]) (.cons (.ret (.sl (.var 0) .no (.so (.var 1))))
.nil) .nil) t__law_begin_1
def d__law_begin : Df := ⟨2, 2, [true, true], b__law_begin⟩
/- _law_length (58) -/
def t__law_length_1 : Ss := .cons (.ret (.bin .add (.bi .len (.cons (.ix (.var 0) (.c (.int 0))) .nil)) (.bi .len (.cons (.ix (.var 0) (.c (.int 1))) .nil)))) .nil
def b__law_length : Ss := .cons (.ite (.isi (.var 0) [.str]) (.cons (.ret (.bi .len (.cons (.var 0) .nil)))
.nil) .nil) t__law_length_1
def d__law_length : Df := ⟨1, 1, [true], b__law_length⟩
/- _law_limit (59) -/
def t__law_limit_4 : Ss := .cons (.ret (.call 37 (.cons (.var 3) (.cons (.bin .add (.call 12 (.cons (.var 0) (.cons (.var 1) (.cons (.c (.int 3)) .nil)))) (.ix (.c (.str (S [97, 98, 99, 100, 101, 102, 103, 104]))) (.call 7 (.cons (.var 0) (.cons (.var 1) .nil))))) .nil)))) .nil
def t__law_limit_3 : Ss := .cons (.asg (.nm 3) (.call 12 (.cons (.var 0) (.cons (.var 1) (.cons (.c (.int 4)) .nil))))) t__law_limit_4
def t__law_limit_2 : Ss := .cons (.ite (.cmp .lt (.var 2) (.c (.int 3))) (.cons (.ret (.call 12 (.cons (.var 0) (.cons (.var 1) (.cons (.c (.int 6)) .nil)))))
.nil) .nil) t__law_limit_3
def t__law_limit_1 : Ss := .cons (.ite (.cmp .eq (.var 2) (.c (.int 0))) (.cons (.ret (.call 9 (.cons (.var 0) (.cons (.lst (.cons (.c (.str (S []))) (.cons (.tup (.cons (.c (.str (S []))) (.cons (.ix (.c (.str (S [97, 98, 99, 100, 101, 102, 103, 104]))) (.call 7 (.cons (.var 0) (.cons (.var 1) .nil)))) .nil))) .nil))) .nil))))
.nil) .nil) t__law_limit_2
def b__law_limit : Ss := .cons (.asg (.nm 2) (.call 7 (.cons (.var 0) (.cons (.c (.int 6)) .nil)))) t__law_limit_1
def d__law_limit : Df := ⟨2, 4, [true, true], b__law_limit⟩
/- _law_near_limit (60) -/
def t__law_near_limit_9 : Ss := .cons (.ret (.call 37 (.cons (.sl (.var 4) .no (.so (.var 7))) (.cons (.sl (.var 4) (.so (.var 7)) .no) .nil)))) .nil
def t__law_near_limit_8 : Ss := .cons (.asg (.nm 7) (.call 7 (.cons (.var 0) (.cons (.bi .len (.cons (.var 4) .nil)) .nil)))) t__law_near_limit_9
def t__law_near_limit_7 : Ss := .cons (.ite (.or (.cons (.cmp .eq (.var 5) (.c (.int 3))) (.cons (.cmp .eq (.var 4) (.c (.str (S [])))) .nil))) (.cons (.ret (.call 37 (.cons (.var 4) (.cons (.var 6) .nil))))
.nil) .nil) t__law_near_limit_8
def t__law_near_limit_6 : Ss := .cons (.ite (.cmp .eq (.var 5) (.c (.int 2))) (.cons (.ret (.bin .add (.var 4) (.var 6)))
.nil) .nil) t__law_near_limit_7
def t__law_near_limit_5 : Ss := .cons (.ite (.cmp .eq (.var 5) (.c (.int 1))) (.cons (.ret (.var 4))
.nil) .nil) t__law_near_limit_6
def t__law_near_limit_4 : Ss := .cons (.ite (.cmp .eq (.var 5) (.c (.int 0))) (.cons (.ret (.var 1))
.nil) .nil) t__law_near_limit_5
def t__law_near_limit_3 : Ss := .cons (.asg (.nm 6) (.ix (.c (.str (S [97, 98, 99, 100, 101, 102, 103, 104]))) (.call 7 (.cons (.var 0) (.cons (.var 2) .nil))))) t__law_near_limit_4
def t__law_near_limit_2 : Ss := .cons (.asg (.nm 5) (.call 7 (.cons (.var 0) (.cons (.c (.int 5)) .nil)))) t__law_near_limit_3
def t__law_near_limit_1 : Ss := .cons (.asg (.nm 4) (.call 57 (.cons (.var 1) (.cons (.call 7 (.cons (.var 0) (.cons (.bi .min (.cons (.bin .add (.bin .mul (.c (.int 2)) (.var 3)) (.c (.int 3))) (.cons (.c (.int 390)) .nil))) .nil))) .nil)))) t__law_near_limit_2
def b__law_near_limit : Ss := .cons (.asg (.nm 3) (.call 58 (.cons (.var 1) .nil))) t__law_near_limit_1
def d__law_near_limit : Df := ⟨3, 8, [true, true, true], b__law_near_limit⟩
theorem isWordL_of {a b : List Nat} (h : isWordL a = true) (g : ∀ c ∈ b, c ∈ a) : isWordL b = true := by
  unfold isWordL at h ⊢
  rw [List.all_eq_true] at h ⊢
  exact fun c hc => h c (g c hc)
/-- the normal form as a limit -/
def nfM (u v : List Nat) : Lm := .p (nfL u v).1 (nfL u v).2
theorem nfM_d {u v : List Nat} : (nfM u v).d = .tuple [.str (S (nfL u v).1), .str (S (nfL u v).2)] := rfl
theorem nfM_ok {u v : List Nat} {M : Nat} (hv : v ≠ []) (wu : isWordL u = true) (wv : isWordL v = true) (lu : u.length ≤ M) (lv : v.length ≤ M) : (nfM u v).Ok M := by
  obtain ⟨_, _, _, _, a, b⟩ := nz_ok u.length u (rootL v) (root_ne hv) (root_root v) (Nat.le_refl _)
  obtain ⟨n, _, l1, l2⟩ := nfL_ok (u := u) hv
  exact ⟨isWordL_of wu a, isWordL_of (rootL_word wv) b, n, Nat.le_trans l1 lu, Nat.le_trans l2 lv⟩
theorem nf_one (c : Nat) : NF [] [c] := ⟨by simp, (prim_iff (by simp)).mpr ⟨by simp, Nat.le_refl _, Rot.full, fun j j0 j1 => by simp at j1; omega⟩, .inl rfl⟩
theorem letter_word {j : Int} (j0 : 0 ≤ j) (j1 : j < 8) : isWordL [97 + j.toNat] = true := wd_isWord (m := 8) (wd_one j0 j1) (by decide)
def LBeginOk (P : Pr) : Prop := ∀ (n : Nat) (l : Lm) (k : Nat), l.Ok 100000 → k ≤ 100000 → callN P (n + 1) 57 [.fz l.d, .fz (.int (k : Int))] = .ok (.str (S (l.lead k)), false) [.fz l.d, .fz (.int (k : Int))]
theorem lBeginOk {P : Pr} (h : P.df 57 = some d__law_begin) : LBeginOk P := fun m l n hl hn => by
  rw [callN_eq h rfl]
  cases l with
  | w a => simp [d__law_begin, b__law_begin, t__law_begin_1, Lm.d, Lm.lead, cut_take]
  | p u v =>
    have hp := List.length_pos_iff.mpr hl.2.2.1.ne
    have lu := hl.2.2.2.1
    have lv := hl.2.2.2.2
    have hcap : (10000000 : Nat) ≤ cap := by decide
    have d1 : divOk (v.length : Int) := divOk_le (by omega) (by omega)
    have e1 : ((n : Int) / (v.length : Int) + 1).toNat = n / v.length + 1 := by rw [← Int.natCast_ediv]; generalize n / v.length = q; omega
    have e2 : ((n : Int) / (v.length : Int) + 1).natAbs = n / v.length + 1 := by rw [← Int.natCast_ediv]; generalize n / v.length = q; omega
    have q1 : n / v.length * v.length ≤ n := Nat.div_mul_le_self n v.length
    have q2 : v.length * (n / v.length + 1) ≤ 200000 := by rw [Nat.mul_comm, Nat.add_mul]; omega
    have q3 : n / v.length ≤ n := Nat.div_le_self _ _
    have q4 : (n / v.length + 1) * v.length ≤ 200000 := by rw [Nat.mul_comm]; exact q2
    simp [d__law_begin, b__law_begin, t__law_begin_1, Lm.d, Lm.lead, d1, e1, e2, show v.length * (n / v.length + 1) ≤ cap by omega, show n / v.length + 1 < 4611686018427387904 by omega, repL_length, show u.length + (n / v.length + 1) * v.length ≤ cap by omega, cut_take, letL]
def LLengthOk (P : Pr) : Prop := ∀ (n : Nat) (l : Lm), callN P (n + 1) 58 [.fz l.d] = .ok (.int (l.len : Int), false) [.fz l.d]
theorem lLengthOk {P : Pr} (h : P.df 58 = some d__law_length) : LLengthOk P := fun n l => by
  rw [callN_eq h rfl]
  cases l <;> simp [d__law_length, b__law_length, t__law_length_1, Lm.d, Lm.len]
/-- a drawn limit -/
def LLimitOk (P : Pr) : Prop := ∀ (n : Nat) (m : Int), 1 ≤ m → m ≤ 8 → Draws P (n + 5) 59 300 [.fz (.int m)] fun v => ∃ l : Lm, v = (l.d, false) ∧ l.Ok 10
theorem lLimitOk {P : Pr} (h : P.df 59 = some d__law_limit) (h7 : P.df 7 = some d__law_take) (h9 : P.df 9 = some d__law_pick) (h12 : P.df 12 = some d__law_word) (h37 : P.df 37 = some d__law_endless) (T : TakeOk P) (K : PickOk P) (W : WordOk P) (E : LEndlessOk P) : LLimitOk P := fun n m m0 m1 b s hs hb => by
  have hcap : (1000 : Nat) ≤ cap := by decide
  obtain ⟨r, s1, e1, hs1, r0, r1⟩ := T.at (n + 2) (m := 6) (by decide) (by decide) hs (by omega)
  by_cases c0 : r = 0
  · subst c0
    obtain ⟨j, s2, e2, hs2, j0, j1⟩ := T.at1 (n + 2) (m := m) m0 (by omega) hs1 (by omega)
    have ej : itemL [97, 98, 99, 100, 101, 102, 103, 104] j = some (97 + j.toNat) := menu_get (m := 8) (by decide) j0 (by omega)
    obtain ⟨v, s3, e3, hs3, x, hx, rfl⟩ := K (n + 1) [.str (S []), .tuple [.str (S []), .str (S [97 + j.toNat])]] (by simp) (by simp) _ s2 hs2 (by omega)
    refine ⟨(x, false), s3, by rw [callN_eq h rfl]; simp [d__law_limit, b__law_limit, t__law_limit_1, t__law_limit_2, t__law_limit_3, t__law_limit_4, h7, d__law_take, b__law_take, e1, e2, ej, h9, d__law_pick, b__law_pick, e3], hs3.mono (by omega), ?_⟩
    simp only [List.mem_cons, List.not_mem_nil, or_false] at hx
    rcases hx with rfl | rfl
    · exact ⟨.w [], rfl, rfl, by simp⟩
    · exact ⟨.p [] [97 + j.toNat], rfl, rfl, letter_word j0 (by omega), nf_one _, by simp, by simp⟩
  by_cases c1 : r < 3
  · obtain ⟨v, s2, e2, hs2, a, rfl, ha, hal⟩ := W (n + 1) m 6 m0 m1 (by decide) (by decide) _ s1 hs1 (by omega)
    exact ⟨(.str (S a), false), s2, by rw [callN_eq h rfl]; simp [d__law_limit, b__law_limit, t__law_limit_1, t__law_limit_2, t__law_limit_3, t__law_limit_4, h7, d__law_take, b__law_take, e1, c0, c1, h12, d__law_word, b__law_word, e2], hs2.mono (by omega), .w a, rfl, wd_isWord ha m1, by omega⟩
  · obtain ⟨v, s2, e2, hs2, a, rfl, ha, hal⟩ := W (n + 1) m 4 m0 m1 (by decide) (by decide) _ s1 hs1 (by omega)
    obtain ⟨v, s3, e3, hs3, q, rfl, hq, hql⟩ := W (n + 1) m 3 m0 m1 (by decide) (by decide) _ s2 hs2 (by omega)
    obtain ⟨j, s4, e4, hs4, j0, j1⟩ := T.at1 (n + 2) (m := m) m0 (by omega) hs3 (by omega)
    have ej : itemL [97, 98, 99, 100, 101, 102, 103, 104] j = some (97 + j.toNat) := menu_get (m := 8) (by decide) j0 (by omega)
    obtain ⟨a1, a2, e5⟩ := E (n + 2) a (q ++ [97 + j.toNat]) (by simp) (by omega) (by simp; omega)
    refine ⟨((nfM a (q ++ [97 + j.toNat])).d, false), s4, ?_, hs4.mono (by omega), _, rfl, nfM_ok (by simp) (wd_isWord ha m1) ?_ (by omega) (by simp; omega)⟩
    · rw [callN_eq h rfl]
      simp [d__law_limit, b__law_limit, t__law_limit_1, t__law_limit_2, t__law_limit_3, t__law_limit_4, h7, d__law_take, b__law_take, e1, c0, c1, h12, d__law_word, b__law_word, e2, e3, e4, ej, show q.length + 1 ≤ cap by omega, h37, d__law_endless, b__law_endless, e5, nfM_d]
    · rw [isWordL_append, wd_isWord hq m1, letter_word j0 (by omega)]; rfl
/-- a limit near another -/
def LNearOk (P : Pr) : Prop := ∀ (n : Nat) (l : Lm) (m : Int), 1 ≤ m → m ≤ 8 → l.Ok 800 → Draws P (n + 5) 60 100 [.fz l.d, .fz (.int m)] fun v => ∃ k : Lm, v = (k.d, false) ∧ k.Ok 800
theorem lNearOk {P : Pr} (h : P.df 60 = some d__law_near_limit) (h7 : P.df 7 = some d__law_take) (h37 : P.df 37 = some d__law_endless) (h57 : P.df 57 = some d__law_begin) (h58 : P.df 58 = some d__law_length) (T : TakeOk P) (E : LEndlessOk P) (B : LBeginOk P) (Ln : LLengthOk P) : LNearOk P := fun n l m m0 m1 hl b s hs hb => by
  have hcap : (1000 : Nat) ≤ cap := by decide
  have e0 := Ln (n + 3) l
  have mo : mulOk 2 (l.len : Int) := mulOk_le (x := 2) (y := 10000) (by decide) (by decide) (by omega) (by have := hl.len_le; omega) (mulOk_of (by decide +kernel) (by decide +kernel))
  generalize hz : (if 390 < 2 * (l.len : Int) + 3 then 390 else 2 * (l.len : Int) + 3) = z
  have z0 : 3 ≤ z ∧ z ≤ 390 := by rw [← hz]; split <;> omega
  obtain ⟨r, s1, e1, hs1, r0, r1⟩ := T.at1 (n + 2) (m := z) (by omega) (by omega) hs (by omega)
  obtain ⟨r, rfl⟩ := Int.eq_ofNat_of_zero_le r0
  have e2 := B (n + 3) l r (hl.mono (by decide)) (by omega)
  obtain ⟨q, s2, e3, hs2, q0, q1⟩ := T.at (n + 2) (m := 5) (by decide) (by decide) hs1 (by omega)
  obtain ⟨j, s3, e4, hs3, j0, j1⟩ := T.at1 (n + 2) (m := m) m0 (by omega) hs2 (by omega)
  have ej : itemL [97, 98, 99, 100, 101, 102, 103, 104] j = some (97 + j.toNat) := menu_get (m := 8) (by decide) j0 (by omega)
  have wg := Lm.lead_word hl r
  have lg := Lm.lead_len hl r
  generalize l.lead r = g at e2 wg lg
  have wj := letter_word j0 (show j < 8 by omega)
  by_cases c0 : q = 0
  · subst c0
    exact ⟨(l.d, false), s3, by rw [callN_eq h rfl]; simp [d__law_near_limit, b__law_near_limit, t__law_near_limit_1, t__law_near_limit_2, t__law_near_limit_3, t__law_near_limit_4, t__law_near_limit_5, t__law_near_limit_6, t__law_near_limit_7, t__law_near_limit_8, t__law_near_limit_9, h58, d__law_length, b__law_length, e0, mo, hz, h7, d__law_take, b__law_take, e1, h57, d__law_begin, b__law_begin, e2, e3, e4, ej], hs3.mono (by omega), l, rfl, hl⟩
  by_cases c1 : q = 1
  · subst c1
    exact ⟨(.str (S g), false), s3, by rw [callN_eq h rfl]; simp [d__law_near_limit, b__law_near_limit, t__law_near_limit_1, t__law_near_limit_2, t__law_near_limit_3, t__law_near_limit_4, t__law_near_limit_5, t__law_near_limit_6, t__law_near_limit_7, t__law_near_limit_8, t__law_near_limit_9, h58, d__law_length, b__law_length, e0, mo, hz, h7, d__law_take, b__law_take, e1, h57, d__law_begin, b__law_begin, e2, e3, e4, ej], hs3.mono (by omega), .w g, rfl, wg, by omega⟩
  by_cases c2 : q = 2
  · subst c2
    exact ⟨(.str (S (g ++ [97 + j.toNat])), false), s3, by rw [callN_eq h rfl]; simp [d__law_near_limit, b__law_near_limit, t__law_near_limit_1, t__law_near_limit_2, t__law_near_limit_3, t__law_near_limit_4, t__law_near_limit_5, t__law_near_limit_6, t__law_near_limit_7, t__law_near_limit_8, t__law_near_limit_9, h58, d__law_length, b__law_length, e0, mo, hz, h7, d__law_take, b__law_take, e1, h57, d__law_begin, b__law_begin, e2, e3, e4, ej, show g.length + 1 ≤ cap by omega], hs3.mono (by omega), .w _, rfl, by rw [isWordL_append, wg, wj]; rfl, by simp; omega⟩
  by_cases c3 : q = 3 ∨ g = []
  · obtain ⟨a1, a2, e5⟩ := E (n + 2) g [97 + j.toNat] (by simp) (by omega) (by simp)
    refine ⟨((nfM g [97 + j.toNat]).d, false), s3, ?_, hs3.mono (by omega), _, rfl, nfM_ok (by simp) wg wj (by omega) (by simp)⟩
    rw [callN_eq h rfl]
    by_cases c4 : q = 3
    · subst c4
      simp [d__law_near_limit, b__law_near_limit, t__law_near_limit_1, t__law_near_limit_2, t__law_near_limit_3, t__law_near_limit_4, t__law_near_limit_5, t__law_near_limit_6, t__law_near_limit_7, t__law_near_limit_8, t__law_near_limit_9, h58, d__law_length, b__law_length, e0, mo, hz, h7, d__law_take, b__law_take, e1, h57, d__law_begin, b__law_begin, e2, e3, e4, ej, h37, d__law_endless, b__law_endless, e5, nfM_d]
    · have c5 : g = [] := c3.resolve_left c4
      subst c5
      simp [d__law_near_limit, b__law_near_limit, t__law_near_limit_1, t__law_near_limit_2, t__law_near_limit_3, t__law_near_limit_4, t__law_near_limit_5, t__law_near_limit_6, t__law_near_limit_7, t__law_near_limit_8, t__law_near_limit_9, h58, d__law_length, b__law_length, e0, mo, hz, h7, d__law_take, b__law_take, e1, h57, d__law_begin, b__law_begin, e2, e3, e4, ej, h37, d__law_endless, b__law_endless, e5, nfM_d, c0, c1, c2, c4]
  · have c4 : ¬ q = 3 := fun z => c3 (.inl z)
    have c5 : ¬ g = [] := fun z => c3 (.inr z)
    have hgp := List.length_pos_iff.mpr c5
    obtain ⟨o, s4, e6, hs4, o0, o1⟩ := T.at1 (n + 2) (m := (g.length : Int)) (by omega) (by omega) hs3 (by omega)
    have hd : g.drop o.toNat ≠ [] := fun z => by
      have := congrArg List.length z
      rw [List.length_drop] at this
      simp at this
      omega
    obtain ⟨a1, a2, e5⟩ := E (n + 2) (g.take o.toNat) (g.drop o.toNat) hd (by rw [List.length_take]; omega) (by rw [List.length_drop]; omega)
    refine ⟨((nfM (g.take o.toNat) (g.drop o.toNat)).d, false), s4, ?_, hs4.mono (by omega), _, rfl, nfM_ok hd (isWordL_of wg fun c hc => List.mem_of_mem_take hc) (isWordL_of wg fun c hc => List.mem_of_mem_drop hc) (by rw [List.length_take]; omega) (by rw [List.length_drop]; omega)⟩
    rw [callN_eq h rfl]
    simp [d__law_near_limit, b__law_near_limit, t__law_near_limit_1, t__law_near_limit_2, t__law_near_limit_3, t__law_near_limit_4, t__law_near_limit_5, t__law_near_limit_6, t__law_near_limit_7, t__law_near_limit_8, t__law_near_limit_9, h58, d__law_length, b__law_length, e0, mo, hz, h7, d__law_take, b__law_take, e1, h57, d__law_begin, b__law_begin, e2, e3, e4, ej, h37, d__law_endless, b__law_endless, e5, nfM_d, c0, c1, c2, c4, c5, e6, cut_take o0, cut_drop o0]
/-- the things of a list in a drawn order -/
def MixedOk (P : Pr) : Prop := ∀ (n : Nat) (xs : List D), xs.length ≤ 1000 → Draws P (n + 3) 56 (6 * xs.length) [.fz (.list xs)] fun v => ∃ ys : List D, v = (.list ys, true) ∧ ys.length = xs.length ∧ ∀ y ∈ ys, y ∈ xs
theorem mixedOk {P : Pr} (h : P.df 56 = some d__law_mixed) (h7 : P.df 7 = some d__law_take) (T : TakeOk P) : MixedOk P := fun n xs hx b s hs hb => by
  have hcap : (10000 : Nat) ≤ cap := by decide
  have loop : ∀ (ks : List D) (left told : List D) (s : D) (b : Nat) (s4 : Sl), Asg s4 → Sto b s → b + 6 * ks.length ≤ 2 ^ 60 → left.length = ks.length → left.length + told.length ≤ 1000 → (∀ y ∈ left, y ∈ xs) → (∀ y ∈ told, y ∈ xs) → ∃ (ys : List D) (s' : D) (l' : List D) (s4' : Sl), forLoop (forT (.nm 4) (exSs P (callN P (n + 2)) false l__law_mixed_1)) ks [.bw s, .fz (.list xs), .ow (.list left), .ow (.list told), s4] = .nx [.bw s', .fz (.list xs), .ow (.list l'), .ow (.list ys), s4'] ∧ Sto (b + 6 * ks.length) s' ∧ ys.length = left.length + told.length ∧ ∀ y ∈ ys, y ∈ xs := by
    intro ks
    induction ks with
    | nil =>
      intro left told s b s4 h4 hs _ hl _ _ ht
      exact ⟨told, s, left, s4, rfl, hs, by simp at hl; simp [hl], ht⟩
    | cons k ks ih =>
      intro left told s b s4 h4 hs hb hl hle hL ht
      simp at hl hb
      obtain ⟨r, s1, e1, hs1, r0, r1⟩ := T.at1 n (m := (left.length : Int)) (by omega) (by omega) hs (by omega)
      obtain ⟨r, rfl⟩ := Int.eq_ofNat_of_zero_le r0
      have hr : r < left.length := by omega
      have ep := popR_nat (List.getElem?_eq_getElem hr)
      have hel : (left.eraseIdx r).length = left.length - 1 := List.length_eraseIdx_of_lt hr
      obtain ⟨ys, s', l', s4', e2, hs2, hl2, hm⟩ := ih (left.eraseIdx r) (told ++ [left[r]]) s1 (b + 6) (.fz k) .fz hs1 (by omega) (by omega) (by simp; omega) (fun y hy => hL y (List.mem_of_mem_eraseIdx hy)) (fun y hy => by
        rcases List.mem_append.mp hy with z | z
        · exact ht y z
        · rw [List.mem_singleton.mp z]; exact hL _ (List.getElem_mem hr))
      refine ⟨ys, s', l', s4', ?_, hs2.mono (by simp; omega), by rw [hl2, hel]; simp; omega, hm⟩
      have et : forT (.nm 4) (exSs P (callN P (n + 2)) false l__law_mixed_1) k [.bw s, .fz (.list xs), .ow (.list left), .ow (.list told), s4] = .nx [.bw s1, .fz (.list xs), .ow (.list (left.eraseIdx r)), .ow (.list (told ++ [left[r]])), .fz k] := by
        simp [l__law_mixed_1, asgS_asg h4, h7, d__law_take, b__law_take, e1, ep, show told.length < cap by omega]
      rw [forLoop_nx et, e2]
  have hl : (rangeD 0 (xs.length : Int)).length = xs.length := by simp [rangeD]
  obtain ⟨ys, s', l', s4', e, hs', hy, hm⟩ := loop (rangeD 0 (xs.length : Int)) xs [] s b .un .un hs (by rw [hl]; exact hb) (by rw [hl]) (by simp; omega) (fun y hy => hy) (fun y hy => by cases hy)
  rw [hl] at hs'
  have hsm : small (xs.length : Int) = true := small_nat (by omega)
  refine ⟨(.list ys, true), s', ?_, hs', ys, rfl, by simpa using hy, hm⟩
  rw [callN_eq h rfl]
  simp [d__law_mixed, b__law_mixed, t__law_mixed_1, t__law_mixed_2, t__law_mixed_3, hsm, e]
end Mp.Law

set_option maxHeartbeats 2000000
namespace Mp.Law
open PySem
/- below (72) -/
def t_below_3 : Ss := .cons (.ret (.or (.cons (.cmp .lt (.var 2) (.c (.int 0))) (.cons (.and (.cons (.cmp .eq (.var 2) (.c (.int 0))) (.cons (.isi (.var 0) [.tuple]) .nil))) .nil)))) .nil
def t_below_2 : Ss := .cons (.asg (.nm 2) (.call 51 (.cons (.var 0) (.cons (.var 1) .nil)))) t_below_3
def t_below_1 : Ss := .cons (.ex (.call 29 (.cons (.var 1) .nil))) t_below_2
def b_below : Ss := .cons (.ex (.call 29 (.cons (.var 0) .nil))) t_below_1
def d_below : Df := ⟨2, 3, [true, true], b_below⟩
/- _law_compare (73) -/
def t__law_compare_3 : Ss := .cons (.ret (.bin .sub (.bi .int (.cons (.cmp .gt (.var 3) (.var 4)) .nil)) (.bi .int (.cons (.cmp .lt (.var 3) (.var 4)) .nil)))) .nil
def t__law_compare_2 : Ss := .cons (.asg (.nm 4) (.call 57 (.cons (.var 1) (.cons (.var 2) .nil)))) t__law_compare_3
def t__law_compare_1 : Ss := .cons (.asg (.nm 3) (.call 57 (.cons (.var 0) (.cons (.var 2) .nil)))) t__law_compare_2
def b__law_compare : Ss := .cons (.asg (.nm 2) (.bin .add (.bin .add (.call 58 (.cons (.var 0) .nil)) (.call 58 (.cons (.var 1) .nil))) (.c (.int 1)))) t__law_compare_1
def d__law_compare : Df := ⟨2, 5, [true, true], b__law_compare⟩
/- _law_drawn (74) -/
def t__law_drawn_3 : Ss := .cons (.ret (.call 37 (.cons (.var 2) (.cons (.bin .add (.call 12 (.cons (.var 0) (.cons (.var 1) (.cons (.c (.int 199)) .nil)))) (.ix (.c (.str (S [97, 98, 99, 100, 101, 102, 103, 104]))) (.call 7 (.cons (.var 0) (.cons (.var 1) .nil))))) .nil)))) .nil
def t__law_drawn_2 : Ss := .cons (.ite (.cmp .eq (.call 7 (.cons (.var 0) (.cons (.c (.int 3)) .nil))) (.c (.int 0))) (.cons (.ret (.call 12 (.cons (.var 0) (.cons (.var 1) (.cons (.c (.int 400)) .nil)))))
.nil) .nil) t__law_drawn_3
def t__law_drawn_1 : Ss := .cons (.asg (.nm 2) (.call 12 (.cons (.var 0) (.cons (.var 1) (.cons (.call 9 (.cons (.var 0) (.cons (.lst (.cons (.c (.int 0)) (.cons (.c (.int 1)) (.cons (.c (.int 50)) (.cons (.c (.int 200)) .nil))))) .nil))) .nil))))) t__law_drawn_2
def b__law_drawn : Ss := .cons (.ite (.cmp .gt (.call 7 (.cons (.var 0) (.cons (.c (.int 10)) .nil))) (.c (.int 0))) (.cons (.ret (.call 59 (.cons (.var 0) (.cons (.var 1) .nil))))
.nil) .nil) t__law_drawn_1
def d__law_drawn : Df := ⟨2, 3, [true, true], b__law_drawn⟩
/- _law_kin (75) -/
def t__law_kin_2 : Ss := .cons (.ret (.call 37 (.cons (.sl (.var 1) .no (.so (.call 7 (.cons (.var 0) (.cons (.bi .len (.cons (.var 1) .nil)) .nil))))) (.cons (.ix (.var 1) (.neg (.c (.int 1)))) .nil)))) .nil
def t__law_kin_1 : Ss := .cons (.ite (.cmp .eq (.var 1) (.c (.str (S [])))) (.cons (.ret (.tup (.cons (.c (.str (S []))) (.cons (.c (.str (S [104]))) .nil))))
.nil) .nil) t__law_kin_2
def b__law_kin : Ss := .cons (.ite (.isi (.var 1) [.tuple]) (.cons (.asg (.nm 2) (.call 57 (.cons (.var 1) (.cons (.call 9 (.cons (.var 0) (.cons (.lst (.cons (.c (.int 0)) (.cons (.c (.int 1)) (.cons (.c (.int 2)) (.cons (.bi .len (.cons (.ix (.var 1) (.c (.int 0))) .nil)) (.cons (.call 58 (.cons (.var 1) .nil)) (.cons (.c (.int 400)) .nil))))))) .nil))) .nil))))
(.cons (.ret (.call 9 (.cons (.var 0) (.cons (.lst (.cons (.var 2) (.cons (.var 2) (.cons (.tup (.cons (.c (.str (S []))) (.cons (.ix (.var 1) (.c (.int 1))) .nil))) (.cons (.ix (.var 1) (.c (.int 1))) (.cons (.ix (.var 1) (.c (.int 0))) .nil)))))) .nil))))
.nil)) .nil) t__law_kin_1
def d__law_kin : Df := ⟨2, 3, [true, true], b__law_kin⟩
/- _law_five (76) -/
def t__law_five_4 : Ss := .cons (.ret (.call 56 (.cons (.var 0) (.cons (.lst (.cons (.var 2) (.cons (.var 3) (.cons (.call 75 (.cons (.var 0) (.cons (.var 2) .nil))) (.cons (.call 9 (.cons (.var 0) (.cons (.lst (.cons (.var 4) (.cons (.var 4) (.cons (.var 2) (.cons (.c (.str (S []))) .nil))))) .nil))) (.cons (.var 4) .nil)))))) .nil)))) .nil
def t__law_five_3 : Ss := .cons (.asg (.nm 4) (.tup (.cons (.c (.str (S []))) (.cons (.ix (.c (.str (S [97, 98, 99, 100, 101, 102, 103, 104]))) (.call 7 (.cons (.var 0) (.cons (.c (.int 8)) .nil)))) .nil)))) t__law_five_4
def t__law_five_2 : Ss := .cons (.asg (.nm 3) (.call 60 (.cons (.var 0) (.cons (.var 2) (.cons (.var 1) .nil))))) t__law_five_3
def t__law_five_1 : Ss := .cons (.asg (.nm 2) (.call 74 (.cons (.var 0) (.cons (.var 1) .nil)))) t__law_five_2
def b__law_five : Ss := .cons (.asg (.nm 1) (.call 9 (.cons (.var 0) (.cons (.lst (.cons (.c (.int 1)) (.cons (.c (.int 2)) (.cons (.c (.int 2)) (.cons (.c (.int 3)) (.cons (.c (.int 8)) .nil)))))) .nil)))) t__law_five_1
def d__law_five : Df := ⟨1, 5, [true], b__law_five⟩
/- _law_ask (77) -/
def b__law_ask_5 : Ss := .cons (.try_ (.cons (.ret (.tup (.cons (.c (.str (S [116, 111, 108, 100]))) (.cons (.ife (.cmp .eq (.var 0) (.c (.int 0))) (.call 72 (.cons (.var 1) (.cons (.var 2) .nil))) (.call 52 (.cons (.var 1) (.cons (.var 2) .nil)))) .nil))))
.nil) (.cons (.own 2) (some 3) (.cons (.asg (.nm 4) (.isi (.var 3) [(.own 4), (.own 3), (.own 1), (.own 5), (.own 6)]))
(.cons (.asg (.nm 5) (.and (.cons (.isi (.var 3) [(.own 0)]) (.cons (.isi (.var 3) [.VE]) (.cons (.not (.var 4)) .nil)))))
(.cons (.ret (.tup (.cons (.c (.str (S [114, 101, 102, 117, 115, 101, 100]))) (.cons (.fld 3 1) (.cons (.var 5) .nil)))))
.nil))) (.cons (.own 0) none (.cons (.ret (.tup (.cons (.c (.str (S [111, 116, 104, 101, 114]))) .nil)))
.nil) .nil))) .nil
def d__law_ask_5 : Df := ⟨3, 6, [true, true, true], b__law_ask_5⟩
/- _law_pair_told (78) -/
def t__law_pair_told_2_3 : Ss := .cons (.ret (.and (.cons (.call 10 (.cons (.call 77 (.cons (.c (.int 0)) (.cons (.var 0) (.cons (.var 1) .nil)))) (.cons (.tup (.cons (.c (.str (S [116, 111, 108, 100]))) (.cons (.var 3) .nil))) .nil))) (.cons (.call 10 (.cons (.call 77 (.cons (.c (.int 1)) (.cons (.var 0) (.cons (.var 1) .nil)))) (.cons (.tup (.cons (.c (.str (S [116, 111, 108, 100]))) (.cons (.var 2) .nil))) .nil))) .nil)))) .nil
def t__law_pair_told_2_2 : Ss := .cons (.ite (.and (.cons (.cmp .eq (.var 2) (.c (.int 0))) (.cons (.isi (.var 0) [.tuple]) .nil))) (.cons (.asg (.nm 3) (.c (.bool true)))
.nil) .nil) t__law_pair_told_2_3
def t__law_pair_told_2_1 : Ss := .cons (.asg (.nm 3) (.cmp .lt (.var 2) (.c (.int 0)))) t__law_pair_told_2_2
def b__law_pair_told_2 : Ss := .cons (.asg (.nm 2) (.call 73 (.cons (.var 0) (.cons (.var 1) .nil)))) t__law_pair_told_2_1
def d__law_pair_told_2 : Df := ⟨2, 4, [true, true], b__law_pair_told_2⟩
/- law (79) -/
def l_law_5_2 : Ss := .cons (.ite (.not (.call 78 (.cons (.var 5) (.cons (.var 6) .nil)))) (.cons (.ret (.c (.bool false)))
.nil) .nil) .nil
def l_law_5_1 : Ss := .cons (.for_ (.nm 6) (.of (.var 2)) l_law_5_2) .nil
def l_law_5_4 : Ss := .cons (.ite (.not (.call 10 (.cons (.call 77 (.cons (.var 7) (.cons (.call 11 (.cons (.var 8) .nil)) (.cons (.call 11 (.cons (.var 9) .nil)) .nil)))) (.cons (.tup (.cons (.c (.str (S [114, 101, 102, 117, 115, 101, 100]))) (.cons (.var 10) (.cons (.c (.bool true)) .nil)))) .nil)))) (.cons (.ret (.c (.bool false)))
.nil) .nil) .nil
def l_law_5_3 : Ss := .cons (.for_ (.tp [(.nm 8), (.nm 9), (.nm 10)]) (.of (.lst (.cons (.tup (.cons (.var 3) (.cons (.ix (.var 2) (.c (.int 0))) (.cons (.var 3) .nil)))) (.cons (.tup (.cons (.ix (.var 2) (.c (.int 0))) (.cons (.var 3) (.cons (.var 3) .nil)))) (.cons (.tup (.cons (.var 3) (.cons (.var 4) (.cons (.var 3) .nil)))) .nil))))) l_law_5_4) .nil
def t_law_5_6 : Ss := .cons (.ret (.call 78 (.cons (.ix (.var 2) (.c (.int 0))) (.cons (.ix (.var 2) (.c (.int 1))) .nil)))) .nil
def t_law_5_5 : Ss := .cons (.for_ (.nm 7) (.of (.lst (.cons (.c (.int 0)) (.cons (.c (.int 1)) .nil)))) l_law_5_3) t_law_5_6
def t_law_5_4 : Ss := .cons (.for_ (.nm 5) (.of (.var 2)) l_law_5_1) t_law_5_5
def t_law_5_3 : Ss := .cons (.asg (.nm 4) (.call 45 (.cons (.var 1) .nil))) t_law_5_4
def t_law_5_2 : Ss := .cons (.asg (.nm 3) (.call 45 (.cons (.var 1) .nil))) t_law_5_3
def t_law_5_1 : Ss := .cons (.asg (.nm 2) (.call 76 (.cons (.var 1) .nil))) t_law_5_2
def b_law_5 : Ss := .cons (.asg (.nm 1) (.call 4 (.cons (.var 0) .nil))) t_law_5_1
def d_law_5 : Df := ⟨1, 11, [true], b_law_5⟩
theorem lw_d {a : List Nat} : (Lm.w a).d = .str (S a) := rfl
theorem lp_d {u v : List Nat} : (Lm.p u v).d = .tuple [.str (S u), .str (S v)] := rfl
structure K04P (P : Pr) : Prop where
  h0 : P.df 0 = some d_is_word
  h1 : P.df 1 = some d_check_word
  h3 : P.df 3 = some d_root_of
  h4 : P.df 4 = some d__law_store
  h5 : P.df 5 = some d__law_refill
  h6 : P.df 6 = some d__law_mix
  h7 : P.df 7 = some d__law_take
  h9 : P.df 9 = some d__law_pick
  h10 : P.df 10 = some d__law_same
  h11 : P.df 11 = some d__law_copy
  h12 : P.df 12 = some d__law_word
  h13 : P.df 13 = some d__law_bad_word
  h28 : P.df 28 = some d_is_limit
  h29 : P.df 29 = some d_check_limit
  h33 : P.df 33 = some d_leading
  h35 : P.df 35 = some d__law_is_word
  h36 : P.df 36 = some d__law_root
  h37 : P.df 37 = some d__law_endless
  h38 : P.df 38 = some d__law_bad_limit
  h39 : P.df 39 = some d__law_is_limit
  h45 : P.df 45 = some d__law_no_limit
  h49 : P.df 49 = some d_letters_in
  h50 : P.df 50 = some d_spread
  h51 : P.df 51 = some d_order_of
  h52 : P.df 52 = some d_compare
  h56 : P.df 56 = some d__law_mixed
  h57 : P.df 57 = some d__law_begin
  h58 : P.df 58 = some d__law_length
  h59 : P.df 59 = some d__law_limit
  h60 : P.df 60 = some d__law_near_limit
  h72 : P.df 72 = some d_below
  h73 : P.df 73 = some d__law_compare
  h74 : P.df 74 = some d__law_drawn
  h75 : P.df 75 = some d__law_kin
  h76 : P.df 76 = some d__law_five
  h77 : P.df 77 = some d__law_ask_5
  h78 : P.df 78 = some d__law_pair_told_2
  h79 : P.df 79 = some d_law_5
  g0 : LettersOk P
  s0 : P.sup 0 = [0]
  s1 : P.sup 1 = [1, 0]
  s2 : P.sup 2 = [2, 0]
  s3 : P.sup 3 = [3, 0]
  s4 : P.sup 4 = [4, 0]
  s5 : P.sup 5 = [5, 0]
  s6 : P.sup 6 = [6, 0]
  f1 : P.fld 1 = [0]
  f2 : P.fld 2 = [1]
section
variable {P : Pr} (H : K04P P)
include H
theorem K04P.T : TakeOk P := takeOk H.h7 H.h5 H.h6
theorem K04P.Pk : PickOk P := pickOk H.h9 H.h7 H.T
theorem K04P.W : WordOk P := wordOk H.h12 H.h7 H.T
theorem K04P.B : BadWordOk P := badWordOk H.h13 H.h12 H.h9 H.h7 H.T H.W H.Pk
theorem K04P.Sm : SameOk P := sameOk H.h10
theorem K04P.Cp : CopyOk P := copyOk H.h11
theorem K04P.Iw : IsWordOk P := isWordOk H.h0 H.g0
theorem K04P.C : CheckWordOk P := checkWordOk H.h1 H.h0 H.f1 H.Iw
theorem K04P.Rt : RootOk P := rootOk H.h3 H.h1 H.C
theorem K04P.Il : IsLimitOk P := isLimitOk H.h28 H.h0 H.h3 H.Iw H.Rt
theorem K04P.Cl : CheckLimitOk P := checkLimitOk H.h29 H.h28 H.f2 H.Il
theorem K04P.Ld : LeadingOk P := leadingOk H.h33
theorem K04P.In : InOk P := inOk H.h49
theorem K04P.Sp : SpreadOk P := spreadOk H.h50 H.h49 H.h33 H.In H.Ld
theorem K04P.Or : OrderOk P := orderOk H.h51 H.h50 H.Sp
theorem K04P.Cm : CompareOk P := compareOk H.h52 H.h29 H.h51 H.Cl H.Or
theorem K04P.Lw : LIsWordOk P := lIsWordOk H.h35
theorem K04P.Lr : LRootOk P := lRootOk H.h36
theorem K04P.Le : LEndlessOk P := lEndlessOk H.h37 H.h36 H.Lr
theorem K04P.Ll : LIsLimitOk P := lIsLimitOk H.h39 H.h35 H.h37 H.Lw H.Le
theorem K04P.Bl : BadLimitOk P := badLimitOk H.h38 H.h7 H.h9 H.h12 H.h13 H.h37 H.T H.Pk H.W H.B H.Le
theorem K04P.Nl : NoLimitOk P := noLimitOk H.h45 H.h38 H.h39 H.Bl H.Ll
theorem K04P.Bg : LBeginOk P := lBeginOk H.h57
theorem K04P.Ln : LLengthOk P := lLengthOk H.h58
theorem K04P.Lm : LLimitOk P := lLimitOk H.h59 H.h7 H.h9 H.h12 H.h37 H.T H.Pk H.W H.Le
theorem K04P.Nr : LNearOk P := lNearOk H.h60 H.h7 H.h37 H.h57 H.h58 H.T H.Le H.Bg H.Ln
theorem K04P.Mx : MixedOk P := mixedOk H.h56 H.h7 H.T
/-- below, by the order -/
def belowB (s t : Lm) : Bool := decide (cmpL s t < 0) || (decide (cmpL s t = 0) && match s with
  | .p .. => true
  | .w _ => false)
theorem below_ok (n : Nat) (s t : Lm) (hs : s.Ok 10000) (ht : t.Ok 10000) : callN P (n + 6) 72 [.fz s.d, .fz t.d] = .ok (.bool (belowB s t), false) [.fz s.d, .fz t.d] := by
  have e1 := H.Cl n s.d (hs.sz (by decide))
  rw [if_pos hs.lim] at e1
  have e2 := H.Cl n t.d (ht.sz (by decide))
  rw [if_pos ht.lim] at e2
  have e3 := H.Or (n + 2) s t hs ht
  unfold belowB
  generalize cmpL s t = z at e3 ⊢
  rw [callN_eq H.h72 rfl]
  by_cases c1 : z < 0
  · simp [d_below, b_below, t_below_1, t_below_2, t_below_3, H.h29, d_check_limit, b_check_limit, e1, e2, H.h51, d_order_of, b_order_of, e3, c1]
  · by_cases c2 : z = 0
    · subst c2
      cases s <;> simp [lw_d, lp_d] at e1 e3 <;> simp [d_below, b_below, t_below_1, t_below_2, t_below_3, H.h29, d_check_limit, b_check_limit, lw_d, lp_d, e1, e2, H.h51, d_order_of, b_order_of, e3]
    · simp [d_below, b_below, t_below_1, t_below_2, t_below_3, H.h29, d_check_limit, b_check_limit, e1, e2, H.h51, d_order_of, b_order_of, e3, c1, c2]
theorem lcompare_ok (n : Nat) (s t : Lm) (hs : s.Ok 10000) (ht : t.Ok 10000) : callN P (n + 2) 73 [.fz s.d, .fz t.d] = .ok (.int (cmpL s t), false) [.fz s.d, .fz t.d] := by
  have a := hs.len_le
  have b := ht.len_le
  have hz : farL s t ≤ 100000 := by unfold farL; omega
  have e1 := H.Ln n s
  have e2 := H.Ln n t
  have e3 := H.Bg n s (farL s t) (hs.mono (by decide)) hz
  have e4 := H.Bg n t (farL s t) (ht.mono (by decide)) hz
  have ez : ((s.len : Int) + (t.len : Int) + 1) = ((farL s t : Nat) : Int) := by unfold farL; omega
  unfold cmpL
  generalize s.lead (farL s t) = x at e3 ⊢
  generalize t.lead (farL s t) = y at e4 ⊢
  have ho : ordL x y = (if y < x then 1 else 0) - (if x < y then 1 else 0) := by
    unfold ordL
    by_cases c1 : x = y
    · subst c1
      simp [List.lt_irrefl]
    · by_cases c2 : x < y
      · have c3 : ¬ y < x := List.lt_asymm c2
        simp [c1, c2, c3]
      · have c3 : y < x := by
          refine Classical.byContradiction fun c3 => c1 ?_
          exact List.le_antisymm (List.not_lt.mp c3) (List.not_lt.mp c2)
        simp [c1, c2, c3]
  rw [ho, callN_eq H.h73 rfl]
  by_cases c1 : y < x <;> by_cases c2 : x < y <;> simp [d__law_compare, b__law_compare, t__law_compare_1, t__law_compare_2, t__law_compare_3, H.h58, d__law_length, b__law_length, e1, e2, ez, H.h57, d__law_begin, b__law_begin, e3, e4, c1, c2]
theorem below_bad1 (n : Nat) (x y : D) (hx : isLimD x = false) (hz : LimSz x) : callN P (n + 6) 72 [.fz x, .fz y] = .rs ⟨2, [(1, x)]⟩ [.fz x, .fz y] := by
  have e1 := H.Cl n x hz
  rw [if_neg (by rw [hx]; exact Bool.false_ne_true)] at e1
  rw [callN_eq H.h72 rfl]
  simp [d_below, b_below, t_below_1, t_below_2, t_below_3, H.h29, d_check_limit, b_check_limit, e1]
theorem below_bad2 (n : Nat) (s : Lm) (y : D) (hs : s.Ok 10000) (hy : isLimD y = false) (hz : LimSz y) : callN P (n + 6) 72 [.fz s.d, .fz y] = .rs ⟨2, [(1, y)]⟩ [.fz s.d, .fz y] := by
  have e1 := H.Cl n s.d (hs.sz (by decide))
  rw [if_pos hs.lim] at e1
  have e2 := H.Cl n y hz
  rw [if_neg (by rw [hy]; exact Bool.false_ne_true)] at e2
  rw [callN_eq H.h72 rfl]
  simp [d_below, b_below, t_below_1, t_below_2, t_below_3, H.h29, d_check_limit, b_check_limit, e1, e2]
abbrev toldA (d : D) : D := .tuple [.str (S [116, 111, 108, 100]), d]
abbrev refA (d : D) : D := .tuple [.str (S [114, 101, 102, 117, 115, 101, 100]), d, .bool true]
def AskA (P : Pr) (n : Nat) (door : Int) (x y due : D) : Prop := callN P (n + 7) 77 [.fz (.int door), .fz x, .fz y] = .ok (due, false) [.fz (.int door), .fz x, .fz y]
theorem askA0 (n : Nat) (x y z : D) (e : callN P (n + 6) 72 [.fz x, .fz y] = .ok (z, false) [.fz x, .fz y]) : AskA P n 0 x y (toldA z) := by
  unfold AskA
  rw [callN_eq H.h77 rfl]
  simp [d__law_ask_5, b__law_ask_5, H.h72, d_below, b_below, e]
theorem askA1 (n : Nat) (x y z : D) (e : callN P (n + 6) 52 [.fz x, .fz y] = .ok (z, false) [.fz x, .fz y]) : AskA P n 1 x y (toldA z) := by
  unfold AskA
  rw [callN_eq H.h77 rfl]
  simp [d__law_ask_5, b__law_ask_5, H.h52, d_compare, b_compare, e]
theorem refA0 (n : Nat) (x y z : D) (e : callN P (n + 6) 72 [.fz x, .fz y] = .rs ⟨2, [(1, z)]⟩ [.fz x, .fz y]) : AskA P n 0 x y (refA z) := by
  unfold AskA
  rw [callN_eq H.h77 rfl]
  simp [d__law_ask_5, b__law_ask_5, H.h72, d_below, b_below, e, H.s0, H.s1, H.s2, H.s3, H.s4, H.s5, H.s6, H.f2]
theorem refA1 (n : Nat) (x y z : D) (e : callN P (n + 6) 52 [.fz x, .fz y] = .rs ⟨2, [(1, z)]⟩ [.fz x, .fz y]) : AskA P n 1 x y (refA z) := by
  unfold AskA
  rw [callN_eq H.h77 rfl]
  simp [d__law_ask_5, b__law_ask_5, H.h52, d_compare, b_compare, e, H.s0, H.s1, H.s2, H.s3, H.s4, H.s5, H.s6, H.f2]
/-- a pair, by both -/
theorem pair_ok (n : Nat) (s t : Lm) (hs : s.Ok 10000) (ht : t.Ok 10000) : callN P (n + 8) 78 [.fz s.d, .fz t.d] = .ok (.bool true, false) [.fz s.d, .fz t.d] := by
  have e1 := lcompare_ok H (n + 5) s t hs ht
  have q1 := askA0 H n _ _ _ (below_ok H n s t hs ht)
  have q2 := askA1 H n _ _ _ (H.Cm.1 n s t hs ht)
  obtain ⟨p1, p2, m1⟩ := H.Sm (n + 6) (toldA (.bool (belowB s t))) (by simp [sz, szs])
  obtain ⟨p3, p4, m2⟩ := H.Sm (n + 6) (toldA (.int (cmpL s t))) (by simp [sz, szs])
  unfold AskA at q1 q2
  unfold belowB at q1 m1
  generalize cmpL s t = z at e1 q1 q2 m1 m2
  rw [callN_eq H.h78 rfl]
  by_cases c1 : z = 0
  · subst c1
    cases s <;> simp [lw_d, lp_d] at e1 q1 q2 m1 <;> simp [d__law_pair_told_2, b__law_pair_told_2, t__law_pair_told_2_1, t__law_pair_told_2_2, t__law_pair_told_2_3, lw_d, lp_d, H.h73, d__law_compare, b__law_compare, e1, H.h77, d__law_ask_5, b__law_ask_5, q1, q2, H.h10, d__law_same, b__law_same, m1, m2]
  · by_cases c2 : z < 0 <;> simp [c1, c2] at q1 m1 <;> simp [d__law_pair_told_2, b__law_pair_told_2, t__law_pair_told_2_1, t__law_pair_told_2_2, t__law_pair_told_2_3, H.h73, d__law_compare, b__law_compare, e1, H.h77, d__law_ask_5, b__law_ask_5, q1, q2, H.h10, d__law_same, b__law_same, m1, m2, c1, c2]
/-! ### the drawn limits -/
theorem drawn_ok (n : Nat) (m : Int) (m0 : 1 ≤ m) (m1 : m ≤ 8) : Draws P (n + 6) 74 400 [.fz (.int m)] fun v => ∃ l : Lm, v = (l.d, false) ∧ l.Ok 800 := fun b s hs hb => by
  have hcap : (1000 : Nat) ≤ cap := by decide
  obtain ⟨r, s1, e1, hs1, r0, r1⟩ := H.T.at (n + 3) (m := 10) (by decide) (by decide) hs (by omega)
  by_cases c : 0 < r
  · obtain ⟨v, s2, e2, hs2, l, rfl, hl⟩ := H.Lm n m m0 m1 _ s1 hs1 (by omega)
    exact ⟨(l.d, false), s2, by rw [callN_eq H.h74 rfl]; simp [d__law_drawn, b__law_drawn, t__law_drawn_1, t__law_drawn_2, t__law_drawn_3, H.h7, d__law_take, b__law_take, e1, c, H.h59, d__law_limit, b__law_limit, e2], hs2.mono (by omega), l, rfl, hl.mono (by decide)⟩
  obtain ⟨v, s2, e2, hs2, x, hx, rfl⟩ := H.Pk (n + 2) [.int 0, .int 1, .int 50, .int 200] (by simp) (by simp) _ s1 hs1 (by omega)
  obtain ⟨k, rfl, k0, k1⟩ : ∃ m : Int, x = .int m ∧ 0 ≤ m ∧ m ≤ 200 := by
    simp only [List.mem_cons, List.not_mem_nil, or_false] at hx
    rcases hx with rfl | rfl | rfl | rfl <;> exact ⟨_, rfl, by decide, by decide⟩
  obtain ⟨v, s3, e3, hs3, a, rfl, ha, hal⟩ := H.W (n + 2) m k m0 m1 k0 (by omega) _ s2 hs2 (by omega)
  obtain ⟨q, s4, e4, hs4, q0, q1⟩ := H.T.at (n + 3) (m := 3) (by decide) (by decide) hs3 (by omega)
  by_cases c1 : q = 0
  · subst c1
    obtain ⟨v, s5, e5, hs5, g, rfl, hg, hgl⟩ := H.W (n + 2) m 400 m0 m1 (by decide) (by decide) _ s4 hs4 (by omega)
    exact ⟨(.str (S g), false), s5, by rw [callN_eq H.h74 rfl]; simp [d__law_drawn, b__law_drawn, t__law_drawn_1, t__law_drawn_2, t__law_drawn_3, H.h7, d__law_take, b__law_take, e1, c, H.h9, d__law_pick, b__law_pick, e2, H.h12, d__law_word, b__law_word, e3, e4, e5], hs5.mono (by omega), .w g, rfl, wd_isWord hg m1, by omega⟩
  · obtain ⟨v, s5, e5, hs5, g, rfl, hg, hgl⟩ := H.W (n + 2) m 199 m0 m1 (by decide) (by decide) _ s4 hs4 (by omega)
    obtain ⟨j, s6, e6, hs6, j0, j1⟩ := H.T.at1 (n + 3) (m := m) m0 (by omega) hs5 (by omega)
    have ej : itemL [97, 98, 99, 100, 101, 102, 103, 104] j = some (97 + j.toNat) := menu_get (m := 8) (by decide) j0 (by omega)
    obtain ⟨a1, a2, e7⟩ := H.Le (n + 3) a (g ++ [97 + j.toNat]) (by simp) (by omega) (by simp; omega)
    refine ⟨((nfM a (g ++ [97 + j.toNat])).d, false), s6, ?_, hs6.mono (by omega), _, rfl, nfM_ok (by simp) (wd_isWord ha m1) ?_ (by omega) (by simp; omega)⟩
    · rw [callN_eq H.h74 rfl]
      simp [d__law_drawn, b__law_drawn, t__law_drawn_1, t__law_drawn_2, t__law_drawn_3, H.h7, d__law_take, b__law_take, e1, c, H.h9, d__law_pick, b__law_pick, e2, H.h12, d__law_word, b__law_word, e3, e4, c1, e5, e6, ej, show g.length + 1 ≤ cap by omega, H.h37, d__law_endless, b__law_endless, e7, nfM_d]
    · rw [isWordL_append, wd_isWord hg m1, letter_word j0 (by omega)]; rfl
theorem kin_ok (n : Nat) (l : Lm) (hl : l.Ok 800) : Draws P (n + 5) 75 100 [.fz l.d] fun v => ∃ k : Lm, v = (k.d, false) ∧ k.Ok 2000 := fun b s hs hb => by
  have hcap : (1000 : Nat) ≤ cap := by decide
  cases l with
  | w a =>
    obtain ⟨wa, la⟩ := hl
    by_cases c : a = []
    · subst c
      exact ⟨(.tuple [.str (S []), .str (S [104])], false), s, by rw [callN_eq H.h75 rfl]; simp [d__law_kin, b__law_kin, t__law_kin_1, t__law_kin_2, lw_d, lp_d], hs.mono (by omega), .p [] [104], rfl, rfl, rfl, nf_one 104, by simp, by simp⟩
    · obtain ⟨a', d, rfl⟩ := snoc_of c
      obtain ⟨o, s1, e1, hs1, o0, o1⟩ := H.T.at1 (n + 2) (m := ((a' ++ [d]).length : Int)) (by simp; omega) (by omega) hs (by omega)
      obtain ⟨a1, a2, e2⟩ := H.Le (n + 2) ((a' ++ [d]).take o.toNat) [d] (by simp) (by rw [List.length_take]; omega) (by simp)
      refine ⟨((nfM ((a' ++ [d]).take o.toNat) [d]).d, false), s1, ?_, hs1.mono (by omega), _, rfl, nfM_ok (by simp) (isWordL_of wa fun c hc => List.mem_of_mem_take hc) (isWordL_of wa fun c hc => by simp at hc; simp [hc]) (by rw [List.length_take]; omega) (by simp)⟩
      rw [callN_eq H.h75 rfl]
      simp at e1
      simp [d__law_kin, b__law_kin, t__law_kin_1, t__law_kin_2, lw_d, lp_d, H.h7, d__law_take, b__law_take, e1, cut_take o0, H.h37, d__law_endless, b__law_endless, e2, nfM_d]
  | p u v =>
    obtain ⟨wu, wv, nf, lu, lv⟩ := hl
    have e0 := H.Ln (n + 3) (.p u v)
    obtain ⟨x, s1, e1, hs1, x, hx, rfl⟩ := H.Pk (n + 1) [.int 0, .int 1, .int 2, .int (u.length : Int), .int ((u.length + v.length : Nat) : Int), .int 400] (by simp) (by simp) _ s hs (by omega)
    obtain ⟨k, rfl, k1⟩ : ∃ k : Nat, x = .int (k : Int) ∧ k ≤ 1600 := by
      simp only [List.mem_cons, List.not_mem_nil, or_false] at hx
      rcases hx with rfl | rfl | rfl | rfl | rfl | rfl
      · exact ⟨0, rfl, by decide⟩
      · exact ⟨1, rfl, by decide⟩
      · exact ⟨2, rfl, by decide⟩
      · exact ⟨_, rfl, by omega⟩
      · exact ⟨_, rfl, by omega⟩
      · exact ⟨400, rfl, by decide⟩
    have ok : (Lm.p u v).Ok 100000 := ⟨wu, wv, nf, by omega, by omega⟩
    have e2 := H.Bg (n + 3) (.p u v) k ok (by omega)
    have wg := Lm.lead_word ok k
    have lg := Lm.lead_len ok k
    generalize (Lm.p u v).lead k = g at e2 wg lg
    obtain ⟨x, s2, e3, hs2, x, hx, rfl⟩ := H.Pk (n + 1) [.str (S g), .str (S g), .tuple [.str (S []), .str (S v)], .str (S v), .str (S u)] (by simp) (by simp) _ s1 hs1 (by omega)
    refine ⟨(x, false), s2, ?_, hs2.mono (by omega), ?_⟩
    · rw [callN_eq H.h75 rfl]
      simp [lw_d, lp_d, Lm.len] at e0 e1 e2
      simp [d__law_kin, b__law_kin, t__law_kin_1, t__law_kin_2, lw_d, lp_d, H.h58, d__law_length, b__law_length, e0, H.h9, d__law_pick, b__law_pick, e1, H.h57, d__law_begin, b__law_begin, e2, e3]
    · simp only [List.mem_cons, List.not_mem_nil, or_false] at hx
      rcases hx with rfl | rfl | rfl | rfl | rfl
      · exact ⟨.w g, rfl, wg, by omega⟩
      · exact ⟨.w g, rfl, wg, by omega⟩
      · exact ⟨.p [] v, rfl, rfl, wv, ⟨nf.ne, nf.root, .inl rfl⟩, by simp, by omega⟩
      · exact ⟨.w v, rfl, wv, by omega⟩
      · exact ⟨.w u, rfl, wu, by omega⟩
theorem five_ok (n : Nat) : Draws P (n + 7) 76 800 [] fun v => ∃ ys : List D, v = (.list ys, true) ∧ ys.length = 5 ∧ ∀ y ∈ ys, ∃ l : Lm, y = l.d ∧ l.Ok 2000 := fun b s hs hb => by
  obtain ⟨v, s1, e1, hs1, x, hx, rfl⟩ := H.Pk (n + 3) [.int 1, .int 2, .int 2, .int 3, .int 8] (by simp) (by simp) _ s hs (by omega)
  obtain ⟨m, rfl, m0, m1⟩ : ∃ m : Int, x = .int m ∧ 1 ≤ m ∧ m ≤ 8 := by
    simp only [List.mem_cons, List.not_mem_nil, or_false] at hx
    rcases hx with rfl | rfl | rfl | rfl | rfl <;> exact ⟨_, rfl, by decide, by decide⟩
  obtain ⟨v, s2, e2, hs2, l, rfl, hl⟩ := drawn_ok H n m m0 m1 _ s1 hs1 (by omega)
  obtain ⟨v, s3, e3, hs3, k, rfl, hk⟩ := H.Nr (n + 1) l m m0 m1 hl _ s2 hs2 (by omega)
  obtain ⟨j, s4, e4, hs4, j0, j1⟩ := H.T.at (n + 4) (m := 8) (by decide) (by decide) hs3 (by omega)
  have ej : itemL [97, 98, 99, 100, 101, 102, 103, 104] j = some (97 + j.toNat) := menu_get (m := 8) (by decide) j0 (by omega)
  obtain ⟨v, s5, e5, hs5, q, rfl, hq⟩ := kin_ok H (n + 1) l hl _ s4 hs4 (by omega)
  obtain ⟨v, s6, e6, hs6, x, hx, rfl⟩ := H.Pk (n + 3) [.tuple [.str (S []), .str (S [97 + j.toNat])], .tuple [.str (S []), .str (S [97 + j.toNat])], l.d, .str (S [])] (by simp) (by simp) _ s5 hs5 (by omega)
  have os : (Lm.p [] [97 + j.toNat]).Ok 2000 := ⟨rfl, letter_word j0 (by omega), nf_one _, by simp, by simp⟩
  have ox : ∃ g : Lm, x = g.d ∧ g.Ok 2000 := by
    simp only [List.mem_cons, List.not_mem_nil, or_false] at hx
    rcases hx with rfl | rfl | rfl | rfl
    · exact ⟨_, rfl, os⟩
    · exact ⟨_, rfl, os⟩
    · exact ⟨l, rfl, hl.mono (by decide)⟩
    · exact ⟨.w [], rfl, rfl, by simp⟩
  obtain ⟨v, s7, e7, hs7, ys, rfl, hy, hm⟩ := H.Mx (n + 3) [l.d, k.d, q.d, x, .tuple [.str (S []), .str (S [97 + j.toNat])]] (by simp) _ s6 hs6 (by simp; omega)
  refine ⟨(.list ys, true), s7, ?_, hs7.mono (by simp <;> omega), ys, rfl, by simpa using hy, fun y hyy => ?_⟩
  · rw [callN_eq H.h76 rfl]
    simp [d__law_five, b__law_five, t__law_five_1, t__law_five_2, t__law_five_3, t__law_five_4, H.h9, d__law_pick, b__law_pick, e1, H.h74, d__law_drawn, b__law_drawn, e2, H.h60, d__law_near_limit, b__law_near_limit, e3, H.h7, d__law_take, b__law_take, e4, ej, H.h75, d__law_kin, b__law_kin, e5, e6, H.h56, d__law_mixed, b__law_mixed, e7]
  · have := hm y hyy
    simp only [List.mem_cons, List.not_mem_nil, or_false] at this
    rcases this with rfl | rfl | rfl | rfl | rfl
    · exact ⟨l, rfl, hl.mono (by decide)⟩
    · exact ⟨k, rfl, hk.mono (by decide)⟩
    · exact ⟨q, rfl, hq⟩
    · exact ox
    · exact ⟨_, rfl, os⟩
end
end Mp.Law

set_option maxHeartbeats 4000000
namespace Mp.Law
open PySem
section
variable {P : Pr} (H : K04P P)
include H
theorem in_turn (n : Nat) {x0 x1 x2 x3 x4 s6 x7 x8 x9 x10 : Sl} (a6 : Asg s6) (s t : Lm) (hs : s.Ok 2000) (ht : t.Ok 2000) :
    forT (.nm 6) (exSs P (callN P (n + 8)) false l_law_5_2) t.d [x0, x1, x2, x3, x4, .fz s.d, s6, x7, x8, x9, x10] = .nx [x0, x1, x2, x3, x4, .fz s.d, .fz t.d, x7, x8, x9, x10] := by
  have e := pair_ok H n s t (hs.mono (by decide)) (ht.mono (by decide))
  simp [l_law_5_2, asgS_asg a6, H.h78, d__law_pair_told_2, b__law_pair_told_2, e]
theorem in_loop (n : Nat) {x0 x1 x2 x3 x4 x7 x8 x9 x10 : Sl} (s : Lm) (hs : s.Ok 2000) : ∀ (ys : List D) (s6 : Sl), Asg s6 → (∀ y ∈ ys, ∃ l : Lm, y = l.d ∧ l.Ok 2000) → ∃ s6', Asg s6' ∧
    forLoop (forT (.nm 6) (exSs P (callN P (n + 8)) false l_law_5_2)) ys [x0, x1, x2, x3, x4, .fz s.d, s6, x7, x8, x9, x10] = .nx [x0, x1, x2, x3, x4, .fz s.d, s6', x7, x8, x9, x10] := by
  intro ys
  induction ys with
  | nil => intro s6 h6 _; exact ⟨s6, h6, rfl⟩
  | cons y ys ih =>
    intro s6 h6 hy
    obtain ⟨t, rfl, ht⟩ := hy _ List.mem_cons_self
    obtain ⟨s6', h6', e⟩ := ih (.fz t.d) .fz fun z hz => hy z (List.mem_cons_of_mem _ hz)
    exact ⟨s6', h6', by rw [forLoop_nx (in_turn H n h6 s t hs ht)]; exact e⟩
theorem out_loop (n : Nat) {x0 x1 x3 x4 x7 x8 x9 x10 : Sl} (ys : List D) (hy : ∀ y ∈ ys, ∃ l : Lm, y = l.d ∧ l.Ok 2000) : ∀ (zs : List D) (s5 s6 : Sl), Asg s5 → Asg s6 → (∀ y ∈ zs, ∃ l : Lm, y = l.d ∧ l.Ok 2000) → ∃ s5' s6',
    forLoop (forT (.nm 5) (exSs P (callN P (n + 8)) false l_law_5_1)) zs [x0, x1, .ln false (.list ys), x3, x4, s5, s6, x7, x8, x9, x10] = .nx [x0, x1, .ln false (.list ys), x3, x4, s5', s6', x7, x8, x9, x10] := by
  intro zs
  induction zs with
  | nil => intro s5 s6 h5 h6 _; exact ⟨s5, s6, rfl⟩
  | cons z zs ih =>
    intro s5 s6 h5 h6 hz
    obtain ⟨s, rfl, hs⟩ := hz _ List.mem_cons_self
    obtain ⟨s6', h6', e⟩ := in_loop H n (x0 := x0) (x1 := x1) (x2 := .ln false (.list ys)) (x3 := x3) (x4 := x4) (x7 := x7) (x8 := x8) (x9 := x9) (x10 := x10) s hs ys s6 h6 hy
    obtain ⟨s5', s6'', e2⟩ := ih (.fz s.d) s6' .fz h6' fun y hyy => hz y (List.mem_cons_of_mem _ hyy)
    refine ⟨s5', s6'', ?_⟩
    have et : forT (.nm 5) (exSs P (callN P (n + 8)) false l_law_5_1) s.d [x0, x1, .ln false (.list ys), x3, x4, s5, s6, x7, x8, x9, x10] = .nx [x0, x1, .ln false (.list ys), x3, x4, .fz s.d, s6', x7, x8, x9, x10] := by
      simp [l_law_5_1, asgS_asg h5, e]
    rw [forLoop_nx et]
    exact e2
theorem ref_turn (n : Nat) {x0 x1 x2 x3 x4 x5 x6 s8 s9 s10 : Sl} (a8 : Asg s8) (a9 : Asg s9) (a10 : Asg s10) {x y due : D} {door : Int} (hx : Thing x) (hy : Thing y) (hd : sz due ≤ 1000) (A : AskA P (n + 1) door x y (refA due)) :
    forT (.tp [.nm 8, .nm 9, .nm 10]) (exSs P (callN P (n + 8)) false l_law_5_4) (.tuple [x, y, due]) [x0, x1, x2, x3, x4, x5, x6, .fz (.int door), s8, s9, s10] = .nx [x0, x1, x2, x3, x4, x5, x6, .fz (.int door), .fz x, .fz y, .fz due] := by
  have c1 := H.Cp 3 (n + 4) x hx.d hx.f (Nat.le_trans hx.z (by decide))
  have c2 := H.Cp 3 (n + 4) y hy.d hy.f (Nat.le_trans hy.z (by decide))
  obtain ⟨p1, q1, m1⟩ := H.Sm (n + 7) (refA due) (by simp [sz, szs]; omega)
  unfold AskA at A
  simp [l_law_5_4, asgS_asg a8, asgS_asg a9, asgS_asg a10, H.h11, d__law_copy, b__law_copy, c1, c2, H.h77, d__law_ask_5, b__law_ask_5, A, H.h10, d__law_same, b__law_same, m1]
/-- THE LAW -/
theorem law_run (ns : List Int) (hn : ns.length ≤ 63) : ∃ fin, callN P 200 79 [.fz (.list (ns.map PyData.int))] = .ok (.bool true, false) fin := by
  obtain ⟨s0, e0, hs0⟩ := storeOk H.h4 198 ns hn
  obtain ⟨v, s1, e1, hs1, ys, rfl, hl, hy⟩ := five_ok H 192 _ s0 hs0 (by omega)
  obtain ⟨v, s2, e2, hs2, bad, rfl, hb⟩ := H.Nl 193 _ s1 hs1 (by omega)
  obtain ⟨v, s3, e3, hs3, oth, rfl, ho⟩ := H.Nl 193 _ s2 hs2 (by omega)
  obtain ⟨y0, ys, rfl⟩ : ∃ y0 r, ys = y0 :: r := by
    cases ys with
    | nil => cases hl
    | cons a r => exact ⟨a, r, rfl⟩
  obtain ⟨y1, ys, rfl⟩ : ∃ y1 r, ys = y1 :: r := by
    cases ys with
    | nil => cases hl
    | cons a r => exact ⟨a, r, rfl⟩
  obtain ⟨l, rfl, hl0⟩ := hy y0 (by simp)
  obtain ⟨k, rfl, hl1⟩ := hy y1 (by simp)
  have ok0 := hl0.mono (show 2000 ≤ 10000 by decide)
  have zb := tx_lim (x := bad) (by have := hb.z; omega)
  have tb := hb.t
  have to := ho.t
  have tl := Lm.thing l
  have q1 := refA0 H 192 _ _ _ (below_bad1 H 192 bad l.d hb.l zb)
  have q2 := refA0 H 192 _ _ _ (below_bad2 H 192 l bad ok0 hb.l zb)
  have q3 := refA0 H 192 _ _ _ (below_bad1 H 192 bad oth hb.l zb)
  have q4 := refA1 H 192 _ _ _ (H.Cm.2.1 192 bad l.d hb.l zb)
  have q5 := refA1 H 192 _ _ _ (H.Cm.2.2 192 l bad ok0 hb.l zb)
  have q6 := refA1 H 192 _ _ _ (H.Cm.2.1 192 bad oth hb.l zb)
  obtain ⟨s5, s6, e4⟩ := out_loop H 191 (x0 := .fz (.list (ns.map PyData.int))) (x1 := .ow s3) (x3 := .fz bad) (x4 := .fz oth) (x7 := .un) (x8 := .un) (x9 := .un) (x10 := .un) (l.d :: k.d :: ys) hy (l.d :: k.d :: ys) .un .un .un .un hy
  have zbd : sz bad ≤ 1000 := tb.z
  have R : ∀ (x0 x1 x2 x3 x4 x5 x6 s8 s9 s10 : Sl), Asg s8 → Asg s9 → Asg s10 → ∀ door : Int, (AskA P 192 door bad l.d (refA bad) ∧ AskA P 192 door l.d bad (refA bad) ∧ AskA P 192 door bad oth (refA bad)) → forLoop (forT (.tp [.nm 8, .nm 9, .nm 10]) (exSs P (callN P 199) false l_law_5_4)) [.tuple [bad, l.d, bad], .tuple [l.d, bad, bad], .tuple [bad, oth, bad]] [x0, x1, x2, x3, x4, x5, x6, .fz (.int door), s8, s9, s10] = .nx [x0, x1, x2, x3, x4, x5, x6, .fz (.int door), .fz bad, .fz oth, .fz bad] := fun x0 x1 x2 x3 x4 x5 x6 s8 s9 s10 a8 a9 a10 door A => by
    rw [forLoop_nx (ref_turn H 191 a8 a9 a10 tb tl zbd A.1), forLoop_nx (ref_turn H 191 .fz .fz .fz tl tb zbd A.2.1), forLoop_nx (ref_turn H 191 .fz .fz .fz tb to zbd A.2.2), forLoop_nil]
  have D : ∀ (x0 x1 : Sl) (x2 : List D) (x5 x6 : Sl), forLoop (forT (.nm 7) (exSs P (callN P 199) false l_law_5_3)) [.int 0, .int 1] [x0, x1, .ow (.list (l.d :: x2)), .fz bad, .fz oth, x5, x6, .un, .un, .un, .un] = .nx [x0, x1, .ow (.list (l.d :: x2)), .fz bad, .fz oth, x5, x6, .fz (.int 1), .fz bad, .fz oth, .fz bad] := fun x0 x1 x2 x5 x6 => by
    have t0 : forT (.nm 7) (exSs P (callN P 199) false l_law_5_3) (.int 0) [x0, x1, .ow (.list (l.d :: x2)), .fz bad, .fz oth, x5, x6, .un, .un, .un, .un] = .nx [x0, x1, .ow (.list (l.d :: x2)), .fz bad, .fz oth, x5, x6, .fz (.int 0), .fz bad, .fz oth, .fz bad] := by
      have r := R x0 x1 (.ow (.list (l.d :: x2))) (.fz bad) (.fz oth) x5 x6 .un .un .un .un .un .un 0 ⟨q1, q2, q3⟩
      simp [l_law_5_3, r]
    have t1 : forT (.nm 7) (exSs P (callN P 199) false l_law_5_3) (.int 1) [x0, x1, .ow (.list (l.d :: x2)), .fz bad, .fz oth, x5, x6, .fz (.int 0), .fz bad, .fz oth, .fz bad] = .nx [x0, x1, .ow (.list (l.d :: x2)), .fz bad, .fz oth, x5, x6, .fz (.int 1), .fz bad, .fz oth, .fz bad] := by
      have r := R x0 x1 (.ow (.list (l.d :: x2))) (.fz bad) (.fz oth) x5 x6 (.fz bad) (.fz oth) (.fz bad) .fz .fz .fz 1 ⟨q4, q5, q6⟩
      simp [l_law_5_3, r]
    rw [forLoop_nx t0, forLoop_nx t1, forLoop_nil]
  have pk := pair_ok H 191 l k ok0 (hl1.mono (by decide))
  refine ⟨[.fz (.list (ns.map PyData.int))], ?_⟩
  rw [callN_eq (n := 199) H.h79 rfl]
  simp [d_law_5, b_law_5, t_law_5_1, t_law_5_2, t_law_5_3, t_law_5_4, t_law_5_5, t_law_5_6, H.h4, d__law_store, b__law_store, e0, H.h76, d__law_five, b__law_five, e1, H.h45, d__law_no_limit, b__law_no_limit, e2, e3, e4, D, H.h78, d__law_pair_told_2, b__law_pair_told_2, pk]
end
end Mp.Law

set_option maxHeartbeats 0
namespace Mp.Law
open PySem
def fnsL : List (Str × Nat) := (([("is_word", 0), ("check_word", 1), ("root_of", 3), ("is_limit", 28), ("check_limit", 29), ("leading", 33), ("letters_in", 49), ("spread", 50), ("order_of", 51), ("compare", 52), ("below", 72), ("_law_store", 4), ("_law_refill", 5), ("_law_mix", 6), ("_law_take", 7), ("_law_pick", 9), ("_law_mixed", 56), ("_law_same", 10), ("_law_copy", 11), ("_law_is_word", 35), ("_law_word", 12), ("_law_bad_word", 13), ("_law_root", 36), ("_law_endless", 37), ("_law_begin", 57)] : List (Str × Nat)) ++ ([("_law_length", 58), ("_law_compare", 73), ("_law_limit", 59), ("_law_near_limit", 60), ("_law_bad_limit", 38), ("_law_is_limit", 39), ("_law_drawn", 74), ("_law_kin", 75), ("_law_five", 76), ("_law_ask", 77), ("_law_pair_told", 78), ("_law_no_limit", 45), ("law", 79)] : List (Str × Nat)))
def clsL : List (Str × Nat) := [("KeysinlineError", 0), ("BadWord", 1), ("BadLimit", 2), ("BadRest", 3), ("BadKind", 4), ("OutOfRange", 5), ("TooMany", 6)]
def glsL : List (Str × Nat) := [("LETTERS", 0)]
def fldsL : List (Str × Nat) := [("word", 0), ("limit", 1), ("rest", 2), ("path", 3), ("what", 4), ("least", 5), ("most", 6)]
def supT : List (Nat × List Nat) := [(0, [0]), (1, [1, 0]), (2, [2, 0]), (3, [3, 0]), (4, [4, 0]), (5, [5, 0]), (6, [6, 0])]
def fldT : List (Nat × List Nat) := [(1, [0]), (2, [1]), (3, [2]), (4, [3]), (5, [4, 5, 6]), (6, [4, 6])]
def glT : List (Nat × D) := [(0, (.str (S [97, 98, 99, 100, 101, 102, 103, 104])))]
noncomputable def st (i : Nat) : Stmt := PySem.Challenge.pw_keysinline_k04_below_against_compare.main.body.getD i (.Pass default)
noncomputable def stI (i : Nat) : Stmt := (C8.clsBody (st i)).getD 0 (.Pass default)
noncomputable def tabs : Tabs := ⟨⟨[], fnsL, clsL, glsL, fldsL⟩, supT, fldT, glT,
  (([⟨"is_word", 0, d_is_word, ["thing"], ["thing"], st 10⟩,
   ⟨"check_word", 1, d_check_word, ["word"], ["word"], st 11⟩,
   ⟨"root_of", 3, d_root_of, ["word"], ["word"], st 12⟩,
   ⟨"is_limit", 28, d_is_limit, ["thing", "start", "loop"], ["thing"], st 14⟩,
   ⟨"check_limit", 29, d_check_limit, ["limit"], ["limit"], st 15⟩,
   ⟨"leading", 33, d_leading, ["limit", "n", "start", "loop"], ["limit", "n"], st 16⟩,
   ⟨"letters_in", 49, d_letters_in, ["limit", "start", "loop"], ["limit"], st 17⟩,
   ⟨"spread", 50, d_spread, ["s", "t", "size"], ["s", "t"], st 18⟩,
   ⟨"order_of", 51, d_order_of, ["s", "t", "one", "two"], ["s", "t"], st 19⟩,
   ⟨"compare", 52, d_compare, ["s", "t"], ["s", "t"], st 20⟩,
   ⟨"below", 72, d_below, ["s", "t", "order"], ["s", "t"], st 21⟩,
   ⟨"_law_store", 4, d__law_store, ["script", "top", "cells", "seed", "cell", "size", "sign"], ["script"], st 23⟩,
   ⟨"_law_refill", 5, d__law_refill, ["store", "cell"], ["store"], st 24⟩,
   ⟨"_law_mix", 6, d__law_mix, ["number", "turn", "one", "two"], ["number", "turn"], st 25⟩,
   ⟨"_law_take", 7, d__law_take, ["store", "much", "told", "size", "k"], ["store", "much"], st 26⟩,
   ⟨"_law_pick", 9, d__law_pick, ["store", "things"], ["store", "things"], st 27⟩,
   ⟨"_law_mixed", 56, d__law_mixed, ["store", "things", "left", "told", "k"], ["store", "things"], st 28⟩,
   ⟨"_law_same", 10, d__law_same, ["one", "two", "pairs", "k", "i"], ["one", "two"], st 29⟩,
   ⟨"_law_copy", 11, d__law_copy, ["thing", "told", "key", "x"], ["thing"], st 30⟩,
   ⟨"_law_is_word", 35, d__law_is_word, ["thing", "much", "sign"], ["thing", "much"], st 31⟩,
   ⟨"_law_word", 12, d__law_word, ["store", "much", "most", "menu", "sort", "size", "told", "k"], ["store", "much", "most"], st 32⟩,
   ⟨"_law_bad_word", 13, d__law_bad_word, ["store", "word", "spot", "sign"], ["store"], st 33⟩,
   ⟨"_law_root", 36, d__law_root, ["v"], ["v"], st 34⟩,
   ⟨"_law_endless", 37, d__law_endless, ["u", "v", "k"], ["u", "v"], st 35⟩,
   ⟨"_law_begin", 57, d__law_begin, ["limit", "size"], ["limit", "size"], st 36⟩] : List DRow) ++ ([⟨"_law_length", 58, d__law_length, ["limit"], ["limit"], st 37⟩,
   ⟨"_law_compare", 73, d__law_compare, ["s", "t", "size", "one", "two"], ["s", "t"], st 38⟩,
   ⟨"_law_limit", 59, d__law_limit, ["store", "much", "sort", "u"], ["store", "much"], st 39⟩,
   ⟨"_law_near_limit", 60, d__law_near_limit, ["store", "limit", "much", "size", "begin", "sort", "letter", "spot"], ["store", "limit", "much"], st 40⟩,
   ⟨"_law_bad_limit", 38, d__law_bad_limit, ["store", "sort", "u", "v"], ["store"], st 41⟩,
   ⟨"_law_is_limit", 39, d__law_is_limit, ["thing"], ["thing"], st 42⟩,
   ⟨"_law_drawn", 74, d__law_drawn, ["store", "much", "u"], ["store", "much"], st 43⟩,
   ⟨"_law_kin", 75, d__law_kin, ["store", "limit", "begin"], ["store", "limit"], st 44⟩,
   ⟨"_law_five", 76, d__law_five, ["store", "much", "s", "t", "single"], ["store"], st 45⟩,
   ⟨"_law_ask", 77, d__law_ask_5, ["door", "one", "two", "e", "odd", "good"], ["door", "one", "two"], st 46⟩,
   ⟨"_law_pair_told", 78, d__law_pair_told_2, ["s", "t", "less", "stands"], ["s", "t"], st 47⟩,
   ⟨"_law_no_limit", 45, d__law_no_limit, ["store", "thing"], ["store"], st 48⟩,
   ⟨"law", 79, d_law_5, ["script", "store", "limits", "bad", "other", "s", "t", "door", "one", "two", "due"], ["script"], st 49⟩] : List DRow)),
  [⟨"BadWord", 1, ["self", "word"], stI 2⟩, ⟨"BadLimit", 2, ["self", "limit"], stI 3⟩, ⟨"BadRest", 3, ["self", "rest"], stI 4⟩, ⟨"BadKind", 4, ["self", "path"], stI 5⟩, ⟨"OutOfRange", 5, ["self", "what", "least", "most"], stI 6⟩, ⟨"TooMany", 6, ["self", "what", "most"], stI 7⟩]⟩
theorem tabs_ok : tabs.ok = true := by decide +kernel
def loose : List Str := ((["KeysinlineError", "BadWord", "BadLimit", "BadRest", "BadKind", "OutOfRange", "TooMany", "is_word", "check_word", "root_of", "is_limit", "check_limit", "leading", "letters_in", "spread", "order_of", "compare", "below", "_law_store", "_law_refill", "_law_mix", "_law_take", "_law_pick", "_law_mixed", "_law_same"] : List Str) ++ (["_law_copy", "_law_is_word", "_law_word", "_law_bad_word", "_law_root", "_law_endless", "_law_begin", "_law_length", "_law_compare", "_law_limit", "_law_near_limit", "_law_bad_limit", "_law_is_limit", "_law_drawn", "_law_kin", "_law_five", "_law_ask", "_law_pair_told", "_law_no_limit", "__name__", "LETTERS"] : List Str))
abbrev Rw : PySem.W.OpenRow := PySem.W.OpenLaw.row PySem.Challenge.rw_keysinline_k04_below_against_compare
noncomputable abbrev hk : PySem.W.Hook := hookM 5 tabs
noncomputable def ob (s : PySem.W.SharedT) : He.AlD := obsMG 5 tabs (HandSHeadRun.getT s)
theorem ob_eq (s : PySem.W.SharedT) : ob s = hk.obs s.abs := obsMG_eq (HandSHeadRun.getT_eq s)
theorem run (w : World) : HandSHeadRun.RunEq Rw (PySem.W.view Rw.prog [49]) hk ob 4000 loose w := by
  intro os
  kernel_rfl
theorem k04p : K04P tabs.pr := ⟨rfl, rfl, rfl, rfl, rfl, rfl, rfl, rfl, rfl, rfl, rfl, rfl, rfl, rfl, rfl, rfl, rfl, rfl, rfl, rfl, rfl, rfl, rfl, rfl, rfl, rfl, rfl, rfl, rfl, rfl, rfl, rfl, rfl, rfl, rfl, rfl, rfl, rfl, rfl, rfl, rfl, rfl, rfl, rfl, rfl, rfl, rfl, rfl⟩
theorem law_ok (ns : List Int) (hn : ns.length ≤ 63) : ∃ fin, callN tabs.pr 200 79 [.fz (.list (ns.map PyData.int))] = .ok (.bool true, false) fin := law_run k04p ns hn
end Mp.Law
open PySem PySem.W PySem.Calls PyProof.Rows
set_option maxRecDepth 100000 in
set_option maxHeartbeats 0 in
theorem PySem.Challenge.cw_keysinline_k04_below_against_compare_holds : PySem.Challenge.rw_keysinline_k04_below_against_compare.Holds := by
  w_on; o_law
  refine HandSHeadRun.head_any (r := OpenLaw.row PySem.Challenge.rw_keysinline_k04_below_against_compare) (q := view (OpenLaw.row PySem.Challenge.rw_keysinline_k04_below_against_compare).prog [49]) (H := Mp.Law.hk) (ob := Mp.Law.ob) (M := 4000) (loose := Mp.Law.loose) (d := HandSHeadRun.topDef (OpenLaw.row PySem.Challenge.rw_keysinline_k04_below_against_compare).prog 49) (kwd := []) Mp.Law.ob_eq
    (by kernel_rfl) (fun s => by kernel_rfl) Mp.Law.run (by kernel_rfl) (by kernel_rfl) (by kernel_rfl) (by rfl) (by first | assumption | decide +kernel) (by decide +kernel) ⟨rfl, rfl, rfl, rfl, rfl, by decide +kernel⟩ ?hw ?hc
  case hw => w_witness2
  case hc => exact Mp.law_walk (l := PySem.Challenge.rw_keysinline_k04_below_against_compare) (t := Mp.Law.tabs) (n := 5) (m := 37) rfl (by kernel_rfl) Mp.Law.tabs_ok (by kernel_rfl) rfl rfl Mp.Law.law_ok
