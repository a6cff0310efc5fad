import PyProof.Rows.All
import HandS.ForMost
import HandS.ForExc
import HandS.Flow
import HandS.Style
import HandS.TupAny
import HandS.TupMul
import HandS.IsInst
import HandS.Conv
import HandS.CallSlots
import HandS.Wide
import HandS.WordsDict
import HandS.TupLen
import PySem.Challenge.RW_pilewords_k00_whole_programs_values_and
import HandS.Text
import KE.KxText
import Wide.All
import OpenK.AllK
import Wide.FinOn
set_option Elab.async false
set_option linter.all false
set_option maxRecDepth 100000
set_option autoImplicit false
/-! PyL: data, store, outcomes, the small syntax and what it does. -/
namespace PyL
open PySem

/-- data: values that never change are trees; a list, a dict, an object is a number of the store -/
inductive D where
  | non | bl (b : Bool) | int (i : Int) | str (s : Str) | tup (xs : List D) | ref (n : Nat) | fn (k : Nat)
  /-- a list of the written part: nobody writes to it -/
  | kl (xs : List D)
  deriving Inhabited

/-- what stands in the store -/
inductive MO where
  | lst (xs : List D) | fro (xs : List D) | dct (t : Bool) (kvs : List (D × D)) | ins (c : Nat) (fs : List (Str × D))
  deriving Inhabited
abbrev Sto := List MO
abbrev En := List (Option D)
/-- an exception: its class, what it bears -/
structure Exn where
  cls : Nat
  arg : Option D
  deriving Inhabited

inductive Out (α : Type) where
  | ok (a : α) (M : Sto)
  | exc (x : Exn) (M : Sto)
  | bad
def Out.bind {α β : Type} (o : Out α) (k : α → Sto → Out β) : Out β :=
  match o with
  | .ok a M => k a M
  | .exc x M => .exc x M
  | .bad => .bad
@[simp] theorem Out.bind_ok {α β : Type} (a : α) (M : Sto) (k : α → Sto → Out β) : (Out.ok a M).bind k = k a M := by rw [Out.bind]
@[simp] theorem Out.bind_exc {α β : Type} (x : Exn) (M : Sto) (k : α → Sto → Out β) : (Out.exc x M : Out α).bind k = .exc x M := by rw [Out.bind]
@[simp] theorem Out.bind_bad {α β : Type} (k : α → Sto → Out β) : (Out.bad : Out α).bind k = .bad := by rw [Out.bind]

/-- a statement's end -/
inductive SO where
  | nx (σ : En) (M : Sto) | rt (d : D) (M : Sto) | bk (σ : En) (M : Sto) | ct (σ : En) (M : Sto) | exc (x : Exn) (σ : En) (M : Sto) | bad
def SO.ofOut {α : Type} (o : Out α) (σ : En) (k : α → Sto → SO) : SO :=
  match o with
  | .ok a M => k a M
  | .exc x M => .exc x σ M
  | .bad => .bad
@[simp] theorem SO.ofOut_ok {α : Type} (a : α) (M : Sto) (σ : En) (k : α → Sto → SO) : SO.ofOut (Out.ok a M) σ k = k a M := by rw [SO.ofOut]
@[simp] theorem SO.ofOut_exc {α : Type} (x : Exn) (M : Sto) (σ : En) (k : α → Sto → SO) : SO.ofOut (Out.exc x M : Out α) σ k = .exc x σ M := by rw [SO.ofOut]
@[simp] theorem SO.ofOut_bad {α : Type} (σ : En) (k : α → Sto → SO) : SO.ofOut (Out.bad : Out α) σ k = .bad := by rw [SO.ofOut]
def SO.andThen (o : SO) (k : En → Sto → SO) : SO :=
  match o with
  | .nx σ M => k σ M
  | o => o
@[simp] theorem SO.andThen_nx (σ : En) (M : Sto) (k : En → Sto → SO) : (SO.nx σ M).andThen k = k σ M := by rw [SO.andThen]
@[simp] theorem SO.andThen_rt (d : D) (M : Sto) (k : En → Sto → SO) : (SO.rt d M).andThen k = .rt d M := rfl
@[simp] theorem SO.andThen_bk (σ : En) (M : Sto) (k : En → Sto → SO) : (SO.bk σ M).andThen k = .bk σ M := rfl
@[simp] theorem SO.andThen_ct (σ : En) (M : Sto) (k : En → Sto → SO) : (SO.ct σ M).andThen k = .ct σ M := rfl
@[simp] theorem SO.andThen_exc (x : Exn) (σ : En) (M : Sto) (k : En → Sto → SO) : (SO.exc x σ M).andThen k = .exc x σ M := rfl
@[simp] theorem SO.andThen_bad (k : En → Sto → SO) : SO.bad.andThen k = .bad := rfl

/-! ### data as the kit's data -/
mutual
def D.data : D → PyData
  | .non => .none
  | .bl b => .bool b
  | .int i => .int i
  | .str s => .str s
  | .tup xs => .tuple (D.dataL xs)
  | .ref _ => .dict []
  | .fn _ => .dict []
  | .kl _ => .dict []
def D.dataL : List D → List PyData
  | [] => []
  | x :: xs => x.data :: D.dataL xs
end
def topData (M : Sto) : D → PyData
  | .ref k => (match M[k]? with
    | some (.lst xs) => .list (D.dataL xs)
    | some (.fro xs) => .list (D.dataL xs)
    | _ => .dict [])
  | d => d.data
def listAt (M : Sto) (k : Nat) : Option (List D) :=
  match M[k]? with
  | some (.lst xs) => some xs
  | some (.fro xs) => some xs
  | _ => none
def lstAt (M : Sto) (k : Nat) : Option (List D) :=
  match M[k]? with
  | some (.lst xs) => some xs
  | _ => none
/-- the items of a tuple or a list -/
def items (M : Sto) : D → Option (List D)
  | .tup xs => some xs
  | .ref k => listAt M k
  | _ => none
def truth (M : Sto) : D → Option Bool
  | .non => some false
  | .bl b => some b
  | .int i => some (i != 0)
  | .str s => if s.length ≤ sizeLine then some ((s.length : Int) != 0) else none
  | .tup xs => some (!xs.isEmpty)
  | .ref k => (listAt M k).map fun xs => !xs.isEmpty
  | _ => none

/-! ### primitives -/
inductive P1 where | neg
  deriving DecidableEq, Inhabited
inductive P2 where | add | sub | mul | fdiv | mod | pow | eq | ne | lt | le | gt | ge | is | isnot | isin | notin
  deriving DecidableEq, Inhabited
inductive Ty where | int | str | bool | tuple | list | dict | none | own (c : Nat)
  deriving DecidableEq, Inhabited
/-- built-in functions on values -/
inductive Bi where | len | int | abs | max2 | min2 | bool | str | repr
  deriving DecidableEq, Inhabited
/-- built-in functions on what is gone through -/
inductive BL where | tuple | all | any | sum | len | list | sorted | max | min
  deriving DecidableEq, Inhabited
/-- built-in methods -/
inductive Me where | append | pop | popAt | count | index | get1 | get2 | insert
  deriving DecidableEq, Inhabited
inductive ML where | extend | join
  deriving DecidableEq, Inhabited

def P1.den : P1 → D → Sto → Out D
  | .neg, .int i, M => .ok (.int (-i)) M
  | _, _, _ => .bad

def ordOk (M : Sto) (a b : D) : Bool := SeqAt.shaped (topData M a) && SeqAt.shaped (topData M b)
def isFlat : D → Bool
  | .non | .bl _ | .int _ | .str _ => true
  | _ => false
def dAdd : D → D → Sto → Out D
  | .int i, .int j, M => .ok (.int (i + j)) M
  | .str x, .str y, M => if x.length + y.length ≤ sizeLine then .ok (.str (x ++ y)) M else .bad
  | .tup xs, .tup ys, M => if xs.length + ys.length ≤ sizeLine then .ok (.tup (xs ++ ys)) M else .bad
  | .ref a, .ref b, M => (match lstAt M a, lstAt M b with
    | some xs, some ys => if xs.length + ys.length ≤ sizeLine then .ok (.ref M.length) (M ++ [.lst (xs ++ ys)]) else .bad
    | _, _ => .bad)
  | _, _, _ => .bad
def dSub : D → D → Sto → Out D
  | .int i, .int j, M => .ok (.int (i - j)) M
  | _, _, _ => .bad
def dMul : D → D → Sto → Out D
  | .int i, .int j, M => if (i.natAbs < 2 ^ 64 ∨ j.natAbs < 2 ^ 64) then .ok (.int (i * j)) M else .bad
  | .str x, .int j, M => if 2 ≤ j ∧ j ≤ 1000 ∧ 1 ≤ x.length ∧ x.length ≤ 1000 then .ok (.str ⟨(List.replicate j.toNat x.cps).foldl (· ++ ·) #[]⟩) M else .bad
  | .tup xs, .int j, M => if -(2 ^ 60) < j ∧ j ≤ 1000 ∧ xs.length ≤ 1000 then .ok (.tup (List.replicate j.toNat xs).flatten) M else .bad
  | .ref a, .int j, M => (match lstAt M a with
    | some xs => if -(2 ^ 60) < j ∧ j < 2 ^ 60 ∧ xs.length * j.toNat ≤ sizeLine then .ok (.ref M.length) (M ++ [.lst (List.replicate j.toNat xs).flatten]) else .bad
    | _ => .bad)
  | _, _, _ => .bad
def dDiv : D → D → Sto → Out D
  | .int i, .int j, M => if j ≠ 0 ∧ j.natAbs < 1073741824 then .ok (.int (i.fdiv j)) M else .bad
  | _, _, _ => .bad
def dMod : D → D → Sto → Out D
  | .int i, .int j, M => if j ≠ 0 then .ok (.int (i.fmod j)) M else .bad
  | _, _, _ => .bad
def dPow : D → D → Sto → Out D
  | .int i, .int j, M => if 0 ≤ j ∧ j ≤ 1000000 ∧ i.natAbs < 2 ^ 64 then .ok (.int (i ^ j.toNat)) M else .bad
  | _, _, _ => .bad
def dEq (a b : D) (M : Sto) : Out D := if ordOk M a b then .ok (.bl (PyData.eqv (topData M a) (topData M b))) M else .bad
def dNe (a b : D) (M : Sto) : Out D := if ordOk M a b then .ok (.bl (!PyData.eqv (topData M a) (topData M b))) M else .bad
def dCmp (f : Int → Int → Bool) : D → D → Sto → Out D
  | .int i, .int j, M => .ok (.bl (f i j)) M
  | _, _, _ => .bad
/-- is: None, True, False on the right -/
def isD : D → D → Option Bool
  | .non, .non => some true
  | _, .non => some false
  | .bl a, .bl b => some (a == b)
  | .int _, .bl _ => some false
  | .str _, .bl _ => some false
  | .non, .bl _ => some false
  | .tup _, .bl _ => some false
  | .ref _, .bl _ => some false
  | _, _ => none
def dIs (neg : Bool) (a b : D) (M : Sto) : Out D :=
  match isD a b with
  | some r => .ok (.bl (r != neg)) M
  | none => .bad
def inD (M : Sto) (a b : D) : Option Bool :=
  match a, b with
  | .str x, .str y => some (!(Builtin.Str.occurrences y x 0 y.length 1).isEmpty)
  | a, b => (match items M b with
    | some xs => if isFlat a && xs.all isFlat then some (xs.any fun x => PyData.eqv x.data a.data) else none
    | none => none)
def dIn (neg : Bool) (a b : D) (M : Sto) : Out D :=
  match inD M a b with
  | some r => .ok (.bl (r != neg)) M
  | none => .bad
def P2.den : P2 → D → D → Sto → Out D
  | .add => dAdd | .sub => dSub | .mul => dMul | .fdiv => dDiv | .mod => dMod | .pow => dPow
  | .eq => dEq | .ne => dNe
  | .lt => dCmp fun i j => decide (i < j)
  | .le => dCmp fun i j => decide (i ≤ j)
  | .gt => dCmp fun i j => decide (j < i)
  | .ge => dCmp fun i j => decide (j ≤ i)
  | .is => dIs false | .isnot => dIs true | .isin => dIn false | .notin => dIn true

/-- a op= b at a name: ints and texts alone -/
def iAdd : D → D → Sto → Out D
  | .int i, .int j, M => .ok (.int (i + j)) M
  | .str x, .str y, M => if x.length + y.length ≤ sizeLine then .ok (.str (x ++ y)) M else .bad
  | _, _, _ => .bad
def iSub : D → D → Sto → Out D
  | .int i, .int j, M => .ok (.int (i - j)) M
  | _, _, _ => .bad
def P2.iden : P2 → D → D → Sto → Out D
  | .add => iAdd | .sub => iSub
  | _ => fun _ _ _ => .bad
/-- the answer of isinstance(d, t) -/
def tyIs (M : Sto) (d : D) (t : Ty) : Option Bool :=
  match d with
  | .non => some (t == .none)
  | .bl _ => some (t == .bool || t == .int)
  | .int _ => some (t == .int)
  | .str _ => some (t == .str)
  | .tup _ => some (t == .tuple)
  | .ref n => (match M[n]? with
    | some (.lst _) => some (t == .list)
    | some (.fro _) => some (t == .list)
    | some (.dct _ _) => some (t == .dict)
    | some (.ins c _) => some (t == .own c)
    | none => none)
  | .fn _ => none
  | .kl _ => none
def tyName : Ty → String
  | .int => "int" | .str => "str" | .bool => "bool" | .tuple => "tuple" | .list => "list" | .dict => "dict" | .none => "NoneType" | .own _ => ""
def isOwn : Ty → Bool
  | .own _ => true
  | _ => false
def tysIs (M : Sto) (d : D) : List Ty → Option Bool
  | [] => some false
  | t :: ts => (match tyIs M d t with
    | some true => some true
    | some false => tysIs M d ts
    | none => none)
def dIsin (d : D) (ts : List Ty) (M : Sto) : Out D :=
  match tysIs M d ts with
  | some b => .ok (.bl b) M
  | none => .bad

def lenD (M : Sto) : D → Option Nat
  | .str s => if s.length ≤ sizeLine then some s.length else none
  | .tup xs => some xs.length
  | .ref k => (match M[k]? with
    | some (.lst xs) => some xs.length
    | some (.fro xs) => some xs.length
    | some (.dct _ kvs) => some kvs.length
    | _ => none)
  | _ => none
def bLen : List D → Sto → Out D
  | [d], M => (match lenD M d with
    | some n => .ok (.int n) M
    | none => .bad)
  | _, _ => .bad
def bInt : List D → Sto → Out D
  | [.int i], M => .ok (.int i) M
  | [.bl b], M => .ok (.int (if b then 1 else 0)) M
  | _, _ => .bad
def bAbs : List D → Sto → Out D
  | [.int i], M => .ok (.int (if i < 0 then -i else i)) M
  | _, _ => .bad
def bMax : List D → Sto → Out D
  | [.int i, .int j], M => .ok (.int (if j > i then j else i)) M
  | _, _ => .bad
def bMin : List D → Sto → Out D
  | [.int i, .int j], M => .ok (.int (if j < i then j else i)) M
  | _, _ => .bad
def bStr : List D → Sto → Out D
  | [.int i], M => if i.natAbs.log2 < 1920 then .ok (.str (toString i)) M else .bad
  | _, _ => .bad
def bBool : List D → Sto → Out D
  | [.int i], M => .ok (.bl (i != 0)) M
  | [.bl b], M => .ok (.bl b) M
  | _, _ => .bad
def bRepr : List D → Sto → Out D
  | [.bl b], M => .ok (.str (if b then "True" else "False")) M
  | _, _ => .bad
def Bi.den : Bi → List D → Sto → Out D
  | .len => bLen | .int => bInt | .abs => bAbs | .max2 => bMax | .min2 => bMin | .bool => bBool | .str => bStr | .repr => bRepr
def allBl : List D → Option (List Bool)
  | [] => some []
  | .bl b :: xs => (allBl xs).map (b :: ·)
  | _ :: _ => none
def allInt : List D → Option (List Int)
  | [] => some []
  | .int i :: xs => (allInt xs).map (i :: ·)
  | _ :: _ => none
def allStr : List D → Option (List Str)
  | [] => some []
  | .str i :: xs => (allStr xs).map (i :: ·)
  | _ :: _ => none
/-- insertion sort, by which sorted of ints is told -/
def insI (x : Int) : List Int → List Int
  | [] => [x]
  | y :: ys => if x ≤ y then x :: y :: ys else y :: insI x ys
def sortI : List Int → List Int
  | [] => []
  | x :: xs => insI x (sortI xs)
def BL.den : BL → List D → Sto → Out D
  | .tuple, xs, M => .ok (.tup xs) M
  | .list, xs, M => .ok (.ref M.length) (M ++ [.lst xs])
  | .len, xs, M => .ok (.int xs.length) M
  | .all, xs, M => (match allBl xs with
    | some bs => .ok (.bl (bs.all id)) M
    | none => .bad)
  | .any, xs, M => (match allBl xs with
    | some bs => .ok (.bl (bs.any id)) M
    | none => .bad)
  | .sum, xs, M => (match allInt xs with
    | some ns => .ok (.int ns.sum) M
    | none => .bad)
  | _, _, _ => .bad

def mAppend : D → List D → Sto → Out D
  | .ref k, [d], M => (match lstAt M k with
    | some xs => if xs.length < sizeLine then .ok .non (M.set k (.lst (xs ++ [d]))) else .bad
    | none => .bad)
  | _, _, _ => .bad
def mPop : D → List D → Sto → Out D
  | .ref k, [], M => (match lstAt M k with
    | some xs => (match xs[xs.length - 1]? with
      | some d => .ok d (M.set k (.lst xs.dropLast))
      | none => .bad)
    | none => .bad)
  | _, _, _ => .bad
def isLst (M : Sto) : D → Bool
  | .ref k => (lstAt M k).isSome
  | _ => false
def Me.den : Me → D → List D → Sto → Out D
  | .append => mAppend
  | .pop => mPop
  | _ => fun _ _ _ => .bad
/-- the receiver is of the method's type -/
def Me.ok : Me → Sto → D → Bool
  | .append | .pop => isLst
  | _ => fun _ _ => false
def lExtend : D → List D → Sto → Out D
  | .ref k, ys, M => (match lstAt M k with
    | some xs => if xs.length + ys.length ≤ sizeLine then .ok .non (M.set k (.lst (xs ++ ys))) else .bad
    | none => .bad)
  | _, _, _ => .bad
def lJoin : D → List D → Sto → Out D
  | .str s, xs, M => (match allStr xs with
    | some ts => if (ts.map (·.length)).sum + ts.length * s.length ≤ 16777216 then .ok (.str (Txt.join s ts)) M else .bad
    | none => .bad)
  | _, _, _ => .bad
def ML.den : ML → D → List D → Sto → Out D
  | .extend => lExtend
  | .join => lJoin
def ML.ok : ML → Sto → D → Bool
  | .extend => isLst
  | .join => fun _ d => match d with
    | .str _ => true
    | _ => false

/-! ### items, slices -/
def ixD (M : Sto) (a b : D) : Out D :=
  match b with
  | .int i => (match a with
    | .str z => if z.length ≤ sizeLine then (match L2.atI z.cps.toList i with
      | some c => .ok (.str ⟨#[c]⟩) M
      | none => .bad) else .bad
    | a => (match items M a with
      | some xs => (match L2.atI xs i with
        | some d => .ok d M
        | none => .bad)
      | none => .bad))
  | _ => .bad
def cutD (xs : List D) (lo hi : Option Int) : List D := (xs.drop (HT.sIx xs.length 0 lo)).take (HT.sIx xs.length xs.length hi - HT.sIx xs.length 0 lo)
def slD (M : Sto) (a : D) (lo hi : Option Int) : Out D :=
  match a with
  | .tup xs => .ok (.tup (cutD xs lo hi)) M
  | .str z => if z.length ≤ sizeLine then .ok (.str (L2.cutS z lo hi)) M else .bad
  | .ref k => (match listAt M k with
    | some xs => .ok (.ref M.length) (M ++ [.lst (cutD xs lo hi)])
    | none => .bad)
  | .kl xs => .ok (.ref M.length) (M ++ [.lst (cutD xs lo hi)])
  | _ => .bad
def revD (M : Sto) (a : D) : Out D :=
  match a with
  | .ref k => (match listAt M k with
    | some xs => .ok (.ref M.length) (M ++ [.lst xs.reverse])
    | none => .bad)
  | _ => .bad
/-- a part of a slice -/
def partD : D → Option (Option Int)
  | .int i => some (some i)
  | _ => none

/-! ### what a loop goes through -/
inductive It where
  | snap (xs : List D) | live (n : Nat) | enu (s : It) | zip (s t : It)
/-- at turn i: none: no word; some none: the end -/
def It.next : It → Nat → Sto → Option (Option D)
  | .snap xs, i, _ => some xs[i]?
  | .live n, i, M => (listAt M n).map (·[i]?)
  | .enu s, i, M => (s.next i M).map (·.map fun d => .tup [.int i, d])
  | .zip s t, i, M => (match s.next i M, t.next i M with
    | some (some a), some (some b) => some (some (.tup [a, b]))
    | some none, some _ => some none
    | some (some _), some none => some none
    | _, _ => none)

/-! ### targets -/
inductive Tg where
  | name (i : Nat) | tup (ts : List Nat)
  deriving DecidableEq, Inhabited
def setMany : List Nat → List D → En → Option En
  | [], [], σ => some σ
  | i :: is, d :: ds, σ => setMany is ds (σ.set i (some d))
  | _, _, _ => none
def setTg (t : Tg) (d : D) (σ : En) : Option En :=
  match t with
  | .name i => some (σ.set i (some d))
  | .tup is => (match d with
    | .tup xs => setMany is xs σ
    | _ => none)

/-! ### the small syntax -/
mutual
inductive E where
  | var (i : Nat)
  | con (d : D)
  | glb (j : Nat)
  | tup (es : Es)
  | ofL (l : L)
  | dic (t : Bool) (ks vs : Es)
  | op1 (p : P1) (a : E)
  | op2 (p : P2) (a b : E)
  | chn (p q : P2) (a b c : E)
  | not (a : E)
  | and (a b : E)
  | or (a b : E)
  | ite (c : T) (a b : E)
  | ix (a b : E)
  | sl (a : E) (lo hi : O)
  | rev (a : E)
  | isin (a : E) (ts : List Ty)
  | call (k : Nat) (es : Es)
  | bi (b : Bi) (es : Es)
  | bl (b : BL) (l : L)
  | me (m : Me) (o : E) (es : Es)
  | ml (m : ML) (o : E) (l : L)
inductive Es where
  | nil
  | cons (e : E) (es : Es)
inductive O where
  | none
  | some (e : E)
inductive T where
  | tru (e : E)
  | and (a b : T)
  | or (a b : T)
  | not (a : T)
  | yes
inductive L where
  | val (e : E)
  | vlst (e : E)
  | lst (es : Es)
  | lc (elt : E) (ws : List Nat) (tg : Tg) (it : I) (c : T)
inductive I where
  | val (e : E)
  | rng1 (e : E)
  | rng2 (a b : E)
  | rng3 (a b c : E)
  | lis (l : L)
  | enu (e : E)
  | zip (a b : E)
end
mutual
inductive S where
  | nop
  | ex (e : E)
  | as (t : Tg) (e : E)
  | par (is : List Nat) (es : Es)
  | asub (a i e : E)
  | aug (p : P2) (i : Nat) (e : E)
  | rt (e : E)
  | rtN
  | ite (c : T) (a b : Ss)
  | wh (c : T) (b : Ss)
  | fo (t : Tg) (it : I) (b : Ss)
  | br
  | co
  | never
inductive Ss where
  | nil
  | cons (s : S) (ss : Ss)
end

structure Fns where
  call : Nat → List D → Sto → Out D
  con : List D
  fuel : Nat

/-! ### what it does -/
def wipeD (σ : En) : List Nat → En
  | [] => σ
  | i :: is => (wipeD σ is).set i none
/-- a comprehension's turns: the items from the i-th on -/
def lcGo (it : It) (f : D → Sto → Out (Option D)) : Nat → Nat → List D → Sto → Out (List D)
  | 0, _, _, _ => .bad
  | n + 1, i, acc, M => match it.next i M with
    | none => .bad
    | some none => .ok acc M
    | some (some x) => match f x M with
      | .ok none M' => lcGo it f n (i + 1) acc M'
      | .ok (some y) M' => if acc.length < sizeLine then lcGo it f n (i + 1) (acc ++ [y]) M' else .bad
      | _ => .bad
def rangeL (lo c : Int) (n : Nat) : List D := (List.range n).map fun i => .int (lo + (i : Nat) * c)
def small62 (i : Int) : Bool := decide (-(2 ^ 62) ≤ i ∧ i < 2 ^ 62)
def rng3 (i j c : Int) : Option (List D) :=
  if c ≠ 0 ∧ c.natAbs < 1073741824 ∧ Builtin.Range.small i j c = true ∧ 0 ≤ Builtin.Range.rangeSize i j c then some (rangeL i c (Builtin.Range.rangeSize i j c).toNat) else none
def itOf (M : Sto) : D → Option It
  | .tup xs => some (.snap xs)
  | .ref n => (listAt M n).map fun _ => .live n
  | .str z => some (.snap (z.cps.toList.map fun c => .str ⟨#[c]⟩))
  | _ => none
section
variable (Φ : Fns)
mutual
def denE : E → En → Sto → Out D
  | .var i, σ, M => (match σ[i]? with
    | some (some d) => .ok d M
    | _ => .bad)
  | .con d, _, M => .ok d M
  | .glb j, _, M => (match Φ.con[j]? with
    | some d => .ok d M
    | none => .bad)
  | .tup es, σ, M => (denEs es σ M).bind fun ds M' => if ds.length ≤ sizeLine then .ok (.tup ds) M' else .bad
  | .ofL l, σ, M => (denL l σ M).bind fun ds M' => .ok (.ref M'.length) (M' ++ [.lst ds])
  | .dic t .nil .nil, _, M => .ok (.ref M.length) (M ++ [.dct t []])
  | .dic _ _ _, _, _ => .bad
  | .op1 p a, σ, M => (denE a σ M).bind fun d M' => p.den d M'
  | .op2 p a b, σ, M => (denE a σ M).bind fun x M1 => (denE b σ M1).bind fun y M2 => p.den x y M2
  | .chn p q a b c, σ, M => (denE a σ M).bind fun x M1 => (denE b σ M1).bind fun y M2 => (p.den x y M2).bind fun r M3 =>
    match r with
    | .bl true => (denE c σ M3).bind fun z M4 => q.den y z M4
    | .bl false => .ok (.bl false) M3
    | _ => .bad
  | .not a, σ, M => ((denE a σ M).bind fun d M1 => match truth M1 d with
    | some b => .ok b M1
    | none => .bad).bind fun k M' => .ok (.bl (!k)) M'
  | .and a b, σ, M => (denE a σ M).bind fun x M' => match truth M' x with
    | some true => denE b σ M'
    | some false => .ok x M'
    | none => .bad
  | .or a b, σ, M => (denE a σ M).bind fun x M' => match truth M' x with
    | some true => .ok x M'
    | some false => denE b σ M'
    | none => .bad
  | .ite c a b, σ, M => (denT c σ M).bind fun k M' => if k = true then denE a σ M' else denE b σ M'
  | .ix a b, σ, M => (denE a σ M).bind fun x M1 => (denE b σ M1).bind fun y M2 => ixD M2 x y
  | .sl a lo hi, σ, M => (denE a σ M).bind fun x M1 => (denO lo σ M1).bind fun l M2 => (denO hi σ M2).bind fun h M3 => slD M3 x l h
  | .rev a, σ, M => (denE a σ M).bind fun x M1 => revD M1 x
  | .isin a ts, σ, M => (denE a σ M).bind fun x M1 => dIsin x ts M1
  | .call k es, σ, M => (denEs es σ M).bind fun ds M' => Φ.call k ds M'
  | .bi b es, σ, M => (denEs es σ M).bind fun ds M' => b.den ds M'
  | .bl b l, σ, M => (denL l σ M).bind fun ds M' => b.den ds M'
  | .me m o es, σ, M => (denE o σ M).bind fun x M1 => if m.ok M1 x = true then (denEs es σ M1).bind fun ds M' => m.den x ds M' else .bad
  | .ml m o l, σ, M => (denE o σ M).bind fun x M1 => if m.ok M1 x = true then (denL l σ M1).bind fun ds M' => m.den x ds M' else .bad
def denEs : Es → En → Sto → Out (List D)
  | .nil, _, M => .ok [] M
  | .cons e es, σ, M => (denE e σ M).bind fun d M1 => (denEs es σ M1).bind fun ds M2 => .ok (d :: ds) M2
def denO : O → En → Sto → Out (Option Int)
  | .none, _, M => .ok none M
  | .some e, σ, M => (denE e σ M).bind fun d M1 => match d with
    | .int i => .ok (some i) M1
    | _ => .bad
def denT : T → En → Sto → Out Bool
  | .tru e, σ, M => (denE e σ M).bind fun d M1 => match truth M1 d with
    | some b => .ok b M1
    | none => .bad
  | .and a b, σ, M => (denT a σ M).bind fun k M1 => if k = true then denT b σ M1 else .ok false M1
  | .or a b, σ, M => (denT a σ M).bind fun k M1 => if k = true then .ok true M1 else denT b σ M1
  | .not a, σ, M => (denT a σ M).bind fun k M1 => .ok (!k) M1
  | .yes, _, M => .ok true M
def denL : L → En → Sto → Out (List D)
  | .val e, σ, M => (denE e σ M).bind fun d M1 => match items M1 d with
    | some xs => .ok xs M1
    | none => .bad
  | .vlst e, σ, M => (denE e σ M).bind fun d M1 => match d with
    | .ref k => (match lstAt M1 k with
      | some xs => .ok xs M1
      | none => .bad)
    | _ => .bad
  | .lst es, σ, M => (denEs es σ M).bind fun ds M' => if ds.length ≤ sizeLine then .ok ds M' else .bad
  | .lc elt ws tg it c, σ, M => (denI it σ M).bind fun J M1 => lcGo J (fun x M => match setTg tg x (wipeD σ ws) with
    | none => .bad
    | some σ' => (denT c σ' M).bind fun k M2 => if k = true then (denE elt σ' M2).bind fun d M3 => .ok (some d) M3 else .ok none M2) Φ.fuel 0 [] M1
def denI : I → En → Sto → Out It
  | .val e, σ, M => (denE e σ M).bind fun d M1 => match itOf M1 d with
    | some J => .ok J M1
    | none => .bad
  | .rng1 e, σ, M => (denE e σ M).bind fun d M1 => match d with
    | .int j => if small62 j = true then .ok (.snap (rangeL 0 1 j.toNat)) M1 else .bad
    | _ => .bad
  | .rng2 a b, σ, M => (denE a σ M).bind fun x M1 => (denE b σ M1).bind fun y M2 => match x, y with
    | .int i, .int j => if small62 i && small62 j then .ok (.snap (rangeL i 1 (j - i).toNat)) M2 else .bad
    | _, _ => .bad
  | .rng3 a b c, σ, M => (denE a σ M).bind fun x M1 => (denE b σ M1).bind fun y M2 => (denE c σ M2).bind fun z M3 => match x, y, z with
    | .int i, .int j, .int k => (match rng3 i j k with
      | some xs => .ok (.snap xs) M3
      | none => .bad)
    | _, _, _ => .bad
  | .lis l, σ, M => (denL l σ M).bind fun ds M1 => .ok (.snap ds) M1
  | .enu e, σ, M => (denE e σ M).bind fun d M1 => match d, itOf M1 d with
    | .str _, _ => .bad
    | _, some J => .ok (.enu J) M1
    | _, none => .bad
  | .zip a b, σ, M => (denE a σ M).bind fun x M1 => (denE b σ M1).bind fun y M2 => match x, y, itOf M2 x, itOf M2 y with
    | .str _, _, _, _ => .bad
    | _, .str _, _, _ => .bad
    | _, _, some J, some J' => .ok (.zip J J') M2
    | _, _, _, _ => .bad
end

/-! ### statements -/
def whileGo (c : En → Sto → Out Bool) (b : En → Sto → SO) : Nat → En → Sto → SO
  | 0, _, _ => .bad
  | n + 1, σ, M => match c σ M with
    | .ok true M1 => (match b σ M1 with
      | .nx σ' M2 => whileGo c b n σ' M2
      | .ct σ' M2 => whileGo c b n σ' M2
      | .bk σ' M2 => .nx σ' M2
      | o => o)
    | .ok false M1 => .nx σ M1
    | .exc x M1 => .exc x σ M1
    | .bad => .bad
def forGo (it : It) (tg : Tg) (b : En → Sto → SO) : Nat → Nat → En → Sto → SO
  | 0, _, _, _ => .bad
  | n + 1, i, σ, M => match it.next i M with
    | none => .bad
    | some none => .nx σ M
    | some (some x) => match setTg tg x σ with
      | none => .bad
      | some σ1 => match b σ1 M with
        | .nx σ' M2 => forGo it tg b n (i + 1) σ' M2
        | .ct σ' M2 => forGo it tg b n (i + 1) σ' M2
        | .bk σ' M2 => .nx σ' M2
        | o => o
def setIx (M : Sto) (a i v : D) : Option Sto :=
  match a, i with
  | .ref k, .int j => (match M[k]? with
    | some (.lst xs) => (match L2.ixN xs.length j with
      | some n => some (M.set k (.lst (xs.set n v)))
      | none => none)
    | _ => none)
  | _, _ => none
def setPar : List Nat → List D → En → Option En := setMany
mutual
def denS : S → En → Sto → SO
  | .nop, σ, M => .nx σ M
  | .ex e, σ, M => .ofOut (denE Φ e σ M) σ fun _ M' => .nx σ M'
  | .as t e, σ, M => .ofOut (denE Φ e σ M) σ fun d M' => match setTg t d σ with
    | some σ' => .nx σ' M'
    | none => .bad
  | .par is es, σ, M => .ofOut (denEs Φ es σ M) σ fun ds M' => match setMany is ds σ with
    | some σ' => .nx σ' M'
    | none => .bad
  | .asub a i e, σ, M => .ofOut (denE Φ e σ M) σ fun v M1 => .ofOut (denE Φ a σ M1) σ fun x M2 => .ofOut (denE Φ i σ M2) σ fun j M3 => match setIx M3 x j v with
    | some M4 => .nx σ M4
    | none => .bad
  | .aug p i e, σ, M => (match σ[i]? with
    | some (some x) => .ofOut (denE Φ e σ M) σ fun y M1 => .ofOut (p.iden x y M1) σ fun z M2 => .nx (σ.set i (some z)) M2
    | _ => .bad)
  | .rt e, σ, M => .ofOut (denE Φ e σ M) σ fun d M' => .rt d M'
  | .rtN, _, M => .rt .non M
  | .ite c a b, σ, M => .ofOut (denT Φ c σ M) σ fun k M' => if k = true then denSs a σ M' else denSs b σ M'
  | .wh c b, σ, M => whileGo (denT Φ c) (denSs b) Φ.fuel σ M
  | .fo t it b, σ, M => .ofOut (denI Φ it σ M) σ fun J M' => forGo J t (denSs b) Φ.fuel 0 σ M'
  | .br, σ, M => .bk σ M
  | .co, σ, M => .ct σ M
  | .never, _, _ => .bad
def denSs : Ss → En → Sto → SO
  | .nil, σ, M => .nx σ M
  | .cons s ss, σ, M => (denS s σ M).andThen fun σ' M' => denSs ss σ' M'
end
end

/-! ### the defs -/
structure FR where
  np : Nat
  ns : Nat
  body : Ss
def runFR (Φ : Fns) (r : FR) (args : List D) (M : Sto) : Out D :=
  if args.length = r.np then
    match denSs Φ r.body (args.map some ++ List.replicate (r.ns - r.np) none) M with
    | .nx _ M' => .ok .non M'
    | .rt d M' => .ok d M'
    | .exc x _ M' => .exc x M'
    | _ => .bad
  else .bad
def callN (fs : List FR) (con : List D) (fuel : Nat) : Nat → Nat → List D → Sto → Out D
  | 0, _, _, _ => .bad
  | n + 1, k, args, M => match fs[k]? with
    | some r => runFR ⟨callN fs con fuel n, con, fuel⟩ r args M
    | none => .bad
end PyL

/-! PyL: how data stand in the model's heap. -/
namespace PyL
open PySem PySem.Spec PyProof.Rows L2

/-- what stays the same through a law: the program, the written part, where the defs stand -/
structure Con where
  P : Program
  w : World
  K : PySem.W.Frag
  mg : Str → Option Value
  base : Heap
  F : Nat → Option Addr

/-- a list of the written part -/
def KLst (K : PySem.W.Frag) (a : Addr) (xs : List V) : Prop :=
  ∃ (o : Obj) (its : Array Value) (n : Nat), K.lookup a = some o ∧ o.cls = .type "list" ∧ o.dict = none ∧ o.data = .seq its n ∧ its.size ≤ sizeLine ∧ Vals xs its.toList
mutual
inductive Rep (C : Con) (ι : List Addr) (H : Hp) : D → V → Prop
  | non : Rep C ι H .non .non
  | bl (b : Bool) : Rep C ι H (.bl b) (.bl b)
  | int (i : Int) : Rep C ι H (.int i) (.int i)
  | str (x : Str) : Rep C ι H (.str x) (.str x)
  | tup {a : Addr} {vs : List V} {ds : List D} : SqT C.K H a vs → Reps C ι H ds vs → Rep C ι H (.tup ds) (.ref a)
  | ref {n : Nat} {a : Addr} : ι[n]? = some a → Rep C ι H (.ref n) (.ref a)
  | fn {k : Nat} {a : Addr} : C.F k = some a → Rep C ι H (.fn k) (.ref a)
  | kl {a : Addr} {ds : List D} {vs : List V} : KLst C.K a vs → Reps C ι H ds vs → Rep C ι H (.kl ds) (.ref a)
inductive Reps (C : Con) (ι : List Addr) (H : Hp) : List D → List V → Prop
  | nil : Reps C ι H [] []
  | cons {d : D} {v : V} {ds : List D} {vs : List V} : Rep C ι H d v → Reps C ι H ds vs → Reps C ι H (d :: ds) (v :: vs)
end

structure Ext (C : Con) (ι : List Addr) (H : Hp) (ι' : List Addr) (H' : Hp) : Prop where
  pre : ∀ (n : Nat) (a : Addr), ι[n]? = some a → ι'[n]? = some a
  tup : ∀ a vs, SqT C.K H a vs → SqT C.K H' a vs
  keep : ∀ b o, H b = some o → b ∉ ι → H' b = some o
  new : ∀ b, b ∈ ι' → b ∈ ι ∨ H b = none
theorem Ext.refl {C : Con} {ι : List Addr} {H : Hp} : Ext C ι H ι H := ⟨fun _ _ h => h, fun _ _ h => h, fun _ _ h _ => h, fun _ h => .inl h⟩
theorem Ext.trans {C : Con} {ι ι1 ι2 : List Addr} {H H1 H2 : Hp} (a : Ext C ι H ι1 H1) (b : Ext C ι1 H1 ι2 H2) : Ext C ι H ι2 H2 := by
  refine ⟨fun n x h => b.pre _ _ (a.pre _ _ h), fun x vs h => b.tup _ _ (a.tup _ _ h), fun x o h hn => b.keep x o (a.keep x o h hn) fun hm => ?_, fun x h => ?_⟩
  · rcases a.new x hm with h1 | h1
    · exact hn h1
    · rw [h] at h1; cases h1
  · rcases b.new x h with h1 | h1
    · exact a.new x h1
    · cases q : H x with
      | none => exact .inr rfl
      | some o =>
        by_cases hx : x ∈ ι
        · exact .inl hx
        · rw [a.keep x o q hx] at h1; cases h1
section
variable {C : Con} {ι ι' : List Addr} {H H' : Hp}
mutual
theorem Rep.ext (e : Ext C ι H ι' H') : ∀ {d : D} {v : V}, Rep C ι H d v → Rep C ι' H' d v
  | _, _, .non => .non
  | _, _, .bl b => .bl b
  | _, _, .int i => .int i
  | _, _, .str x => .str x
  | _, _, .tup h r => .tup (e.tup _ _ h) (Reps.ext e r)
  | _, _, .ref h => .ref (e.pre _ _ h)
  | _, _, .fn h => .fn h
  | _, _, .kl h r => .kl h (Reps.ext e r)
theorem Reps.ext (e : Ext C ι H ι' H') : ∀ {ds : List D} {vs : List V}, Reps C ι H ds vs → Reps C ι' H' ds vs
  | _, _, .nil => .nil
  | _, _, .cons a b => .cons (Rep.ext e a) (Reps.ext e b)
end
theorem Reps.length : ∀ {ds : List D} {vs : List V}, Reps C ι H ds vs → ds.length = vs.length
  | _, _, .nil => rfl
  | _, _, .cons _ r => by simp only [List.length_cons, Reps.length r]
theorem Reps.append : ∀ {ds es : List D} {vs us : List V}, Reps C ι H ds vs → Reps C ι H es us → Reps C ι H (ds ++ es) (vs ++ us)
  | _, _, _, _, .nil, s => s
  | _, _, _, _, .cons a r, s => .cons a (Reps.append r s)
theorem Reps.get : ∀ {ds : List D} {vs : List V} {i : Nat} {d : D}, Reps C ι H ds vs → ds[i]? = some d → ∃ v, vs[i]? = some v ∧ Rep C ι H d v
  | _, _, _, _, .nil, e => by simp at e
  | _, _, 0, _, .cons a _, e => by simp at e; subst e; exact ⟨_, rfl, a⟩
  | _, _, i + 1, d, .cons _ r, e => by
    obtain ⟨v, h1, h2⟩ := Reps.get (i := i) (d := d) r (by simpa using e)
    exact ⟨v, by simpa using h1, h2⟩
theorem Reps.getN : ∀ {ds : List D} {vs : List V} {i : Nat}, Reps C ι H ds vs → ds[i]? = none → vs[i]? = none := fun {ds vs i} r e => by
  have h1 := r.length
  have h2 : ds.length ≤ i := List.getElem?_eq_none_iff.mp e
  exact List.getElem?_eq_none_iff.mpr (by omega)
theorem Reps.take : ∀ {ds : List D} {vs : List V} (n : Nat), Reps C ι H ds vs → Reps C ι H (ds.take n) (vs.take n)
  | _, _, 0, _ => .nil
  | _, _, _ + 1, .nil => .nil
  | _, _, n + 1, .cons a r => .cons a (Reps.take n r)
theorem Reps.drop : ∀ {ds : List D} {vs : List V} (n : Nat), Reps C ι H ds vs → Reps C ι H (ds.drop n) (vs.drop n)
  | _, _, 0, r => r
  | _, _, _ + 1, .nil => .nil
  | _, _, n + 1, .cons _ r => Reps.drop n r
theorem Reps.set {d : D} {v : V} (h : Rep C ι H d v) : ∀ {ds : List D} {vs : List V} (i : Nat), Reps C ι H ds vs → Reps C ι H (ds.set i d) (vs.set i v)
  | _, _, _, .nil => .nil
  | _, _, 0, .cons _ r => .cons h r
  | _, _, i + 1, .cons a r => .cons a (Reps.set h i r)
theorem Reps.reverse : ∀ {ds : List D} {vs : List V}, Reps C ι H ds vs → Reps C ι H ds.reverse vs.reverse
  | _, _, .nil => .nil
  | _, _, .cons a r => by
    rw [List.reverse_cons, List.reverse_cons]
    exact (Reps.reverse r).append (.cons a .nil)
theorem Reps.rep {ds : List D} {vs : List V} (h : Reps C ι H ds vs) : ∀ k : Nat, Reps C ι H (List.replicate k ds).flatten (List.replicate k vs).flatten
  | 0 => .nil
  | k + 1 => by
    rw [List.replicate_succ, List.replicate_succ, List.flatten_cons, List.flatten_cons]
    exact h.append (Reps.rep h k)
theorem Reps.dropLast {ds : List D} {vs : List V} (h : Reps C ι H ds vs) : Reps C ι H ds.dropLast vs.dropLast := by
  rw [List.dropLast_eq_take, List.dropLast_eq_take, h.length]
  exact h.take _
theorem Reps.cut {ds : List D} {vs : List V} (h : Reps C ι H ds vs) (lo hi : Option Int) : Reps C ι H (cutD ds lo hi) (cutV vs lo hi) := by
  unfold cutD cutV
  rw [h.length]
  exact (h.drop _).take _
/-- ints, texts, flags -/
theorem Reps.ints : ∀ {ns : List Int} {vs : List V}, Reps C ι H (ns.map .int) vs → vs = ns.map V.int
  | [], _, h => by cases h; rfl
  | n :: ns, _, h => by
    cases h with
    | cons a r =>
      cases a
      rw [Reps.ints r]; rfl
theorem Reps.of_ints : ∀ (ns : List Int), Reps C ι H (ns.map .int) (ns.map V.int)
  | [] => .nil
  | n :: ns => .cons (.int n) (Reps.of_ints ns)

/-- a dict's keys -/
inductive KeyR : D → Key → Prop
  | int (i : Int) : KeyR (.int i) (.inl i)
  | str (x : Str) : KeyR (.str x) (.inr x)
inductive KeysR : List D → List Key → Prop
  | nil : KeysR [] []
  | cons {d : D} {k : Key} {ds : List D} {ks : List Key} : KeyR d k → KeysR ds ks → KeysR (d :: ds) (k :: ks)
inductive KvR (C : Con) (ι : List Addr) (H : Hp) : List (D × D) → List (Key × V) → Prop
  | nil : KvR C ι H [] []
  | cons {d e : D} {k : Key} {v : V} {ds : List (D × D)} {ks : List (Key × V)} : KeyR d k → Rep C ι H e v → KvR C ι H ds ks → KvR C ι H ((d, e) :: ds) ((k, v) :: ks)
inductive TvR (C : Con) (ι : List Addr) (H : Hp) : List (D × D) → List (List Key × V) → Prop
  | nil : TvR C ι H [] []
  | cons {d : List D} {e : D} {k : List Key} {v : V} {ds : List (D × D)} {ks : List (List Key × V)} : KeysR d k → Rep C ι H e v → TvR C ι H ds ks → TvR C ι H ((.tup d, e) :: ds) ((k, v) :: ks)
theorem KvR.map (f : ∀ (d : D) (v : V), Rep C ι H d v → Rep C ι' H' d v) : ∀ {a : List (D × D)} {b : List (Key × V)}, KvR C ι H a b → KvR C ι' H' a b
  | _, _, .nil => .nil
  | _, _, .cons k r s => .cons k (f _ _ r) (KvR.map f s)
theorem TvR.map (f : ∀ (d : D) (v : V), Rep C ι H d v → Rep C ι' H' d v) : ∀ {a : List (D × D)} {b : List (List Key × V)}, TvR C ι H a b → TvR C ι' H' a b
  | _, _, .nil => .nil
  | _, _, .cons k r s => .cons k (f _ _ r) (TvR.map f s)
theorem KvR.ext (e : Ext C ι H ι' H') : ∀ {a : List (D × D)} {b : List (Key × V)}, KvR C ι H a b → KvR C ι' H' a b
  | _, _, .nil => .nil
  | _, _, .cons k r s => .cons k (r.ext e) (KvR.ext e s)
theorem TvR.ext (e : Ext C ι H ι' H') : ∀ {a : List (D × D)} {b : List (List Key × V)}, TvR C ι H a b → TvR C ι' H' a b
  | _, _, .nil => .nil
  | _, _, .cons k r s => .cons k (r.ext e) (TvR.ext e s)
theorem KvR.length : ∀ {a : List (D × D)} {b : List (Key × V)}, KvR C ι H a b → a.length = b.length
  | _, _, .nil => rfl
  | _, _, .cons _ _ s => by simp only [List.length_cons, KvR.length s]
theorem TvR.length : ∀ {a : List (D × D)} {b : List (List Key × V)}, TvR C ι H a b → a.length = b.length
  | _, _, .nil => rfl
  | _, _, .cons _ _ s => by simp only [List.length_cons, TvR.length s]
inductive RepO (C : Con) (ι : List Addr) (H : Hp) : MO → HO → Prop
  | lst {ds : List D} {vs : List V} : Reps C ι H ds vs → RepO C ι H (.lst ds) (.lst vs)
  | fro {ds : List D} {vs : List V} {o : Obj} : Reps C ι H ds vs → RepO C ι H (.fro ds) (.frz o (.lst vs))
  | dK {a : List (D × D)} {b : List (Key × V)} : KvR C ι H a b → RepO C ι H (.dct false a) (.dK b)
  | dT {a : List (D × D)} {b : List (List Key × V)} : TvR C ι H a b → RepO C ι H (.dct true a) (.dT b)
theorem RepO.ext (e : Ext C ι H ι' H') {o : MO} {u : HO} : RepO C ι H o u → RepO C ι' H' o u
  | .lst r => .lst (Reps.ext e r)
  | .fro r => .fro (Reps.ext e r)
  | .dK r => .dK (KvR.ext e r)
  | .dT r => .dT (TvR.ext e r)
structure Rel (C : Con) (ι : List Addr) (H : Hp) (M : Sto) : Prop where
  len : ι.length = M.length
  nd : ι.Nodup
  obj : ∀ (n : Nat) (a : Addr) (o : MO), ι[n]? = some a → M[n]? = some o → ∃ u, H a = some u ∧ RepO C ι H o u
/-- the slots -/
def EnR (C : Con) (ι : List Addr) (H : Hp) (σ : En) (τ : L2.St) : Prop := σ.length = τ.length ∧ ∀ (i : Nat) (d : D), σ[i]? = some (some d) → ∃ v, τ[i]? = some (some v) ∧ Rep C ι H d v
theorem EnR.ext (e : Ext C ι H ι' H') {σ : En} {τ : L2.St} (h : EnR C ι H σ τ) : EnR C ι' H' σ τ := ⟨h.1, fun i d q => by
  obtain ⟨v, h1, h2⟩ := h.2 i d q
  exact ⟨v, h1, h2.ext e⟩⟩
theorem EnR.set {σ : En} {τ : L2.St} (h : EnR C ι H σ τ) {d : D} {v : V} (r : Rep C ι H d v) (i : Nat) : EnR C ι H (σ.set i (some d)) (τ.set i (some v)) := by
  refine ⟨by rw [List.length_set, List.length_set]; exact h.1, fun j e q => ?_⟩
  by_cases hj : i = j
  · subst hj
    rw [List.getElem?_set] at q
    simp only [if_true] at q
    split at q
    · rename_i hl
      cases q
      exact ⟨v, by rw [List.getElem?_set]; simp only [if_true]; rw [if_pos (by rw [← h.1]; exact hl)], r⟩
    · cases q
  · rw [List.getElem?_set_ne hj] at q ⊢
    exact h.2 j e q
theorem EnR.unset {σ : En} {τ : L2.St} (h : EnR C ι H σ τ) (i : Nat) : EnR C ι H (σ.set i none) (τ.set i none) := by
  refine ⟨by rw [List.length_set, List.length_set]; exact h.1, fun j e q => ?_⟩
  by_cases hj : i = j
  · subst hj
    rw [List.getElem?_set] at q
    simp only [if_true] at q
    split at q
    · cases q
    · cases q
  · rw [List.getElem?_set_ne hj] at q ⊢
    exact h.2 j e q

/-! ### what is wanted of an outcome -/
/-- an exception of the model is the one told -/
def ExR (C : Con) (ι : List Addr) (H : Hp) (x : Exn) (cls : Value) (dd : Option Addr) : Prop :=
  ∃ a, C.F x.cls = some a ∧ cls = .ref a ∧ match x.arg with
    | none => dd = none
    | some d => ∃ (e : Addr) (f : Str) (v : V), dd = some e ∧ H e = some (.xd [(f, v)]) ∧ Rep C ι H d v
def Post {α : Type} (C : Con) (ι : List Addr) (H : Hp) (W : XK) (o : Out α) (R : α → Sto → List Addr → Hp → Prop) : Prop :=
  match o with
  | .ok a M' => ∀ ι' H', Ext C ι H ι' H' → Rel C ι' H' M' → R a M' ι' H'
  | .exc x M' => ∀ ι' H' cls dd, Ext C ι H ι' H' → Rel C ι' H' M' → ExR C ι' H' x cls dd → W cls dd H'
  | .bad => False
theorem Post.bind {α β : Type} {W : XK} {o : Out α} {k : α → Sto → Out β} {R : β → Sto → List Addr → Hp → Prop} (h : Post C ι H W (o.bind k) R) :
    Post C ι H W o fun a M' ι' H' => Post C ι' H' W (k a M') R := by
  cases o with
  | bad => exact h
  | exc x M => exact h
  | ok a M =>
    intro ι1 H1 e1 r1
    have h : Post C ι H W (k a M) R := h
    cases q : k a M with
    | bad => rw [q] at h; exact h
    | exc x M2 => rw [q] at h; exact fun ι2 H2 c d e2 r2 x2 => h ι2 H2 c d (e1.trans e2) r2 x2
    | ok b M2 => rw [q] at h; exact fun ι2 H2 e2 r2 => h ι2 H2 (e1.trans e2) r2
theorem Post.mono {α : Type} {W : XK} {o : Out α} {R R' : α → Sto → List Addr → Hp → Prop} (h : Post C ι H W o R) (f : ∀ a M ι' H', Ext C ι H ι' H' → R a M ι' H' → R' a M ι' H') : Post C ι H W o R' := by
  cases o with
  | bad => exact h
  | exc x M => exact h
  | ok a M => exact fun ι1 H1 e1 r1 => f _ _ _ _ e1 (h ι1 H1 e1 r1)
theorem Post.here {α : Type} {W : XK} {a : α} {M : Sto} {R : α → Sto → List Addr → Hp → Prop} (h : Post C ι H W (.ok a M) R) (r : Rel C ι H M) : R a M ι H := h ι H .refl r

/-! ### the readings -/
def rdE (C : Con) (W : WX) (m : En → Sto → Out D) : TE := fun τ H Q => ∃ ι σ M, EnR C ι H σ τ ∧ Rel C ι H M ∧
  Post C ι H (fun c d H' => W c d τ H') (m σ M) fun d _ ι' H' => ∀ v, Rep C ι' H' d v → Q v H'
def rdT (C : Con) (W : WX) (m : En → Sto → Out Bool) : TT := fun τ H Q => ∃ ι σ M, EnR C ι H σ τ ∧ Rel C ι H M ∧
  Post C ι H (fun c d H' => W c d τ H') (m σ M) fun b _ _ H' => Q b H'
def rdA (C : Con) (W : WX) (m : En → Sto → Out (List D)) : TA := fun τ H Q => ∃ ι σ M, EnR C ι H σ τ ∧ Rel C ι H M ∧
  Post C ι H (fun c d H' => W c d τ H') (m σ M) fun ds _ ι' H' => ∀ vs, Reps C ι' H' ds vs → Q vs H'
/-- a list or a tuple of these items -/
def Sq (C : Con) (ι : List Addr) (H : Hp) (ds : List D) (v : V) : Prop := ∃ a vs, v = .ref a ∧ (SqL C.K H a vs ∨ SqT C.K H a vs) ∧ Reps C ι H ds vs
def rdL (C : Con) (W : WX) (m : En → Sto → Out (List D)) : TE := fun τ H Q => ∃ ι σ M, EnR C ι H σ τ ∧ Rel C ι H M ∧
  Post C ι H (fun c d H' => W c d τ H') (m σ M) fun ds _ ι' H' => ∀ v, Sq C ι' H' ds v → Q v H'
def rdO (C : Con) (W : WX) (m : En → Sto → Out (Option Int)) : TO := fun τ H Q => ∃ ι σ M, EnR C ι H σ τ ∧ Rel C ι H M ∧
  Post C ι H (fun c d H' => W c d τ H') (m σ M) fun o _ _ H' => Q o H'
end
end PyL

/-! PyL: the primitives are what the model does. -/
namespace PyL
open PySem PySem.Spec PyProof.Rows L2

section
variable {C : Con} {ι ι' : List Addr} {H H' : Hp} {M : Sto}
/-! ### new objects -/
theorem sq_upd {K : PySem.W.Frag} {p : Addr} {o : HO} (hp : H p = none) {a : Addr} {vs : List V} (h : SqT K H a vs) : SqT K (upd H p o) a vs := by
  rcases h with (h | ⟨u, h⟩) | h
  · exact .inl (.inl (by rw [upd_ne (ne_of_none h hp)]; exact h))
  · exact .inl (.inr ⟨u, by rw [upd_ne (ne_of_none h hp)]; exact h⟩)
  · exact .inr h
/-- an object that the store does not tell -/
theorem ext_new {p : Addr} {o : HO} (hp : H p = none) : Ext C ι H ι (upd H p o) :=
  ⟨fun _ _ h => h, fun _ _ h => sq_upd hp h, fun b u h _ => by rw [upd_ne (ne_of_none h hp)]; exact h, fun _ h => .inl h⟩
theorem Rel.ext (r : Rel C ι H M) (e : Ext C ι H ι H') (k : ∀ b ∈ ι, H' b = H b) : Rel C ι H' M :=
  ⟨r.len, r.nd, fun n a o h1 h2 => by
    obtain ⟨u, hu, ru⟩ := r.obj n a o h1 h2
    exact ⟨u, by rw [k a (List.mem_of_getElem? h1)]; exact hu, ru.ext e⟩⟩
theorem Rel.mem (r : Rel C ι H M) {a : Addr} (h : a ∈ ι) : ∃ u, H a = some u := by
  obtain ⟨n, hn⟩ := List.getElem?_of_mem h
  have hl : n < M.length := by rw [← r.len]; exact (List.getElem?_eq_some_iff.mp hn).1
  obtain ⟨u, hu, _⟩ := r.obj n a _ hn (List.getElem?_eq_getElem hl)
  exact ⟨u, hu⟩
theorem Rel.fresh (r : Rel C ι H M) {p : Addr} (hp : H p = none) : p ∉ ι := fun h => by
  obtain ⟨u, hu⟩ := r.mem h
  rw [hp] at hu; cases hu
theorem Rel.new (r : Rel C ι H M) {p : Addr} {o : HO} (hp : H p = none) : Rel C ι (upd H p o) M :=
  r.ext (ext_new hp) fun b hb => upd_ne fun e => r.fresh hp (e ▸ hb)
/-- an object that the store tells from now on -/
theorem ext_push {p : Addr} {o : HO} (hp : H p = none) : Ext C ι H (ι ++ [p]) (upd H p o) :=
  ⟨fun n a h => by rw [List.getElem?_append_left (List.getElem?_eq_some_iff.mp h).1]; exact h, fun _ _ h => sq_upd hp h, fun b u h _ => by rw [upd_ne (ne_of_none h hp)]; exact h, fun b h => by
    rcases List.mem_append.mp h with h | h
    · exact .inl h
    · rw [List.mem_singleton.mp h]; exact .inr hp⟩
theorem Rel.push (r : Rel C ι H M) {p : Addr} {o : MO} {u : HO} (hp : H p = none) (ro : RepO C ι H o u) : Rel C (ι ++ [p]) (upd H p u) (M ++ [o]) := by
  have e : Ext C ι H (ι ++ [p]) (upd H p u) := ext_push hp
  refine ⟨by rw [List.length_append, List.length_append, r.len]; rfl, ?_, fun n a o' h1 h2 => ?_⟩
  · rw [List.nodup_append]
    refine ⟨r.nd, by simp, fun a ha b hb => ?_⟩
    rw [List.mem_singleton.mp hb]
    intro z
    exact r.fresh hp (z ▸ ha)
  · by_cases hn : n < ι.length
    · rw [List.getElem?_append_left hn] at h1
      rw [List.getElem?_append_left (by rw [← r.len]; exact hn)] at h2
      obtain ⟨v, hv, rv⟩ := r.obj n a o' h1 h2
      exact ⟨v, by rw [upd_ne (ne_of_none hv hp)]; exact hv, rv.ext e⟩
    · have hl : n = ι.length := by
        have := (List.getElem?_eq_some_iff.mp h1).1
        rw [List.length_append, List.length_singleton] at this
        omega
      subst hl
      rw [List.getElem?_append_right (Nat.le_refl _), Nat.sub_self] at h1
      rw [List.getElem?_append_right (by rw [r.len]; exact Nat.le_refl _), r.len, Nat.sub_self] at h2
      cases h1; cases h2
      exact ⟨u, upd_same, ro.ext e⟩
theorem rep_push (r : Rel C ι H M) {p : Addr} {u : HO} : Rep C (ι ++ [p]) (upd H p u) (.ref M.length) (.ref p) :=
  .ref (by rw [← r.len, List.getElem?_append_right (Nat.le_refl _), Nat.sub_self]; rfl)
/-- an object of the store is written -/
theorem ext_set {p : Addr} {o o' : HO} (r : Rel C ι H M) (hm : p ∈ ι) (ho : H p = some o) (nt : ∀ vs, o ≠ .tup vs) (nf : ∀ ob u, o ≠ .frz ob u) : Ext C ι H ι (upd H p o') := by
  refine ⟨fun _ _ h => h, fun a vs h => ?_, fun b u h hb => ?_, fun _ h => .inl h⟩
  · rcases h with (h | ⟨u, h⟩) | h
    · have : a ≠ p := fun z => by rw [z, ho] at h; exact nt _ (Option.some.inj h)
      exact .inl (.inl (by rw [upd_ne this]; exact h))
    · have : a ≠ p := fun z => by rw [z, ho] at h; exact nf _ _ (Option.some.inj h)
      exact .inl (.inr ⟨u, by rw [upd_ne this]; exact h⟩)
    · exact .inr h
  · rw [upd_ne (fun z : b = p => hb (by rw [z]; exact hm))]; exact h
theorem Rel.set (r : Rel C ι H M) {n : Nat} {p : Addr} {o : MO} {u : HO} (hn : ι[n]? = some p) (e : Ext C ι H ι (upd H p u)) (ro : RepO C ι H o u) : Rel C ι (upd H p u) (M.set n o) := by
  refine ⟨by rw [List.length_set]; exact r.len, r.nd, fun k a o' h1 h2 => ?_⟩
  by_cases hk : n = k
  · subst hk
    rw [hn] at h1; cases h1
    rw [List.getElem?_set] at h2
    simp only [if_true] at h2
    split at h2
    · cases h2
      exact ⟨u, upd_same, ro.ext e⟩
    · cases h2
  · rw [List.getElem?_set_ne hk] at h2
    obtain ⟨v, hv, rv⟩ := r.obj k a o' h1 h2
    have : a ≠ p := fun z => by
      subst z
      have h3 := (List.getElem?_eq_some_iff.mp hn)
      have h4 := (List.getElem?_eq_some_iff.mp h1)
      obtain ⟨l1, e1⟩ := h3
      obtain ⟨l2, e2⟩ := h4
      exact hk ((List.getElem_inj r.nd).mp (e1.trans e2.symm))
    exact ⟨v, by rw [upd_ne this]; exact hv, rv.ext e⟩
/-! ### what stands -/
theorem Rel.at (r : Rel C ι H M) {n : Nat} {v : V} (h : Rep C ι H (.ref n) v) : ∃ p, v = .ref p ∧ ι[n]? = some p := by
  cases h with
  | ref q => exact ⟨_, rfl, q⟩
theorem Rel.lst (r : Rel C ι H M) {n : Nat} {v : V} {ds : List D} (h : Rep C ι H (.ref n) v) (e : M[n]? = some (.lst ds)) : ∃ p vs, v = .ref p ∧ ι[n]? = some p ∧ H p = some (.lst vs) ∧ Reps C ι H ds vs := by
  obtain ⟨p, rfl, q⟩ := r.at h
  obtain ⟨u, hu, ru⟩ := r.obj n p _ q e
  cases ru with
  | lst rs => exact ⟨p, _, rfl, q, hu, rs⟩
theorem Rel.list (r : Rel C ι H M) {n : Nat} {v : V} {ds : List D} (h : Rep C ι H (.ref n) v) (e : listAt M n = some ds) : ∃ p vs, v = .ref p ∧ ι[n]? = some p ∧ SqL C.K H p vs ∧ Reps C ι H ds vs := by
  unfold listAt at e
  obtain ⟨p, rfl, q⟩ := r.at h
  split at e
  · rename_i xs hx
    cases e
    obtain ⟨u, hu, ru⟩ := r.obj n p _ q hx
    cases ru with
    | lst rs => exact ⟨p, _, rfl, q, .inl (.inl hu), rs⟩
  · rename_i xs hx
    cases e
    obtain ⟨u, hu, ru⟩ := r.obj n p _ q hx
    cases ru with
    | fro rs => exact ⟨p, _, rfl, q, .inl (.inr ⟨_, hu⟩), rs⟩
  · cases e
theorem lstAt_of {n : Nat} {ds : List D} (e : lstAt M n = some ds) : M[n]? = some (.lst ds) := by
  unfold lstAt at e
  split at e
  · rename_i xs hx
    cases e
    exact hx
  · cases e
theorem listAt_of_lst {n : Nat} {ds : List D} (e : M[n]? = some (.lst ds)) : listAt M n = some ds := by
  unfold listAt; rw [e]
theorem Rel.items (r : Rel C ι H M) {d : D} {v : V} {ds : List D} (h : Rep C ι H d v) (e : items M d = some ds) : Sq C ι H ds v := by
  cases d with
  | tup xs =>
    cases h with
    | tup q rs =>
      have e : some xs = some ds := e
      cases e
      exact ⟨_, _, rfl, .inr q, rs⟩
  | ref n =>
    obtain ⟨p, vs, rfl, _, q, rs⟩ := r.list h e
    exact ⟨p, vs, rfl, .inl q, rs⟩
  | _ => cases e
/-! ### data -/
mutual
theorem Rep.dp : ∀ {d : D} {v : V}, Rep C ι H d v → d.data.canLay0 = true → Dp C.K H v d.data
  | .non, _, .non, _ => by simp only [D.data]; exact .non
  | .bl b, _, .bl _, _ => by simp only [D.data]; exact .bl b
  | .int i, _, .int _, _ => by simp only [D.data]; exact .int i
  | .str x, _, .str _, _ => by simp only [D.data]; exact .str x
  | .tup ds, _, .tup q rs, h => by
    simp only [D.data, PyData.canLay0] at h ⊢
    exact .tup q (Reps.dp rs h)
  | .ref n, _, .ref _, h => by simp [D.data, PyData.canLay0] at h
  | .fn k, _, .fn _, h => by simp [D.data, PyData.canLay0] at h
theorem Reps.dp : ∀ {ds : List D} {vs : List V}, Reps C ι H ds vs → PyData.canLayAll0 (D.dataL ds) = true → DpAll C.K H vs (D.dataL ds)
  | _, _, .nil, _ => by simp only [D.dataL]; exact .nil
  | d :: ds, _, .cons a rs, h => by
    simp only [D.dataL, PyData.canLayAll0, Bool.and_eq_true] at h ⊢
    exact .cons (Rep.dp a h.1) (Reps.dp rs h.2)
end
theorem Rel.top (r : Rel C ι H M) {d : D} {v : V} (h : Rep C ι H d v) (s : (topData M d).canLay0 = true) : Dp C.K H v (topData M d) := by
  cases d with
  | ref n =>
    have key : ∀ xs, listAt M n = some xs → PyData.canLay0 (.list (D.dataL xs)) = true → Dp C.K H v (.list (D.dataL xs)) := fun xs e s => by
      obtain ⟨p, vs, rfl, _, q, rs⟩ := r.list h e
      exact .lst q (rs.dp (by simpa [PyData.canLay0] using s))
    simp only [topData] at s ⊢
    split at s
    · rename_i xs hx
      exact key xs (by unfold listAt; rw [hx]) s
    · rename_i xs hx
      exact key xs (by unfold listAt; rw [hx]) s
    · simp [PyData.canLay0] at s
  | _ => exact Rep.dp h s
end

/-! ### two-place operations -/
def rd2 (C : Con) (p : D → D → Sto → Out D) : R2 := fun x y H Q => ∃ (Wx : XK) (ι : List Addr) (M : Sto) (a b : D), Rel C ι H M ∧ Rep C ι H a x ∧ Rep C ι H b y ∧ Post C ι H Wx (p a b M) fun d _ ι' H' => ∀ v, Rep C ι' H' d v → Q v H'
section
variable {C : Con} {X : Cx}
theorem o_add (hK : X.K = C.K) : OpR X (binaryOp .Add) (rd2 C dAdd) := by
  subst_vars
  intro pins s σ H x y v u Q I rx ry ⟨Wx, ι, M, a, b, R, ra, rb, h⟩
  unfold dAdd at h
  split at h
  · cases ra; cases rb
    exact op_add pins s σ H _ _ v u Q I rx ry ⟨_, _, rfl, rfl, h.here R _ (.int _)⟩
  · cases ra; cases rb
    split at h
    · rename_i hz
      exact op_add_str pins s σ H _ _ v u Q I rx ry ⟨_, _, rfl, rfl, hz, h.here R _ (.str _)⟩
    · exact h.elim
  · rename_i xs ys
    cases ra with | tup q1 r1 =>
    cases rb with | tup q2 r2 =>
    split at h
    · rename_i hz
      refine op_catA pins s σ H _ _ v u Q I rx ry ⟨_, _, _, _, rfl, rfl, by rw [hK]; exact q1, by rw [hK]; exact q2, by rw [← r1.length, ← r2.length]; exact hz, fun e => ?_, fun _ e => ?_, fun _ _ p hp => ?_⟩
      · subst e
        cases r1
        exact h.here R _ (.tup q2 r2)
      · subst e
        cases r2
        rw [List.append_nil] at h
        exact h.here R _ (.tup q1 r1)
      · exact h ι _ (ext_new hp) (R.new hp) _ (.tup (.inl (.inl upd_same)) ((r1.append r2).ext (ext_new hp)))
    · exact h.elim
  · split at h
    · rename_i xs ys e1 e2
      split at h
      · rename_i hz
        obtain ⟨p, vs, rfl, hp, hl, rs⟩ := R.lst ra (lstAt_of e1)
        obtain ⟨p', us, rfl, hp', hl', rs'⟩ := R.lst rb (lstAt_of e2)
        refine op_cat pins s σ H _ _ v u Q I rx ry ⟨_, _, _, _, rfl, rfl, hl, hl', by rw [← rs.length, ← rs'.length]; exact hz, fun q hq => ?_⟩
        exact h _ _ (ext_push hq) (R.push hq (.lst (rs.append rs'))) _ (rep_push R)
      · exact h.elim
    · exact h.elim
  · exact h.elim
theorem o_sub : OpR X (binaryOp .Sub) (rd2 C dSub) := by
  intro pins s σ H x y v u Q I rx ry ⟨Wx, ι, M, a, b, R, ra, rb, h⟩
  unfold dSub at h
  split at h
  · cases ra; cases rb
    exact op_sub pins s σ H _ _ v u Q I rx ry ⟨_, _, rfl, rfl, h.here R _ (.int _)⟩
  · exact h.elim
theorem o_div : OpR X (binaryOp .FloorDiv) (rd2 C dDiv) := by
  intro pins s σ H x y v u Q I rx ry ⟨Wx, ι, M, a, b, R, ra, rb, h⟩
  unfold dDiv at h
  split at h
  · cases ra; cases rb
    split at h
    · rename_i hz
      exact op_fdivN pins s σ H _ _ v u Q I rx ry ⟨_, _, rfl, rfl, hz, h.here R _ (.int _)⟩
    · exact h.elim
  · exact h.elim
theorem o_mod : OpR X (binaryOp .Mod) (rd2 C dMod) := by
  intro pins s σ H x y v u Q I rx ry ⟨Wx, ι, M, a, b, R, ra, rb, h⟩
  unfold dMod at h
  split at h
  · cases ra; cases rb
    split at h
    · rename_i hz
      exact op_modN pins s σ H _ _ v u Q I rx ry ⟨_, _, rfl, rfl, hz, h.here R _ (.int _)⟩
    · exact h.elim
  · exact h.elim
theorem o_pow : OpR X (binaryOp .Pow) (rd2 C dPow) := by
  intro pins s σ H x y v u Q I rx ry ⟨Wx, ι, M, a, b, R, ra, rb, h⟩
  unfold dPow at h
  split at h
  · cases ra; cases rb
    split at h
    · rename_i hz
      exact op_pow pins s σ H _ _ v u Q I rx ry ⟨_, _, rfl, rfl, hz, h.here R _ (.int _)⟩
    · exact h.elim
  · exact h.elim
theorem o_eq (hK : X.K = C.K) (hu : X.A.units + 64 < cLine) : OpR X (compareOp .Eq) (rd2 C dEq) := by
  intro pins s σ H x y v u Q I rx ry ⟨Wx, ι, M, a, b, R, ra, rb, h⟩
  unfold dEq at h
  split at h
  · rename_i ho
    unfold ordOk at ho
    rw [Bool.and_eq_true] at ho
    refine op_eqD hu pins s σ H _ _ v u Q I rx ry ⟨_, _, ?_, ?_, ho.1, ho.2, h.here R _ (.bl _)⟩
    · rw [hK]; exact R.top ra (SeqAt.canLay_of_shaped ho.1)
    · rw [hK]; exact R.top rb (SeqAt.canLay_of_shaped ho.2)
  · exact h.elim
theorem o_ne (hK : X.K = C.K) (hu : X.A.units + 64 < cLine) : OpR X (compareOp .NotEq) (rd2 C dNe) := by
  intro pins s σ H x y v u Q I rx ry ⟨Wx, ι, M, a, b, R, ra, rb, h⟩
  unfold dNe at h
  split at h
  · rename_i ho
    unfold ordOk at ho
    rw [Bool.and_eq_true] at ho
    refine op_neD hu pins s σ H _ _ v u Q I rx ry ⟨_, _, ?_, ?_, ho.1, ho.2, h.here R _ (.bl _)⟩
    · rw [hK]; exact R.top ra (SeqAt.canLay_of_shaped ho.1)
    · rw [hK]; exact R.top rb (SeqAt.canLay_of_shaped ho.2)
  · exact h.elim
theorem o_cmp {op : CmpOp} {f : Int → Int → Bool} (hr : OpR X (compareOp op) (rI0 fun i j => .bl (f i j))) : OpR X (compareOp op) (rd2 C (dCmp f)) := by
  intro pins s σ H x y v u Q I rx ry ⟨Wx, ι, M, a, b, R, ra, rb, h⟩
  unfold dCmp at h
  split at h
  · cases ra; cases rb
    exact hr pins s σ H _ _ v u Q I rx ry ⟨_, _, rfl, rfl, h.here R _ (.bl _)⟩
  · exact h.elim
end
end PyL

namespace PyL
open PySem PySem.Spec PyProof.Rows L2
section
variable {C : Con} {X : Cx}
theorem o_is {neg : Bool} {op : CmpOp} (hop : (op = .Is ∧ neg = false) ∨ (op = .IsNot ∧ neg = true)) : OpR X (compareOp op) (rd2 C (dIs neg)) := by
  intro pins s σ H x y v u Q I rx ry ⟨Wx, ι, M, a, b, R, ra, rb, h⟩
  unfold dIs at h
  split at h
  · rename_i r e
    have q := h.here R _ (.bl _)
    clear h
    -- is None
    have hN : ∀ k : Bool, y = .non → k = decide (x = .non) → Q (.bl (k != neg)) H → wpAny (model X.prog X.w) X.A (compareOp op v u) (EP X pins σ Q) X.xe s := fun k hy hk q => by
      rcases hop with ⟨rfl, rfl⟩ | ⟨rfl, rfl⟩
      · exact op_isN pins s σ H _ _ v u Q I rx ry ⟨hy, by subst hk; simpa using q⟩
      · exact op_notN pins s σ H _ _ v u Q I rx ry ⟨hy, by subst hk; simpa using q⟩
    have hO : ∀ b : Bool, y = .bl b → plainIs v (.bool b) = true → v ≠ .bool b → r = false → wpAny (model X.prog X.w) X.A (compareOp op v u) (EP X pins σ Q) X.xe s := fun b hy hp hv hr => by
      subst hy hr
      cases (show u = Value.bool b from ry)
      rcases hop with ⟨rfl, rfl⟩ | ⟨rfl, rfl⟩
      · exact wpAny_is_other hp hv ⟨.bl _, H, I, rfl, q⟩
      · exact wpAny_isNot_other hp hv ⟨.bl _, H, I, rfl, q⟩
    cases b with
    | non =>
      cases rb
      cases a with
      | non => cases ra; cases e; exact hN _ rfl (by simp) q
      | _ => cases ra <;> (cases e; exact hN _ rfl (by simp) q)
    | bl b =>
      cases rb
      cases a with
      | non => cases ra; cases e; cases (show v = Value.none from rx); exact hO _ rfl rfl (fun z => nomatch z) rfl
      | int i => cases ra; cases e; obtain ⟨t, rfl⟩ := rx; exact hO _ rfl rfl (fun z => nomatch z) rfl
      | str i => cases ra; cases e; obtain ⟨t, rfl⟩ := rx; exact hO _ rfl rfl (fun z => nomatch z) rfl
      | tup xs => cases ra; cases e; cases (show v = Value.ref _ from rx); exact hO _ rfl rfl (fun z => nomatch z) rfl
      | ref n => cases ra; cases e; cases (show v = Value.ref _ from rx); exact hO _ rfl rfl (fun z => nomatch z) rfl
      | fn n => cases e
      | kl n => cases e
      | bl a =>
        cases ra
        cases e
        rcases hop with ⟨rfl, rfl⟩ | ⟨rfl, rfl⟩
        · refine op_isBl pins s σ H _ _ v u Q I rx ry ⟨_, _, rfl, rfl, ?_⟩
          rw [← Bool.beq_eq_decide_eq]
          simpa using q
        · refine op_notBl pins s σ H _ _ v u Q I rx ry ⟨_, _, rfl, rfl, ?_⟩
          rw [← Bool.beq_eq_decide_eq]
          simpa using q
    | _ => cases a <;> cases e
  · exact h.elim
/-! ### in -/
theorem flat_rep {ι : List Addr} {H : Hp} {d : D} {v : V} (r : Rep C ι H d v) (f : isFlat d = true) : flatV v = true := by
  cases r <;> first | rfl | cases f
theorem flat_all {ι : List Addr} {H : Hp} : ∀ {ds : List D} {vs : List V}, Reps C ι H ds vs → ds.all isFlat = true → vs.all flatV = true
  | _, _, .nil, _ => rfl
  | _, _, .cons a r, f => by
    rw [List.all_cons, Bool.and_eq_true] at f ⊢
    exact ⟨flat_rep a f.1, flat_all r f.2⟩
theorem eqV_rep {ι : List Addr} {H : Hp} {a b : D} {x y : V} (ra : Rep C ι H a x) (rb : Rep C ι H b y) (fa : isFlat a = true) (fb : isFlat b = true) : eqV x y = PyData.eqv a.data b.data := by
  cases ra <;> first | (cases fa; done) | (cases rb <;> first | (cases fb; done) | (simp only [D.data, PyData.eqv, eqV]; done) | skip)
theorem any_rep {ι : List Addr} {H : Hp} {a : D} {x : V} (ra : Rep C ι H a x) (fa : isFlat a = true) : ∀ {ds : List D} {vs : List V}, Reps C ι H ds vs → ds.all isFlat = true → inV x vs = ds.any fun d => PyData.eqv d.data a.data
  | _, _, .nil, _ => rfl
  | _, _, .cons b r, f => by
    rw [List.all_cons, Bool.and_eq_true] at f
    unfold inV
    rw [List.any_cons, List.any_cons, eqV_rep b ra f.1 fa]
    exact congrArg _ (any_rep ra fa r f.2)
theorem o_in {neg : Bool} {op : CmpOp} (hK : X.K = C.K) (hop : (op = .In ∧ neg = false) ∨ (op = .NotIn ∧ neg = true)) : OpR X (compareOp op) (rd2 C (dIn neg)) := by
  intro pins s σ H x y v u Q I rx ry ⟨Wx, ι, M, a, b, R, ra, rb, h⟩
  unfold dIn at h
  split at h
  · rename_i r e
    have q := h.here R _ (.bl _)
    clear h
    unfold inD at e
    split at e
    · cases ra; cases rb
      cases e
      rcases hop with ⟨rfl, rfl⟩ | ⟨rfl, rfl⟩
      · exact op_in_str pins s σ H _ _ v u Q I rx ry ⟨_, _, rfl, rfl, by simpa using q⟩
      · exact L2.op_notIn_str pins s σ H _ _ v u Q I rx ry ⟨_, _, rfl, rfl, by simpa using q⟩
    · split at e
      · rename_i xs hi
        split at e
        · rename_i hf
          cases e
          rw [Bool.and_eq_true] at hf
          obtain ⟨p, vs, rfl, hq, rs⟩ := R.items rb hi
          have e2 := any_rep ra hf.1 rs hf.2
          rcases hop with ⟨rfl, rfl⟩ | ⟨rfl, rfl⟩
          · refine op_in_seq pins s σ H _ _ v u Q I rx ry ⟨_, _, rfl, by rw [hK]; exact hq, flat_rep ra hf.1, flat_all rs hf.2, ?_⟩
            simp only [Bool.false_eq_true, if_false]
            rw [e2]
            simpa using q
          · refine op_notIn_seq pins s σ H _ _ v u Q I rx ry ⟨_, _, rfl, by rw [hK]; exact hq, flat_rep ra hf.1, flat_all rs hf.2, ?_⟩
            simp only [if_true]
            rw [e2]
            simpa using q
        · cases e
      · cases e
  · exact h.elim
end
end PyL

set_option maxHeartbeats 4000000
namespace PyL
open PySem PySem.Spec PyProof.Rows L2
/-! ### tuple * int, the other cases -/
theorem tuple_mulA (l : Addr) (items : Array Value) (n : Nat) (dd : Option Addr) (sl : Array (Option Value)) (x : Int) (u : Tok) (c0 : (decide (x < -(2 ^ 63)) || decide (x ≥ 2 ^ 63)) = false) (c1 : (items.isEmpty || x == 1) = true) :
    Meets (Builtin.«tuple.__mul__» ⟨[.ref l, .int x u], []⟩) (fun _ R s => s.heap.get? l = some { cls := .type "tuple", dict := dd, data := .seq items n, slots := sl } ∧
      R (.ok (.ret (Value.ref l))) s) :=
  .of_wp fun prog w A R s h => by
    obtain ⟨hp, g, d, tk, os⟩ := s
    obtain ⟨hl, h⟩ := h
    have f1 := AutoSeq1.idx_int
    wp_walk using wpAny_loadPart' hl
    repeat (first
      | (refine wpAny_ite_false (decide_eq_false (by rw [c0]; exact Bool.false_ne_true)) ?_; wp_walk using wpAny_loadPart' hl)
      | (refine wpAny_ite_true (decide_eq_true c1) ?_; wp_walk using wpAny_loadPart' hl))
    exact ⟨_, rfl, h⟩
theorem tuple_mulB (l : Addr) (items : Array Value) (n : Nat) (dd : Option Addr) (sl : Array (Option Value)) (x : Int) (u : Tok) (c0 : (decide (x < -(2 ^ 63)) || decide (x ≥ 2 ^ 63)) = false) (c1 : (items.isEmpty || x == 1) = false) (c2 : (decide (x ≤ 0) || items.isEmpty) = true) :
    Meets (Builtin.«tuple.__mul__» ⟨[.ref l, .int x u], []⟩) (fun _ R s => s.heap.get? l = some { cls := .type "tuple", dict := dd, data := .seq items n, slots := sl } ∧
      R (.ok (.ret (Value.ref s.heap.objs.size))) { s with heap := s.heap.push { cls := Value.type "tuple", data := Data.seq #[] }, toks := s.toks }) :=
  .of_wp fun prog w A R s h => by
    obtain ⟨hp, g, d, tk, os⟩ := s
    obtain ⟨hl, h⟩ := h
    have f1 := AutoSeq1.idx_int
    have hsz : (#[] : Array Value).size ≤ sizeLine := Nat.zero_le _
    wp_walk using wpAny_loadPart' hl
    repeat (first
      | (refine wpAny_ite_false (decide_eq_false (by rw [c0]; exact Bool.false_ne_true)) ?_; wp_walk using wpAny_loadPart' hl)
      | (refine wpAny_ite_false (decide_eq_false (by rw [c1]; exact Bool.false_ne_true)) ?_; wp_walk using wpAny_loadPart' hl)
      | (refine wpAny_ite_true (decide_eq_true c2) ?_; wp_walk using wpAny_loadPart' hl)
      | (refine wpAny_ite_false (decide_eq_false (Nat.not_lt.mpr hsz)) ?_; wp_walk using wpAny_loadPart' hl))
    exact ⟨_, rfl, h⟩
/-- t * k: t itself (k = 1, or t empty), nothing (k below 1) -/
def rRepU (K : PySem.W.Frag) : R2 := fun x y H Q => ∃ l k xs, x = .ref l ∧ y = .int k ∧ SqT K H l xs ∧ -(2 ^ 63) ≤ k ∧ k < 2 ^ 63 ∧
  ((xs = [] ∨ k = 1) → Q (.ref l) H) ∧ ((¬ (xs = [] ∨ k = 1)) → k ≤ 0 ∧ ∀ p, H p = none → Q (.ref p) (upd H p (.tup [])))
theorem op_repU {X : Cx} : OpR X (binaryOp .Mult) (rRepU X.K) := by
  intro pins s σ H x y v u Q I rx ry h
  obtain ⟨l, k, xs, rfl, rfl, hT, h1, h2, qa, qb⟩ := h
  cases rx
  obtain ⟨t, rfl⟩ := ry
  obtain ⟨its, r, ⟨⟨cls, dd, data, sl⟩, ho, hc, n, hd⟩, hs⟩ := I.tuple hT
  simp only at hc hd
  subst hc hd
  have c0 : (decide (k < -(2 ^ 63)) || decide (k ≥ 2 ^ 63)) = false := by
    rw [decide_eq_false (by omega), decide_eq_false (by omega)] <;> rfl
  have hn : its = [] ↔ xs = [] := Vals.nil_iff r
  have he : its.toArray.isEmpty = decide (its = []) := by
    cases its <;> simp
  have go : ∀ {m : Sem Value} (_ : True), wpAny (model X.prog X.w) X.A (call (.builtin "tuple.__mul__") [.ref l, .int k t]) (EP X pins σ Q) X.xe s →
      wpAny (model X.prog X.w) X.A (binaryOp .Mult (.ref l) (.int k t)) (EP X pins σ Q) X.xe s := fun _ hh =>
    wpAny_binaryOp_repeat_ref (T := "tuple") (U := "int") (by decide) ⟨_, ho, rfl⟩ (fun s' => typeIs_int s' k t) noFill_tuple_mul F.fills_int_mul F.slot_int_rmul repeat_tuple F.slot_int_index.lookup
      (call_meets F.slot_int_rmul (typeIs_int s k t) F.entry_int_rmul (F.args_int_rmul_2 _ _) (int_rmul_tuple k t l its.toArray n dd sl)
        ⟨ho, rfl, ⟨_, ho, rfl⟩, hh⟩)
  refine go (m := pure .none) trivial ?_
  by_cases hx : xs = [] ∨ k = 1
  · have c1 : (its.toArray.isEmpty || k == 1) = true := by
      rw [he]
      rcases hx with hx | hx
      · rw [decide_eq_true (hn.mpr hx)]; rfl
      · rw [hx]; simp
    exact call_meets F.slot_tuple_mul ⟨_, ho, rfl⟩ F.entry_tuple_mul (F.args_tuple_mul_2 _ _) (tuple_mulA l its.toArray n dd sl k t c0 c1) ⟨ho, ⟨.ref l, H, I, rfl, qa hx⟩⟩
  · obtain ⟨hk, q⟩ := qb hx
    have c1 : (its.toArray.isEmpty || k == 1) = false := by
      rw [he, decide_eq_false (fun z => hx (.inl (hn.mp z)))]
      simp only [Bool.false_or]
      exact beq_eq_false_iff_ne.mpr fun z => hx (.inr z)
    have c2 : (decide (k ≤ 0) || its.toArray.isEmpty) = true := by
      rw [decide_eq_true hk]; rfl
    refine call_meets F.slot_tuple_mul ⟨_, ho, rfl⟩ F.entry_tuple_mul (F.args_tuple_mul_2 _ _) (tuple_mulB l its.toArray n dd sl k t c0 c1 c2) ⟨ho, ?_⟩
    refine ⟨.ref s.heap.objs.size, _, I.laid (t' := s.toks) (o := .tup []) (fun b ob q => Heap.get?_push_of_some _ q) (Nat.le_refl _) ?_, rfl, q _ (I.hok.fresh (Nat.le_refl _))⟩
    exact ⟨Nat.zero_le _, [], .nil, IsTup.new _ _⟩

theorem rep_size (a : Array Nat) : ∀ (m : Nat) (acc : Array Nat), ((List.replicate m a).foldl (· ++ ·) acc).size = acc.size + m * a.size
  | 0, acc => by simp
  | m + 1, acc => by
    rw [List.replicate_succ, List.foldl_cons, rep_size a m, Array.size_append, Nat.succ_mul]
    omega
theorem op_repS {X : Cx} : OpR X (binaryOp .Mult) (fun x y H Q => ∃ (z : Str) (k : Int), x = .str z ∧ y = .int k ∧ 2 ≤ k ∧ k ≤ 1000 ∧ 1 ≤ z.length ∧ z.length ≤ 1000 ∧ Q (.str ⟨(List.replicate k.toNat z.cps).foldl (· ++ ·) #[]⟩) H) := by
  intro pins s σ H x y v u Q I rx ry h
  obtain ⟨z, k, rfl, rfl, h1, h2, h3, h4, q⟩ := h
  obtain ⟨t, rfl⟩ := rx
  obtain ⟨t', rfl⟩ := ry
  have hm : ((z.length : Nat) : Int) * k ≤ 1000000 := by
    have a1 : ((z.length : Nat) : Int) * k ≤ 1000 * k := Int.mul_le_mul_of_nonneg_right (by omega) (by omega)
    omega
  have hk : ((k.toNat : Nat) : Int) = k := by omega
  have hm2 : z.length * k.toNat ≤ 1000000 := by
    have : (((z.length * k.toNat : Nat)) : Int) ≤ 1000000 := by rw [Int.natCast_mul, hk]; exact hm
    omega
  have c : (k == 1 || z.length == 0) = false := by
    rw [beq_eq_false_iff_ne.mpr (show k ≠ 1 by omega), beq_eq_false_iff_ne.mpr (show z.length ≠ 0 by omega)]; rfl
  refine PySem.P.mul_str ?_ (fun _ _ => ?_) (fun _ _ => ?_) ?_
  · rw [decide_eq_false (by omega), decide_eq_false (by omega)]; rfl
  · have : (1000 : Int) ≤ (2 ^ 63 - 1) / k := by
      rw [Int.le_ediv_iff_mul_le (by omega)]
      omega
    omega
  · unfold Builtin.Str.tooLong
    rw [sizeLine_eq]
    exact decide_eq_false (by omega)
  · rw [if_neg (by omega), if_neg (by rw [c]; exact Bool.false_ne_true)]
    refine ⟨?_, ⟨.str _, H, I.tok _, ⟨_, rfl⟩, q⟩⟩
    show _ ≤ sizeLine
    have := rep_size z.cps k.toNat #[]
    simp only [Str.length, Array.size_empty, Nat.zero_add] at this hm2 ⊢
    rw [this, sizeLine_eq, Nat.mul_comm]
    omega
section
variable {C : Con} {X : Cx}
theorem o_mul (hK : X.K = C.K) : OpR X (binaryOp .Mult) (rd2 C dMul) := by
  intro pins s σ H x y v u Q I rx ry ⟨Wx, ι, M, a, b, R, ra, rb, h⟩
  unfold dMul at h
  split at h
  · cases ra; cases rb
    split at h
    · rename_i hz
      refine op_mul pins s σ H _ _ v u Q I rx ry ⟨_, _, rfl, rfl, ?_, h.here R _ (.int _)⟩
      unfold CMul
      omega
    · exact h.elim
  · cases ra; cases rb
    split at h
    · rename_i hz
      exact op_repS pins s σ H _ _ v u Q I rx ry ⟨_, _, rfl, rfl, hz.1, hz.2.1, hz.2.2.1, hz.2.2.2, h.here R _ (.str _)⟩
    · exact h.elim
  · rename_i xs j
    cases ra with | tup q1 r1 =>
    cases rb
    split at h
    · rename_i hz
      obtain ⟨h1, h2, h3⟩ := hz
      by_cases hc : xs = [] ∨ j = 1
      · refine op_repU pins s σ H _ _ v u Q I rx ry ⟨_, _, _, rfl, rfl, by rw [hK]; exact q1, by omega, by omega, fun _ => ?_, fun z => ?_⟩
        · have e : (List.replicate j.toNat xs).flatten = xs := by
            rcases hc with hc | hc
            · subst hc; simp
            · subst hc; simp
          rw [e] at h
          exact h.here R _ (.tup q1 r1)
        · refine absurd (hc.imp (fun e => ?_) fun e => e) z
          subst e
          cases r1
          rfl
      · by_cases h0 : j ≤ 0
        · refine op_repU pins s σ H _ _ v u Q I rx ry ⟨_, _, _, rfl, rfl, by rw [hK]; exact q1, by omega, by omega, fun z => ?_, fun _ => ⟨h0, fun p hp => ?_⟩⟩
          · refine absurd (z.imp (fun e => ?_) fun e => e) hc
            subst e
            cases r1
            rfl
          · have e : (List.replicate j.toNat xs).flatten = [] := by
              rw [show j.toNat = 0 by omega]; rfl
            rw [e] at h
            exact h ι _ (ext_new hp) (R.new hp) _ (.tup (.inl (.inl upd_same)) .nil)
        · refine op_repT pins s σ H _ _ v u Q I rx ry ⟨_, _, _, rfl, rfl, by rw [hK]; exact q1, fun e => ?_, by omega, h2, by rw [← r1.length]; exact h3, fun p hp => ?_⟩
          · subst e
            cases r1
            exact hc (.inl rfl)
          · exact h ι _ (ext_new hp) (R.new hp) _ (.tup (.inl (.inl upd_same)) ((r1.rep _).ext (ext_new hp)))
    · exact h.elim
  · split at h
    · rename_i xs e1
      cases rb
      split at h
      · rename_i hz
        obtain ⟨p, vs, rfl, hp, hl, rs⟩ := R.lst ra (lstAt_of e1)
        refine op_rep pins s σ H _ _ v u Q I rx ry ⟨_, _, _, rfl, rfl, hl, by omega, by omega, by rw [← rs.length]; exact hz.2.2, fun q hq => ?_⟩
        exact h _ _ (ext_push hq) (R.push hq (.lst (rs.rep _))) _ (rep_push R)
      · exact h.elim
    · exact h.elim
  · exact h.elim
end
end PyL

set_option maxHeartbeats 4000000
namespace PyL
open PySem PySem.Spec PyProof.Rows L2
/-- a built-in on values -/
def rdB (C : Con) (p : List D → Sto → Out D) : List V → Hp → VK → Prop := fun vs H Q => ∃ (Wx : XK) (ι : List Addr) (M : Sto) (ds : List D), Rel C ι H M ∧ Reps C ι H ds vs ∧ Post C ι H Wx (p ds M) fun d _ ι' H' => ∀ v, Rep C ι' H' d v → Q v H'
/-- a list of these items -/
def SqS (C : Con) (ι : List Addr) (H : Hp) (ds : List D) (v : V) : Prop := ∃ a vs, v = .ref a ∧ SqL C.K H a vs ∧ Reps C ι H ds vs
theorem SqS.sq {C : Con} {ι : List Addr} {H : Hp} {ds : List D} {v : V} (h : SqS C ι H ds v) : Sq C ι H ds v := by
  obtain ⟨a, vs, e, h, r⟩ := h
  exact ⟨a, vs, e, .inl h, r⟩
/-- a built-in on one thing that is gone through -/
def rdQ (C : Con) (p : List D → Sto → Out D) : List V → Hp → VK → Prop := fun vs H Q => ∃ (Wx : XK) (ι : List Addr) (M : Sto) (ds : List D) (v : V), vs = [v] ∧ Rel C ι H M ∧ Sq C ι H ds v ∧ Post C ι H Wx (p ds M) fun d _ ι' H' => ∀ v, Rep C ι' H' d v → Q v H'
def rdQS (C : Con) (p : List D → Sto → Out D) : List V → Hp → VK → Prop := fun vs H Q => ∃ (Wx : XK) (ι : List Addr) (M : Sto) (ds : List D) (v : V), vs = [v] ∧ Rel C ι H M ∧ SqS C ι H ds v ∧ Post C ι H Wx (p ds M) fun d _ ι' H' => ∀ v, Rep C ι' H' d v → Q v H'
section
variable {C : Con} {X : Cx}
theorem o_neg : UnR X (unaryOp .USub) (fun x H Q => ∃ (Wx : XK) (ι : List Addr) (M : Sto) (a : D), Rel C ι H M ∧ Rep C ι H a x ∧ Post C ι H Wx (P1.den .neg a M) fun d _ ι' H' => ∀ v, Rep C ι' H' d v → Q v H') := by
  intro pins s σ H x v Q I rx ⟨Wx, ι, M, a, R, ra, h⟩
  cases a with
  | int i =>
    cases ra
    exact un_neg pins s σ H _ v Q I rx ⟨_, rfl, h.here R _ (.int _)⟩
  | _ => exact h.elim
theorem rep1 {ι : List Addr} {H : Hp} {d : D} {vs : List V} (r : Reps C ι H [d] vs) : ∃ v, vs = [v] ∧ Rep C ι H d v := by
  cases r with
  | cons a b => cases b; exact ⟨_, rfl, a⟩
theorem rep2 {ι : List Addr} {H : Hp} {d e : D} {vs : List V} (r : Reps C ι H [d, e] vs) : ∃ v u, vs = [v, u] ∧ Rep C ι H d v ∧ Rep C ι H e u := by
  cases r with
  | cons a b =>
    cases b with
    | cons b c => cases c; exact ⟨_, _, rfl, a, b⟩
theorem c_len (hK : X.K = C.K) : CallR X (.builtin "len") (rdB C bLen) := by
  intro pins s σ H xs us Q I r ⟨Wx, ι, M, ds, R, rs, h⟩
  unfold bLen at h
  split at h
  · rename_i d
    obtain ⟨v, rfl, rd⟩ := rep1 rs
    cases e : lenD M d with
    | none => rw [e] at h; exact h.elim
    | some n =>
      rw [e] at h
      have q := h.here R _ (.int _)
      cases d with
      | str z =>
        cases rd
        simp only [lenD] at e
        split at e
        · rename_i hz
          cases e
          exact call_len pins s σ H _ us Q I r ⟨_, _, rfl, ⟨hz, rfl⟩, q⟩
        · cases e
      | tup ds =>
        cases rd with | tup hq rs2 =>
        cases e
        rw [rs2.length] at q
        exact call_len pins s σ H _ us Q I r ⟨_, _, rfl, .inr ⟨_, by rw [hK]; exact hq, rfl⟩, q⟩
      | ref k =>
        have key : ∀ ds, listAt M k = some ds → n = ds.length → wpAny (model X.prog X.w) X.A (call (.builtin "len") us) (EP X pins σ Q) X.xe s := fun ds e2 en => by
          obtain ⟨p, vs, rfl, _, hq, rs2⟩ := R.list rd e2
          rw [en, rs2.length] at q
          exact call_len pins s σ H _ us Q I r ⟨_, _, rfl, .inl ⟨_, by rw [hK]; exact hq, rfl⟩, q⟩
        simp only [lenD] at e
        split at e
        · rename_i xs hx
          cases e
          exact key xs (by unfold listAt; rw [hx]) rfl
        · rename_i xs hx
          cases e
          exact key xs (by unfold listAt; rw [hx]) rfl
        · rename_i kvs hx
          cases rd with | ref hι =>
          obtain ⟨u, hu, ru⟩ := R.obj _ _ _ hι hx
          cases e
          cases ru with
          | dK rr =>
            rw [rr.length] at q
            exact call_lenD pins s σ H _ us Q I r ⟨_, _, rfl, hu, q⟩
          | dT rr =>
            rw [rr.length] at q
            exact call_len_dT pins s σ H _ us Q I r ⟨_, _, rfl, hu, q⟩
        · cases e
      | _ => cases e
  · exact h.elim
theorem c_int : CallR X (.type "int") (rdB C bInt) := by
  intro pins s σ H xs us Q I r ⟨Wx, ι, M, ds, R, rs, h⟩
  unfold bInt at h
  split at h
  · obtain ⟨v, rfl, rd⟩ := rep1 rs
    cases rd
    exact call_int1 pins s σ H _ us Q I r (.inl ⟨_, rfl, h.here R _ (.int _)⟩)
  · obtain ⟨v, rfl, rd⟩ := rep1 rs
    cases rd
    exact call_int1 pins s σ H _ us Q I r (.inr ⟨_, rfl, h.here R _ (.int _)⟩)
  · exact h.elim
theorem c_abs : CallR X (.builtin "abs") (rdB C bAbs) := by
  intro pins s σ H xs us Q I r ⟨Wx, ι, M, ds, R, rs, h⟩
  unfold bAbs at h
  split at h
  · obtain ⟨v, rfl, rd⟩ := rep1 rs
    cases rd
    exact call_abs pins s σ H _ us Q I r ⟨_, rfl, h.here R _ (.int _)⟩
  · exact h.elim
theorem c_max2 (hc : X.calm = true) : CallR X (.builtin "max") (rdB C bMax) := by
  intro pins s σ H xs us Q I r ⟨Wx, ι, M, ds, R, rs, h⟩
  unfold bMax at h
  split at h
  · obtain ⟨v, u, rfl, rd, rd2⟩ := rep2 rs
    cases rd; cases rd2
    exact call_max2 hc pins s σ H _ us Q I r ⟨_, _, rfl, h.here R _ (.int _)⟩
  · exact h.elim
theorem c_min2 (hc : X.calm = true) : CallR X (.builtin "min") (rdB C bMin) := by
  intro pins s σ H xs us Q I r ⟨Wx, ι, M, ds, R, rs, h⟩
  unfold bMin at h
  split at h
  · obtain ⟨v, u, rfl, rd, rd2⟩ := rep2 rs
    cases rd; cases rd2
    exact call_min2 hc pins s σ H _ us Q I r ⟨_, _, rfl, h.here R _ (.int _)⟩
  · exact h.elim
theorem c_bool : CallR X (.type "bool") (rdB C bBool) := by
  intro pins s σ H xs us Q I r ⟨Wx, ι, M, ds, R, rs, h⟩
  unfold bBool at h
  split at h
  · obtain ⟨v, rfl, rd⟩ := rep1 rs
    cases rd
    exact call_bool1 pins s σ H _ us Q I r (.inl ⟨_, rfl, h.here R _ (.bl _)⟩)
  · obtain ⟨v, rfl, rd⟩ := rep1 rs
    cases rd
    exact call_bool1 pins s σ H _ us Q I r (.inr ⟨_, rfl, h.here R _ (.bl _)⟩)
  · exact h.elim
theorem c_str : CallR X (.type "str") (rdB C bStr) := by
  intro pins s σ H xs us Q I r ⟨Wx, ι, M, ds, R, rs, h⟩
  unfold bStr at h
  split at h
  · obtain ⟨v, rfl, rd⟩ := rep1 rs
    cases rd
    split at h
    · rename_i hz
      exact call_str_int pins s σ H _ us Q I r ⟨_, rfl, hz, h.here R _ (.str _)⟩
    · exact h.elim
  · exact h.elim
theorem c_repr : CallR X (.builtin "repr") (rdB C bRepr) := by
  intro pins s σ H xs us Q I r ⟨Wx, ι, M, ds, R, rs, h⟩
  unfold bRepr at h
  split at h
  · obtain ⟨v, rfl, rd⟩ := rep1 rs
    cases rd
    obtain ⟨u, rfl, r1⟩ := vals1 r
    cases (show u = Value.bool _ from r1)
    exact PySem.P.repr_of_bool ⟨.str _, H, I.tok _, ⟨_, rfl⟩, h.here R _ (.str _)⟩
  · exact h.elim
/-! ### of what is gone through -/
theorem q_tuple (hK : X.K = C.K) : CallR X (.type "tuple") (rdQ C (BL.den .tuple)) := by
  intro pins s σ H xs us Q I r hh
  obtain ⟨Wx, ι, M, ds, v, rfl, R, ⟨a, vs, rfl, hq, rs⟩, h⟩ := hh
  refine call_tuple_of pins s σ H _ us Q I r ⟨a, vs, rfl, ?_⟩
  rcases hq with hq | hq
  · refine .inl ⟨by rw [hK]; exact hq, fun l hl => ?_⟩
    exact h ι _ (ext_new hl) (R.new hl) _ (.tup (.inl (.inl upd_same)) (rs.ext (ext_new hl)))
  · exact .inr ⟨by rw [hK]; exact hq, h.here R _ (.tup hq rs)⟩
theorem q_list (hK : X.K = C.K) : CallR X (.type "list") (rdQ C (BL.den .list)) := by
  intro pins s σ H xs us Q I r hh
  obtain ⟨Wx, ι, M, ds, v, rfl, R, ⟨a, vs, rfl, hq, rs⟩, h⟩ := hh
  refine call_list_of pins s σ H _ us Q I r ⟨a, vs, rfl, by rw [hK]; exact hq, fun l hl => ?_⟩
  exact h _ _ (ext_push hl) (R.push hl (.lst rs)) _ (rep_push R)
theorem q_len (hK : X.K = C.K) : CallR X (.builtin "len") (rdQ C (BL.den .len)) := by
  intro pins s σ H xs us Q I r hh
  obtain ⟨Wx, ι, M, ds, v, rfl, R, ⟨a, vs, rfl, hq, rs⟩, h⟩ := hh
  refine call_len_seq pins s σ H _ us Q I r ⟨a, vs, rfl, by rw [hK]; exact hq, ?_⟩
  rw [← rs.length]
  exact h.here R _ (.int _)
theorem bls_rep {ι : List Addr} {H : Hp} : ∀ {ds : List D} {vs : List V} {bs : List Bool}, Reps C ι H ds vs → allBl ds = some bs → vs = bs.map V.bl
  | _, _, _, .nil, e => by cases e; rfl
  | .bl b :: ds, _, bs, .cons a r, e => by
    cases a
    simp only [allBl, Option.map_eq_some_iff] at e
    obtain ⟨cs, e1, e2⟩ := e
    subst e2
    rw [bls_rep r e1]; rfl
  | .non :: _, _, _, .cons _ _, e => by simp [allBl] at e
  | .int _ :: _, _, _, .cons _ _, e => by simp [allBl] at e
  | .str _ :: _, _, _, .cons _ _, e => by simp [allBl] at e
  | .tup _ :: _, _, _, .cons _ _, e => by simp [allBl] at e
  | .ref _ :: _, _, _, .cons _ _, e => by simp [allBl] at e
  | .fn _ :: _, _, _, .cons _ _, e => by simp [allBl] at e
theorem ints_rep {ι : List Addr} {H : Hp} : ∀ {ds : List D} {vs : List V} {bs : List Int}, Reps C ι H ds vs → allInt ds = some bs → vs = bs.map V.int
  | _, _, _, .nil, e => by cases e; rfl
  | .int b :: ds, _, bs, .cons a r, e => by
    cases a
    simp only [allInt, Option.map_eq_some_iff] at e
    obtain ⟨cs, e1, e2⟩ := e
    subst e2
    rw [ints_rep r e1]; rfl
  | .non :: _, _, _, .cons _ _, e => by simp [allInt] at e
  | .bl _ :: _, _, _, .cons _ _, e => by simp [allInt] at e
  | .str _ :: _, _, _, .cons _ _, e => by simp [allInt] at e
  | .tup _ :: _, _, _, .cons _ _, e => by simp [allInt] at e
  | .ref _ :: _, _, _, .cons _ _, e => by simp [allInt] at e
  | .fn _ :: _, _, _, .cons _ _, e => by simp [allInt] at e
theorem strs_rep {ι : List Addr} {H : Hp} : ∀ {ds : List D} {vs : List V} {bs : List Str}, Reps C ι H ds vs → allStr ds = some bs → vs = bs.map V.str
  | _, _, _, .nil, e => by cases e; rfl
  | .str b :: ds, _, bs, .cons a r, e => by
    cases a
    simp only [allStr, Option.map_eq_some_iff] at e
    obtain ⟨cs, e1, e2⟩ := e
    subst e2
    rw [strs_rep r e1]; rfl
  | .non :: _, _, _, .cons _ _, e => by simp [allStr] at e
  | .bl _ :: _, _, _, .cons _ _, e => by simp [allStr] at e
  | .int _ :: _, _, _, .cons _ _, e => by simp [allStr] at e
  | .tup _ :: _, _, _, .cons _ _, e => by simp [allStr] at e
  | .ref _ :: _, _, _, .cons _ _, e => by simp [allStr] at e
  | .fn _ :: _, _, _, .cons _ _, e => by simp [allStr] at e
theorem q_all (hK : X.K = C.K) (hc : X.calm = true) : CallR X (.builtin "all") (rdQS C (BL.den .all)) := by
  intro pins s σ H xs us Q I r hh
  obtain ⟨Wx, ι, M, ds, v, rfl, R, ⟨a, vs, rfl, hq, rs⟩, h⟩ := hh
  simp only [BL.den] at h
  split at h
  · rename_i bs e
    have e2 := bls_rep rs e
    subst e2
    exact cr_all hc pins s σ H _ us Q I r ⟨a, bs, rfl, by rw [hK]; exact hq, h.here R _ (.bl _)⟩
  · exact h.elim
theorem q_any (hK : X.K = C.K) (hc : X.calm = true) : CallR X (.builtin "any") (rdQS C (BL.den .any)) := by
  intro pins s σ H xs us Q I r hh
  obtain ⟨Wx, ι, M, ds, v, rfl, R, ⟨a, vs, rfl, hq, rs⟩, h⟩ := hh
  simp only [BL.den] at h
  split at h
  · rename_i bs e
    have e2 := bls_rep rs e
    subst e2
    exact cr_any hc pins s σ H _ us Q I r ⟨a, bs, rfl, by rw [hK]; exact hq, h.here R _ (.bl _)⟩
  · exact h.elim
theorem q_sum (hK : X.K = C.K) (hc : X.calm = true) : CallR X (.builtin "sum") (rdQS C (BL.den .sum)) := by
  intro pins s σ H xs us Q I r hh
  obtain ⟨Wx, ι, M, ds, v, rfl, R, ⟨a, vs, rfl, hq, rs⟩, h⟩ := hh
  simp only [BL.den] at h
  split at h
  · rename_i bs e
    have e2 := ints_rep rs e
    subst e2
    exact cr_sum hc pins s σ H _ us Q I r ⟨a, bs, rfl, by rw [hK]; exact hq, h.here R _ (.int _)⟩
  · exact h.elim
/-! ### isinstance -/
theorem rep_ty {ι : List Addr} {H : Hp} {M : Sto} {d : D} {v : V} (hK : X.K = C.K) (R : Rel C ι H M) (r : Rep C ι H d v) {t : Ty} {b : Bool} (e : tyIs M d t = some b) :
    ∃ T : String, TyX X.K H v (.type T) ∧ ∀ t b, isOwn t = false → tyIs M d t = some b → kitB T (tyName t) = some b := by
  cases d with
  | non => cases r; refine ⟨"NoneType", .base .non, fun t b ho e => ?_⟩; cases t <;> first | cases ho; done | (cases e; decide +kernel)
  | bl x => cases r; refine ⟨"bool", .base (.bl x), fun t b ho e => ?_⟩; cases t <;> first | cases ho; done | (cases e; decide +kernel)
  | int x => cases r; refine ⟨"int", .base (.int x), fun t b ho e => ?_⟩; cases t <;> first | cases ho; done | (cases e; decide +kernel)
  | str x => cases r; refine ⟨"str", .base (.str x), fun t b ho e => ?_⟩; cases t <;> first | cases ho; done | (cases e; decide +kernel)
  | tup xs =>
    cases r with | tup q rs =>
    refine ⟨"tuple", ?_, fun t b ho e => ?_⟩
    · rcases q with (q | ⟨o, q⟩) | ⟨o, its, n, q, c, _⟩
      · exact .base (.tup q)
      · exact .fTuple q
      · exact .kTuple (by rw [hK]; exact q) c
    · cases t <;> first | cases ho; done | (cases e; decide +kernel)
  | ref n =>
    cases r with | ref hι =>
    simp only [tyIs] at e ⊢
    split at e
    · rename_i xs hx
      obtain ⟨u, hu, ru⟩ := R.obj _ _ _ hι hx
      cases ru
      refine ⟨"list", .base (.lst hu), fun t b ho e => ?_⟩
      cases t <;> first | cases ho; done | (cases e; decide +kernel)
    · rename_i xs hx
      obtain ⟨u, hu, ru⟩ := R.obj _ _ _ hι hx
      cases ru
      refine ⟨"list", .base (.frz hu), fun t b ho e => ?_⟩
      cases t <;> first | cases ho; done | (cases e; decide +kernel)
    · rename_i xs hx
      obtain ⟨u, hu, ru⟩ := R.obj _ _ _ hι hx
      cases ru with
      | dK _ =>
        refine ⟨"dict", .base (.dK hu), fun t b ho e => ?_⟩
        cases t <;> first | cases ho; done | (cases e; decide +kernel)
      | dT _ =>
        refine ⟨"dict", .base (.dT hu), fun t b ho e => ?_⟩
        cases t <;> first | cases ho; done | (cases e; decide +kernel)
    · rename_i xs hx
      obtain ⟨u, hu, ru⟩ := R.obj _ _ _ hι hx
      cases ru
    · cases e
  | fn k => cases e
  | kl k => cases e
theorem kit_any {K : PySem.W.Frag} {M : Sto} {d : D} {T : String} (h : ∀ t b, isOwn t = false → tyIs M d t = some b → kitB T (tyName t) = some b) :
    ∀ (ts : List Ty) (b : Bool), (ts.all fun t => !isOwn t) = true → tysIs M d ts = some b → PySem.W.kitAny K (.type T) (ts.map fun t => .type (tyName t)) = some b
  | [], b, _, e => e
  | t :: ts, b, ho, e => by
    rw [List.all_cons, Bool.and_eq_true] at ho
    have ho1 : isOwn t = false := by simpa using ho.1
    simp only [tysIs] at e
    rw [List.map_cons]
    split at e
    · rename_i q
      cases e
      exact kitAny_cons (b := true) (kit_ty (h t _ ho1 q)) (fun z => nomatch z) (fun _ => rfl)
    · rename_i q
      exact kitAny_cons (b := false) (kit_ty (h t _ ho1 q)) (fun _ => kit_any h ts b ho.2 e) (fun z => nomatch z)
    · cases e
end
end PyL

set_option maxHeartbeats 4000000
namespace PyL
open PySem PySem.Spec PyProof.Rows L2
/-- a method by data -/
def rdM (C : Con) (p : D → List D → Sto → Out D) : V → List V → Hp → VK → Prop := fun x xs H Q => ∃ (Wx : XK) (ι : List Addr) (M : Sto) (a : D) (ds : List D), Rel C ι H M ∧ Rep C ι H a x ∧ Reps C ι H ds xs ∧ Post C ι H Wx (p a ds M) fun d _ ι' H' => ∀ v, Rep C ι' H' d v → Q v H'
/-- a list that may be written -/
def SqW (C : Con) (ι : List Addr) (H : Hp) (ds : List D) (v : V) : Prop := ∃ a vs, v = .ref a ∧ H a = some (.lst vs) ∧ Reps C ι H ds vs
/-- a list that nothing of the store tells -/
def SqF (C : Con) (ι : List Addr) (H : Hp) (ds : List D) (v : V) : Prop := ∃ a vs, v = .ref a ∧ H a = some (.lst vs) ∧ a ∉ ι ∧ Reps C ι H ds vs
theorem SqF.w {C : Con} {ι : List Addr} {H : Hp} {ds : List D} {v : V} (h : SqF C ι H ds v) : SqW C ι H ds v := by
  obtain ⟨a, vs, e, h, _, r⟩ := h
  exact ⟨a, vs, e, h, r⟩
theorem SqW.s {C : Con} {ι : List Addr} {H : Hp} {ds : List D} {v : V} (h : SqW C ι H ds v) : SqS C ι H ds v := by
  obtain ⟨a, vs, e, h, r⟩ := h
  exact ⟨a, vs, e, .inl (.inl h), r⟩
def rdML (C : Con) (p : D → List D → Sto → Out D) : V → List V → Hp → VK → Prop := fun x xs H Q => ∃ (Wx : XK) (ι : List Addr) (M : Sto) (a : D) (ds : List D) (v : V), xs = [v] ∧ Rel C ι H M ∧ Rep C ι H a x ∧ SqW C ι H ds v ∧ Post C ι H Wx (p a ds M) fun d _ ι' H' => ∀ v, Rep C ι' H' d v → Q v H'
def rdMQ (C : Con) (p : D → List D → Sto → Out D) : V → List V → Hp → VK → Prop := fun x xs H Q => ∃ (Wx : XK) (ι : List Addr) (M : Sto) (a : D) (ds : List D) (v : V), xs = [v] ∧ Rel C ι H M ∧ Rep C ι H a x ∧ Sq C ι H ds v ∧ Post C ι H Wx (p a ds M) fun d _ ι' H' => ∀ v, Rep C ι' H' d v → Q v H'
section
variable {C : Con} {X : Cx}
theorem mem_of_at {ι : List Addr} {n : Nat} {p : Addr} (h : ι[n]? = some p) : p ∈ ι := List.mem_of_getElem? h
theorem ext_lst {ι : List Addr} {H : Hp} {M : Sto} {n : Nat} {p : Addr} {vs : List V} {o : HO} (R : Rel C ι H M) (hn : ι[n]? = some p) (h : H p = some (.lst vs)) : Ext C ι H ι (upd H p o) :=
  ext_set R (mem_of_at hn) h (fun _ z => by cases z) (fun _ _ z => by cases z)
theorem m_append : MtR X "list.append" (rdM C mAppend) := by
  intro pins s σ H x xs v us Q I rx rv ⟨Wx, ι, M, a, ds, R, ra, rs, h⟩
  unfold mAppend at h
  split at h
  · split at h
    · rename_i xs e
      split at h
      · rename_i hz
        obtain ⟨p, vs, rfl, hn, hp, rl⟩ := R.lst ra (lstAt_of e)
        obtain ⟨y, rfl, ry⟩ := rep1 rs
        have e1 : Ext C ι H ι (upd H p (.lst (vs ++ [y]))) := ext_lst R hn hp
        refine mt_append pins s σ H _ _ v us Q I rx rv ⟨p, vs, y, rfl, rfl, hp, by rw [← rl.length]; exact hz, ?_⟩
        exact h ι _ e1 (R.set hn e1 (.lst (rl.append (.cons ry .nil)))) _ .non
      · exact h.elim
    · exact h.elim
  · exact h.elim
theorem m_pop : MtR X "list.pop" (rdM C mPop) := by
  intro pins s σ H x xs v us Q I rx rv ⟨Wx, ι, M, a, ds, R, ra, rs, h⟩
  unfold mPop at h
  split at h
  · split at h
    · rename_i xs e
      split at h
      · rename_i d ed
        obtain ⟨p, vs, rfl, hn, hp, rl⟩ := R.lst ra (lstAt_of e)
        cases rs
        have e1 : Ext C ι H ι (upd H p (.lst vs.dropLast)) := ext_lst R hn hp
        obtain ⟨y, ey, ry⟩ := rl.get ed
        refine mt_pop pins s σ H _ _ v us Q I rx rv ⟨p, vs, y, rfl, rfl, hp, by rw [← rl.length]; exact ey, ?_⟩
        exact h ι _ e1 (R.set hn e1 (.lst rl.dropLast)) _ (ry.ext e1)
      · exact h.elim
    · exact h.elim
  · exact h.elim
theorem l_extend : MtR X "list.extend" (rdML C lExtend) := by
  intro pins s σ H x xs v us Q I rx rv hh
  obtain ⟨Wx, ι, M, a, ds, w, rfl, R, ra, ⟨b, zs, rfl, hb, rz⟩, h⟩ := hh
  unfold lExtend at h
  split at h
  · split at h
    · rename_i xs e
      split at h
      · rename_i hz
        obtain ⟨p, vs, rfl, hn, hp, rl⟩ := R.lst ra (lstAt_of e)
        have e1 : Ext C ι H ι (upd H p (.lst (vs ++ zs))) := ext_lst R hn hp
        refine mt_extend pins s σ H _ _ v us Q I rx rv ⟨p, b, vs, zs, rfl, rfl, hp, hb, by rw [← rl.length, ← rz.length]; exact hz, ?_⟩
        exact h ι _ e1 (R.set hn e1 (.lst (rl.append rz))) _ .non
      · exact h.elim
    · exact h.elim
  · exact h.elim
theorem l_join (hK : X.K = C.K) : MtR X "str.join" (rdMQ C lJoin) := by
  intro pins s σ H x xs v us Q I rx rv hh
  obtain ⟨Wx, ι, M, a, ds, w, rfl, R, ra, ⟨b, zs, rfl, hb, rz⟩, h⟩ := hh
  unfold lJoin at h
  split at h
  · split at h
    · rename_i ts e
      split at h
      · rename_i hz
        cases ra
        have e2 := strs_rep rz e
        subst e2
        exact mt_join pins s σ H _ _ v us Q I rx rv ⟨_, b, ts, rfl, rfl, by rw [hK]; exact hb, hz, h.here R _ (.str _)⟩
      · exact h.elim
    · exact h.elim
  · exact h.elim
/-! ### items, slices -/
theorem atI_len {α β : Type} {xs : List α} {ys : List β} (hl : xs.length = ys.length) {i : Int} {x : α} (e : atI xs i = some x) : ∃ j : Nat, xs[j]? = some x ∧ ∀ y : β, ys[j]? = some y → atI ys i = some y := by
  unfold atI at e ⊢
  rw [← hl]
  cases q : ixN xs.length i with
  | none => rw [q] at e; cases e
  | some j => rw [q] at e; exact ⟨j, e, fun y h => h⟩
theorem x_ix (hK : X.K = C.K) : IxR X (rd2 C fun a b M => ixD M a b) := by
  intro value slice pins s σ H x y v u Q I rx ry ⟨Wx, ι, M, a, b, R, ra, rb, h⟩ hs
  have h : Post C ι H Wx (ixD M a b) _ := h
  unfold ixD at h
  split at h
  · cases rb
    split at h
    · cases ra
      split at h
      · rename_i hz
        split at h
        · rename_i c e
          exact ix_str value slice pins s σ H _ _ v u Q I rx ry ⟨_, _, _, rfl, rfl, hz, e, h.here R _ (.str _)⟩ hs
        · exact h.elim
      · exact h.elim
    · split at h
      · rename_i xs e1
        split at h
        · rename_i d e2
          obtain ⟨p, vs, rfl, hq, rs⟩ := R.items ra e1
          obtain ⟨j, e3, e4⟩ := atI_len rs.length e2
          obtain ⟨w, e5, rw5⟩ := rs.get e3
          rcases hq with hq | hq
          · exact ix_list value slice pins s σ H _ _ v u Q I rx ry ⟨p, vs, _, w, rfl, rfl, by rw [hK]; exact hq, e4 w e5, h.here R _ rw5⟩ hs
          · exact ix_tup value slice pins s σ H _ _ v u Q I rx ry ⟨p, vs, _, w, rfl, rfl, by rw [hK]; exact hq, e4 w e5, h.here R _ rw5⟩ hs
        · exact h.elim
      · exact h.elim
  · exact h.elim
def rdS (C : Con) : V → Option Int → Option Int → Hp → VK → Prop := fun x lo hi H Q => ∃ (Wx : XK) (ι : List Addr) (M : Sto) (a : D), Rel C ι H M ∧ Rep C ι H a x ∧ Post C ι H Wx (slD M a lo hi) fun d _ ι' H' => ∀ v, Rep C ι' H' d v → Q v H'
theorem x_sl (hK : X.K = C.K) : SlR X (rdS C) := by
  intro pins s σ H x v vl vu lo hi sl Q I rx hs pl pu ⟨Wx, ι, M, a, R, ra, h⟩
  unfold slD at h
  split at h
  · rename_i xs
    cases ra with | tup hq rs =>
    refine L2.sl_tupA pins s σ H _ v vl vu lo hi sl Q I rx hs pl pu ⟨_, _, rfl, by rw [hK]; exact hq, fun hc => ?_, fun _ p hp => ?_⟩
    · have ew : cutD xs lo hi = xs := by
        unfold cutD
        rw [rs.length, hc.1, hc.2, List.drop_zero, Nat.sub_zero, ← rs.length, List.take_length]
      rw [ew] at h
      exact h.here R _ (.tup hq rs)
    · exact h ι _ (ext_new hp) (R.new hp) _ (.tup (.inl (.inl upd_same)) ((rs.cut lo hi).ext (ext_new hp)))
  · cases ra
    split at h
    · rename_i hz
      exact sl_str pins s σ H _ v vl vu lo hi sl Q I rx hs pl pu ⟨_, rfl, hz, h.here R _ (.str _)⟩
    · exact h.elim
  · split at h
    · rename_i xs e
      obtain ⟨p, vs, rfl, hn, hq, rs⟩ := R.list ra e
      refine sl_list pins s σ H _ v vl vu lo hi sl Q I rx hs pl pu ⟨p, vs, rfl, by rw [hK]; exact hq, fun l hl => ?_⟩
      exact h _ _ (ext_push hl) (R.push hl (.lst (rs.cut lo hi))) _ (rep_push R)
    · exact h.elim
  · rename_i xs
    cases ra with | kl hq rs =>
    refine sl_list pins s σ H _ v vl vu lo hi sl Q I rx hs pl pu ⟨_, _, rfl, by rw [hK]; exact .inr hq, fun l hl => ?_⟩
    exact h _ _ (ext_push hl) (R.push hl (.lst (rs.cut lo hi))) _ (rep_push R)
  · exact h.elim

/-! ### readings, one in another -/
theorem peimp {e : Expr} {t t' : TE} (h : PE X e t) (f : ∀ σ H Q, t' σ H Q → t σ H Q) : PE X e t' := ⟨fun pins s σ H Q I q => h.run pins s σ H Q I (f σ H Q q)⟩
theorem ptimp {e : Expr} {t t' : TT} (h : PT X e t) (f : ∀ σ H Q, t' σ H Q → t σ H Q) : PT X e t' := ⟨fun pins s σ H Q I q => h.run pins s σ H Q I (f σ H Q q)⟩
theorem pwimp {e : Expr} {t t' : TT} (h : PW X e t) (f : ∀ σ H Q, t' σ H Q → t σ H Q) : PW X e t' := ⟨fun w pins s σ H Q I q => h.run w pins s σ H Q I (f σ H Q q)⟩
theorem paimp {e : List Expr} {t t' : TA} (h : PA X e t) (f : ∀ σ H Q, t' σ H Q → t σ H Q) : PA X e t' := ⟨fun pos pins s σ H Q I q => h.run pos pins s σ H Q I (f σ H Q q)⟩
theorem poimp {e : Option Expr} {t t' : TO} (h : PO X e t) (f : ∀ σ H Q, t' σ H Q → t σ H Q) : PO X e t' := ⟨fun pins s σ H Q I q => h.run pins s σ H Q I (f σ H Q q)⟩
theorem psimp {e : Stmt} {t t' : TS} (h : PS X e t) (f : ∀ D σ H, t' D σ H → t D σ H) : PS X e t' := ⟨fun pins s σ H D I q => h.run pins s σ H D I (f D σ H q)⟩
theorem pssimp {e : List Stmt} {t t' : TS} (h : PSs X e t) (f : ∀ D σ H, t' D σ H → t D σ H) : PSs X e t' := ⟨fun pins s σ H D I q => h.run pins s σ H D I (f D σ H q)⟩
theorem piimp {tg e : Expr} {t t' : TI} (h : PI X tg e t) (f : ∀ σ H R, t' σ H R → t σ H R) : PI X tg e t' := ⟨fun pins s σ H R I q => h.run pins s σ H R I (f σ H R q)⟩
section
variable {W : WX} {ι : List Addr} {H : Hp} {M : Sto} {σ : En} {τ : L2.St}
abbrev wat (W : WX) (τ : L2.St) : XK := fun c d H' => W c d τ H'
theorem bindE {β : Type} {m : En → Sto → Out D} {k : D → Sto → Out β} {R : β → Sto → List Addr → Hp → Prop} {Q : VK} (hE : EnR C ι H σ τ) (hR : Rel C ι H M) (h : Post C ι H (wat W τ) ((m σ M).bind k) R)
    (f : ∀ v H1 ι1 M1 d, Ext C ι H ι1 H1 → EnR C ι1 H1 σ τ → Rel C ι1 H1 M1 → Rep C ι1 H1 d v → Post C ι1 H1 (wat W τ) (k d M1) R → Q v H1) : rdE C W m τ H Q := by
  refine ⟨ι, σ, M, hE, hR, ?_⟩
  have b := h.bind
  cases q : m σ M with
  | bad => rw [q] at b; exact b
  | exc x M2 => rw [q] at b; exact b
  | ok d M2 => rw [q] at b; exact fun ι' H' e r v rv => f v H' ι' M2 d e (hE.ext e) r rv (b ι' H' e r)
theorem bindT {β : Type} {m : En → Sto → Out Bool} {k : Bool → Sto → Out β} {R : β → Sto → List Addr → Hp → Prop} {Q : Bool → Hp → Prop} (hE : EnR C ι H σ τ) (hR : Rel C ι H M) (h : Post C ι H (wat W τ) ((m σ M).bind k) R)
    (f : ∀ b H1 ι1 M1, Ext C ι H ι1 H1 → EnR C ι1 H1 σ τ → Rel C ι1 H1 M1 → Post C ι1 H1 (wat W τ) (k b M1) R → Q b H1) : rdT C W m τ H Q := by
  refine ⟨ι, σ, M, hE, hR, ?_⟩
  have b := h.bind
  cases q : m σ M with
  | bad => rw [q] at b; exact b
  | exc x M2 => rw [q] at b; exact b
  | ok d M2 => rw [q] at b; exact fun ι' H' e r => f d H' ι' M2 e (hE.ext e) r (b ι' H' e r)
theorem bindA {β : Type} {m : En → Sto → Out (List D)} {k : List D → Sto → Out β} {R : β → Sto → List Addr → Hp → Prop} {Q : List V → Hp → Prop} (hE : EnR C ι H σ τ) (hR : Rel C ι H M) (h : Post C ι H (wat W τ) ((m σ M).bind k) R)
    (f : ∀ vs H1 ι1 M1 ds, Ext C ι H ι1 H1 → EnR C ι1 H1 σ τ → Rel C ι1 H1 M1 → Reps C ι1 H1 ds vs → Post C ι1 H1 (wat W τ) (k ds M1) R → Q vs H1) : rdA C W m τ H Q := by
  refine ⟨ι, σ, M, hE, hR, ?_⟩
  have b := h.bind
  cases q : m σ M with
  | bad => rw [q] at b; exact b
  | exc x M2 => rw [q] at b; exact b
  | ok d M2 => rw [q] at b; exact fun ι' H' e r v rv => f v H' ι' M2 d e (hE.ext e) r rv (b ι' H' e r)
/-- the reading of something gone through, Z: what stands there -/
def rdZ (C : Con) (W : WX) (Z : List Addr → Hp → List D → V → Prop) (m : En → Sto → Out (List D)) : TE := fun τ H Q => ∃ ι σ M, EnR C ι H σ τ ∧ Rel C ι H M ∧
  Post C ι H (wat W τ) (m σ M) fun ds _ ι' H' => ∀ v, Z ι' H' ds v → Q v H'
theorem bindZ {β : Type} {Z : List Addr → Hp → List D → V → Prop} {m : En → Sto → Out (List D)} {k : List D → Sto → Out β} {R : β → Sto → List Addr → Hp → Prop} {Q : VK} (hE : EnR C ι H σ τ) (hR : Rel C ι H M) (h : Post C ι H (wat W τ) ((m σ M).bind k) R)
    (f : ∀ v H1 ι1 M1 ds, Ext C ι H ι1 H1 → EnR C ι1 H1 σ τ → Rel C ι1 H1 M1 → Z ι1 H1 ds v → Post C ι1 H1 (wat W τ) (k ds M1) R → Q v H1) : rdZ C W Z m τ H Q := by
  refine ⟨ι, σ, M, hE, hR, ?_⟩
  have b := h.bind
  cases q : m σ M with
  | bad => rw [q] at b; exact b
  | exc x M2 => rw [q] at b; exact b
  | ok d M2 => rw [q] at b; exact fun ι' H' e r v rv => f v H' ι' M2 d e (hE.ext e) r rv (b ι' H' e r)
theorem bindO {β : Type} {m : En → Sto → Out (Option Int)} {k : Option Int → Sto → Out β} {R : β → Sto → List Addr → Hp → Prop} {Q : Option Int → Hp → Prop} (hE : EnR C ι H σ τ) (hR : Rel C ι H M) (h : Post C ι H (wat W τ) ((m σ M).bind k) R)
    (f : ∀ b H1 ι1 M1, Ext C ι H ι1 H1 → EnR C ι1 H1 σ τ → Rel C ι1 H1 M1 → Post C ι1 H1 (wat W τ) (k b M1) R → Q b H1) : rdO C W m τ H Q := by
  refine ⟨ι, σ, M, hE, hR, ?_⟩
  have b := h.bind
  cases q : m σ M with
  | bad => rw [q] at b; exact b
  | exc x M2 => rw [q] at b; exact b
  | ok d M2 => rw [q] at b; exact fun ι' H' e r => f d H' ι' M2 e (hE.ext e) r (b ι' H' e r)
end
end
end PyL

set_option maxHeartbeats 4000000
namespace PyL
open PySem PySem.Spec PyProof.Rows L2
section
variable {C : Con} {X : Cx} {W : WX} {a b c : Expr} {ma mb mc : En → Sto → Out D} {pos : Pos}
abbrev seq2 (ma mb : En → Sto → Out D) (p : D → D → Sto → Out D) : En → Sto → Out D := fun σ M => (ma σ M).bind fun x M1 => (mb σ M1).bind fun y M2 => p x y M2
theorem into2 {p : D → D → Sto → Out D} {τ : L2.St} {H : Hp} {Q : VK} (h : rdE C W (seq2 ma mb p) τ H Q) : tOp (rd2 C p) (rdE C W ma) (rdE C W mb) τ H Q := by
  obtain ⟨ι, σ, M, hE, hR, h⟩ := h
  refine bindE hE hR h fun v H1 ι1 M1 x e1 hE1 hR1 rx h1 => ?_
  refine bindE hE1 hR1 h1 fun u H2 ι2 M2 y e2 hE2 hR2 ry h2 => ?_
  exact ⟨_, ι2, M2, x, y, hR2, rx.ext e2, ry, h2⟩
theorem e_bin {op : Operator} {p : D → D → Sto → Out D} (ho : OpR X (binaryOp op) (rd2 C p)) (ha : PE X a (rdE C W ma)) (hb : PE X b (rdE C W mb)) : PE X (.BinOp a op b pos) (rdE C W (seq2 ma mb p)) :=
  peimp (pe_op ho ha hb) fun _ _ _ h => into2 h
theorem e_cmp {op : CmpOp} {p : D → D → Sto → Out D} (ho : OpR X (compareOp op) (rd2 C p)) (ha : PE X a (rdE C W ma)) (hb : PE X b (rdE C W mb)) (hm : behindInMarks op b = false) : PE X (.Compare a [op] [b] pos) (rdE C W (seq2 ma mb p)) :=
  peimp (pe_cmpR ho ha hb hm) fun _ _ _ h => into2 h
theorem e_neg (ha : PE X a (rdE C W ma)) : PE X (.UnaryOp .USub a pos) (rdE C W fun σ M => (ma σ M).bind fun x M1 => P1.den .neg x M1) := by
  refine peimp (pe_un (o_neg (C := C)) ha) fun τ H Q h => ?_
  obtain ⟨ι, σ, M, hE, hR, h⟩ := h
  exact bindE hE hR h fun v H1 ι1 M1 x e1 hE1 hR1 rx h1 => ⟨_, ι1, M1, x, hR1, rx, h1⟩
theorem e_ix (hK : X.K = C.K) (ha : PE X a (rdE C W ma)) (hb : PE X b (rdE C W mb)) (hs : PlainIx b) : PE X (.Subscript a b pos) (rdE C W (seq2 ma mb fun x y M => ixD M x y)) :=
  peimp (pe_ix (x_ix hK) ha hb hs) fun _ _ _ h => into2 h
/-! ### names, constants -/
theorem e_var {i : Nat} {x : Str} (hN : X.N[i]? = some x) (hv : Vis X.env.scope x) (hd : (x == ("__debug__" : Str)) = false) (hcd : (x == ("__classdict__" : Str)) = false) :
    PE X (.Name x pos) (rdE C W fun σ M => match σ[i]? with | some (some d) => .ok d M | _ => .bad) := by
  refine peimp (pe_var hN hv hd hcd) fun τ H Q h => ?_
  obtain ⟨ι, σ, M, hE, hR, h⟩ := h
  cases q : σ[i]? with
  | none => simp only [q] at h; exact h.elim
  | some o =>
    cases o with
    | none => simp only [q] at h; exact h.elim
    | some d =>
      simp only [q] at h
      obtain ⟨v, e, r⟩ := hE.2 i d q
      exact ⟨v, e, h.here hR v r⟩
/-- a constant of the text -/
def constD : Const → Option D
  | .none => some .non
  | .bool b => some (.bl b)
  | .int i => some (.int i)
  | .str s => some (.str s)
  | _ => none
theorem e_con {k : Const} {j : Nat} {d : D} (e : constD k = some d) : PE X (.Constant k j pos) (rdE C W fun _ M => .ok d M) := by
  cases k <;> cases e
  · exact peimp pe_non fun τ H Q ⟨ι, σ, M, hE, hR, h⟩ => h.here hR _ .non
  · exact peimp pe_bl fun τ H Q ⟨ι, σ, M, hE, hR, h⟩ => h.here hR _ (.bl _)
  · exact peimp pe_int fun τ H Q ⟨ι, σ, M, hE, hR, h⟩ => h.here hR _ (.int _)
  · exact peimp pe_str fun τ H Q ⟨ι, σ, M, hE, hR, h⟩ => h.here hR _ (.str _)
/-- a constant of the module -/
theorem e_glb {x : Str} {d : D} {u : Value} {v : V} (hg : Gl X x) (hm : X.mg x = some u) (r : L2.RelV v u) (hr : ∀ ι H, Rep C ι H d v) (hd : (x == ("__debug__" : Str)) = false) : PE X (.Name x pos) (rdE C W fun _ M => .ok d M) :=
  peimp (pe_glob hg hm r hd) fun τ H Q ⟨ι, σ, M, hE, hR, h⟩ => h.here hR _ (hr _ _)
/-! ### displays, arguments -/
theorem a_nil : PA X [] (rdA C W fun _ M => .ok [] M) := paimp pa_nil fun τ H Q ⟨ι, σ, M, hE, hR, h⟩ => h.here hR _ .nil
theorem a_cons {es : List Expr} {ms : En → Sto → Out (List D)} (ha : PE X a (rdE C W ma)) (hs : PA X es (rdA C W ms)) (hst : starEach (a :: es) X.env = (false, eval a X.env) :: starEach es X.env) :
    PA X (a :: es) (rdA C W fun σ M => (ma σ M).bind fun d M1 => (ms σ M1).bind fun ds M2 => .ok (d :: ds) M2) := by
  refine paimp (pa_cons ha hs hst) fun τ H Q h => ?_
  obtain ⟨ι, σ, M, hE, hR, h⟩ := h
  refine bindE hE hR h fun v H1 ι1 M1 x e1 hE1 hR1 rx h1 => ?_
  refine bindA hE1 hR1 h1 fun vs H2 ι2 M2 ds e2 hE2 hR2 rs h2 => ?_
  exact h2.here hR2 _ (.cons (rx.ext e2) rs)
theorem e_tup {es : List Expr} {ms : En → Sto → Out (List D)} {k : Nat} (hs : PA X es (rdA C W ms)) : PE X (.Tuple es k pos) (rdE C W fun σ M => (ms σ M).bind fun ds M' => if ds.length ≤ sizeLine then .ok (.tup ds) M' else .bad) := by
  refine peimp (pe_tup hs) fun τ H Q h => ?_
  obtain ⟨ι, σ, M, hE, hR, h⟩ := h
  refine bindA hE hR h fun vs H1 ι1 M1 ds e1 hE1 hR1 rs h1 => ?_
  split at h1
  · rename_i hz
    refine ⟨by rw [← rs.length]; exact hz, fun p hp => ?_⟩
    exact h1 _ _ (ext_new hp) (hR1.new hp) _ (.tup (.inl (.inl upd_same)) (rs.ext (ext_new hp)))
  · exact h1.elim
/-- a written list, as what is gone through -/
theorem l_lst {es : List Expr} {ms : En → Sto → Out (List D)} (hs : PA X es (rdA C W ms)) : PE X (.List es pos) (rdZ C W (SqF C) fun σ M => (ms σ M).bind fun ds M' => if ds.length ≤ sizeLine then .ok ds M' else .bad) := by
  refine peimp (pe_lst hs) fun τ H Q h => ?_
  obtain ⟨ι, σ, M, hE, hR, h⟩ := h
  refine bindA hE hR h fun vs H1 ι1 M1 ds e1 hE1 hR1 rs h1 => ?_
  split at h1
  · rename_i hz
    refine ⟨by rw [← rs.length]; exact hz, fun p hp => ?_⟩
    exact h1 _ _ (ext_new hp) (hR1.new hp) _ ⟨p, vs, rfl, upd_same, hR1.fresh hp, rs.ext (ext_new hp)⟩
  · exact h1.elim
/-- a written list, as a value -/
theorem e_dK : PE X (.Dict [] [] pos) (rdE C W fun _ M => .ok (.ref M.length) (M ++ [.dct false []])) := by
  refine peimp pe_dnewK fun τ H Q h => ?_
  obtain ⟨ι, σ, M, hE, hR, h⟩ := h
  exact fun p hp => h _ _ (ext_push hp) (hR.push hp (.dK .nil)) _ (rep_push hR)
theorem e_dT : PE X (.Dict [] [] pos) (rdE C W fun _ M => .ok (.ref M.length) (M ++ [.dct true []])) := by
  refine peimp pe_dnewT fun τ H Q h => ?_
  obtain ⟨ι, σ, M, hE, hR, h⟩ := h
  exact fun p hp => h _ _ (ext_push hp) (hR.push hp (.dT .nil)) _ (rep_push hR)
theorem e_lst {es : List Expr} {ms : En → Sto → Out (List D)} (hs : PA X es (rdA C W ms)) : PE X (.List es pos) (rdE C W fun σ M => ((ms σ M).bind fun ds M' => if ds.length ≤ sizeLine then .ok ds M' else .bad).bind fun ds M' => .ok (.ref M'.length) (M' ++ [.lst ds])) := by
  refine peimp (pe_lst hs) fun τ H Q h => ?_
  obtain ⟨ι, σ, M, hE, hR, h⟩ := h
  have h' : Post C ι H (wat W τ) ((ms σ M).bind fun ds M' => (if ds.length ≤ sizeLine then Out.ok ds M' else .bad).bind fun ds M' => .ok (D.ref M'.length) (M' ++ [.lst ds])) (fun d _ ι' H' => ∀ v, Rep C ι' H' d v → Q v H') := by
    have h : Post C ι H (wat W τ) (((ms σ M).bind fun ds M' => if ds.length ≤ sizeLine then Out.ok ds M' else .bad).bind fun ds M' => .ok (D.ref M'.length) (M' ++ [.lst ds])) _ := h
    cases q : ms σ M with
    | bad => rw [q] at h; exact h
    | exc x M2 => rw [q] at h; exact h
    | ok d M2 => rw [q] at h; exact h
  refine bindA hE hR h' fun vs H1 ι1 M1 ds e1 hE1 hR1 rs h1 => ?_
  split at h1
  · rename_i hz
    refine ⟨by rw [← rs.length]; exact hz, fun p hp => ?_⟩
    exact h1 _ _ (ext_push hp) (hR1.push hp (.lst rs)) _ (rep_push hR1)
  · exact h1.elim
/-! ### tests -/
theorem truv {ι : List Addr} {H : Hp} {M : Sto} {d : D} {v : V} {k : Bool} (hK : X.K = C.K) (R : Rel C ι H M) (r : Rep C ι H d v) (e : truth M d = some k) : TruV X.K v H k := by
  cases d with
  | non => cases r; cases e; exact rfl
  | bl b => cases r; cases e; exact rfl
  | int i => cases r; cases e; exact rfl
  | str z =>
    cases r
    simp only [truth] at e
    split at e
    · rename_i hz
      cases e
      exact ⟨hz, rfl⟩
    · cases e
  | tup xs =>
    cases r with | tup q rs =>
    cases e
    refine .inr (.inl ⟨_, by rw [hK]; exact q, ?_⟩)
    cases rs <;> rfl
  | ref n =>
    simp only [truth, Option.map_eq_some_iff] at e
    obtain ⟨xs, e1, e2⟩ := e
    obtain ⟨p, vs, rfl, _, q, rs⟩ := R.list r e1
    refine .inl ⟨_, by rw [hK]; exact q, ?_⟩
    subst e2
    cases rs <;> rfl
  | fn k => cases e
  | kl k => cases e
theorem t_tru (hK : X.K = C.K) (ha : PE X a (rdE C W ma)) (he : ∀ whole, isTrue a X.env whole = (do let v ← whole; standAt a.pos; holding [v] (truthy v))) :
    PT X a (rdT C W fun σ M => (ma σ M).bind fun d M1 => match truth M1 d with | some b => .ok b M1 | none => .bad) := by
  refine ptimp (pt_truth ha he) fun τ H Q h => ?_
  obtain ⟨ι, σ, M, hE, hR, h⟩ := h
  refine bindE hE hR h fun v H1 ι1 M1 x e1 hE1 hR1 rx h1 => ?_
  cases q : truth M1 x with
  | none => rw [q] at h1; exact h1.elim
  | some k =>
    rw [q] at h1
    exact ⟨k, truv hK hR1 rx q, h1.here hR1⟩
/-- the answer is a flag -/
def Flag (p : D → D → Sto → Out D) : Prop := ∀ x y M, p x y M = .bad ∨ ∃ k M', p x y M = .ok (.bl k) M'
theorem flag_eq : Flag dEq := fun x y M => by
  unfold dEq; split
  · exact .inr ⟨_, _, rfl⟩
  · exact .inl rfl
theorem flag_ne : Flag dNe := fun x y M => by
  unfold dNe; split
  · exact .inr ⟨_, _, rfl⟩
  · exact .inl rfl
theorem flag_cmp {f : Int → Int → Bool} : Flag (dCmp f) := fun x y M => by
  unfold dCmp; split
  · exact .inr ⟨_, _, rfl⟩
  · exact .inl rfl
theorem flag_is {n : Bool} : Flag (dIs n) := fun x y M => by
  unfold dIs; split
  · exact .inr ⟨_, _, rfl⟩
  · exact .inl rfl
theorem flag_in {n : Bool} : Flag (dIn n) := fun x y M => by
  unfold dIn; split
  · exact .inr ⟨_, _, rfl⟩
  · exact .inl rfl
abbrev tru (m : En → Sto → Out D) : En → Sto → Out Bool := fun σ M => (m σ M).bind fun d M1 => match truth M1 d with | some b => .ok b M1 | none => .bad
/-- a comparison as a test -/
theorem t_cmp {op : CmpOp} {p : D → D → Sto → Out D} (hp : Flag p) (ho : OpR X (compareOp op) (rd2 C p)) (ha : PE X a (rdE C W ma)) (hb : PE X b (rdE C W mb)) (hm : behindInMarks op b = false) :
    PT X (.Compare a [op] [b] pos) (rdT C W (tru (seq2 ma mb p))) := by
  refine ptimp (pt_cmpR ho ha hb hm) fun τ H Q h => ?_
  obtain ⟨ι, σ, M, hE, hR, h⟩ := h
  have h' : Post C ι H (wat W τ) ((ma σ M).bind fun x M1 => (mb σ M1).bind fun y M2 => (p x y M2).bind fun d M1 => match truth M1 d with | some b => .ok b M1 | none => .bad) (fun b _ _ H' => Q b H') := by
    have h : Post C ι H (wat W τ) (((ma σ M).bind fun x M1 => (mb σ M1).bind fun y M2 => p x y M2).bind fun d M1 => match truth M1 d with | some b => .ok b M1 | none => .bad) _ := h
    cases q : ma σ M with
    | bad => rw [q] at h; exact h
    | exc x M2 => rw [q] at h; exact h
    | ok d M2 =>
      rw [q] at h
      simp only [Out.bind_ok] at h ⊢
      cases q2 : mb σ M2 with
      | bad => rw [q2] at h; exact h
      | exc x M2 => rw [q2] at h; exact h
      | ok d M2 => rw [q2] at h; exact h
  refine bindE hE hR h' fun v H1 ι1 M1 x e1 hE1 hR1 rx h1 => ?_
  refine bindE hE1 hR1 h1 fun u H2 ι2 M2 y e2 hE2 hR2 ry h2 => ?_
  refine ⟨wat W τ, ι2, M2, x, y, hR2, rx.ext e2, ry, ?_⟩
  rcases hp x y M2 with e | ⟨k, M', e⟩
  · rw [e] at h2 ⊢; exact h2
  · rw [e] at h2 ⊢
    intro ι' H' ee rr v rv
    cases rv
    exact ⟨k, rfl, h2 ι' H' ee rr⟩
theorem assoc2 {α β γ : Type} (o : Out α) (f : α → Sto → Out β) (g : β → Sto → Out γ) : (o.bind f).bind g = o.bind fun a M => (f a M).bind g := by
  cases o <;> rfl
/-- any other expression that Python tests by its value -/
theorem w_and1 {ma : En → Sto → Out Bool} (ha : PT X a (rdT C W ma)) : PW X (.BoolOp .And [a] pos) (rdT C W ma) := pw_and1 ha
theorem w_or1 {ma : En → Sto → Out Bool} (ha : PT X a (rdT C W ma)) : PW X (.BoolOp .Or [a] pos) (rdT C W ma) := pw_or1 ha
theorem w_and {es : List Expr} {ma mb : En → Sto → Out Bool} (ha : PT X a (rdT C W ma)) (hb : PW X (.BoolOp .And (b :: es) pos) (rdT C W mb)) :
    PW X (.BoolOp .And (a :: b :: es) pos) (rdT C W fun σ M => (ma σ M).bind fun k M1 => if k = true then mb σ M1 else .ok false M1) := by
  refine pwimp (pw_and ha hb) fun τ H Q h => ?_
  obtain ⟨ι, σ, M, hE, hR, h⟩ := h
  refine bindT hE hR h fun k H1 ι1 M1 e1 hE1 hR1 h1 => ?_
  cases k with
  | true => exact ⟨ι1, σ, M1, hE1, hR1, h1⟩
  | false => exact h1.here hR1
theorem w_or {es : List Expr} {ma mb : En → Sto → Out Bool} (ha : PT X a (rdT C W ma)) (hb : PW X (.BoolOp .Or (b :: es) pos) (rdT C W mb)) :
    PW X (.BoolOp .Or (a :: b :: es) pos) (rdT C W fun σ M => (ma σ M).bind fun k M1 => if k = true then .ok true M1 else mb σ M1) := by
  refine pwimp (pw_or ha hb) fun τ H Q h => ?_
  obtain ⟨ι, σ, M, hE, hR, h⟩ := h
  refine bindT hE hR h fun k H1 ι1 M1 e1 hE1 hR1 h1 => ?_
  cases k with
  | false => exact ⟨ι1, σ, M1, hE1, hR1, h1⟩
  | true => exact h1.here hR1
theorem t_not {ma : En → Sto → Out Bool} (ha : PT X a (rdT C W ma)) : PT X (.UnaryOp .Not a pos) (rdT C W fun σ M => (ma σ M).bind fun k M1 => .ok (!k) M1) := by
  refine ptimp (pt_not ha) fun τ H Q h => ?_
  obtain ⟨ι, σ, M, hE, hR, h⟩ := h
  exact bindT hE hR h fun k H1 ι1 M1 e1 hE1 hR1 h1 => h1.here hR1
/-! ### and, or, not as values -/
theorem e_one {op} {m : En → Sto → Out D} (h : PE X a (rdE C W m)) : PE X (.BoolOp op [a] pos) (rdE C W m) := pe_one h
theorem e_and {es : List Expr} (hK : X.K = C.K) (ha : PE X a (rdE C W ma)) (hb : PE X (.BoolOp .And (b :: es) pos) (rdE C W mb)) :
    PE X (.BoolOp .And (a :: b :: es) pos) (rdE C W fun σ M => (ma σ M).bind fun x M' => match truth M' x with | some true => mb σ M' | some false => .ok x M' | none => .bad) := by
  refine peimp (pe_andT ha hb) fun τ H Q h => ?_
  obtain ⟨ι, σ, M, hE, hR, h⟩ := h
  refine bindE hE hR h fun v H1 ι1 M1 x e1 hE1 hR1 rx h1 => ?_
  cases q : truth M1 x with
  | none => rw [q] at h1; exact h1.elim
  | some k =>
    rw [q] at h1
    refine ⟨k, truv hK hR1 rx q, ?_⟩
    cases k with
    | true => exact ⟨ι1, σ, M1, hE1, hR1, h1⟩
    | false => exact h1.here hR1 v rx
theorem e_or {es : List Expr} (hK : X.K = C.K) (ha : PE X a (rdE C W ma)) (hb : PE X (.BoolOp .Or (b :: es) pos) (rdE C W mb)) :
    PE X (.BoolOp .Or (a :: b :: es) pos) (rdE C W fun σ M => (ma σ M).bind fun x M' => match truth M' x with | some true => .ok x M' | some false => mb σ M' | none => .bad) := by
  refine peimp (pe_orT ha hb) fun τ H Q h => ?_
  obtain ⟨ι, σ, M, hE, hR, h⟩ := h
  refine bindE hE hR h fun v H1 ι1 M1 x e1 hE1 hR1 rx h1 => ?_
  cases q : truth M1 x with
  | none => rw [q] at h1; exact h1.elim
  | some k =>
    rw [q] at h1
    refine ⟨k, truv hK hR1 rx q, ?_⟩
    cases k with
    | false => exact ⟨ι1, σ, M1, hE1, hR1, h1⟩
    | true => exact h1.here hR1 v rx
theorem e_not (hK : X.K = C.K) (ha : PE X a (rdE C W ma)) : PE X (.UnaryOp .Not a pos) (rdE C W fun σ M => (tru ma σ M).bind fun k M' => .ok (.bl (!k)) M') := by
  refine peimp (pe_notT ha) fun τ H Q h => ?_
  obtain ⟨ι, σ, M, hE, hR, h⟩ := h
  have h : Post C ι H (wat W τ) ((tru ma σ M).bind fun k M' => .ok (.bl (!k)) M') (fun d _ ι' H' => ∀ v, Rep C ι' H' d v → Q v H') := h
  rw [assoc2] at h
  refine bindE hE hR h fun v H1 ι1 M1 x e1 hE1 hR1 rx h1 => ?_
  cases q : truth M1 x with
  | none => rw [q] at h1; exact h1.elim
  | some k =>
    rw [q] at h1
    exact ⟨k, truv hK hR1 rx q, h1.here hR1 _ (.bl _)⟩
theorem e_ite {mc : En → Sto → Out Bool} (hc : PT X c (rdT C W mc)) (ha : PE X a (rdE C W ma)) (hb : PE X b (rdE C W mb)) :
    PE X (.IfExp c a b pos) (rdE C W fun σ M => (mc σ M).bind fun k M' => if k = true then ma σ M' else mb σ M') := by
  refine peimp (pe_ifExp hc ha hb) fun τ H Q h => ?_
  obtain ⟨ι, σ, M, hE, hR, h⟩ := h
  refine bindT hE hR h fun k H1 ι1 M1 e1 hE1 hR1 h1 => ?_
  cases k with
  | true => exact ⟨ι1, σ, M1, hE1, hR1, h1⟩
  | false => exact ⟨ι1, σ, M1, hE1, hR1, h1⟩
/-- a op b op' c -/
abbrev chnD (ma mb mc : En → Sto → Out D) (p q : D → D → Sto → Out D) : En → Sto → Out D := fun σ M => (ma σ M).bind fun x M1 => (mb σ M1).bind fun y M2 => (p x y M2).bind fun r M3 =>
    match r with
    | .bl true => (mc σ M3).bind fun z M4 => q y z M4
    | .bl false => .ok (.bl false) M3
    | _ => .bad
theorem into3 {p q : D → D → Sto → Out D} (hp : Flag p) {τ : L2.St} {H : Hp} {Q : VK} (h : rdE C W (chnD ma mb mc p q) τ H Q) : tChain (rd2 C p) (rd2 C q) (rdE C W ma) (rdE C W mb) (rdE C W mc) τ H Q := by
  obtain ⟨ι, σ, M, hE, hR, h⟩ := h
  refine bindE hE hR h fun v H1 ι1 M1 x e1 hE1 hR1 rx h1 => ?_
  refine bindE hE1 hR1 h1 fun u H2 ι2 M2 y e2 hE2 hR2 ry h2 => ?_
  refine ⟨wat W τ, ι2, M2, x, y, hR2, rx.ext e2, ry, ?_⟩
  have b := h2.bind
  rcases hp x y M2 with e | ⟨k, M', e⟩
  · rw [e] at b ⊢; exact b
  · rw [e] at b ⊢
    intro ι3 H3 e3 r3 v3 rv
    cases rv
    refine ⟨k, rfl, ?_⟩
    have b3 := b ι3 H3 e3 r3
    cases k with
    | false => exact b3.here r3 _ (.bl _)
    | true =>
      simp only [if_true]
      refine bindE (hE2.ext e3) r3 b3 fun w H4 ι4 M4 z e4 hE4 hR4 rz h4 => ?_
      exact ⟨_, ι4, M4, y, z, hR4, (ry.ext e3).ext e4, rz, h4⟩
theorem e_chn {op op' : CmpOp} {p q : D → D → Sto → Out D} (hp : Flag p) (ho : OpR X (compareOp op) (rd2 C p)) (ho' : OpR X (compareOp op') (rd2 C q)) (ha : PE X a (rdE C W ma)) (hb : PE X b (rdE C W mb)) (hc : PE X c (rdE C W mc)) (hm : lastMarks [op, op'] [b, c] = false) :
    PE X (.Compare a [op, op'] [b, c] pos) (rdE C W (chnD ma mb mc p q)) := peimp (pe_chain ho ho' ha hb hc hm) fun _ _ _ h => into3 hp h
theorem t_chn {op op' : CmpOp} {p q : D → D → Sto → Out D} (hp : Flag p) (hq : Flag q) (ho : OpR X (compareOp op) (rd2 C p)) (ho' : OpR X (compareOp op') (rd2 C q)) (ha : PE X a (rdE C W ma)) (hb : PE X b (rdE C W mb)) (hc : PE X c (rdE C W mc)) (hm : lastMarks [op, op'] [b, c] = false) :
    PT X (.Compare a [op, op'] [b, c] pos) (rdT C W (tru (chnD ma mb mc p q))) := by
  refine ptimp (pt_chain ho ho' ha hb hc hm) fun τ H Q h => ?_
  refine into3 (W := W) (ma := ma) (mb := mb) (mc := mc) hp ?_
  obtain ⟨ι, σ, M, hE, hR, h⟩ := h
  refine ⟨ι, σ, M, hE, hR, ?_⟩
  have h : Post C ι H (wat W τ) (tru (chnD ma mb mc p q) σ M) (fun b _ _ H' => Q b H') := h
  have b := h.bind
  have flag : ∀ d M', chnD ma mb mc p q σ M = .ok d M' → ∃ k, d = .bl k := fun d M' e => by
    unfold chnD at e
    cases q1 : ma σ M with
    | bad => rw [q1] at e; cases e
    | exc x M2 => rw [q1] at e; cases e
    | ok x M1 =>
      rw [q1, Out.bind_ok] at e
      cases q2 : mb σ M1 with
      | bad => rw [q2] at e; cases e
      | exc x M2 => rw [q2] at e; cases e
      | ok y M2 =>
        rw [q2, Out.bind_ok] at e
        rcases hp x y M2 with e2 | ⟨k, M3, e2⟩
        · rw [e2] at e; cases e
        · rw [e2, Out.bind_ok] at e
          cases k with
          | false => cases e; exact ⟨_, rfl⟩
          | true =>
            simp only at e
            cases q3 : mc σ M3 with
            | bad => rw [q3] at e; cases e
            | exc x M2 => rw [q3] at e; cases e
            | ok z M4 =>
              rw [q3, Out.bind_ok] at e
              rcases hq y z M4 with e4 | ⟨k, M5, e4⟩
              · rw [e4] at e; cases e
              · rw [e4] at e; cases e; exact ⟨_, rfl⟩
  cases q0 : chnD ma mb mc p q σ M with
  | bad => rw [q0] at b; exact b
  | exc x M2 => rw [q0] at b; exact b
  | ok d M2 =>
    rw [q0] at b
    obtain ⟨k, rfl⟩ := flag d M2 q0
    intro ι' H' e r v rv
    cases rv
    exact ⟨k, rfl, (b ι' H' e r).here r⟩
end
end PyL

set_option maxHeartbeats 4000000
namespace PyL
open PySem PySem.Spec PyProof.Rows L2
/-! ### what is gone through -/
/-- from here on the walk J' of the model yields what J tells -/
def ItR (C : Con) (J : It) (J' : L2.It) (ι : List Addr) (H : Hp) : Prop := ∀ (i : Nat) (ι1 : List Addr) (H1 : Hp) (M1 : Sto), Ext C ι H ι1 H1 → Rel C ι1 H1 M1 →
  (J.next i M1 = some none → J'.stop i H1) ∧ ∀ d, J.next i M1 = some (some d) → J'.go i H1 ∧ ∀ x H', J'.yld i H1 x H' → Ext C ι1 H1 ι1 H' ∧ Rel C ι1 H' M1 ∧ Rep C ι1 H' d x
def rdI (C : Con) (W : WX) (m : En → Sto → Out It) : TI := fun τ H R => ∃ ι σ M, EnR C ι H σ τ ∧ Rel C ι H M ∧ Post C ι H (wat W τ) (m σ M) fun J _ ι' H' => ∀ J', ItR C J J' ι' H' → R J' H'
section
variable {C : Con} {ι : List Addr} {H : Hp}
theorem ItR.tup {a : Addr} {vs : List V} {ds : List D} (h : SqT C.K H a vs) (r : Reps C ι H ds vs) : ItR C (.snap ds) (Itt C.K a) ι H := fun i ι1 H1 M1 e R => by
  refine ⟨fun q => ?_, fun d q => ?_⟩
  · have q : some ds[i]? = some none := q
    refine ⟨vs, e.tup _ _ h, ?_⟩
    have := List.getElem?_eq_none_iff.mp (Option.some.inj q)
    rw [← r.length]; exact this
  · have q : some ds[i]? = some (some d) := q
    obtain ⟨v, ev, rv⟩ := r.get (Option.some.inj q)
    refine ⟨⟨vs, v, e.tup _ _ h, ev⟩, fun x H' ⟨eH, hx⟩ => ?_⟩
    subst eH
    have := hx vs (e.tup _ _ h)
    rw [ev] at this; cases this
    exact ⟨.refl, R, rv.ext e⟩
theorem ItR.fresh {a : Addr} {vs : List V} {ds : List D} (h : H a = some (.lst vs)) (hn : a ∉ ι) (r : Reps C ι H ds vs) : ItR C (.snap ds) (Itl C.K a) ι H := fun i ι1 H1 M1 e R => by
  have hl : SqL C.K H1 a vs := .inl (.inl (e.keep _ _ h hn))
  have inj : ∀ xs, SqL C.K H1 a xs → xs = vs ∨ True := fun _ _ => .inr trivial
  refine ⟨fun q => ?_, fun d q => ?_⟩
  · have q : some ds[i]? = some none := q
    refine ⟨vs, hl, ?_⟩
    have := List.getElem?_eq_none_iff.mp (Option.some.inj q)
    rw [← r.length]; exact this
  · have q : some ds[i]? = some (some d) := q
    obtain ⟨v, ev, rv⟩ := r.get (Option.some.inj q)
    refine ⟨⟨vs, v, hl, ev⟩, fun x H' ⟨eH, hx⟩ => ?_⟩
    subst eH
    have := hx vs hl
    rw [ev] at this; cases this
    exact ⟨.refl, R, rv.ext e⟩
theorem ItR.live {a : Addr} {n : Nat} (h : ι[n]? = some a) : ItR C (.live n) (Itl C.K a) ι H := fun i ι1 H1 M1 e R => by
  have hn : ι1[n]? = some a := e.pre _ _ h
  refine ⟨fun q => ?_, fun d q => ?_⟩
  · have q : (listAt M1 n).map (·[i]?) = some none := q
    rw [Option.map_eq_some_iff] at q
    obtain ⟨ds, e1, e2⟩ := q
    obtain ⟨p, vs, ep, hp, hl, rs⟩ := R.list (.ref hn) e1
    cases ep
    refine ⟨vs, hl, ?_⟩
    have := List.getElem?_eq_none_iff.mp e2
    rw [← rs.length]; exact this
  · have q : (listAt M1 n).map (·[i]?) = some (some d) := q
    rw [Option.map_eq_some_iff] at q
    obtain ⟨ds, e1, e2⟩ := q
    obtain ⟨p, vs, ep, hp, hl, rs⟩ := R.list (.ref hn) e1
    cases ep
    obtain ⟨v, ev, rv⟩ := rs.get e2
    refine ⟨⟨vs, v, hl, ev⟩, fun x H' ⟨eH, hx⟩ => ?_⟩
    subst eH
    have := hx vs hl
    rw [ev] at this; cases this
    exact ⟨.refl, R, rv⟩
theorem rangeL_get {lo c : Int} {n i : Nat} : (rangeL lo c n)[i]? = if i < n then some (.int (lo + (i : Nat) * c)) else none := by
  unfold rangeL
  rw [List.getElem?_map]
  by_cases h : i < n
  · rw [if_pos h, List.getElem?_range h]; rfl
  · rw [if_neg h, List.getElem?_eq_none (by simpa using h)]; rfl
theorem ItR.rngC {lo c : Int} {n : Nat} : ItR C (.snap (rangeL lo c n)) (Itc lo c n) ι H := fun i ι1 H1 M1 e R => by
  refine ⟨fun q => ?_, fun d q => ?_⟩
  · have q : some (rangeL lo c n)[i]? = some none := q
    rw [rangeL_get] at q
    split at q
    · cases q
    · rename_i hn
      exact Nat.le_of_not_lt hn
  · have q : some (rangeL lo c n)[i]? = some (some d) := q
    rw [rangeL_get] at q
    split at q
    · rename_i hn
      cases q
      refine ⟨hn, fun x H' ⟨eH, ex⟩ => ?_⟩
      subst eH ex
      exact ⟨.refl, R, .int _⟩
    · cases q
theorem ItR.rng {lo : Int} {n : Nat} : ItR C (.snap (rangeL lo 1 n)) (Itr lo n) ι H := fun i ι1 H1 M1 e R => by
  refine ⟨fun q => ?_, fun d q => ?_⟩
  · have q : some (rangeL lo 1 n)[i]? = some none := q
    rw [rangeL_get] at q
    split at q
    · cases q
    · rename_i hn
      exact Nat.le_of_not_lt hn
  · have q : some (rangeL lo 1 n)[i]? = some (some d) := q
    rw [rangeL_get] at q
    split at q
    · rename_i hn
      cases q
      refine ⟨hn, fun x H' ⟨eH, ex⟩ => ?_⟩
      subst eH ex
      rw [Int.mul_one]
      exact ⟨.refl, R, .int _⟩
    · cases q
theorem ItR.str {z : Str} : ItR C (.snap (z.cps.toList.map fun c => .str ⟨#[c]⟩)) (Its z) ι H := fun i ι1 H1 M1 e R => by
  have ge : ∀ i, (z.cps.toList.map fun c => D.str ⟨#[c]⟩)[i]? = (z.cps[i]?).map fun c => D.str ⟨#[c]⟩ := fun i => by
    rw [List.getElem?_map, Array.getElem?_toList]
  refine ⟨fun q => ?_, fun d q => ?_⟩
  · have q : some (z.cps.toList.map fun c => D.str ⟨#[c]⟩)[i]? = some none := q
    rw [ge] at q
    cases qq : z.cps[i]? with
    | none => exact Array.getElem?_eq_none_iff.mp qq
    | some c => rw [qq] at q; cases q
  · have q : some (z.cps.toList.map fun c => D.str ⟨#[c]⟩)[i]? = some (some d) := q
    rw [ge] at q
    cases qq : z.cps[i]? with
    | none => rw [qq] at q; cases q
    | some c =>
      rw [qq] at q
      cases q
      refine ⟨(Array.getElem?_eq_some_iff.mp qq).1, fun x H' ⟨eH, c', hc, ex⟩ => ?_⟩
      rw [qq] at hc; cases hc
      subst eH ex
      exact ⟨.refl, R, .str _⟩
end
section
variable {C : Con} {X : Cx} {W : WX} {tg : Expr} {a b c : Expr} {ma mb mc : En → Sto → Out D} {pos p : Pos}
theorem PIor {e : Expr} {t u : TI} (h1 : PI X tg e t) (h2 : PI X tg e u) : PI X tg e fun σ H R => t σ H R ∨ u σ H R :=
  ⟨fun pins s σ H R I h => h.elim (h1.run pins s σ H R I) (h2.run pins s σ H R I)⟩
theorem i_val (hK : X.K = C.K) (ha : PE X a (rdE C W ma)) : PI X tg a (rdI C W fun σ M => (ma σ M).bind fun d M1 => match itOf M1 d with | some J => .ok J M1 | none => .bad) := by
  refine piimp (PIor (pi_list ha) (PIor (pi_tup ha) (pi_str ha))) fun τ H R h => ?_
  obtain ⟨ι, σ, M, hE, hR, h⟩ := h
  have h : Post C ι H (wat W τ) ((ma σ M).bind fun d M1 => match itOf M1 d with | some J => .ok J M1 | none => .bad) (fun J _ ι' H' => ∀ J', ItR C J J' ι' H' → R J' H') := h
  have b := h.bind
  cases q : ma σ M with
  | bad => rw [q] at b; exact b.elim
  | exc x M2 => rw [q] at b; exact .inl ⟨ι, σ, M, hE, hR, by rw [q]; exact b⟩
  | ok d M1 =>
    rw [q] at b
    cases d with
    | tup xs =>
      refine .inr (.inl ⟨ι, σ, M, hE, hR, ?_⟩)
      rw [q]
      intro ι1 H1 e1 r1 v rv
      cases rv with | tup hq rs =>
      have b1 : Post C ι1 H1 (wat W τ) (.ok (It.snap xs) M1) (fun J _ ι' H' => ∀ J', ItR C J J' ι' H' → R J' H') := b ι1 H1 e1 r1
      exact ⟨_, rfl, ⟨_, by rw [hK]; exact hq⟩, by rw [hK]; exact b1.here r1 _ (ItR.tup hq rs)⟩
    | ref n =>
      refine .inl ⟨ι, σ, M, hE, hR, ?_⟩
      rw [q]
      intro ι1 H1 e1 r1 v rv
      cases rv with | ref hn =>
      have b1 := b ι1 H1 e1 r1
      simp only [itOf] at b1
      cases ql : listAt M1 n with
      | none => rw [ql] at b1; exact b1.elim
      | some ds =>
        rw [ql] at b1
        obtain ⟨p, vs, ep, hp, hl, rs⟩ := r1.list (.ref hn) ql
        cases ep
        exact ⟨_, rfl, ⟨vs, by rw [hK]; exact hl⟩, by rw [hK]; exact b1.here r1 _ (ItR.live hn)⟩
    | str z =>
      refine .inr (.inr ⟨ι, σ, M, hE, hR, ?_⟩)
      rw [q]
      intro ι1 H1 e1 r1 v rv
      cases rv
      have b1 : Post C ι1 H1 (wat W τ) (.ok (It.snap (z.cps.toList.map fun c => D.str ⟨#[c]⟩)) M1) (fun J _ ι' H' => ∀ J', ItR C J J' ι' H' → R J' H') := b ι1 H1 e1 r1
      exact ⟨_, rfl, b1.here r1 _ ItR.str⟩
    | _ =>
      refine .inl ⟨ι, σ, M, hE, hR, ?_⟩
      rw [q]
      intro ι1 H1 e1 r1 v rv
      exact (show False from b ι1 H1 e1 r1).elim
/-- what is a fresh list -/
theorem i_lis {ml : En → Sto → Out (List D)} (hK : X.K = C.K) (ha : PE X a (rdZ C W (SqF C) ml)) : PI X tg a (rdI C W fun σ M => (ml σ M).bind fun ds M1 => .ok (.snap ds) M1) := by
  refine piimp (pi_list ha) fun τ H R h => ?_
  obtain ⟨ι, σ, M, hE, hR, h⟩ := h
  refine bindZ hE hR h fun v H1 ι1 M1 ds e1 hE1 hR1 ⟨p, vs, ep, hp, hn, rs⟩ h1 => ?_
  exact ⟨p, ep, ⟨vs, .inl (.inl hp)⟩, by rw [hK]; exact h1.here hR1 _ (ItR.fresh hp hn rs)⟩
theorem i_rng1 (hg : Gl X "range") (hm : X.mg "range" = none) (ha : PE X a (rdE C W ma)) (hs : starEach [a] X.env = [(false, eval a X.env)]) :
    PI X tg (.Call (.Name "range" p) [a] [] pos) (rdI C W fun σ M => (ma σ M).bind fun d M1 => match d with | .int j => if small62 j = true then .ok (.snap (rangeL 0 1 j.toNat)) M1 else .bad | _ => .bad) := by
  refine piimp (pi_range1 hg hm (pa_cons ha pa_nil hs) hs) fun τ H R h => ?_
  obtain ⟨ι, σ, M, hE, hR, h⟩ := h
  refine bindE hE hR h fun v H1 ι1 M1 d e1 hE1 hR1 rd h1 => ?_
  cases d with
  | int j =>
    cases rd
    simp only at h1
    split at h1
    · rename_i hz
      unfold small62 at hz
      simp only [decide_eq_true_eq] at hz
      exact ⟨j, rfl, hz.1, hz.2, h1.here hR1 _ ItR.rng⟩
    · exact h1.elim
  | _ => exact h1.elim
theorem i_rng2 (hg : Gl X "range") (hm : X.mg "range" = none) (ha : PE X a (rdE C W ma)) (hb : PE X b (rdE C W mb)) (hs : starEach [a, b] X.env = [(false, eval a X.env), (false, eval b X.env)]) (hs2 : starEach [b] X.env = [(false, eval b X.env)]) :
    PI X tg (.Call (.Name "range" p) [a, b] [] pos) (rdI C W fun σ M => (ma σ M).bind fun x M1 => (mb σ M1).bind fun y M2 => match x, y with
    | .int i, .int j => if small62 i && small62 j then .ok (.snap (rangeL i 1 (j - i).toNat)) M2 else .bad
    | _, _ => .bad) := by
  refine piimp (pi_range2 hg hm (pa_cons ha (pa_cons hb pa_nil hs2) (by rw [hs, hs2])) hs hs2) fun τ H R h => ?_
  obtain ⟨ι, σ, M, hE, hR, h⟩ := h
  refine bindE hE hR h fun v H1 ι1 M1 x e1 hE1 hR1 rx h1 => ?_
  refine bindE hE1 hR1 h1 fun u H2 ι2 M2 y e2 hE2 hR2 ry h2 => ?_
  have rx2 := rx.ext e2
  split at h2
  · cases rx2; cases ry
    split at h2
    · rename_i hz
      simp only [small62, Bool.and_eq_true, decide_eq_true_eq] at hz
      exact ⟨_, _, rfl, ⟨hz.1.1, hz.1.2, hz.2.1, hz.2.2⟩, h2.here hR2 _ ItR.rng⟩
    · exact h2.elim
  · exact h2.elim
theorem i_rng3 (hg : Gl X "range") (hm : X.mg "range" = none) (ha : PE X a (rdE C W ma)) (hb : PE X b (rdE C W mb)) (hc : PE X c (rdE C W mc)) (hs : starEach [a, b, c] X.env = (false, eval a X.env) :: starEach [b, c] X.env) (hs2 : starEach [b, c] X.env = (false, eval b X.env) :: starEach [c] X.env) (hs3 : starEach [c] X.env = [(false, eval c X.env)]) :
    PI X tg (.Call (.Name "range" p) [a, b, c] [] pos) (rdI C W fun σ M => (ma σ M).bind fun x M1 => (mb σ M1).bind fun y M2 => (mc σ M2).bind fun z M3 => match x, y, z with
    | .int i, .int j, .int k => (match rng3 i j k with
      | some xs => .ok (.snap xs) M3
      | none => .bad)
    | _, _, _ => .bad) := by
  refine piimp (pi_range3 hg hm (pa_cons ha (pa_cons hb (pa_cons hc pa_nil hs3) hs2) hs) hs (by rw [hs2, hs3]; rfl)) fun τ H R h => ?_
  obtain ⟨ι, σ, M, hE, hR, h⟩ := h
  refine bindE hE hR h fun v H1 ι1 M1 x e1 hE1 hR1 rx h1 => ?_
  refine bindE hE1 hR1 h1 fun u H2 ι2 M2 y e2 hE2 hR2 ry h2 => ?_
  refine bindE hE2 hR2 h2 fun w H3 ι3 M3 z e3 hE3 hR3 rz h3 => ?_
  have rx2 := (rx.ext e2).ext e3
  have ry2 := ry.ext e3
  split at h3
  · cases rx2; cases ry2; cases rz
    split at h3
    · rename_i xs hx
      unfold rng3 at hx
      split at hx
      · rename_i hz
        cases hx
        obtain ⟨z1, z2, z3, z4⟩ := hz
        exact ⟨_, _, _, _, rfl, ⟨z1, z2, z3, by omega⟩, h3.here hR3 _ ItR.rngC⟩
      · cases hx
    · exact h3.elim
  · exact h3.elim
/-! ### targets -/
/-- the slots that a target stores are among ws -/
def tgIn (t : Tg) (ws : List Nat) : Prop := match t with
  | .name i => i ∈ ws
  | .tup is => ∀ i ∈ is, i ∈ ws
/-- what is stored: t takes d, and the slots follow -/
def rdG (C : Con) (t : Tg) : TG := fun v τ H Q => ∃ ι σ M d σ', EnR C ι H σ τ ∧ Rel C ι H M ∧ Rep C ι H d v ∧ setTg t d σ = some σ' ∧ ∀ τ', EnR C ι H σ' τ' → (∀ ws : List Nat, tgIn t ws → wipe τ' ws = wipe τ ws) → Q τ' H
theorem wipe_set {τ : L2.St} {o : Option V} {i : Nat} : ∀ {ws : List Nat}, i ∈ ws → wipe (τ.set i o) ws = wipe τ ws
  | w :: ws, h => by
    unfold wipe
    rcases List.mem_cons.mp h with h | h
    · subst h
      by_cases hm : i ∈ ws
      · rw [wipe_set hm]
      · have : ∀ ws : List Nat, wipe (τ.set i o) ws = wipe τ ws ∨ wipe (τ.set i o) ws = (wipe τ ws).set i o := by
          intro ws
          induction ws with
          | nil => exact .inr rfl
          | cons x xs ih =>
            unfold wipe
            by_cases hx : x = i
            · subst hx
              rcases ih with ih | ih
              · rw [ih]; exact .inl rfl
              · rw [ih, List.set_set]; exact .inl rfl
            · rcases ih with ih | ih
              · rw [ih]; exact .inl rfl
              · rw [ih, List.set_comm _ _ (Ne.symm hx)]; exact .inr rfl
        rcases this ws with e | e
        · rw [e]
        · rw [e, List.set_set]
    · rw [wipe_set h]
theorem wipe_wipe {τ : L2.St} {ws : List Nat} : ∀ {vs : List Nat}, (∀ i ∈ vs, i ∈ ws) → wipe (wipe τ vs) ws = wipe τ ws
  | [], _ => rfl
  | v :: vs, h => by
    show wipe ((wipe τ vs).set v none) ws = _
    rw [wipe_set (h v List.mem_cons_self)]
    exact wipe_wipe fun i hi => h i (List.mem_cons_of_mem _ hi)
theorem g_name {x : Str} {i : Nat} (hN : X.N.Nodup) (hi : X.N[i]? = some x) (hx : Loc X.env.scope x) (hf : X.fn x = true ∨ X.env.scope.names.lookup x = some .local) : PG X (.Name x pos) (rdG C (.name i)) := by
  refine ⟨fun pins s σ H v u Q I r h => (pg_name hN hi hx hf).run pins s σ H v u Q I r ?_⟩
  obtain ⟨ι, σ, M, d, σ', hE, hR, rd, e, q⟩ := h
  cases e
  exact q _ (hE.set rd i) fun ws hw => wipe_set hw
def rdGs (C : Con) (is : List Nat) : TGs := fun vs τ H Q => ∃ ι σ M ds σ', EnR C ι H σ τ ∧ Rel C ι H M ∧ Reps C ι H ds vs ∧ setMany is ds σ = some σ' ∧ ∀ τ', EnR C ι H σ' τ' → (∀ ws : List Nat, (∀ i ∈ is, i ∈ ws) → wipe τ' ws = wipe τ ws) → Q τ' H
theorem gs_nil : PGs X [] (rdGs C []) := by
  refine ⟨fun pins s σ H vs us Q I r h => pgs_nil.run pins s σ H vs us Q I r ?_⟩
  obtain ⟨ι, σ, M, ds, σ', hE, hR, rd, e, q⟩ := h
  cases ds with
  | nil => cases rd; cases e; exact ⟨rfl, q _ hE fun _ _ => rfl⟩
  | cons d ds => cases e
theorem gs_cons {x : Str} {i : Nat} {is : List Nat} {es : List Expr} (hN : X.N.Nodup) (hi : X.N[i]? = some x) (hx : Loc X.env.scope x) (hf : X.fn x = true ∨ X.env.scope.names.lookup x = some .local) (h : PGs X es (rdGs C is)) : PGs X (.Name x pos :: es) (rdGs C (i :: is)) := by
  refine ⟨fun pins s σ H vs us Q I r hh => (pgs_cons (g_name (C := C) hN hi hx hf) h).run pins s σ H vs us Q I r ?_⟩
  obtain ⟨ι, σ, M, ds, σ', hE, hR, rd, e, q⟩ := hh
  cases ds with
  | nil => cases e
  | cons d ds =>
    cases rd with | cons rd rs =>
    refine ⟨_, _, rfl, ι, σ, M, d, _, hE, hR, rd, rfl, fun τ' hE' w' => ?_⟩
    exact ⟨ι, _, M, ds, σ', hE', hR, rs, e, fun τ2 hE2 w2 => q τ2 hE2 fun ws hw => (w2 ws fun j hj => hw j (List.mem_cons_of_mem _ hj)).trans (w' ws (hw i List.mem_cons_self))⟩
theorem setMany_len : ∀ {is : List Nat} {ds : List D} {σ σ' : En}, setMany is ds σ = some σ' → ds.length = is.length
  | [], [], _, _, _ => rfl
  | [], _ :: _, _, _, e => by cases e
  | _ :: _, [], _, _, e => by cases e
  | i :: is, d :: ds, σ, σ', e => by
    have e : setMany is ds (σ.set i (some d)) = some σ' := e
    simp only [List.length_cons, setMany_len e]
theorem g_tup {es : List Expr} {is : List Nat} {k : Nat} (hK : X.K = C.K) (hc : X.calm = true) (h : PGs X es (rdGs C is)) (hn : (assignEach es X.env).length = is.length) (hst : (assignEach es X.env).findIdx? (·.1) = none) : PG X (.Tuple es k pos) (rdG C (.tup is)) := by
  refine ⟨fun pins s σ H v u Q I r hh => (pg_tup hc h hn hst).run pins s σ H v u Q I r ?_⟩
  obtain ⟨ι, σ, M, d, σ', hE, hR, rd, e, q⟩ := hh
  cases d with
  | tup xs =>
    cases rd with | tup hq rs =>
    have e : setMany is xs σ = some σ' := e
    exact ⟨_, _, rfl, by rw [hK]; exact hq, by rw [← rs.length]; exact setMany_len e, ι, σ, M, xs, σ', hE, hR, rs, e, q⟩
  | _ => cases e
end
end PyL

set_option maxHeartbeats 4000000
namespace PyL
open PySem PySem.Spec PyProof.Rows L2
/-! ### comprehensions -/
theorem lcGo_noexc (it : It) (f : D → Sto → Out (Option D)) : ∀ (n i : Nat) (acc : List D) (M : Sto) (x : Exn) (M' : Sto), lcGo it f n i acc M ≠ .exc x M'
  | 0, _, _, _, _, _ => by unfold lcGo; intro h; cases h
  | n + 1, i, acc, M, x, M' => by
    unfold lcGo
    split
    · intro h; cases h
    · intro h; cases h
    · split
      · exact lcGo_noexc it f n _ _ _ _ _
      · split
        · exact lcGo_noexc it f n _ _ _ _ _
        · intro h; cases h
      · intro h; cases h
/-- an element's turn -/
def lcF (mc : En → Sto → Out Bool) (me : En → Sto → Out D) (tg : Tg) (σ0 : En) : D → Sto → Out (Option D) := fun x M => match setTg tg x σ0 with
    | none => .bad
    | some σ' => (mc σ' M).bind fun k M2 => if k = true then (me σ' M2).bind fun d M3 => .ok (some d) M3 else .ok none M2
abbrev Wno : WX := fun _ _ _ _ => False
section
variable {C : Con} {X : Cx} {W : WX} {ι : List Addr} {H : Hp} {M : Sto}
theorem wipe_rel {σ : En} {τ : L2.St} (h : EnR C ι H σ τ) : ∀ ws : List Nat, EnR C ι H (wipeD σ ws) (wipe τ ws)
  | [] => h
  | w :: ws => (wipe_rel h ws).unset w
mutual
theorem repMono {C : Con} {ι : List Addr} {H H' : Hp} (nt : ∀ a vs, SqT C.K H a vs → SqT C.K H' a vs) : ∀ {d : D} {v : V}, Rep C ι H d v → Rep C ι H' d v
  | _, _, .non => .non
  | _, _, .bl b => .bl b
  | _, _, .int i => .int i
  | _, _, .str x => .str x
  | _, _, .tup h r => .tup (nt _ _ h) (repsMono nt r)
  | _, _, .ref h => .ref h
  | _, _, .fn h => .fn h
  | _, _, .kl h r => .kl h (repsMono nt r)
theorem repsMono {C : Con} {ι : List Addr} {H H' : Hp} (nt : ∀ a vs, SqT C.K H a vs → SqT C.K H' a vs) : ∀ {ds : List D} {vs : List V}, Reps C ι H ds vs → Reps C ι H' ds vs
  | _, _, .nil => .nil
  | _, _, .cons a b => .cons (repMono nt a) (repsMono nt b)
end
mutual
theorem repUp {C : Con} {ι ι' : List Addr} {H : Hp} (nt : ∀ (n : Nat) (a : Addr), ι[n]? = some a → ι'[n]? = some a) : ∀ {d : D} {v : V}, Rep C ι H d v → Rep C ι' H d v
  | _, _, .non => .non
  | _, _, .bl b => .bl b
  | _, _, .int i => .int i
  | _, _, .str x => .str x
  | _, _, .tup h r => .tup h (repsUp nt r)
  | _, _, .ref h => .ref (nt _ _ h)
  | _, _, .fn h => .fn h
  | _, _, .kl h r => .kl h (repsUp nt r)
theorem repsUp {C : Con} {ι ι' : List Addr} {H : Hp} (nt : ∀ (n : Nat) (a : Addr), ι[n]? = some a → ι'[n]? = some a) : ∀ {ds : List D} {vs : List V}, Reps C ι H ds vs → Reps C ι' H ds vs
  | _, _, .nil => .nil
  | _, _, .cons a b => .cons (repUp nt a) (repsUp nt b)
end
theorem lc_turns {own : List (Str × Nat)} {t : Tg} {mc : En → Sto → Out Bool} {me : En → Sto → Out D} {fuel : Nat} {τ : L2.St} {σ : En} {Q : VK} {J : It} {J' : L2.It} {ι1 : List Addr} {H1 : Hp} {M1 Mf : Sto} {fin : List D} {Dd : Addr}
    (hw : tgIn t (own.map (·.2))) (hE : EnR C ι1 H1 σ τ) (r1 : Rel C ι1 H1 M1) (hJ : ItR C J J' ι1 H1) (hD : H1 Dd = none) (qr : lcGo J (lcF mc me t (wipeD σ (own.map (·.2)))) fuel 0 [] M1 = .ok fin Mf)
    (fin1 : ∀ ι2 H2 vs2, Ext C ι1 H1 ι2 H2 → Rel C ι2 H2 Mf → Dd ∉ ι2 → H2 Dd = some (.lst vs2) → Reps C ι2 H2 fin vs2 → Q (.ref Dd) H2) :
    ∃ W : Nat → Nat → Hp → Prop, (∃ m, W 0 m (upd H1 Dd (.lst []))) ∧ ∀ i m H, W i m H →
  (J'.stop i H ∧ Q (.ref Dd) H) ∨ (J'.go i H ∧ ∃ Nx : Hp → Prop, (∀ H', Nx H' → ∃ m', m' < m ∧ W (i + 1) m' H') ∧ ∀ x H', J'.yld i H x H' → rdG C t x (wipe τ (own.map (·.2))) H' fun σ2 H2 => wipe σ2 (own.map (·.2)) = wipe τ (own.map (·.2)) ∧ rdT C Wno mc σ2 H2 fun b H3 =>
    if b = true then rdE C Wno me σ2 H3 fun y H4 => ∃ acc, H4 Dd = some (.lst acc) ∧ acc.length < sizeLine ∧ Nx (upd H4 Dd (.lst (acc ++ [y]))) else Nx H3) := by
  have fr : Dd ∉ ι1 := r1.fresh hD
  refine ⟨fun i m H' => ∃ ι' M' acc vs', Ext C ι1 H1 ι' H' ∧ Rel C ι' H' M' ∧ Dd ∉ ι' ∧ H' Dd = some (.lst vs') ∧ Reps C ι' H' acc vs' ∧ lcGo J (lcF mc me t (wipeD σ (own.map (·.2)))) m i acc M' = .ok fin Mf,
    ⟨fuel, ι1, M1, [], [], ext_new hD, r1.new hD, fr, upd_same, .nil, qr⟩, ?_⟩
  rintro i m H2 ⟨ι2, M2, acc, vs2, e2, r2, n2, hl2, rs2, eq2⟩
  cases m with
  | zero => unfold lcGo at eq2; cases eq2
  | succ m =>
    unfold lcGo at eq2
    obtain ⟨js, jg⟩ := hJ i ι2 H2 M2 e2 r2
    split at eq2
    · cases eq2
    · rename_i en
      cases eq2
      refine .inl ⟨js en, ?_⟩
      exact fin1 ι2 H2 vs2 e2 r2 n2 hl2 rs2
    · rename_i x en
      obtain ⟨go, yl⟩ := jg x en
      refine .inr ⟨go, fun H' => ∃ ι' M' acc vs', Ext C ι1 H1 ι' H' ∧ Rel C ι' H' M' ∧ Dd ∉ ι' ∧ H' Dd = some (.lst vs') ∧ Reps C ι' H' acc vs' ∧ lcGo J (lcF mc me t (wipeD σ (own.map (·.2)))) m (i + 1) acc M' = .ok fin Mf,
        fun H' hh => ⟨m, Nat.lt_succ_self _, hh⟩, fun xv H3 yy => ?_⟩
      obtain ⟨e3, r3, rx3⟩ := yl xv H3 yy
      have hl3 : H3 Dd = some (.lst vs2) := e3.keep _ _ hl2 n2
      have rs3 := rs2.ext e3
      have e13 := e2.trans e3
      -- the turn
      cases qt : setTg t x (wipeD σ (own.map (·.2))) with
      | none => simp only [lcF, qt] at eq2; cases eq2
      | some σ' =>
        simp only [lcF, qt] at eq2
        refine ⟨ι2, wipeD σ (own.map (·.2)), M2, x, σ', wipe_rel (hE.ext e13) _, r3, rx3, qt, fun τ' hE' w' => ⟨(w' _ hw).trans (wipe_wipe fun _ h => h), ?_⟩⟩
        refine ⟨ι2, σ', M2, hE', r3, ?_⟩
        cases qc : mc σ' M2 with
        | bad => rw [qc] at eq2; cases eq2
        | exc x M3 => rw [qc] at eq2; cases eq2
        | ok k M4 =>
          rw [qc, Out.bind_ok] at eq2
          intro ι4 H4 e4 r4
          have n4 : Dd ∉ ι4 := fun z => (e4.new _ z).elim n2 fun z => by rw [hl3] at z; cases z
          have hl4 : H4 Dd = some (.lst vs2) := e4.keep _ _ hl3 n2
          have rs4 := rs3.ext e4
          have e14 := e13.trans e4
          cases k with
          | false =>
            simp only [Bool.false_eq_true, if_false] at eq2 ⊢
            exact ⟨ι4, M4, acc, vs2, e14, r4, n4, hl4, rs4, eq2⟩
          | true =>
            simp only [if_true] at eq2 ⊢
            refine ⟨ι4, σ', M4, hE'.ext e4, r4, ?_⟩
            cases qe : me σ' M4 with
            | bad => rw [qe] at eq2; cases eq2
            | exc x M3 => rw [qe] at eq2; cases eq2
            | ok d M5 =>
              rw [qe, Out.bind_ok] at eq2
              simp only at eq2
              split at eq2
              · rename_i hz
                intro ι5 H5 e5 r5 v rv
                have n5 : Dd ∉ ι5 := fun z => (e5.new _ z).elim n4 fun z => by rw [hl4] at z; cases z
                have hl5 : H5 Dd = some (.lst vs2) := e5.keep _ _ hl4 n4
                have rs5 := rs4.ext e5
                have e15 := e14.trans e5
                refine ⟨vs2, hl5, by rw [← rs5.length]; exact hz, ?_⟩
                -- the new list written
                have nt : ∀ a vs, SqT C.K H5 a vs → SqT C.K (upd H5 Dd (.lst (vs2 ++ [v]))) a vs := fun a vs hq => by
                  rcases hq with (hq | ⟨u, hq⟩) | hq
                  · have : a ≠ Dd := fun z => by rw [z, hl5] at hq; cases hq
                    exact .inl (.inl (by rw [upd_ne this]; exact hq))
                  · have : a ≠ Dd := fun z => by rw [z, hl5] at hq; cases hq
                    exact .inl (.inr ⟨u, by rw [upd_ne this]; exact hq⟩)
                  · exact .inr hq
                have nm : ∀ a ∈ ι5, a ≠ Dd := fun a ha z => n5 (z ▸ ha)
                have rp : ∀ (d : D) (v' : V), Rep C ι5 H5 d v' → Rep C ι5 (upd H5 Dd (.lst (vs2 ++ [v]))) d v' := fun d v' r => repMono nt r
                have rps : ∀ (d : List D) (v' : List V), Reps C ι5 H5 d v' → Reps C ι5 (upd H5 Dd (.lst (vs2 ++ [v]))) d v' := fun d v' r => repsMono nt r
                refine ⟨ι5, M5, acc ++ [d], vs2 ++ [v], ?_, ?_, n5, upd_same, (rps _ _ rs5).append (.cons (rp _ _ rv) .nil), eq2⟩
                · refine ⟨e15.pre, fun a vs hq => nt _ _ (e15.tup _ _ hq), fun b o hb hn => ?_, e15.new⟩
                  have : b ≠ Dd := ne_of_none hb hD
                  rw [upd_ne this]
                  exact e15.keep b o hb hn
                · refine ⟨r5.len, r5.nd, fun n a o h1 h2 => ?_⟩
                  obtain ⟨u, hu, ru⟩ := r5.obj n a o h1 h2
                  refine ⟨u, by rw [upd_ne (nm a (List.mem_of_getElem? h1))]; exact hu, ?_⟩
                  cases ru with
                  | lst rr => exact .lst (rps _ _ rr)
                  | fro rr => exact .fro (rps _ _ rr)
                  | dK rr => exact .dK (rr.map rp)
                  | dT rr => exact .dT (rr.map rp)
              · cases eq2
theorem lc_read {own : List (Str × Nat)} {t : Tg} {mi : En → Sto → Out It} {mc : En → Sto → Out Bool} {me : En → Sto → Out D} {fuel : Nat} {τ : L2.St} {H : Hp} {Q : VK} {σ : En} {β : Type} {k : List D → Sto → Out β} {R : β → Sto → List Addr → Hp → Prop}
    (hw : tgIn t (own.map (·.2))) (hE : EnR C ι H σ τ) (hR : Rel C ι H M) (h : Post C ι H (wat W τ) (((mi σ M).bind fun J M1 => lcGo J (lcF mc me t (wipeD σ (own.map (·.2)))) fuel 0 [] M1).bind k) R)
    (f : ∀ ι1 H1 fin Mf Dd, Ext C ι H ι1 H1 → H1 Dd = none → Post C ι1 H1 (wat W τ) (k fin Mf) R → ∀ ι2 H2 vs2, Ext C ι1 H1 ι2 H2 → Rel C ι2 H2 Mf → Dd ∉ ι2 → H2 Dd = some (.lst vs2) → Reps C ι2 H2 fin vs2 → Q (.ref Dd) H2) :
    tLc (rdI C W mi) (rdG C t) (rdT C Wno mc) (rdE C Wno me) (own.map (·.2)) τ H Q := by
  refine ⟨ι, σ, M, hE, hR, ?_⟩
  rw [assoc2] at h
  have b := h.bind
  cases q : mi σ M with
  | bad => rw [q] at b; exact b
  | exc x M2 => rw [q] at b; exact b
  | ok J M1 =>
    rw [q] at b
    intro ι1 H1 e1 r1 J' hJ Dd hD
    have b1 : Post C ι1 H1 (wat W τ) ((lcGo J (lcF mc me t (wipeD σ (own.map (·.2)))) fuel 0 [] M1).bind k) R := b ι1 H1 e1 r1
    cases qr : lcGo J (lcF mc me t (wipeD σ (own.map (·.2)))) fuel 0 [] M1 with
    | bad => rw [qr] at b1; exact b1.elim
    | exc x M2 => exact absurd qr (lcGo_noexc _ _ _ _ _ _ _ _)
    | ok fin Mf =>
      rw [qr] at b1
      exact lc_turns hw (hE.ext e1) r1 hJ hD qr (f ι1 H1 fin Mf Dd e1 hD b1)
theorem l_lc {tg elt iter : Expr} {ifs : List Expr} {scope : Scope} {own : List (Str × Nat)} {pos : Pos} {t : Tg} {mi : En → Sto → Out It} {mc : En → Sto → Out Bool} {me : En → Sto → Out D} {fuel : Nat}
    (hc : X.calm = true) (hN : X.N.Nodup) (hi : PI X tg iter (rdI C W mi)) (ok : BlkOk X.N X.env.scope scope own)
    (hg : ∀ (s : Shared) (H : Hp) (c : Addr) (cl : List (Str × Addr)) (fp : List Addr), PG (X.blk s H scope (compEnvC scope cl c X.env) fp) tg (rdG C t))
    (ht : ∀ (s : Shared) (H : Hp) (c : Addr) (cl : List (Str × Addr)) (fp : List Addr), PTs (X.blk s H scope (compEnvC scope cl c X.env) fp) ifs (rdT C Wno mc))
    (he : ∀ (s : Shared) (H : Hp) (c : Addr) (cl : List (Str × Addr)) (fp : List Addr), PE (X.blk s H scope (compEnvC scope cl c X.env) fp) elt (rdE C Wno me))
    (hs : ∀ x, foldedSetIterable iter X.env x = pure x) (hw : tgIn t (own.map (·.2))) :
    PE X (.ListComp elt [⟨tg, iter, ifs, 0⟩] scope pos) (rdZ C W (SqF C) fun σ M => (mi σ M).bind fun J M1 => lcGo J (lcF mc me t (wipeD σ (own.map (·.2)))) fuel 0 [] M1) := by
  refine peimp (pe_lc hc hN hi ok hg ht he hs) fun τ H Q h => ?_
  obtain ⟨ι, σ, M, hE, hR, h⟩ := h
  have h' : Post C ι H (wat W τ) (((mi σ M).bind fun J M1 => lcGo J (lcF mc me t (wipeD σ (own.map (·.2)))) fuel 0 [] M1).bind fun ds M' => .ok ds M') (fun ds _ ι' H' => ∀ v, SqF C ι' H' ds v → Q v H') := by
    have h : Post C ι H (wat W τ) ((mi σ M).bind fun J M1 => lcGo J (lcF mc me t (wipeD σ (own.map (·.2)))) fuel 0 [] M1) (fun ds _ ι' H' => ∀ v, SqF C ι' H' ds v → Q v H') := h
    cases q : ((mi σ M).bind fun J M1 => lcGo J (lcF mc me t (wipeD σ (own.map (·.2)))) fuel 0 [] M1) with
    | bad => rw [q] at h; exact h
    | exc x M2 => rw [q] at h; exact h
    | ok ds M2 => rw [q] at h; exact h
  refine lc_read (M := M) (mi := mi) hw hE hR h' fun ι1 H1 fin Mf Dd e1 hD b1 ι2 H2 vs2 e2 r2 n2 hl2 rs2 => ?_
  exact b1 ι2 H2 e2 r2 _ ⟨Dd, vs2, rfl, hl2, n2, rs2⟩
/-- a list that stands already is told by the store from now on -/
theorem Rel.adopt (r : Rel C ι H M) {p : Addr} {vs : List V} {ds : List D} (hn : p ∉ ι) (hp : H p = some (.lst vs)) (rs : Reps C ι H ds vs) :
    Rel C (ι ++ [p]) H (M ++ [.lst ds]) ∧ Rep C (ι ++ [p]) H (.ref M.length) (.ref p) := by
  have pre : ∀ (n : Nat) (a : Addr), ι[n]? = some a → (ι ++ [p])[n]? = some a := fun n a h => by rw [List.getElem?_append_left (List.getElem?_eq_some_iff.mp h).1]; exact h
  have up : ∀ (d : D) (v : V), Rep C ι H d v → Rep C (ι ++ [p]) H d v := fun d v r => repUp pre r
  have ups : ∀ (d : List D) (v : List V), Reps C ι H d v → Reps C (ι ++ [p]) H d v := fun d v r => repsUp pre r
  refine ⟨⟨by rw [List.length_append, List.length_append, r.len]; rfl, ?_, fun n a o' h1 h2 => ?_⟩, ?_⟩
  · rw [List.nodup_append]
    refine ⟨r.nd, by simp, fun a ha b hb => ?_⟩
    rw [List.mem_singleton.mp hb]
    intro z
    exact hn (z ▸ ha)
  · by_cases hl : n < ι.length
    · rw [List.getElem?_append_left hl] at h1
      rw [List.getElem?_append_left (by rw [← r.len]; exact hl)] at h2
      obtain ⟨v, hv, rv⟩ := r.obj n a o' h1 h2
      refine ⟨v, hv, ?_⟩
      cases rv with
      | lst rr => exact .lst (ups _ _ rr)
      | fro rr => exact .fro (ups _ _ rr)
      | dK rr => exact .dK (rr.map up)
      | dT rr => exact .dT (rr.map up)
    · have hl2 : n = ι.length := by
        have := (List.getElem?_eq_some_iff.mp h1).1
        rw [List.length_append, List.length_singleton] at this
        omega
      subst hl2
      rw [List.getElem?_append_right (Nat.le_refl _), Nat.sub_self] at h1
      rw [List.getElem?_append_right (by rw [r.len]; exact Nat.le_refl _), r.len, Nat.sub_self] at h2
      cases h1; cases h2
      exact ⟨_, hp, .lst (ups _ _ rs)⟩
  · exact .ref (by rw [← r.len, List.getElem?_append_right (Nat.le_refl _), Nat.sub_self]; rfl)
/-- the comprehension as a value: told by the store -/
theorem lc_value {own : List (Str × Nat)} {t : Tg} {mi : En → Sto → Out It} {mc : En → Sto → Out Bool} {me : En → Sto → Out D} {fuel : Nat} {τ : L2.St} {Q : VK}
    (hw : tgIn t (own.map (·.2))) (h : rdE C W (fun σ M => ((mi σ M).bind fun J M1 => lcGo J (lcF mc me t (wipeD σ (own.map (·.2)))) fuel 0 [] M1).bind fun ds M' => .ok (.ref M'.length) (M' ++ [.lst ds])) τ H Q) :
    tLc (rdI C W mi) (rdG C t) (rdT C Wno mc) (rdE C Wno me) (own.map (·.2)) τ H Q := by
  obtain ⟨ι, σ, M, hE, hR, h⟩ := h
  refine lc_read (M := M) (mi := mi) hw hE hR h fun ι1 H1 fin Mf Dd e1 hD b1 ι2 H2 vs2 e2 r2 n2 hl2 rs2 => ?_
  obtain ⟨r3, rr⟩ := r2.adopt n2 hl2 rs2
  refine b1 (ι2 ++ [Dd]) H2 ⟨fun n a h => ?_, e2.tup, e2.keep, fun b hb => ?_⟩ r3 _ rr
  · have := e2.pre n a h
    rw [List.getElem?_append_left (List.getElem?_eq_some_iff.mp this).1]; exact this
  · rcases List.mem_append.mp hb with hb | hb
    · exact e2.new b hb
    · rw [List.mem_singleton.mp hb]; exact .inr hD
theorem e_lc {tg elt iter : Expr} {ifs : List Expr} {scope : Scope} {own : List (Str × Nat)} {pos : Pos} {t : Tg} {mi : En → Sto → Out It} {mc : En → Sto → Out Bool} {me : En → Sto → Out D} {fuel : Nat}
    (hc : X.calm = true) (hN : X.N.Nodup) (hi : PI X tg iter (rdI C W mi)) (ok : BlkOk X.N X.env.scope scope own)
    (hg : ∀ (s : Shared) (H : Hp) (c : Addr) (cl : List (Str × Addr)) (fp : List Addr), PG (X.blk s H scope (compEnvC scope cl c X.env) fp) tg (rdG C t))
    (ht : ∀ (s : Shared) (H : Hp) (c : Addr) (cl : List (Str × Addr)) (fp : List Addr), PTs (X.blk s H scope (compEnvC scope cl c X.env) fp) ifs (rdT C Wno mc))
    (he : ∀ (s : Shared) (H : Hp) (c : Addr) (cl : List (Str × Addr)) (fp : List Addr), PE (X.blk s H scope (compEnvC scope cl c X.env) fp) elt (rdE C Wno me))
    (hs : ∀ x, foldedSetIterable iter X.env x = pure x) (hw : tgIn t (own.map (·.2))) :
    PE X (.ListComp elt [⟨tg, iter, ifs, 0⟩] scope pos) (rdE C W fun σ M => ((mi σ M).bind fun J M1 => lcGo J (lcF mc me t (wipeD σ (own.map (·.2)))) fuel 0 [] M1).bind fun ds M' => .ok (.ref M'.length) (M' ++ [.lst ds])) :=
  peimp (pe_lc hc hN hi ok hg ht he hs) fun τ H Q h => lc_value hw h
end
end PyL

set_option maxHeartbeats 4000000
namespace PyL
open PySem PySem.Spec PyProof.Rows L2
/-- the promise of a def that does what call tells -/
def spOf (C : Con) (call : List D → Sto → Out D) (np : Nat) : Sp := fun vs H Q E => ∃ ι M ds, Rel C ι H M ∧ Reps C ι H ds vs ∧ ds.length = np ∧ Post C ι H E (call ds M) fun d _ ι' H' => ∀ v, Rep C ι' H' d v → Q v H'
section
variable {C : Con} {X : Cx} {W : WX} {a b c : Expr} {es : List Expr} {ma mb mc : En → Sto → Out D} {ms : En → Sto → Out (List D)} {pos p apos : Pos} {x : Str}
theorem e_call {n : Nat} {f : Addr} {fd : FuncData} {ps : List Str} {call : List D → Sto → Out D} (F : FnOk X.prog X.w X.K X.mg X.base (L2.CX X.prog X.w) n f fd ps (spOf C call ps.length)) (hr : Room n X.A) (tk : Takes X W) (hg : Gl X x) (hm : X.mg x = some (.ref f)) (hk : PySem.W.keepIn X.K (.ref f) = true) (hb : Binds X.K fd ps [])
    (ha : PA X (a :: es) (rdA C W ms)) (hlen : ∀ σ M ds M', ms σ M = .ok ds M' → ds.length = ps.length) (hdb : (x == ("__debug__" : Str)) = false) (he : starEach (a :: es) X.env = (false, eval a X.env) :: starEach es X.env) (hpl : (backTo pos (starEach es X.env)).any (·.1) = false) :
    PE X (.Call (.Name x p) (a :: es) [] pos) (rdE C W fun σ M => (ms σ M).bind fun ds M' => call ds M') := by
  refine peimp (pe_callSD (E := fun σ => wat W σ) F hr hg hm hk hb .nil (fun σ => passAt tk σ) ha hdb he hpl) fun τ H Q h => ?_
  obtain ⟨ι, σ, M, hE, hR, h⟩ := h
  refine ⟨ι, σ, M, hE, hR, ?_⟩
  have b := h.bind
  cases q : ms σ M with
  | bad => rw [q] at b; exact b
  | exc x M2 => rw [q] at b; exact b
  | ok ds M2 =>
    rw [q] at b
    intro ι' H' e r vs rv
    rw [List.append_nil]
    exact ⟨ι', M2, ds, r, rv, hlen _ _ _ _ q, b ι' H' e r⟩
theorem e_call0 {n : Nat} {f : Addr} {fd : FuncData} {ps : List Str} {call : List D → Sto → Out D} (F : FnOk X.prog X.w X.K X.mg X.base (L2.CX X.prog X.w) n f fd ps (spOf C call ps.length)) (hr : Room n X.A) (tk : Takes X W) (hg : Gl X x) (hm : X.mg x = some (.ref f)) (hk : PySem.W.keepIn X.K (.ref f) = true) (hb : Binds X.K fd ps []) (hps : ps.length = 0)
    (hdb : (x == ("__debug__" : Str)) = false) : PE X (.Call (.Name x p) [] [] pos) (rdE C W fun σ M => call [] M) := by
  refine ⟨fun pins s τ H Q I h => ?_⟩
  obtain ⟨ι, σ, M, hE, hR, h⟩ := h
  refine wpAny_Call_Name_kw (ld_glob I hg hm ?_ hdb)
  exact PySem.W.callWith_K0 I.kIn hk (run_fnSD (us := []) (vs := []) (dvs := []) (E := fun σ => wat W σ) F hr hb .nil (passAt tk τ) I .nil ⟨ι, M, [], hR, .nil, hps.symm, h⟩)
/-! ### built-ins -/
theorem e_bi {id : String} {q : List D → Sto → Out D} (hc : CallR X (.builtin id) (rdB C q)) (hg : Gl X x) (hm : X.mg x = none) (hv : bootBuiltins x = some (.builtin id)) (ha : PA X (a :: es) (rdA C W ms)) (hn : x ≠ "__name__") (hdb : (x == ("__debug__" : Str)) = false)
    (he : starEach (a :: es) X.env = (false, eval a X.env) :: starEach es X.env) (hpl : (backTo pos (starEach es X.env)).any (·.1) = false) : PE X (.Call (.Name x p) (a :: es) [] pos) (rdE C W fun σ M => (ms σ M).bind fun ds M' => q ds M') := by
  refine peimp (pe_callB hc hg hm hv ha hn hdb he hpl) fun τ H Q h => ?_
  obtain ⟨ι, σ, M, hE, hR, h⟩ := h
  exact bindA hE hR h fun vs H1 ι1 M1 ds e1 hE1 hR1 rs h1 => ⟨_, ι1, M1, ds, hR1, rs, h1⟩
theorem e_ty {T : String} {q : List D → Sto → Out D} (hc : CallR X (.type T) (rdB C q)) (hg : Gl X x) (hm : X.mg x = none) (hv : bootBuiltins x = some (.type T)) (ha : PA X (a :: es) (rdA C W ms)) (hn : x ≠ "__name__") (hdb : (x == ("__debug__" : Str)) = false)
    (he : starEach (a :: es) X.env = (false, eval a X.env) :: starEach es X.env) (hpl : (backTo pos (starEach es X.env)).any (·.1) = false) : PE X (.Call (.Name x p) (a :: es) [] pos) (rdE C W fun σ M => (ms σ M).bind fun ds M' => q ds M') := by
  refine peimp (pe_callTy hc hg hm hv ha hn hdb he hpl) fun τ H Q h => ?_
  obtain ⟨ι, σ, M, hE, hR, h⟩ := h
  exact bindA hE hR h fun vs H1 ι1 M1 ds e1 hE1 hR1 rs h1 => ⟨_, ι1, M1, ds, hR1, rs, h1⟩
theorem zimp {Z Z' : List Addr → Hp → List D → V → Prop} (hz : ∀ ι H ds v, Z ι H ds v → Z' ι H ds v) (h : PE X a (rdZ C W Z ms)) : PE X a (rdZ C W Z' ms) := by
  refine peimp h fun τ H Q h => ?_
  obtain ⟨ι, σ, M, hE, hR, h⟩ := h
  exact ⟨ι, σ, M, hE, hR, h.mono fun ds M' ι' H' e hh v hv => hh v (hz _ _ _ _ hv)⟩
theorem e_bq {id : String} {q : List D → Sto → Out D} (hc : CallR X (.builtin id) (rdQ C q)) (hg : Gl X x) (hm : X.mg x = none) (hv : bootBuiltins x = some (.builtin id)) (ha : PE X a (rdZ C W (Sq C) ms)) (hn : x ≠ "__name__") (hdb : (x == ("__debug__" : Str)) = false)
    (he : starEach [a] X.env = [(false, eval a X.env)]) : PE X (.Call (.Name x p) [a] [] pos) (rdE C W fun σ M => (ms σ M).bind fun ds M' => q ds M') := by
  refine peimp (pe_callB hc hg hm hv (pa_cons ha pa_nil he) hn hdb he rfl) fun τ H Q h => ?_
  obtain ⟨ι, σ, M, hE, hR, h⟩ := h
  exact bindZ hE hR h fun v H1 ι1 M1 ds e1 hE1 hR1 rs h1 => ⟨_, ι1, M1, ds, v, rfl, hR1, rs, h1⟩
theorem e_tq {T : String} {q : List D → Sto → Out D} (hc : CallR X (.type T) (rdQ C q)) (hg : Gl X x) (hm : X.mg x = none) (hv : bootBuiltins x = some (.type T)) (ha : PE X a (rdZ C W (Sq C) ms)) (hn : x ≠ "__name__") (hdb : (x == ("__debug__" : Str)) = false)
    (he : starEach [a] X.env = [(false, eval a X.env)]) : PE X (.Call (.Name x p) [a] [] pos) (rdE C W fun σ M => (ms σ M).bind fun ds M' => q ds M') := by
  refine peimp (pe_callTy hc hg hm hv (pa_cons ha pa_nil he) hn hdb he rfl) fun τ H Q h => ?_
  obtain ⟨ι, σ, M, hE, hR, h⟩ := h
  exact bindZ hE hR h fun v H1 ι1 M1 ds e1 hE1 hR1 rs h1 => ⟨_, ι1, M1, ds, v, rfl, hR1, rs, h1⟩
theorem e_bqs {id : String} {q : List D → Sto → Out D} (hc : CallR X (.builtin id) (rdQS C q)) (hg : Gl X x) (hm : X.mg x = none) (hv : bootBuiltins x = some (.builtin id)) (ha : PE X a (rdZ C W (SqS C) ms)) (hn : x ≠ "__name__") (hdb : (x == ("__debug__" : Str)) = false)
    (he : starEach [a] X.env = [(false, eval a X.env)]) : PE X (.Call (.Name x p) [a] [] pos) (rdE C W fun σ M => (ms σ M).bind fun ds M' => q ds M') := by
  refine peimp (pe_callB hc hg hm hv (pa_cons ha pa_nil he) hn hdb he rfl) fun τ H Q h => ?_
  obtain ⟨ι, σ, M, hE, hR, h⟩ := h
  exact bindZ hE hR h fun v H1 ι1 M1 ds e1 hE1 hR1 rs h1 => ⟨_, ι1, M1, ds, v, rfl, hR1, rs, h1⟩
/-! ### what a value holds, as something gone through -/
theorem l_val (ha : PE X a (rdE C W ma)) : PE X a (rdZ C W (Sq C) fun σ M => (ma σ M).bind fun d M1 => match items M1 d with | some xs => .ok xs M1 | none => .bad) := by
  refine peimp ha fun τ H Q h => ?_
  obtain ⟨ι, σ, M, hE, hR, h⟩ := h
  refine bindE hE hR h fun v H1 ι1 M1 d e1 hE1 hR1 rd h1 => ?_
  cases q : items M1 d with
  | none => rw [q] at h1; exact h1.elim
  | some xs =>
    rw [q] at h1
    exact h1.here hR1 v (hR1.items rd q)
theorem l_vlst (ha : PE X a (rdE C W ma)) : PE X a (rdZ C W (SqW C) fun σ M => (ma σ M).bind fun d M1 => match d with | .ref k => (match lstAt M1 k with | some xs => .ok xs M1 | none => .bad) | _ => .bad) := by
  refine peimp ha fun τ H Q h => ?_
  obtain ⟨ι, σ, M, hE, hR, h⟩ := h
  refine bindE hE hR h fun v H1 ι1 M1 d e1 hE1 hR1 rd h1 => ?_
  cases d with
  | ref k =>
    simp only at h1
    cases q : lstAt M1 k with
    | none => rw [q] at h1; exact h1.elim
    | some xs =>
      rw [q] at h1
      obtain ⟨p, vs, rfl, _, hp, rs⟩ := hR1.lst rd (lstAt_of q)
      exact h1.here hR1 _ ⟨p, vs, rfl, hp, rs⟩
  | _ => exact h1.elim
end
end PyL

set_option maxHeartbeats 4000000
namespace PyL
open PySem PySem.Spec PyProof.Rows L2
section
variable {C : Con} {X : Cx} {W : WX} {o e : Expr} {es : List Expr} {mo me : En → Sto → Out D} {ms : En → Sto → Out (List D)} {pos apos : Pos} {x : Str} {T id : String} {name : Str}
/-! ### methods -/
theorem e_me1 {q : D → List D → Sto → Out D} {ok : Sto → D → Bool} (pa : PlainAttrs T) (slot : Slot T name id) (hty : typeOf (.builtin id) = pure (.type "method_descriptor")) (hm : MtR X id (rdM C q))
    (hok : ∀ ι H M d v, Rel C ι H M → Rep C ι H d v → ok M d = true → tyV X.K T v H) (ho : PE X o (rdE C W mo)) (ha : PA X [e] (rdA C W ms)) (hbase : attributeBase o name X.env (eval o X.env) = eval o X.env) (hline : (apos.endLine == pos.line) = true) (hs : starEach [e] X.env = [(false, eval e X.env)]) :
    PE X (.Call (.Attribute o name apos) [e] [] pos) (rdE C W fun σ M => (mo σ M).bind fun x M1 => if ok M1 x = true then (ms σ M1).bind fun ds M' => q x ds M' else .bad) := by
  refine peimp (pe_bm pa slot hty hm ho ha hbase (by rw [hs]; rfl) hline hs rfl) fun τ H Q h => ?_
  obtain ⟨ι, σ, M, hE, hR, h⟩ := h
  refine bindE hE hR h fun v H1 ι1 M1 d e1 hE1 hR1 rd h1 => ?_
  split at h1
  · rename_i hk
    refine ⟨hok _ _ _ _ _ hR1 rd hk, ?_⟩
    exact bindA hE1 hR1 h1 fun vs H2 ι2 M2 ds e2 hE2 hR2 rs h2 => ⟨_, ι2, M2, d, ds, hR2, rd.ext e2, rs, h2⟩
  · exact h1.elim
theorem e_me0 {q : D → List D → Sto → Out D} {ok : Sto → D → Bool} (pa : PlainAttrs T) (slot : Slot T name id) (hty : typeOf (.builtin id) = pure (.type "method_descriptor")) (hm : MtR X id (rdM C q))
    (hok : ∀ ι H M d v, Rel C ι H M → Rep C ι H d v → ok M d = true → tyV X.K T v H) (ho : PE X o (rdE C W mo)) (hbase : attributeBase o name X.env (eval o X.env) = eval o X.env) (hline : (apos.endLine == pos.line) = true) :
    PE X (.Call (.Attribute o name apos) [] [] pos) (rdE C W fun σ M => (mo σ M).bind fun x M1 => if ok M1 x = true then (Out.ok [] M1).bind fun ds M' => q x ds M' else .bad) := by
  refine peimp (pe_bm0 pa slot hty hm ho hbase hline) fun τ H Q h => ?_
  obtain ⟨ι, σ, M, hE, hR, h⟩ := h
  refine bindE hE hR h fun v H1 ι1 M1 d e1 hE1 hR1 rd h1 => ?_
  split at h1
  · rename_i hk
    exact ⟨hok _ _ _ _ _ hR1 rd hk, _, ι1, M1, d, [], hR1, rd, .nil, h1⟩
  · exact h1.elim
theorem e_ml {Z : List Addr → Hp → List D → V → Prop} {r : V → List V → Hp → VK → Prop} {q : D → List D → Sto → Out D} {ok : Sto → D → Bool} (pa : PlainAttrs T) (slot : Slot T name id) (hty : typeOf (.builtin id) = pure (.type "method_descriptor")) (hm : MtR X id r)
    (hz : ∀ (Wx : XK) ι H M a ds x v Q, Rel C ι H M → Rep C ι H a x → Z ι H ds v → Post C ι H Wx (q a ds M) (fun d _ ι' H' => ∀ v, Rep C ι' H' d v → Q v H') → r x [v] H Q)
    (hok : ∀ ι H M d v, Rel C ι H M → Rep C ι H d v → ok M d = true → tyV X.K T v H) (ho : PE X o (rdE C W mo)) (ha : PE X e (rdZ C W Z ms)) (hbase : attributeBase o name X.env (eval o X.env) = eval o X.env) (hline : (apos.endLine == pos.line) = true) (hs : starEach [e] X.env = [(false, eval e X.env)]) :
    PE X (.Call (.Attribute o name apos) [e] [] pos) (rdE C W fun σ M => (mo σ M).bind fun x M1 => if ok M1 x = true then (ms σ M1).bind fun ds M' => q x ds M' else .bad) := by
  refine peimp (pe_bm pa slot hty hm ho (pa_cons ha pa_nil hs) hbase (by rw [hs]; rfl) hline hs rfl) fun τ H Q h => ?_
  obtain ⟨ι, σ, M, hE, hR, h⟩ := h
  refine bindE hE hR h fun v H1 ι1 M1 d e1 hE1 hR1 rd h1 => ?_
  split at h1
  · rename_i hk
    refine ⟨hok _ _ _ _ _ hR1 rd hk, ?_⟩
    exact bindZ hE1 hR1 h1 fun v2 H2 ι2 M2 ds e2 hE2 hR2 rs h2 => hz _ _ _ _ _ _ _ _ _ hR2 (rd.ext e2) rs h2
  · exact h1.elim
theorem ok_lst {ι : List Addr} {H : Hp} {M : Sto} {d : D} {v : V} (R : Rel C ι H M) (r : Rep C ι H d v) (h : isLst M d = true) : tyV X.K "list" v H := by
  cases d with
  | ref k =>
    simp only [isLst, Option.isSome_iff_exists] at h
    obtain ⟨xs, e⟩ := h
    obtain ⟨p, vs, rfl, _, hp, _⟩ := R.lst r (lstAt_of e)
    exact .inl ⟨rfl, _, .inl (.inl hp)⟩
  | _ => cases h
theorem ok_str {ι : List Addr} {H : Hp} {M : Sto} {d : D} {v : V} (R : Rel C ι H M) (r : Rep C ι H d v) (h : ML.ok .join M d = true) : tyV X.K "str" v H := by
  cases d with
  | str z => cases r; exact rfl
  | _ => cases h
/-! ### isinstance -/
theorem e_isin1 {tn : Str} {t : Ty} {ma : En → Sto → Out D} {p p2 : Pos} (hK : X.K = C.K) (hg : Gl X "isinstance") (hm : X.mg "isinstance" = none) (ho : isOwn t = false) (hg2 : Gl X tn) (hm2 : X.mg tn = none) (hv2 : bootBuiltins tn = some (.type (tyName t))) (hn2 : tn ≠ "__name__") (hd2 : (tn == ("__debug__" : Str)) = false)
    (ha : PE X e (rdE C W ma)) (hs : starEach [e, .Name tn p2] X.env = (false, eval e X.env) :: starEach [.Name tn p2] X.env) :
    PE X (.Call (.Name "isinstance" p) [e, .Name tn p2] [] pos) (rdE C W fun σ M => (ma σ M).bind fun x M1 => dIsin x [t] M1) := by
  refine peimp (pe_callB call_isi hg hm (by decide +kernel) (pa_cons ha (pa_cons (pe_bltn (v := .ty (tyName t)) hg2 hm2 hv2 rfl hn2 hd2) pa_nil rfl) hs) (by decide) (by decide) hs rfl) fun τ H Q h => ?_
  obtain ⟨ι, σ, M, hE, hR, h⟩ := h
  refine bindE hE hR h fun v H1 ι1 M1 d e1 hE1 hR1 rd h1 => ?_
  cases q : tysIs M1 d [t] with
  | none => unfold dIsin at h1; rw [q] at h1; exact h1.elim
  | some b =>
    unfold dIsin at h1; rw [q] at h1
    obtain ⟨b', e2⟩ : ∃ b', tyIs M1 d t = some b' := by
      simp only [tysIs] at q
      cases e2 : tyIs M1 d t with
      | none => rw [e2] at q; cases q
      | some b' => exact ⟨b', rfl⟩
    obtain ⟨T, ty, kk⟩ := rep_ty hK hR1 rd e2
    refine ⟨v, .ty (tyName t), .type T, .type (tyName t), b, rfl, .ty _, ty, ?_, h1.here hR1 _ (.bl _)⟩
    have := kit_any (K := X.K) kk [t] b (by simp [ho]) q
    simp only [List.map_cons, List.map_nil, PySem.W.kitAny] at this
    cases e3 : PySem.W.kitOne X.K (.type T) (.type (tyName t)) with
    | none => rw [e3] at this; cases this
    | some b2 =>
      rw [e3] at this
      cases b2 <;> exact this
end

/-! ### statements -/
def PostS (C : Con) (ι : List Addr) (H : Hp) (W : WX) (D : Ends) (o : SO) : Prop :=
  match o with
  | .nx σ' M' => ∀ ι' H' τ', Ext C ι H ι' H' → Rel C ι' H' M' → EnR C ι' H' σ' τ' → D.nx τ' H'
  | .bk σ' M' => ∀ ι' H' τ', Ext C ι H ι' H' → Rel C ι' H' M' → EnR C ι' H' σ' τ' → D.bk τ' H'
  | .ct σ' M' => ∀ ι' H' τ', Ext C ι H ι' H' → Rel C ι' H' M' → EnR C ι' H' σ' τ' → D.ct τ' H'
  | .rt d M' => ∀ ι' H' v, Ext C ι H ι' H' → Rel C ι' H' M' → Rep C ι' H' d v → D.rt v H'
  | .exc x σ' M' => ∀ ι' H' τ' c dd, Ext C ι H ι' H' → Rel C ι' H' M' → EnR C ι' H' σ' τ' → ExR C ι' H' x c dd → W c dd τ' H'
  | .bad => False
def rdSt (C : Con) (W : WX) (m : En → Sto → SO) : TS := fun D τ H => ∃ ι σ M, EnR C ι H σ τ ∧ Rel C ι H M ∧ PostS C ι H W D (m σ M)
section
variable {C : Con} {W : WX} {ι ι' : List Addr} {H H' : Hp} {D : Ends}
theorem PostS.ext {o : SO} (h : PostS C ι H W D o) (e : Ext C ι H ι' H') : PostS C ι' H' W D o := by
  cases o with
  | bad => exact h
  | nx σ M => exact fun ι2 H2 τ e2 r en => h ι2 H2 τ (e.trans e2) r en
  | bk σ M => exact fun ι2 H2 τ e2 r en => h ι2 H2 τ (e.trans e2) r en
  | ct σ M => exact fun ι2 H2 τ e2 r en => h ι2 H2 τ (e.trans e2) r en
  | rt d M => exact fun ι2 H2 v e2 r rv => h ι2 H2 v (e.trans e2) r rv
  | exc x σ M => exact fun ι2 H2 τ c dd e2 r en x => h ι2 H2 τ c dd (e.trans e2) r en x
/-- behind an expression -/
theorem PostS.of {α : Type} {o : Out α} {σ : En} {τ : L2.St} {k : α → Sto → SO} (hE : EnR C ι H σ τ) (h : PostS C ι H W D (SO.ofOut o σ k)) : Post C ι H (wat W τ) o fun a M' ι' H' => PostS C ι' H' W D (k a M') := by
  cases o with
  | bad => exact h
  | exc x M => exact fun ι2 H2 c dd e r x => h ι2 H2 τ c dd e r (hE.ext e) x
  | ok a M => exact fun ι2 H2 e r => PostS.ext (o := k a M) h e
end
theorem Post.mono' {α : Type} {C : Con} {ι : List Addr} {H : Hp} {W : XK} {o : Out α} {M : Sto} (_ : Rel C ι H M) {R R' : α → Sto → List Addr → Hp → Prop} (h : Post C ι H W o R) (f : ∀ a M ι' H', Ext C ι H ι' H' → Rel C ι' H' M → R a M ι' H' → R' a M ι' H') : Post C ι H W o R' := by
  cases o with
  | bad => exact h
  | exc x M => exact h
  | ok a M => exact fun ι1 H1 e1 r1 => f _ _ _ _ e1 r1 (h ι1 H1 e1 r1)
section
variable {C : Con} {X : Cx} {W : WX} {a c e : Expr} {ma me : En → Sto → Out D} {mc : En → Sto → Out Bool} {pos : Pos} {st : Stmt} {sts as bs : List Stmt} {m n : En → Sto → SO}
theorem useE {σ : En} {τ : L2.St} {ι : List Addr} {H : Hp} {M : Sto} {k : D → Sto → SO} {D : Ends} {Q : VK} (hE : EnR C ι H σ τ) (hR : Rel C ι H M) (h : PostS C ι H W D (SO.ofOut (me σ M) σ k))
    (f : ∀ v H1 ι1 M1 d, Ext C ι H ι1 H1 → EnR C ι1 H1 σ τ → Rel C ι1 H1 M1 → Rep C ι1 H1 d v → PostS C ι1 H1 W D (k d M1) → Q v H1) : rdE C W me τ H Q := by
  refine ⟨ι, σ, M, hE, hR, ?_⟩
  have b := PostS.of hE h
  cases q : me σ M with
  | bad => rw [q] at b; exact b
  | exc x M2 => rw [q] at b; exact b
  | ok d M2 => rw [q] at b; exact fun ι' H' e r v rv => f v H' ι' M2 d e (hE.ext e) r rv (b ι' H' e r)
theorem useT {σ : En} {τ : L2.St} {ι : List Addr} {H : Hp} {M : Sto} {k : Bool → Sto → SO} {D : Ends} {Q : Bool → Hp → Prop} (hE : EnR C ι H σ τ) (hR : Rel C ι H M) (h : PostS C ι H W D (SO.ofOut (mc σ M) σ k))
    (f : ∀ b H1 ι1 M1, Ext C ι H ι1 H1 → EnR C ι1 H1 σ τ → Rel C ι1 H1 M1 → PostS C ι1 H1 W D (k b M1) → Q b H1) : rdT C W mc τ H Q := by
  refine ⟨ι, σ, M, hE, hR, ?_⟩
  have b := PostS.of hE h
  cases q : mc σ M with
  | bad => rw [q] at b; exact b
  | exc x M2 => rw [q] at b; exact b
  | ok d M2 => rw [q] at b; exact fun ι' H' e r => f d H' ι' M2 e (hE.ext e) r (b ι' H' e r)
theorem useA {ms : En → Sto → Out (List PyL.D)} {σ : En} {τ : L2.St} {ι : List Addr} {H : Hp} {M : Sto} {k : List PyL.D → Sto → SO} {D : Ends} {Q : List V → Hp → Prop} (hE : EnR C ι H σ τ) (hR : Rel C ι H M) (h : PostS C ι H W D (SO.ofOut (ms σ M) σ k))
    (f : ∀ vs H1 ι1 M1 ds, Ext C ι H ι1 H1 → EnR C ι1 H1 σ τ → Rel C ι1 H1 M1 → Reps C ι1 H1 ds vs → PostS C ι1 H1 W D (k ds M1) → Q vs H1) : rdA C W ms τ H Q := by
  refine ⟨ι, σ, M, hE, hR, ?_⟩
  have b := PostS.of hE h
  cases q : ms σ M with
  | bad => rw [q] at b; exact b
  | exc x M2 => rw [q] at b; exact b
  | ok d M2 => rw [q] at b; exact fun ι' H' e r v rv => f v H' ι' M2 d e (hE.ext e) r rv (b ι' H' e r)
theorem s_nil : PSs X [] (rdSt C W fun σ M => .nx σ M) := pssimp pss_nil fun D τ H ⟨ι, σ, M, hE, hR, h⟩ => h ι H τ .refl hR hE
theorem s_cons (h1 : PS X st (rdSt C W m)) (h2 : PSs X sts (rdSt C W n)) : PSs X (st :: sts) (rdSt C W fun σ M => (m σ M).andThen n) := by
  refine pssimp (pss_cons h1 h2) fun D τ H h => ?_
  obtain ⟨ι, σ, M, hE, hR, h⟩ := h
  refine ⟨ι, σ, M, hE, hR, ?_⟩
  cases q : m σ M with
  | nx σ' M' => simp only [q, SO.andThen_nx] at h; exact fun ι2 H2 τ2 e r en => ⟨ι2, σ', M', en, r, PostS.ext h e⟩
  | rt d M' => simp only [q, SO.andThen_rt] at h; exact h
  | bk σ' M' => simp only [q, SO.andThen_bk] at h; exact h
  | ct σ' M' => simp only [q, SO.andThen_ct] at h; exact h
  | exc x σ' M' => simp only [q, SO.andThen_exc] at h; exact h
  | bad => simp only [q, SO.andThen_bad] at h; exact h.elim
theorem s_pass : PS X (.Pass pos) (rdSt C W fun σ M => .nx σ M) := psimp ps_pass fun D τ H ⟨ι, σ, M, hE, hR, h⟩ => h ι H τ .refl hR hE
theorem s_break : PS X (.Break pos) (rdSt C W fun σ M => .bk σ M) := psimp ps_break fun D τ H ⟨ι, σ, M, hE, hR, h⟩ => h ι H τ .refl hR hE
theorem s_cont : PS X (.Continue pos) (rdSt C W fun σ M => .ct σ M) := psimp ps_continue fun D τ H ⟨ι, σ, M, hE, hR, h⟩ => h ι H τ .refl hR hE
theorem s_never : PS X st (rdSt C W fun _ _ => .bad) := psimp ps_never fun D τ H ⟨ι, σ, M, hE, hR, h⟩ => h.elim
theorem s_expr (he : PE X e (rdE C W me)) (hs : swapsWith e none pos.line X.env = pure false) : PS X (.Expr e pos) (rdSt C W fun σ M => .ofOut (me σ M) σ fun _ M' => .nx σ M') := by
  refine psimp (ps_expr he hs) fun D τ H h => ?_
  obtain ⟨ι, σ, M, hE, hR, h⟩ := h
  exact useE hE hR h fun v H1 ι1 M1 d e1 hE1 hR1 rd h1 => h1 ι1 H1 τ .refl hR1 hE1
theorem s_ret (he : PE X e (rdE C W me)) : PS X (.Return (some e) pos) (rdSt C W fun σ M => .ofOut (me σ M) σ fun d M' => .rt d M') := by
  refine psimp (ps_ret he) fun D τ H h => ?_
  obtain ⟨ι, σ, M, hE, hR, h⟩ := h
  exact useE hE hR h fun v H1 ι1 M1 d e1 hE1 hR1 rd h1 => h1 ι1 H1 v .refl hR1 rd
theorem s_retN : PS X (.Return none pos) (rdSt C W fun _ M => .rt .non M) := psimp ps_retN fun D τ H ⟨ι, σ, M, hE, hR, h⟩ => h ι H .non .refl hR .non
theorem s_if (hc : PT X c (rdT C W mc)) (ha : PSs X as (rdSt C W m)) (hb : PSs X bs (rdSt C W n)) : PS X (.If c as bs pos) (rdSt C W fun σ M => .ofOut (mc σ M) σ fun k M' => if k = true then m σ M' else n σ M') := by
  refine psimp (ps_if hc ha hb) fun D τ H h => ?_
  obtain ⟨ι, σ, M, hE, hR, h⟩ := h
  refine useT hE hR h fun k H1 ι1 M1 e1 hE1 hR1 h1 => ?_
  cases k with
  | true => exact ⟨ι1, σ, M1, hE1, hR1, h1⟩
  | false => exact ⟨ι1, σ, M1, hE1, hR1, h1⟩
/-- an assignment: the target is stored -/
theorem asg_read {t : Tg} {τ : L2.St} {H : Hp} {D : Ends} (h : rdSt C W (fun σ M => .ofOut (me σ M) σ fun d M' => match setTg t d σ with | some σ' => .nx σ' M' | none => .bad) D τ H) : tAsg (rdE C W me) (rdG C t) D τ H := by
  obtain ⟨ι, σ, M, hE, hR, h⟩ := h
  refine useE hE hR h fun v H1 ι1 M1 d e1 hE1 hR1 rd h1 => ?_
  cases q : setTg t d σ with
  | none => rw [q] at h1; exact h1.elim
  | some σ' =>
    rw [q] at h1
    exact ⟨ι1, σ, M1, d, σ', hE1, hR1, rd, q, fun τ' hE' _ => h1 ι1 H1 τ' .refl hR1 hE'⟩
theorem s_asg {tg : Expr} {t : Tg} (he : PE X e (rdE C W me)) (hg : PG X tg (rdG C t)) (hs : swapsWithSole [tg] e pos.line X.env = pure false) (hw : swappedStores [tg] e X.env = pure none) (h1 : (assignEach [tg] X.env).map (·.2) = [assign tg X.env]) :
    PS X (.Assign [tg] e pos) (rdSt C W fun σ M => .ofOut (me σ M) σ fun d M' => match setTg t d σ with | some σ' => .nx σ' M' | none => .bad) :=
  psimp (ps_asg he hg hs hw h1) fun D τ H h => asg_read h
/-- x = [..] on one line -/
theorem name_read {i : Nat} {te : TE} {τ : L2.St} {H : Hp} {D : Ends} (hte : ∀ Q, rdE C W me τ H Q → te τ H Q) (h : rdSt C W (fun σ M => .ofOut (me σ M) σ fun d M' => match setTg (.name i) d σ with | some σ' => .nx σ' M' | none => .bad) D τ H) : tAsg te (gName i) D τ H := by
  obtain ⟨ι, σ, M, hE, hR, h⟩ := h
  refine hte _ (useE hE hR h fun v H1 ι1 M1 d e1 hE1 hR1 rd h1 => ?_)
  exact h1 ι1 H1 _ .refl hR1 (hE1.set rd i)
theorem s_setLc {i : Nat} {y : Str} {py : Pos} {tg elt iter : Expr} {ifs : List Expr} {scope : Scope} {own : List (Str × Nat)} {p : Pos} {t : Tg} {mi : En → Sto → Out It} {mc : En → Sto → Out Bool} {me : En → Sto → Out PyL.D} {fuel : Nat}
    (hc : X.calm = true) (hN : X.N.Nodup) (hy : X.N[i]? = some y) (hyl : X.env.scope.names.lookup y = some .local)
    (hsw : swapsWith (.ListComp elt [⟨tg, iter, ifs, 0⟩] scope p) (some (.Name y py)) pos.line X.env = pure true) (hi : PI X tg iter (rdI C W mi)) (ok : BlkOk X.N X.env.scope scope own)
    (hg : ∀ (s : Shared) (H : Hp) (c : Addr) (cl : List (Str × Addr)) (fp : List Addr), PG (X.blk s H scope (compEnvC scope cl c X.env) fp) tg (rdG C t))
    (ht : ∀ (s : Shared) (H : Hp) (c : Addr) (cl : List (Str × Addr)) (fp : List Addr), PTs (X.blk s H scope (compEnvC scope cl c X.env) fp) ifs (rdT C Wno mc))
    (he : ∀ (s : Shared) (H : Hp) (c : Addr) (cl : List (Str × Addr)) (fp : List Addr), PE (X.blk s H scope (compEnvC scope cl c X.env) fp) elt (rdE C Wno me))
    (hs : ∀ x, foldedSetIterable iter X.env x = pure x) (hw : tgIn t (own.map (·.2))) :
    PS X (.Assign [.Name y py] (.ListComp elt [⟨tg, iter, ifs, 0⟩] scope p) pos) (rdSt C W fun σ M => .ofOut (((mi σ M).bind fun J M1 => lcGo J (lcF mc me t (wipeD σ (own.map (·.2)))) fuel 0 [] M1).bind fun ds M' => .ok (.ref M'.length) (M' ++ [.lst ds])) σ fun d M' => match setTg (.name i) d σ with | some σ' => .nx σ' M' | none => .bad) :=
  psimp (ps_setLc hc hN hy hyl hsw hi ok hg ht he hs) fun D τ H h => name_read (fun Q hq => lc_value hw hq) h
/-- x = e where e is no comprehension, or x is a cell -/
theorem s_set {i : Nat} {y : Str} {py : Pos} (hN : X.N.Nodup) (hi : X.N[i]? = some y) (hx : Loc X.env.scope y) (hf : X.fn y = true ∨ X.env.scope.names.lookup y = some .local) (he : PE X e (rdE C W me)) (hs : swapsWith e (some (.Name y py)) pos.line X.env = pure false) :
    PS X (.Assign [.Name y py] e pos) (rdSt C W fun σ M => .ofOut (me σ M) σ fun d M' => match setTg (.name i) d σ with | some σ' => .nx σ' M' | none => .bad) :=
  psimp (ps_set hN hi hx he hs hf) fun D τ H h => name_read (fun Q hq => hq) h
theorem s_par2 {i j : Nat} {x y : Str} {a b : Expr} {ms : En → Sto → Out (List PyL.D)} {px py pt : Pos} {kt k2 pt2} (hc : X.calm = true) (hN : X.N.Nodup) (hi : X.N[i]? = some x) (hj : X.N[j]? = some y) (hij : i ≠ j)
    (hx : X.env.scope.names.lookup x = some .local) (hy : X.env.scope.names.lookup y = some .local) (ha : PA X [a, b] (rdA C W ms))
    (hw : swappedStores [.Tuple [.Name x px, .Name y py] kt pt] (.Tuple [a, b] k2 pt2) X.env = pure (some [x, y]))
    (hs : swapsWithSole [.Tuple [.Name x px, .Name y py] kt pt] (.Tuple [a, b] k2 pt2) pos.line X.env = pure false) :
    PS X (.Assign [.Tuple [.Name x px, .Name y py] kt pt] (.Tuple [a, b] k2 pt2) pos) (rdSt C W fun σ M => .ofOut (ms σ M) σ fun ds M' => match setMany [i, j] ds σ with | some σ' => .nx σ' M' | none => .bad) := by
  refine psimp (ps_par hc hN hi hj hij hx hy ha hw hs) fun D τ H h => ?_
  obtain ⟨ι, σ, M, hE, hR, h⟩ := h
  refine useA hE hR h fun vs H1 ι1 M1 ds e1 hE1 hR1 rs h1 => ?_
  match ds, rs, h1 with
  | [d1, d2], .cons (v := v1) r1 (.cons (v := v2) r2 .nil), h1 =>
    exact ⟨v1, v2, rfl, h1 ι1 H1 _ .refl hR1 ((hE1.set r1 i).set r2 j)⟩
  | [], _, h1 => exact h1.elim
  | [_], _, h1 => exact h1.elim
  | _ :: _ :: _ :: _, _, h1 => exact h1.elim
theorem s_par3 {i j l : Nat} {x y z : Str} {a b c : Expr} {ms : En → Sto → Out (List PyL.D)} {px py pz pt : Pos} {kt k2 pt2} (hc : X.calm = true) (hN : X.N.Nodup) (hi : X.N[i]? = some x) (hj : X.N[j]? = some y) (hl : X.N[l]? = some z) (hij : i ≠ j) (hil : i ≠ l) (hjl : j ≠ l)
    (hx : X.env.scope.names.lookup x = some .local) (hy : X.env.scope.names.lookup y = some .local) (hz : X.env.scope.names.lookup z = some .local) (ha : PA X [a, b, c] (rdA C W ms))
    (hw : swappedStores [.Tuple [.Name x px, .Name y py, .Name z pz] kt pt] (.Tuple [a, b, c] k2 pt2) X.env = pure (some [x, y, z]))
    (hs : swapsWithSole [.Tuple [.Name x px, .Name y py, .Name z pz] kt pt] (.Tuple [a, b, c] k2 pt2) pos.line X.env = pure false) :
    PS X (.Assign [.Tuple [.Name x px, .Name y py, .Name z pz] kt pt] (.Tuple [a, b, c] k2 pt2) pos) (rdSt C W fun σ M => .ofOut (ms σ M) σ fun ds M' => match setMany [i, j, l] ds σ with | some σ' => .nx σ' M' | none => .bad) := by
  refine psimp (ps_par3 hc hN hi hj hl hij hil hjl hx hy hz ha hw hs) fun D τ H h => ?_
  obtain ⟨ι, σ, M, hE, hR, h⟩ := h
  refine useA hE hR h fun vs H1 ι1 M1 ds e1 hE1 hR1 rs h1 => ?_
  match ds, rs, h1 with
  | [d1, d2, d3], .cons (v := v1) r1 (.cons (v := v2) r2 (.cons (v := v3) r3 .nil)), h1 =>
    exact ⟨v1, v2, v3, rfl, h1 ι1 H1 _ .refl hR1 (((hE1.set r1 i).set r2 j).set r3 l)⟩
  | [], _, h1 => exact h1.elim
  | [_], _, h1 => exact h1.elim
  | [_, _], _, h1 => exact h1.elim
  | _ :: _ :: _ :: _ :: _, _, h1 => exact h1.elim
theorem s_asub {o i : Expr} {mo mi : En → Sto → Out PyL.D} {p2 : Pos} (he : PE X e (rdE C W me)) (ho : PE X o (rdE C W mo)) (hi : PE X i (rdE C W mi))
    (ha : ∀ v, assign (.Subscript o i p2) X.env v = (do
      let ov ← holding [v] (eval o X.env)
      let iv ← holding [v, ov] (eval i X.env)
      standAt p2
      holding [v, ov, iv] (setItem ov iv v)
      release [v, ov, iv] [])) (hs : swapsWithSole [.Subscript o i p2] e pos.line X.env = pure false) (hw : swappedStores [.Subscript o i p2] e X.env = pure none) (h1 : (assignEach [.Subscript o i p2] X.env).map (·.2) = [assign (.Subscript o i p2) X.env]) :
    PS X (.Assign [.Subscript o i p2] e pos) (rdSt C W fun σ M => .ofOut (me σ M) σ fun v M1 => .ofOut (mo σ M1) σ fun x M2 => .ofOut (mi σ M2) σ fun j M3 => match setIx M3 x j v with | some M4 => .nx σ M4 | none => .bad) := by
  refine psimp (ps_asg he (pg_sub ho hi set_list ha) hs hw h1) fun D τ H h => ?_
  obtain ⟨ι, σ, M, hE, hR, h⟩ := h
  refine useE hE hR h fun v H1 ι1 M1 d e1 hE1 hR1 rd h1 => ?_
  refine useE hE1 hR1 h1 fun x H2 ι2 M2 dx e2 hE2 hR2 rx h2 => ?_
  refine useE hE2 hR2 h2 fun j H3 ι3 M3 dj e3 hE3 hR3 rj h3 => ?_
  cases q : setIx M3 dx dj d with
  | none => rw [q] at h3; exact h3.elim
  | some M4 =>
    rw [q] at h3
    unfold setIx at q
    split at q
    · rename_i k j'
      split at q
      · rename_i xs hx
        split at q
        · rename_i n hn
          cases q
          cases rj
          obtain ⟨p, vs, rfl, hk, hp, rs⟩ := hR3.lst (rx.ext e3) hx
          have ex : Ext C ι3 H3 ι3 (upd H3 p (.lst (vs.set n v))) := ext_lst hR3 hk hp
          refine ⟨p, vs, j', n, rfl, rfl, hp, by rw [← rs.length]; exact hn, ?_⟩
          exact h3 ι3 _ τ ex (hR3.set hk ex (.lst (Reps.set ((rd.ext e2).ext e3) n rs))) (hE3.ext ex)
        · cases q
      · cases q
    · cases q
theorem s_aug {i : Nat} {x : Str} {op : Operator} {q : PyL.D → PyL.D → Sto → Out PyL.D} {pos' : Pos} (hN : X.N.Nodup) (hi : X.N[i]? = some x) (hx : Loc X.env.scope x) (hf : X.fn x = true ∨ X.env.scope.names.lookup x = some .local) (he : PE X e (rdE C W me)) (ho : PIp X op (rd2 C q)) :
    PS X (.AugAssign (.Name x pos') op e pos) (rdSt C W fun σ M => match σ[i]? with | some (some x) => .ofOut (me σ M) σ fun y M1 => .ofOut (q x y M1) σ fun z M2 => .nx (σ.set i (some z)) M2 | _ => .bad) := by
  refine psimp (ps_aug hN hi hx he ho hf) fun D τ H h => ?_
  obtain ⟨ι, σ, M, hE, hR, h⟩ := h
  cases qs : σ[i]? with
  | none => simp only [qs] at h; exact h.elim
  | some o =>
    cases o with
    | none => simp only [qs] at h; exact h.elim
    | some d =>
      simp only [qs] at h
      obtain ⟨v, ev, rv⟩ := hE.2 i d qs
      refine ⟨v, ev, useE hE hR h fun y H1 ι1 M1 dy e1 hE1 hR1 ry h1 => ?_⟩
      refine ⟨wat W τ, ι1, M1, d, dy, hR1, rv.ext e1, ry, ?_⟩
      have b := PostS.of hE1 h1
      exact b.mono' hR1 fun z M2 ι2 H2 e2 r2 h2 w rw' => h2 ι2 H2 _ .refl r2 ((hE1.ext e2).set rw' i)
theorem s_while {body : List Stmt} {fuel : Nat} (hp : PassesOwn (model X.prog X.w) X.A X.env X.xe) (hc : PT X c (rdT C W mc)) (hb : PSs X body (rdSt C W m)) : PS X (.While c body [] pos) (rdSt C W fun σ M => whileGo mc m fuel σ M) := by
  refine psimp (ps_while hp hc hb) fun D τ H h => ?_
  obtain ⟨ι, σ, M, hE, hR, h⟩ := h
  refine ⟨fun k τ' H' => ∃ ι' σ' M', EnR C ι' H' σ' τ' ∧ Rel C ι' H' M' ∧ PostS C ι' H' W D (whileGo mc m k σ' M'), ⟨fuel, ι, σ, M, hE, hR, h⟩, ?_⟩
  rintro k τ1 H1 ⟨ι1, σ1, M1, hE1, hR1, h1⟩
  cases k with
  | zero => exact h1.elim
  | succ k =>
    unfold whileGo at h1
    refine ⟨ι1, σ1, M1, hE1, hR1, ?_⟩
    cases q : mc σ1 M1 with
    | bad => rw [q] at h1; exact h1
    | exc x M2 => rw [q] at h1; exact fun ι2 H2 c dd e2 r2 x2 => h1 ι2 H2 τ1 c dd e2 r2 (hE1.ext e2) x2
    | ok b M2 =>
      rw [q] at h1
      intro ι2 H2 e2 r2
      cases b with
      | false => exact h1 ι2 H2 τ1 e2 r2 (hE1.ext e2)
      | true =>
        simp only [if_true] at h1 ⊢
        refine ⟨fun τ' H' => ∃ ι' σ' M', EnR C ι' H' σ' τ' ∧ Rel C ι' H' M' ∧ PostS C ι' H' W D (whileGo mc m k σ' M'), fun τ' H' hh => ⟨k, Nat.lt_succ_self _, hh⟩, ?_⟩
        refine ⟨ι2, σ1, M2, hE1.ext e2, r2, ?_⟩
        cases qb : m σ1 M2 with
        | bad => rw [qb] at h1; exact h1
        | nx σ' M' => rw [qb] at h1; exact fun ι3 H3 τ3 e3 r3 en3 => ⟨ι3, σ', M', en3, r3, PostS.ext h1 (e2.trans e3)⟩
        | ct σ' M' => rw [qb] at h1; exact fun ι3 H3 τ3 e3 r3 en3 => ⟨ι3, σ', M', en3, r3, PostS.ext h1 (e2.trans e3)⟩
        | bk σ' M' => rw [qb] at h1; exact fun ι3 H3 τ3 e3 r3 en3 => h1 ι3 H3 τ3 (e2.trans e3) r3 en3
        | rt d M' => rw [qb] at h1; exact fun ι3 H3 v e3 r3 rv => h1 ι3 H3 v (e2.trans e3) r3 rv
        | exc x σ' M' => rw [qb] at h1; exact fun ι3 H3 τ3 c dd e3 r3 en3 x3 => h1 ι3 H3 τ3 c dd (e2.trans e3) r3 en3 x3
theorem s_for {tg iter : Expr} {t : Tg} {mi : En → Sto → Out It} {body : List Stmt} {fuel : Nat} (hp : PassesOwn (model X.prog X.w) X.A X.env X.xe) (hc : X.calm = true) (hi : PI X tg iter (rdI C W mi)) (hg : PG X tg (rdG C t)) (hb : PSs X body (rdSt C W m)) (hs : ∀ x, foldedSetIterable iter X.env x = pure x) :
    PS X (.For tg iter body [] pos) (rdSt C W fun σ M => .ofOut (mi σ M) σ fun J M' => forGo J t m fuel 0 σ M') := by
  refine psimp (ps_for hp hc hi hg hb hs) fun D τ H h => ?_
  obtain ⟨ι, σ, M, hE, hR, h⟩ := h
  refine ⟨ι, σ, M, hE, hR, ?_⟩
  have b := PostS.of hE h
  refine b.mono' hR fun J M0 ι0 H0 e0 r0 h0 J' hJ => ?_
  have hE0 := hE.ext e0
  refine ⟨fun i k τ' H' => ∃ ι' σ' M', Ext C ι0 H0 ι' H' ∧ EnR C ι' H' σ' τ' ∧ Rel C ι' H' M' ∧ PostS C ι' H' W D (forGo J t m k i σ' M'), ⟨fuel, ι0, σ, M0, .refl, hE0, r0, h0⟩, ?_⟩
  rintro i k τ1 H1 ⟨ι1, σ1, M1, e1, hE1, hR1, h1⟩
  cases k with
  | zero => exact h1.elim
  | succ k =>
    unfold forGo at h1
    obtain ⟨js, jg⟩ := hJ i ι1 H1 M1 e1 hR1
    split at h1
    · exact h1.elim
    · rename_i en
      exact .inl ⟨js en, h1 ι1 H1 τ1 .refl hR1 hE1⟩
    · rename_i x en
      obtain ⟨go, yl⟩ := jg x en
      refine .inr ⟨go, fun τ' H' => ∃ ι' σ' M', Ext C ι0 H0 ι' H' ∧ EnR C ι' H' σ' τ' ∧ Rel C ι' H' M' ∧ PostS C ι' H' W D (forGo J t m k (i + 1) σ' M'), fun τ' H' hh => ⟨k, Nat.lt_succ_self _, hh⟩, fun xv H2 yy => ?_⟩
      obtain ⟨e2, r2, rx2⟩ := yl xv H2 yy
      cases qt : setTg t x σ1 with
      | none => rw [qt] at h1; exact h1.elim
      | some σ2 =>
        rw [qt] at h1
        refine ⟨ι1, σ1, M1, x, σ2, hE1.ext e2, r2, rx2, qt, fun τ2 hE2 _ => ?_⟩
        refine ⟨ι1, σ2, M1, hE2, r2, ?_⟩
        simp only at h1
        cases qb : m σ2 M1 with
        | bad => rw [qb] at h1; exact h1
        | nx σ' M' => rw [qb] at h1; exact fun ι3 H3 τ3 e3 r3 en3 => ⟨ι3, σ', M', e1.trans (e2.trans e3), en3, r3, PostS.ext h1 (e2.trans e3)⟩
        | ct σ' M' => rw [qb] at h1; exact fun ι3 H3 τ3 e3 r3 en3 => ⟨ι3, σ', M', e1.trans (e2.trans e3), en3, r3, PostS.ext h1 (e2.trans e3)⟩
        | bk σ' M' => rw [qb] at h1; exact fun ι3 H3 τ3 e3 r3 en3 => h1 ι3 H3 τ3 (e2.trans e3) r3 en3
        | rt d M' => rw [qb] at h1; exact fun ι3 H3 v e3 r3 rv => h1 ι3 H3 v (e2.trans e3) r3 rv
        | exc x σ' M' => rw [qb] at h1; exact fun ι3 H3 τ3 c dd e3 r3 en3 x3 => h1 ι3 H3 τ3 c dd (e2.trans e3) r3 en3 x3
theorem p_iadd : PIp X .Add (rd2 C iAdd) := by
  intro pins s σ H x y v u Q I rx ry ⟨Wx, ι, M, a, b, R, ra, rb, h⟩
  unfold iAdd at h
  split at h
  · cases ra; cases rb
    exact ip_add pins s σ H _ _ v u Q I rx ry ⟨_, _, rfl, rfl, h.here R _ (.int _)⟩
  · cases ra; cases rb
    split at h
    · rename_i hz
      exact iop_add_str pins s σ H _ _ v u Q I rx ry ⟨_, _, rfl, rfl, hz, h.here R _ (.str _)⟩
    · exact h.elim
  · exact h.elim
theorem p_isub : PIp X .Sub (rd2 C iSub) := by
  intro pins s σ H x y v u Q I rx ry ⟨Wx, ι, M, a, b, R, ra, rb, h⟩
  unfold iSub at h
  split at h
  · cases ra; cases rb
    exact ip_sub pins s σ H _ _ v u Q I rx ry ⟨_, _, rfl, rfl, h.here R _ (.int _)⟩
  · exact h.elim
end
end PyL

set_option maxHeartbeats 4000000
/-! PyL: the check of the text against the small syntax. -/
namespace PyL
open PySem PySem.Spec PyProof.Rows L2

/-- what is known of the module's names -/
structure GC where
  funs : List (Str × Nat)
  cons : List Str
  blts : List Str
abbrev NK := List (Str × NameKind)
def visB (ns : NK) (x : Str) : Bool := match ns.lookup x with
  | some .local => true
  | some .cell => true
  | some .free => true
  | _ => false
def locB (ns : NK) (x : Str) : Bool := match ns.lookup x with
  | some .local => true
  | some .cell => true
  | _ => false
def isLoc (ns : NK) (x : Str) : Bool := match ns.lookup x with
  | some .local => true
  | _ => false
def glB (ns : NK) (x : Str) : Bool := match ns.lookup x with
  | some .globalImplicit => true
  | _ => false
def okName (x : Str) : Bool := !(x == ("__debug__" : Str)) && !(x == ("__classdict__" : Str)) && !(x == ("__name__" : Str))
def bltB (G : GC) (ns : NK) (x : Str) : Bool := glB ns x && G.blts.contains x && okName x
def starB : Expr → Bool
  | .Starred .. => true
  | _ => false
def constIs : Const → D → Bool
  | .none, .non => true
  | .bool b, .bl c => b == c
  | .int i, .int j => i == j
  | .str x, .str y => x == y
  | _, _ => false
def opIs : P2 → Operator → Bool
  | .add, .Add | .sub, .Sub | .mul, .Mult | .fdiv, .FloorDiv | .mod, .Mod | .pow, .Pow => true
  | _, _ => false
def cmpIs : P2 → CmpOp → Bool
  | .eq, .Eq | .ne, .NotEq | .lt, .Lt | .le, .LtE | .gt, .Gt | .ge, .GtE | .is, .Is | .isnot, .IsNot | .isin, .In | .notin, .NotIn => true
  | _, _ => false
def plainIxB : Expr → Bool
  | .Slice .. => false
  | _ => true
def plainTest : Expr → Bool
  | .UnaryOp .Not _ _ => false
  | .BoolOp .. => false
  | .IfExp .. => false
  | .Compare .. => false
  | _ => true
def isBoolOp : Expr → Bool
  | .BoolOp .. => true
  | _ => false
def biName : Bi → Str
  | .len => "len" | .int => "int" | .abs => "abs" | .max2 => "max" | .min2 => "min" | .bool => "bool" | .str => "str" | .repr => "repr"
def blName : BL → Str
  | .tuple => "tuple" | .all => "all" | .any => "any" | .sum => "sum" | .len => "len" | .list => "list" | .sorted => "sorted" | .max => "max" | .min => "min"
def blAny : BL → Bool
  | .tuple | .list | .len => true
  | _ => false
def blLst : BL → Bool
  | .all | .any | .sum => true
  | _ => false
def meName : Me → Str
  | .append => "append" | .pop => "pop" | .popAt => "pop" | .count => "count" | .index => "index" | .get1 => "get" | .get2 => "get" | .insert => "insert"
def mlName : ML → Str
  | .extend => "extend" | .join => "join"
/-- o.m(..): o is no super() -/
def baseB : Expr → Bool
  | .Call .. => false
  | _ => true
/-- the list is one that may be written -/
def isW : L → Bool
  | .val _ => false
  | _ => true
def isF : L → Bool
  | .lst _ => true
  | .lc .. => true
  | _ => false
def relN (scope ns : NK) : NK := scope.map fun (n, k) => if (k == .free && ns.lookup n == some .cell) then (n, .cell) else (n, k)
def mkSc (ns : NK) : Scope := { kind := .function, names := ns, isGenerator := false, isCoroutine := false }
def ownOf (N : List Str) (ws : List Nat) : List (Str × Nat) := ws.filterMap fun i => (N[i]?).map fun x => (x, i)
/-- a target of plain names: the slots -/
def ckNames (N : List Str) (ns : NK) : List Nat → List Expr → Bool
  | [], [] => true
  | i :: is, .Name x _ :: es => (N[i]? == some x) && locB ns x && ckNames N ns is es
  | _, _ => false
def ckTg (N : List Str) (ns : NK) : Tg → Expr → Bool
  | .name i, .Name x _ => (N[i]? == some x) && locB ns x
  | .tup is, .Tuple es _ _ => ckNames N ns is es
  | _, _ => false
def tgInB (t : Tg) (ws : List Nat) : Bool := match t with
  | .name i => ws.contains i
  | .tup is => is.all fun i => ws.contains i
def setB : Expr → Bool
  | .Set .. => true
  | _ => false
section
variable (G : GC) (N : List Str)
mutual
def ckE : NK → E → Expr → Bool
  | ns, .var i, e => (match e with
    | .Name x _ => (N[i]? == some x) && visB ns x && okName x
    | _ => false)
  | _, .con d, e => (match e with
    | .Constant k _ _ => constIs k d
    | _ => false)
  | ns, .glb j, e => (match e with
    | .Name x _ => glB ns x && (G.cons[j]? == some x) && okName x
    | _ => false)
  | ns, .tup es, e => (match e with
    | .Tuple xs _ _ => ckEs ns es xs
    | _ => false)
  | ns, .ofL l, x => isF l && ckL ns l x
  | _, .dic _ .nil .nil, e => (match e with
    | .Dict [] [] _ => true
    | _ => false)
  | _, .dic _ _ _, _ => false
  | ns, .op1 _ a, e => (match e with
    | .UnaryOp .USub x _ => ckE ns a x
    | _ => false)
  | ns, .op2 p a b, e => (match e with
    | .BinOp x op y _ => opIs p op && ckE ns a x && ckE ns b y
    | .Compare x [op] [y] _ => cmpIs p op && ckE ns a x && ckE ns b y && !behindInMarks op y
    | _ => false)
  | ns, .chn p q a b c, e => (match e with
    | .Compare x [o1, o2] [y, z] _ => cmpIs p o1 && cmpIs q o2 && ckE ns a x && ckE ns b y && ckE ns c z && !lastMarks [o1, o2] [y, z]
    | _ => false)
  | ns, .not a, e => (match e with
    | .UnaryOp .Not x _ => ckE ns a x
    | _ => false)
  | ns, .and a b, e => (match e with
    | .BoolOp .And (x :: y :: rest) pos => ckE ns a x && (if rest.isEmpty then ckE ns b y else ckE ns b (.BoolOp .And (y :: rest) pos))
    | _ => false)
  | ns, .or a b, e => (match e with
    | .BoolOp .Or (x :: y :: rest) pos => ckE ns a x && (if rest.isEmpty then ckE ns b y else ckE ns b (.BoolOp .Or (y :: rest) pos))
    | _ => false)
  | ns, .ite c a b, e => (match e with
    | .IfExp z x y _ => ckT ns c z && ckE ns a x && ckE ns b y
    | _ => false)
  | ns, .ix a b, e => (match e with
    | .Subscript x y _ => ckE ns a x && ckE ns b y && plainIxB y
    | _ => false)
  | ns, .sl a lo hi, e => (match e with
    | .Subscript x (.Slice l h none _) _ => ckE ns a x && ckO ns lo l && ckO ns hi h
    | _ => false)
  | ns, .rev a, e => (match e with
    | .Subscript x (.Slice none none (some (.UnaryOp .USub (.Constant (.int 1) _ _) _)) _) _ => ckE ns a x
    | _ => false)
  | ns, .isin a ts, e => (match e with
    | .Call (.Name f _) [x, .Name tn _] [] _ => (f == ("isinstance" : Str)) && bltB G ns f && ckE ns a x && !starB x && bltB G ns tn && (match ts with
      | [t] => !isOwn t && (tn == Str.ofString (tyName t)) && decide (t ≠ .none)
      | _ => false)
    | _ => false)
  | ns, .call k es, e => (match e with
    | .Call (.Name f _) xs [] _ => glB ns f && okName f && (match G.funs[k]? with
      | some (g, np) => (g == f) && (xs.length == np) && ckEs ns es xs
      | none => false)
    | _ => false)
  | ns, .bi b es, e => (match e with
    | .Call (.Name f _) (x :: xs) [] _ => (f == biName b) && bltB G ns f && ckEs ns es (x :: xs)
    | _ => false)
  | ns, .bl b l, e => (match e with
    | .Call (.Name f _) [x] [] _ => (f == blName b) && bltB G ns f && ckL ns l x && (blAny b || (blLst b && isW l)) && !starB x
    | _ => false)
  | ns, .me b o es, e => (match e with
    | .Call (.Attribute ox m ap) xs [] pos => (m == meName b) && baseB ox && (ap.endLine == pos.line) && ckE ns o ox && ckEs ns es xs && (match b with
      | .append => xs.length == 1
      | .pop => xs.length == 0
      | _ => false)
    | _ => false)
  | ns, .ml b o l, e => (match e with
    | .Call (.Attribute ox m ap) [x] [] pos => (m == mlName b) && baseB ox && (ap.endLine == pos.line) && ckE ns o ox && ckL ns l x && !starB x && (isW l || (match b with
      | .join => true
      | _ => false))
    | _ => false)
def ckEs : NK → Es → List Expr → Bool
  | _, .nil, xs => xs.isEmpty
  | ns, .cons e es, xs => (match xs with
    | x :: xs => ckE ns e x && !starB x && ckEs ns es xs
    | [] => false)
def ckO : NK → O → Option Expr → Bool
  | _, .none, x => x.isNone
  | ns, .some e, x => (match x with
    | some x => ckE ns e x
    | none => false)
def ckT : NK → T → Expr → Bool
  | ns, .tru a, x => ckE ns a x && (plainTest x || (match x with
    | .Compare _ ops _ _ => (match a with
      | .op2 .. => true
      | .chn .. => true
      | _ => false)
    | _ => false))
  | ns, .and a b, e => (match e with
    | .BoolOp .And (x :: y :: rest) pos => ckT ns a x && (if rest.isEmpty then ckT ns b y else ckT ns b (.BoolOp .And (y :: rest) pos))
    | _ => false)
  | ns, .or a b, e => (match e with
    | .BoolOp .Or (x :: y :: rest) pos => ckT ns a x && (if rest.isEmpty then ckT ns b y else ckT ns b (.BoolOp .Or (y :: rest) pos))
    | _ => false)
  | ns, .not a, e => (match e with
    | .UnaryOp .Not x _ => ckT ns a x
    | _ => false)
  | _, .yes, _ => false
def ckL : NK → L → Expr → Bool
  | ns, .val a, x => ckE ns a x
  | ns, .vlst a, x => ckE ns a x
  | ns, .lst es, e => (match e with
    | .List xs _ => ckEs ns es xs
    | _ => false)
  | ns, .lc elt ws tg it c, e => (match e with
    | .ListComp x [⟨te, ie, ifs, 0⟩] scope _ => blkC N (mkSc ns) scope (ownOf N ws) && ckTg N scope.names tg te && tgInB tg ws && decide ((ownOf N ws).map (·.2) = ws) && ckI ns it te ie && !setB ie && ckE (relN scope.names ns) elt x && (match ifs with
      | [] => (match c with
        | .yes => true
        | _ => false)
      | [y] => ckT (relN scope.names ns) c y
      | _ => false)
    | _ => false)
def ckI : NK → I → Expr → Expr → Bool
  | ns, .val a, _, x => ckE ns a x
  | ns, .lis l, _, x => isF l && ckL ns l x
  | ns, .rng1 a, _, e => (match e with
    | .Call (.Name f _) [x] [] _ => (f == ("range" : Str)) && bltB G ns f && ckE ns a x && !starB x
    | _ => false)
  | ns, .rng2 a b, _, e => (match e with
    | .Call (.Name f _) [x, y] [] _ => (f == ("range" : Str)) && bltB G ns f && ckE ns a x && ckE ns b y && !starB x && !starB y
    | _ => false)
  | ns, .rng3 a b c, _, e => (match e with
    | .Call (.Name f _) [x, y, z] [] _ => (f == ("range" : Str)) && bltB G ns f && ckE ns a x && ckE ns b y && ckE ns c z && !starB x && !starB y && !starB z
    | _ => false)
  | _, .enu _, _, _ => false
  | _, .zip _ _, _, _ => false
end
end
end PyL

set_option maxHeartbeats 8000000
/-! PyL: a checked text does what the small syntax tells: expressions. -/
namespace PyL
open PySem PySem.Spec PyProof.Rows L2

structure Ok (C : Con) (N : List Str) (n : Nat) (X : Cx) (ns : NK) (W : WX) : Prop where
  P : X.prog = C.P
  w : X.w = C.w
  hK : X.K = C.K
  mg : X.mg = C.mg
  base : X.base = C.base
  hN : X.N = N
  nd : N.Nodup
  kind : X.env.scope.kind = .function
  names : X.env.scope.names = ns
  calm : X.calm = true
  room : Room n X.A
  tk : Takes X W
structure GOk (C : Con) (G : GC) (n : Nat) (Φ : Fns) : Prop where
  blt : ∀ x, G.blts.contains x = true → C.mg x = none
  con : ∀ (j : Nat) (x : Str), G.cons[j]? = some x → ∃ d u v, Φ.con[j]? = some d ∧ C.mg x = some u ∧ L2.RelV v u ∧ ∀ ι H, Rep C ι H d v
  fns : ∀ (k : Nat) (g : Str) (np : Nat), G.funs[k]? = some (g, np) → ∃ f fd ps, ps.length = np ∧ C.mg g = some (.ref f) ∧ PySem.W.keepIn C.K (.ref f) = true ∧ Binds C.K fd ps [] ∧
    FnOk C.P C.w C.K C.mg C.base (L2.CX C.P C.w) n f fd ps (spOf C (Φ.call k) np)
section
variable {C : Con} {G : GC} {N : List Str} {n : Nat} {Φ : Fns} {X : Cx} {ns : NK} {W : WX}
theorem Ok.gl (ok : Ok C N n X ns W) {x : Str} (h : glB ns x = true) : Gl X x := by
  unfold glB at h
  show X.env.scope.names.lookup x = _
  rw [ok.names]
  split at h
  · assumption
  · cases h
theorem Ok.vis (ok : Ok C N n X ns W) {x : Str} (h : visB ns x = true) : Vis X.env.scope x := by
  unfold visB at h
  unfold Vis
  rw [ok.names]
  split at h
  · exact .inl (by assumption)
  · exact .inr (.inl (by assumption))
  · exact .inr (.inr (by assumption))
  · cases h
theorem okn {x : Str} (h : okName x = true) : (x == ("__debug__" : Str)) = false ∧ (x == ("__classdict__" : Str)) = false ∧ x ≠ "__name__" := by
  unfold okName at h
  simp only [Bool.and_eq_true, Bool.not_eq_true'] at h
  exact ⟨h.1.1, h.1.2, fun e => by subst e; have := h.2; simp at this⟩
theorem Ok.bl (ok : Ok C N n X ns W) (g : GOk C G n Φ) {x : Str} (h : bltB G ns x = true) : Gl X x ∧ X.mg x = none ∧ (x == ("__debug__" : Str)) = false ∧ x ≠ "__name__" := by
  unfold bltB at h
  simp only [Bool.and_eq_true] at h
  obtain ⟨⟨h1, h2⟩, h3⟩ := h
  exact ⟨ok.gl h1, by rw [ok.mg]; exact g.blt x h2, (okn h3).1, (okn h3).2.2⟩
theorem star_cons {e : Expr} {es : List Expr} {env : Env} (h : starB e = false) : starEach (e :: es) env = (false, eval e env) :: starEach es env := by
  cases e <;> first | rfl | cases h
theorem star_all {es : List Expr} {env : Env} {pos : Pos} : (∀ e ∈ es, starB e = false) → (backTo pos (starEach es env)).any (·.1) = false := by
  induction es with
  | nil => intro _; rfl
  | cons e es ih =>
    intro h
    rw [star_cons (h e List.mem_cons_self)]
    exact ih fun x hx => h x (List.mem_cons_of_mem _ hx)
theorem lookup_rel {ns : NK} {x : Str} {k : NameKind} (hk : k ≠ .free) : ∀ {l : NK}, l.lookup x = some k → (l.map fun (p : Str × NameKind) => if (p.2 == .free && ns.lookup p.1 == some .cell) then (p.1, NameKind.cell) else (p.1, p.2)).lookup x = some k
  | [], h => by cases h
  | (y, k') :: l, h => by
    rw [List.map_cons, List.lookup_cons]
    rw [List.lookup_cons] at h
    by_cases e : (x == y) = true
    · simp only [e] at h
      cases h
      have : (k == NameKind.free) = false := by cases k <;> first | rfl | exact absurd rfl hk
      simp only [this, Bool.false_and, Bool.false_eq_true, if_false, e]
    · have e' : (x == y) = false := by simpa using e
      simp only [e'] at h
      have ih := lookup_rel (ns := ns) hk h
      by_cases q : (k' == .free && ns.lookup y == some .cell) = true
      · rw [if_pos q]
        simp only [e']; exact ih
      · rw [if_neg q]
        simp only [e']; exact ih
theorem rel_eq (ok : Ok C N n X ns W) (scope : Scope) (cl : List (Str × Addr)) (c : Addr) : (compEnvC scope cl c X.env).scope.names = relN scope.names ns := by
  show (relabel scope X.env).names = _
  unfold relabel relN
  have : ∀ x, X.env.kindOf x = ns.lookup x := fun x => by rw [← ok.names]; rfl
  simp only [ok.kind, this]
  congr 1
  funext p
  have : (ScopeKind.function == ScopeKind.function) = true := rfl
  simp only [this, Bool.and_true]
theorem Ok.blk (ok : Ok C N n X ns W) {scope : Scope} (hk : scope.kind = .function) (s : Shared) (H : Hp) (c : Addr) (cl : List (Str × Addr)) (fp : List Addr) :
    Ok C N n (X.blk s H scope (compEnvC scope cl c X.env) fp) (relN scope.names ns) Wno :=
  ⟨ok.P, ok.w, ok.hK, ok.mg, ok.base, ok.hN, ok.nd, hk, rel_eq ok scope cl c, ok.calm, ok.room, takes0⟩
/-! ### targets -/
theorem ck_names {K : Bool} (hN : X.N = N) (nd : N.Nodup) {ns0 : NK} (hl : ∀ x, locB ns0 x = true → Loc X.env.scope x ∧ (X.fn x = true ∨ X.env.scope.names.lookup x = some .local)) : ∀ (is : List Nat) (es : List Expr), ckNames N ns0 is es = true → PGs X es (rdGs C is) ∧ (assignEach es X.env).length = is.length ∧ (assignEach es X.env).findIdx? (·.1) = none ∧ ∀ e ∈ es, starB e = false
  | [], [], _ => ⟨gs_nil, rfl, rfl, fun _ h => by cases h⟩
  | i :: is, e :: es, h => by
    cases e with
    | Name x p =>
      simp only [ckNames, Bool.and_eq_true] at h
      obtain ⟨⟨h1, h2⟩, h3⟩ := h
      obtain ⟨a, b, c, d⟩ := ck_names (K := K) hN nd hl is es h3
      obtain ⟨q1, q2⟩ := hl x h2
      refine ⟨gs_cons (by rw [hN]; exact nd) (by rw [hN]; exact (beq_iff_eq.mp h1)) q1 q2 a, ?_, ?_, fun e he => ?_⟩
      · show (assignEach es X.env).length + 1 = _
        rw [b]; rfl
      · show ((false, assign (.Name x p) X.env) :: assignEach es X.env).findIdx? (·.1) = none
        rw [List.findIdx?_cons]
        simp only [Bool.false_eq_true, if_false, c, Option.map_none]
      · rcases List.mem_cons.mp he with rfl | he
        · rfl
        · exact d e he
    | _ => simp [ckNames] at h
  | [], _ :: _, h => by simp [ckNames] at h
  | _ :: _, [], h => by simp [ckNames] at h
theorem ck_tg {t : Tg} {te : Expr} {ns0 : NK} (ok : Ok C N n X ns W) (hl : ∀ x, locB ns0 x = true → Loc X.env.scope x ∧ (X.fn x = true ∨ X.env.scope.names.lookup x = some .local)) (h : ckTg N ns0 t te = true) : PG X te (rdG C t) := by
  cases t with
  | name i =>
    cases te with
    | Name x p =>
      simp only [ckTg, Bool.and_eq_true] at h
      obtain ⟨q1, q2⟩ := hl x h.2
      exact g_name (by rw [ok.hN]; exact ok.nd) (by rw [ok.hN]; exact beq_iff_eq.mp h.1) q1 q2
    | _ => simp [ckTg] at h
  | tup is =>
    cases te with
    | Tuple es k p =>
      simp only [ckTg] at h
      obtain ⟨a, b, c, _⟩ := ck_names (K := true) ok.hN ok.nd hl is es h
      exact g_tup ok.hK ok.calm a b c
    | _ => simp [ckTg] at h
/-- the block's own names are stored -/
theorem blk_loc (ok : Ok C N n X ns W) {scope : Scope} {s : Shared} {H : Hp} {c : Addr} {cl : List (Str × Addr)} {fp : List Addr} (x : Str) (h : locB scope.names x = true) :
    Loc (X.blk s H scope (compEnvC scope cl c X.env) fp).env.scope x ∧ ((X.blk s H scope (compEnvC scope cl c X.env) fp).fn x = true ∨ (X.blk s H scope (compEnvC scope cl c X.env) fp).env.scope.names.lookup x = some .local) := by
  have e := rel_eq ok scope cl c
  unfold locB at h
  split at h
  · rename_i q
    have r := lookup_rel (ns := ns) (by decide) q
    have : (compEnvC scope cl c X.env).scope.names.lookup x = some .local := by rw [e]; exact r
    exact ⟨.inl this, .inr this⟩
  · rename_i q
    have r := lookup_rel (ns := ns) (by decide) q
    have : (compEnvC scope cl c X.env).scope.names.lookup x = some .cell := by rw [e]; exact r
    refine ⟨.inr this, .inl ?_⟩
    show (scope.names.lookup x == some .cell) = true
    rw [q]; rfl
  · cases h
theorem op_of {p : P2} {op : Operator} (hK : X.K = C.K) (h : opIs p op = true) : OpR X (binaryOp op) (rd2 C p.den) :=
  match p, op, h with
  | .add, .Add, _ => o_add hK
  | .sub, .Sub, _ => o_sub
  | .mul, .Mult, _ => o_mul hK
  | .fdiv, .FloorDiv, _ => o_div
  | .mod, .Mod, _ => o_mod
  | .pow, .Pow, _ => o_pow
theorem cmp_of {p : P2} {op : CmpOp} (hK : X.K = C.K) (hu : X.A.units + 64 < cLine) (h : cmpIs p op = true) : OpR X (compareOp op) (rd2 C p.den) ∧ Flag p.den :=
  match p, op, h with
  | .eq, .Eq, _ => ⟨o_eq hK hu, flag_eq⟩
  | .ne, .NotEq, _ => ⟨o_ne hK hu, flag_ne⟩
  | .lt, .Lt, _ => ⟨o_cmp op_lt, flag_cmp⟩
  | .le, .LtE, _ => ⟨o_cmp op_le, flag_cmp⟩
  | .gt, .Gt, _ => ⟨o_cmp op_gt, flag_cmp⟩
  | .ge, .GtE, _ => ⟨o_cmp op_ge, flag_cmp⟩
  | .is, .Is, _ => ⟨o_is (.inl ⟨rfl, rfl⟩), flag_is⟩
  | .isnot, .IsNot, _ => ⟨o_is (.inr ⟨rfl, rfl⟩), flag_is⟩
  | .isin, .In, _ => ⟨o_in hK (.inl ⟨rfl, rfl⟩), flag_in⟩
  | .notin, .NotIn, _ => ⟨o_in hK (.inr ⟨rfl, rfl⟩), flag_in⟩
theorem e_bis {b : Bi} {a : Expr} {es : List Expr} {x : Str} {ms : En → Sto → Out (List D)} {p pos : Pos} (hc : X.calm = true) (hK : X.K = C.K) (hx : x = biName b) (hg : Gl X x) (hm : X.mg x = none) (hn : x ≠ "__name__") (hdb : (x == ("__debug__" : Str)) = false) (ha : PA X (a :: es) (rdA C W ms))
    (he : starEach (a :: es) X.env = (false, eval a X.env) :: starEach es X.env) (hpl : (backTo pos (starEach es X.env)).any (·.1) = false) : PE X (.Call (.Name x p) (a :: es) [] pos) (rdE C W fun σ M => (ms σ M).bind fun ds M' => b.den ds M') := by
  cases b with
  | len =>
    have hx : x = "len" := hx
    subst hx
    exact e_bi (c_len hK) hg hm boot_len ha hn hdb he hpl
  | int =>
    have hx : x = "int" := hx
    subst hx
    exact e_ty c_int hg hm boot_int ha hn hdb he hpl
  | abs =>
    have hx : x = "abs" := hx
    subst hx
    exact e_bi c_abs hg hm boot_abs ha hn hdb he hpl
  | max2 =>
    have hx : x = "max" := hx
    subst hx
    exact e_bi (c_max2 hc) hg hm boot_max ha hn hdb he hpl
  | min2 =>
    have hx : x = "min" := hx
    subst hx
    exact e_bi (c_min2 hc) hg hm boot_min ha hn hdb he hpl
  | bool =>
    have hx : x = "bool" := hx
    subst hx
    exact e_ty c_bool hg hm boot_bool ha hn hdb he hpl
  | str =>
    have hx : x = "str" := hx
    subst hx
    exact e_ty c_str hg hm boot_str ha hn hdb he hpl
  | repr =>
    have hx : x = "repr" := hx
    subst hx
    exact e_bi c_repr hg hm boot_repr ha hn hdb he hpl
theorem den_len : ∀ (es : Es) (xs : List Expr) (σ : En) (M : Sto) (ds : List D) (M' : Sto), ckEs G N ns es xs = true → denEs Φ es σ M = .ok ds M' → ds.length = xs.length
  | .nil, [], _, _, _, _, _, e => by
    simp only [denEs] at e
    cases e
    rfl
  | .cons e es, x :: xs, σ, M, ds, M', h, q => by
    simp only [ckEs, Bool.and_eq_true] at h
    simp only [denEs] at q
    cases q1 : denE Φ e σ M with
    | bad => rw [q1] at q; cases q
    | exc _ _ => rw [q1] at q; cases q
    | ok d M1 =>
      rw [q1, Out.bind_ok] at q
      cases q2 : denEs Φ es σ M1 with
      | bad => rw [q2] at q; cases q
      | exc _ _ => rw [q2] at q; cases q
      | ok d2 Mz =>
        rw [q2, Out.bind_ok] at q
        cases q
        simp only [List.length_cons, den_len es xs σ M1 d2 _ h.2 q2]
  | .nil, _ :: _, _, _, _, _, h, _ => by simp [ckEs] at h
  | .cons _ _, [], _, _, _, _, h, _ => by simp [ckEs] at h
theorem star_of : ∀ (es : Es) (xs : List Expr), ckEs G N ns es xs = true → ∀ x ∈ xs, starB x = false
  | .nil, [], _ => fun _ h => by cases h
  | .cons e es, x :: xs, h => fun y hy => by
    simp only [ckEs, Bool.and_eq_true, Bool.not_eq_true'] at h
    rcases List.mem_cons.mp hy with rfl | hy
    · exact h.1.2
    · exact star_of es xs h.2 y hy
  | .nil, _ :: _, h => by simp [ckEs] at h
  | .cons _ _, [], h => by simp [ckEs] at h
theorem fold_ok {e : Expr} {env : Env} (h : setB e = false) : ∀ x, foldedSetIterable e env x = pure x := fun x => by
  cases e <;> first | rfl | cases h
theorem plain_true {e : Expr} {env : Env} (h : plainTest e = true) : ∀ whole, isTrue e env whole = (do let v ← whole; standAt e.pos; holding [v] (truthy v)) := fun whole => by
  cases e <;> first | rfl | (cases h; done) | skip
  rename_i op x p
  cases op <;> first | rfl | (cases h; done)
theorem base_ok {o : Expr} {name : Str} {env : Env} (h : baseB o = true) : attributeBase o name env (eval o env) = eval o env := by
  cases o <;> first | rfl | cases h
theorem pix {b : Expr} (h : plainIxB b = true) : PlainIx b := fun o i => by
  cases b <;> first | rfl | cases h
theorem e_sl {a : Expr} {lo hi : Option Expr} {ma : En → Sto → Out D} {ml mh : En → Sto → Out (Option Int)} {p2 pos : Pos} (hK : X.K = C.K) (ha : PE X a (rdE C W ma)) (hl : PO X lo (rdO C W ml)) (hh : PO X hi (rdO C W mh)) :
    PE X (.Subscript a (.Slice lo hi none p2) pos) (rdE C W fun σ M => (ma σ M).bind fun x M1 => (ml σ M1).bind fun l M2 => (mh σ M2).bind fun h M3 => slD M3 x l h) := by
  refine peimp (pe_slice (x_sl hK) ha hl hh) fun τ H Q h => ?_
  obtain ⟨ι, σ, M, hE, hR, h⟩ := h
  refine bindE hE hR h fun v H1 ι1 M1 d e1 hE1 hR1 rd h1 => ?_
  refine bindO hE1 hR1 h1 fun l H2 ι2 M2 e2 hE2 hR2 h2 => ?_
  refine bindO hE2 hR2 h2 fun u H3 ι3 M3 e3 hE3 hR3 h3 => ?_
  exact ⟨_, ι3, M3, d, hR3, (rd.ext e2).ext e3, h3⟩
theorem e_rev {a : Expr} {ma : En → Sto → Out D} {k : Nat} {p1 p2 p3 pos : Pos} (hK : X.K = C.K) (ha : PE X a (rdE C W ma)) :
    PE X (.Subscript a (.Slice none none (some (.UnaryOp .USub (.Constant (.int 1) k p1) p2)) p3) pos) (rdE C W fun σ M => (ma σ M).bind fun x M1 => revD M1 x) := by
  refine peimp (pe_revL ha) fun τ H Q h => ?_
  obtain ⟨ι, σ, M, hE, hR, h⟩ := h
  refine bindE hE hR h fun v H1 ι1 M1 d e1 hE1 hR1 rd h1 => ?_
  unfold revD at h1
  split at h1
  · split at h1
    · rename_i xs e
      obtain ⟨p, vs, rfl, _, hq, rs⟩ := hR1.list rd e
      exact ⟨p, vs, rfl, by rw [hK]; exact hq, fun l hl => h1 _ _ (ext_push hl) (hR1.push hl (.lst rs.reverse)) _ (rep_push hR1)⟩
    · exact h1.elim
  · exact h1.elim
theorem o_some {e : Expr} {m : En → Sto → Out D} (h : PE X e (rdE C W m)) : PO X (some e) (rdO C W fun σ M => (m σ M).bind fun d M1 => match d with | .int i => .ok (some i) M1 | _ => .bad) := by
  refine poimp (po_some h) fun τ H Q h => ?_
  obtain ⟨ι, σ, M, hE, hR, h⟩ := h
  refine bindE hE hR h fun v H1 ι1 M1 d e1 hE1 hR1 rd h1 => ?_
  cases d with
  | int i => cases rd; exact ⟨i, rfl, h1.here hR1⟩
  | _ => exact h1.elim
theorem bl_sound {b : BL} {x : Expr} {f : Str} {ml : En → Sto → Out (List D)} {isw : Bool} {p pos : Pos} (ok : Ok C N n X ns W) (hx : f = blName b) (hg : Gl X f) (hm : X.mg f = none) (hn : f ≠ "__name__") (hdb : (f == ("__debug__" : Str)) = false)
    (ha : PE X x (rdZ C W (Sq C) ml)) (hs : isw = true → PE X x (rdZ C W (SqS C) ml)) (hb : (blAny b || (blLst b && isw)) = true) (hst : starB x = false) : PE X (.Call (.Name f p) [x] [] pos) (rdE C W fun σ M => (ml σ M).bind fun ds M' => b.den ds M') := by
  have st : starEach [x] X.env = [(false, eval x X.env)] := star_cons hst
  cases b with
  | tuple => have hx : f = "tuple" := hx; subst hx; exact e_tq (q_tuple ok.hK) hg hm boot_tuple ha hn hdb st
  | list => have hx : f = "list" := hx; subst hx; exact e_tq (q_list ok.hK) hg hm boot_list ha hn hdb st
  | len => have hx : f = "len" := hx; subst hx; exact e_bq (q_len ok.hK) hg hm boot_len ha hn hdb st
  | all =>
    have hx : f = "all" := hx; subst hx
    simp only [blAny, blLst, Bool.false_or, Bool.true_and] at hb
    exact e_bqs (q_all ok.hK ok.calm) hg hm boot_all (hs hb) hn hdb st
  | any =>
    have hx : f = "any" := hx; subst hx
    simp only [blAny, blLst, Bool.false_or, Bool.true_and] at hb
    exact e_bqs (q_any ok.hK ok.calm) hg hm boot_any (hs hb) hn hdb st
  | sum =>
    have hx : f = "sum" := hx; subst hx
    simp only [blAny, blLst, Bool.false_or, Bool.true_and] at hb
    exact e_bqs (q_sum ok.hK ok.calm) hg hm boot_sum (hs hb) hn hdb st
  | _ => simp [blAny, blLst] at hb
theorem me_sound {b : Me} {o : Expr} {xs : List Expr} {es : Es} {m : Str} {mo : En → Sto → Out D} {ap pos : Pos} (ok : Ok C N n X ns W) (hx : m = meName b) (hb : baseB o = true) (hl : (ap.endLine == pos.line) = true) (ho : PE X o (rdE C W mo)) (ha : PA X xs (rdA C W (denEs Φ es))) (st : ∀ x ∈ xs, starB x = false)
    (h6 : (match (generalizing := false) b with | .append => xs.length == 1 | .pop => xs.length == 0 | _ => false) = true) (h5 : ckEs G N ns es xs = true) : PE X (.Call (.Attribute o m ap) xs [] pos) (rdE C W fun σ M => (mo σ M).bind fun x M1 => if b.ok M1 x = true then (denEs Φ es σ M1).bind fun ds M' => b.den x ds M' else .bad) := by
  cases b with
  | append =>
    have hx : m = "append" := hx; subst hx
    match xs, h6 with
    | [x], _ => exact e_me1 PySem.F.plainAttrs_list PySem.F.slot_list_append PySem.F.type_list_append m_append (fun _ _ _ _ _ R r h => ok_lst R r h) ho ha (base_ok hb) hl (star_cons (st x List.mem_cons_self))
  | pop =>
    have hx : m = "pop" := hx; subst hx
    match xs, h6 with
    | [], _ =>
      have q2 : es = .nil := by
        cases es with
        | nil => rfl
        | cons a b => simp [ckEs] at h5
      subst q2
      exact e_me0 PySem.F.plainAttrs_list PySem.F.slot_list_pop PySem.F.type_list_pop m_pop (fun _ _ _ _ _ R r h => ok_lst R r h) ho (base_ok hb) hl
  | _ => cases h6
end
end PyL

set_option maxHeartbeats 8000000
namespace PyL
open PySem PySem.Spec PyProof.Rows L2
def isAO : T → Bool
  | .and .. => true
  | .or .. => true
  | _ => false
section
variable {C : Con} {G : GC} {N : List Str} {n : Nat} {Φ : Fns}
theorem isinstance_sound {X : Cx} {ns : NK} {W : WX} (g : GOk C G n Φ) (ok : Ok C N n X ns W) {a : E} {ts : List Ty} {f tn : Str} {x : Expr} {p p2 pos : Pos} (ha : PE X x (rdE C W (denE Φ a)))
    (h1 : (f == ("isinstance" : Str)) = true) (h2 : bltB G ns f = true) (h3 : starB x = false) (h4 : bltB G ns tn = true) (h5 : (match ts with | [t] => !isOwn t && (tn == Str.ofString (tyName t)) && decide (t ≠ .none) | _ => false) = true) :
    PE X (.Call (.Name f p) [x, .Name tn p2] [] pos) (rdE C W (denE Φ (.isin a ts))) := by
  have e1 : f = "isinstance" := eq_of_beq h1
  subst e1
  match ts, h5 with
  | [t], h5 =>
    simp only [Bool.and_eq_true, Bool.not_eq_true', decide_eq_true_eq] at h5
    obtain ⟨⟨q1, q2⟩, q3⟩ := h5
    have e2 : tn = Str.ofString (tyName t) := eq_of_beq q2
    obtain ⟨b1, b2, b3, b4⟩ := ok.bl g h2
    obtain ⟨c1, c2, c3, c4⟩ := ok.bl g h4
    refine e_isin1 ok.hK b1 b2 q1 c1 c2 ?_ c4 c3 ha (star_cons h3)
    subst e2
    cases t with
    | int => exact boot_int
    | str => exact boot_str
    | bool => exact boot_bool
    | tuple => exact boot_tuple
    | list => exact boot_list
    | dict => exact boot_dict
    | none => exact absurd rfl q3
    | own c => cases q1
/-- lists, by what the list is -/
def ZOf (C : Con) : L → List Addr → Hp → List D → V → Prop
  | .val _ => Sq C
  | .vlst _ => SqW C
  | _ => SqF C
theorem ZOf.sq {C : Con} : ∀ (l : L) (ι : List Addr) (H : Hp) (ds : List D) (v : V), ZOf C l ι H ds v → Sq C ι H ds v
  | .val _, _, _, _, _, h => h
  | .vlst _, _, _, _, _, h => (SqW.s h).sq
  | .lst _, _, _, _, _, h => (SqF.w h).s.sq
  | .lc .., _, _, _, _, h => (SqF.w h).s.sq
theorem ZOf.w {C : Con} : ∀ (l : L), isW l = true → ∀ (ι : List Addr) (H : Hp) (ds : List D) (v : V), ZOf C l ι H ds v → SqW C ι H ds v
  | .val _, h, _, _, _, _, _ => by cases h
  | .vlst _, _, _, _, _, _, h => h
  | .lst _, _, _, _, _, _, h => SqF.w h
  | .lc .., _, _, _, _, _, h => SqF.w h
theorem inv_op2 {ns : NK} {p : P2} {a b : E} {x : Expr} {ops : List CmpOp} {ys : List Expr} {pos : Pos} (h : ckE G N ns (.op2 p a b) (.Compare x ops ys pos) = true) :
    ∃ op y, ops = [op] ∧ ys = [y] ∧ cmpIs p op = true ∧ ckE G N ns a x = true ∧ ckE G N ns b y = true ∧ behindInMarks op y = false := by
  unfold ckE at h
  rcases ops with _ | ⟨o, _ | ⟨o2, os⟩⟩
  · cases h
  · rcases ys with _ | ⟨y, _ | ⟨y2, ys⟩⟩
    · cases h
    · simp only [Bool.and_eq_true, Bool.not_eq_true'] at h
      exact ⟨o, y, rfl, rfl, h.1.1.1, h.1.1.2, h.1.2, h.2⟩
    · cases h
  · cases h
theorem inv_chn {ns : NK} {p q : P2} {a b c : E} {x : Expr} {ops : List CmpOp} {ys : List Expr} {pos : Pos} (h : ckE G N ns (.chn p q a b c) (.Compare x ops ys pos) = true) :
    ∃ o1 o2 y z, ops = [o1, o2] ∧ ys = [y, z] ∧ cmpIs p o1 = true ∧ cmpIs q o2 = true ∧ ckE G N ns a x = true ∧ ckE G N ns b y = true ∧ ckE G N ns c z = true ∧ lastMarks [o1, o2] [y, z] = false := by
  unfold ckE at h
  rcases ops with _ | ⟨o, _ | ⟨o2, _ | ⟨o3, os⟩⟩⟩
  · cases h
  · cases h
  · rcases ys with _ | ⟨y, _ | ⟨y2, _ | ⟨y3, ys⟩⟩⟩
    · cases h
    · cases h
    · simp only [Bool.and_eq_true, Bool.not_eq_true'] at h
      obtain ⟨⟨⟨⟨⟨h1, h2⟩, h3⟩, h4⟩, h5⟩, h6⟩ := h
      exact ⟨o, o2, y, y2, rfl, rfl, h1, h2, h3, h4, h5, h6⟩
    · cases h
  · cases h
theorem constIs_sound {k : Const} {d : D} (h : constIs k d = true) : constD k = some d := by
  cases k <;> cases d <;> first | (cases h; done) | rfl | (simp only [constIs, beq_iff_eq] at h; subst h; rfl)
theorem ml_sound {X : Cx} {ns : NK} {W : WX} {b : ML} {o x : Expr} {m : Str} {l : L} {mo : En → Sto → Out D} {ml : En → Sto → Out (List D)} {ap pos : Pos} (ok : Ok C N n X ns W) (hx : m = mlName b) (hb : baseB o = true) (hl : (ap.endLine == pos.line) = true) (ho : PE X o (rdE C W mo)) (ha : PE X x (rdZ C W (ZOf C l) ml)) (st : starB x = false)
    (h7 : (isW l || (match (generalizing := false) b with | .join => true | _ => false)) = true) : PE X (.Call (.Attribute o m ap) [x] [] pos) (rdE C W fun σ M => (mo σ M).bind fun x M1 => if b.ok M1 x = true then (ml σ M1).bind fun ds M' => b.den x ds M' else .bad) := by
  cases b with
  | extend =>
    have hx : m = "extend" := hx; subst hx
    simp only [Bool.or_false] at h7
    exact e_ml (Z := SqW C) PySem.F.plainAttrs_list PySem.F.slot_list_extend PySem.F.type_list_extend l_extend (fun Wx ι H M a ds x v Q R ra z h => ⟨Wx, ι, M, a, ds, v, rfl, R, ra, z, h⟩) (fun _ _ _ _ _ R r h => ok_lst R r h) ho (zimp (ZOf.w l h7) ha) (base_ok hb) hl (star_cons st)
  | join =>
    have hx : m = "join" := hx; subst hx
    exact e_ml (Z := Sq C) PySem.F.plainAttrs_str PySem.F.slot_str_join PySem.F.type_str_join (l_join ok.hK) (fun Wx ι H M a ds x v Q R ra z h => ⟨Wx, ι, M, a, ds, v, rfl, R, ra, z, h⟩) (fun _ _ _ _ _ R r h => ok_str R r h) ho (zimp (ZOf.sq l) ha) (base_ok hb) hl (star_cons st)
theorem tg_in {t : Tg} {ws : List Nat} (h : tgInB t ws = true) : tgIn t ws := by
  cases t with
  | name i => exact List.contains_iff_mem.mp h
  | tup is => exact fun i hi => List.contains_iff_mem.mp (List.all_eq_true.mp h i hi)
theorem lc_sound {elt : E} {ws : List Nat} {tg : Tg} {it : I} {c : T} {e : Expr} {X : Cx} {ns : NK} {W : WX} (ok : Ok C N n X ns W) (h : ckL G N ns (.lc elt ws tg it c) e = true)
    (hI : ∀ te ie, ckI G N ns it te ie = true → PI X te ie (rdI C W (denI Φ it)))
    (hE : ∀ (x : Expr) {X' : Cx} {ns' : NK}, Ok C N n X' ns' Wno → ckE G N ns' elt x = true → PE X' x (rdE C Wno (denE Φ elt)))
    (hT : ∀ (x : Expr) {X' : Cx} {ns' : NK}, Ok C N n X' ns' Wno → ckT G N ns' c x = true → PT X' x (rdT C Wno (denT Φ c))) :
    ∃ x te ie ifs scope pos, e = .ListComp x [⟨te, ie, ifs, 0⟩] scope pos ∧ PI X te ie (rdI C W (denI Φ it)) ∧ BlkOk X.N X.env.scope scope (ownOf N ws) ∧
      (∀ (s : Shared) (H : Hp) (c : Addr) (cl : List (Str × Addr)) (fp : List Addr), PG (X.blk s H scope (compEnvC scope cl c X.env) fp) te (rdG C tg)) ∧
      (∀ (s : Shared) (H : Hp) (cc : Addr) (cl : List (Str × Addr)) (fp : List Addr), PTs (X.blk s H scope (compEnvC scope cl cc X.env) fp) ifs (rdT C Wno (denT Φ c))) ∧
      (∀ (s : Shared) (H : Hp) (c : Addr) (cl : List (Str × Addr)) (fp : List Addr), PE (X.blk s H scope (compEnvC scope cl c X.env) fp) x (rdE C Wno (denE Φ elt))) ∧
      (∀ x, foldedSetIterable ie X.env x = pure x) ∧ tgIn tg ws ∧ (ownOf N ws).map (·.2) = ws := by
  unfold ckL at h
  split at h
  · rename_i x te ie ifs scope pos
    simp only [Bool.and_eq_true, Bool.not_eq_true', decide_eq_true_eq] at h
    obtain ⟨⟨⟨⟨⟨⟨⟨h1, h2⟩, h3⟩, h4⟩, h5⟩, h6⟩, h7⟩, h8⟩ := h
    have b0 := blkOk_by h1
    have b1 : BlkOk X.N X.env.scope scope (ownOf N ws) := by
      rw [ok.hN]
      refine ⟨b0.kind, b0.uniq, b0.ix, fun y hy q => ?_, b0.own⟩
      have := b0.free y hy q
      rw [ok.names]
      exact this
    refine ⟨x, te, ie, ifs, scope, pos, rfl, hI te ie h5, b1, fun s H c cl fp => ?_, fun s H cc cl fp => ?_, fun s H c cl fp => ?_, fold_ok h6, tg_in h3, h4⟩
    · exact ck_tg (ok.blk b0.kind s H c cl fp) (fun x hx => blk_loc ok x hx) h2
    · have okb := ok.blk b0.kind s H cc cl fp
      split at h8
      · split at h8
        · exact ⟨fun pins s τ H Q I ⟨ι, σ, M, hE, hR, hh⟩ => pts_nil.run pins s τ H Q I (hh.here hR)⟩
        · cases h8
      · exact pts_one (hT _ okb h8)
      · cases h8
    · exact hE x (ok.blk b0.kind s H c cl fp) h7
  · cases h
mutual
theorem soundE (g : GOk C G n Φ) : ∀ (m : E) (e : Expr) {X : Cx} {ns : NK} {W : WX}, Ok C N n X ns W → ckE G N ns m e = true → PE X e (rdE C W (denE Φ m))
  | .var i, e, X, ns, W, ok, h => by
    unfold ckE at h
    split at h
    · simp only [Bool.and_eq_true] at h
      obtain ⟨⟨h1, h2⟩, h3⟩ := h
      obtain ⟨k1, k2, _⟩ := okn h3
      exact e_var (by rw [ok.hN]; exact beq_iff_eq.mp h1) (ok.vis h2) k1 k2
    · cases h
  | .con d, e, X, ns, W, ok, h => by
    unfold ckE at h
    split at h
    · exact e_con (constIs_sound h)
    · cases h
  | .glb j, e, X, ns, W, ok, h => by
    unfold ckE at h
    split at h
    · simp only [Bool.and_eq_true] at h
      obtain ⟨⟨h1, h2⟩, h3⟩ := h
      obtain ⟨d, u, v, e1, e2, e3, e4⟩ := g.con j _ (beq_iff_eq.mp h2)
      have q : denE Φ (.glb j) = fun _ M => .ok d M := by
        funext σ M
        simp only [denE, e1]
      rw [q]
      exact e_glb (ok.gl h1) (by rw [ok.mg]; exact e2) e3 e4 (okn h3).1
    · cases h
  | .tup es, e, X, ns, W, ok, h => by
    unfold ckE at h
    split at h
    · exact e_tup (soundEs g es _ ok h)
    · cases h
  | .ofL l, e, X, ns, W, ok, h => by
    unfold ckE at h
    rw [Bool.and_eq_true] at h
    match l, h with
    | .lst es, h =>
      have h2 := h.2
      unfold ckL at h2
      split at h2
      · exact e_lst (soundEs g es _ ok h2)
      · cases h2
    | .lc elt ws tg it c, h =>
      obtain ⟨x, te, ie, ifs, scope, pos, rfl, hi, okb, hg, ht, he, hs, hw, ews⟩ := lc_sound ok h.2 (fun te ie q => soundI g it te ie ok q) (fun x {X'} {ns'} o q => soundE g elt x o q) (fun x {X'} {ns'} o q => (soundT g c x o q).1)
      have := e_lc (C := C) (W := W) (fuel := Φ.fuel) ok.calm (by rw [ok.hN]; exact ok.nd) hi okb hg ht he hs (by rw [ews]; exact hw) (pos := pos)
      rw [ews] at this
      exact this
  | .dic t ks vs, e, X, ns, W, ok, h => by
    match ks, vs, h with
    | .nil, .nil, h =>
      unfold ckE at h
      split at h
      · cases t with
        | false => exact e_dK
        | true => exact e_dT
      · cases h
    | .cons _ _, _, h => exact absurd h (by simp [ckE])
    | .nil, .cons _ _, h => exact absurd h (by simp [ckE])
  | .op1 .neg a, e, X, ns, W, ok, h => by
    unfold ckE at h
    split at h
    · exact e_neg (soundE g a _ ok h)
    · cases h
  | .op2 p a b, e, X, ns, W, ok, h => by
    unfold ckE at h
    split at h
    · simp only [Bool.and_eq_true] at h
      exact e_bin (op_of ok.hK h.1.1) (soundE g a _ ok h.1.2) (soundE g b _ ok h.2)
    · simp only [Bool.and_eq_true, Bool.not_eq_true'] at h
      exact e_cmp (cmp_of ok.hK ok.room.units h.1.1.1).1 (soundE g a _ ok h.1.1.2) (soundE g b _ ok h.1.2) h.2
    · cases h
  | .chn p q a b c, e, X, ns, W, ok, h => by
    unfold ckE at h
    split at h
    · simp only [Bool.and_eq_true, Bool.not_eq_true'] at h
      obtain ⟨⟨⟨⟨⟨h1, h2⟩, h3⟩, h4⟩, h5⟩, h6⟩ := h
      have o1 := cmp_of (C := C) ok.hK ok.room.units h1
      have o2 := cmp_of (C := C) ok.hK ok.room.units h2
      exact e_chn o1.2 o1.1 o2.1 (soundE g a _ ok h3) (soundE g b _ ok h4) (soundE g c _ ok h5) h6
    · cases h
  | .not a, e, X, ns, W, ok, h => by
    unfold ckE at h
    split at h
    · exact e_not ok.hK (soundE g a _ ok h)
    · cases h
  | .and a b, e, X, ns, W, ok, h => by
    unfold ckE at h
    split at h
    · rename_i x y rest pos
      rw [Bool.and_eq_true] at h
      cases rest with
      | nil => exact e_and ok.hK (soundE g a _ ok h.1) (e_one (soundE g b _ ok h.2))
      | cons z zs => exact e_and ok.hK (soundE g a _ ok h.1) (soundE g b _ ok h.2)
    · cases h
  | .or a b, e, X, ns, W, ok, h => by
    unfold ckE at h
    split at h
    · rename_i x y rest pos
      rw [Bool.and_eq_true] at h
      cases rest with
      | nil => exact e_or ok.hK (soundE g a _ ok h.1) (e_one (soundE g b _ ok h.2))
      | cons z zs => exact e_or ok.hK (soundE g a _ ok h.1) (soundE g b _ ok h.2)
    · cases h
  | .ite c a b, e, X, ns, W, ok, h => by
    unfold ckE at h
    split at h
    · simp only [Bool.and_eq_true] at h
      exact e_ite (soundT g c _ ok h.1.1).1 (soundE g a _ ok h.1.2) (soundE g b _ ok h.2)
    · cases h
  | .ix a b, e, X, ns, W, ok, h => by
    unfold ckE at h
    split at h
    · simp only [Bool.and_eq_true] at h
      exact e_ix ok.hK (soundE g a _ ok h.1.1) (soundE g b _ ok h.1.2) (pix h.2)
    · cases h
  | .sl a lo hi, e, X, ns, W, ok, h => by
    unfold ckE at h
    split at h
    · simp only [Bool.and_eq_true] at h
      exact e_sl ok.hK (soundE g a _ ok h.1.1) (soundO g lo _ ok h.1.2) (soundO g hi _ ok h.2)
    · cases h
  | .rev a, e, X, ns, W, ok, h => by
    unfold ckE at h
    split at h
    · exact e_rev ok.hK (soundE g a _ ok h)
    · cases h
  | .isin a ts, e, X, ns, W, ok, h => by
    unfold ckE at h
    split at h
    · simp only [Bool.and_eq_true, Bool.not_eq_true'] at h
      obtain ⟨⟨⟨⟨⟨h1, h2⟩, h3⟩, h4⟩, h5⟩, h6⟩ := h
      exact isinstance_sound g ok (soundE g a _ ok h3) h1 h2 h4 h5 h6
    · cases h
  | .call k es, e, X, ns, W, ok, h => by
    unfold ckE at h
    split at h
    · rename_i f p xs pos
      simp only [Bool.and_eq_true] at h
      obtain ⟨⟨h1, h2⟩, h3⟩ := h
      split at h3
      · rename_i g2 np hk
        simp only [Bool.and_eq_true] at h3
        obtain ⟨⟨h4, h5⟩, h6⟩ := h3
        have e1 : g2 = f := eq_of_beq h4
        have e2 : xs.length = np := eq_of_beq h5
        subst e1
        obtain ⟨fa, fd, ps, hl, hm, hkp, hb, F⟩ := g.fns k _ _ hk
        rw [← hl] at F
        have F' : FnOk X.prog X.w X.K X.mg X.base (L2.CX X.prog X.w) n fa fd ps (spOf C (Φ.call k) ps.length) := by rw [ok.P, ok.w, ok.hK, ok.mg, ok.base]; exact F
        have A := soundEs g es _ ok h6
        cases xs with
        | nil =>
          have q : denE Φ (.call k es) = fun σ M => (denEs Φ es σ M).bind fun ds M' => Φ.call k ds M' := rfl
          have q2 : es = .nil := by
            cases es with
            | nil => rfl
            | cons a b => simp [ckEs] at h6
          subst q2
          exact e_call0 F' ok.room ok.tk (ok.gl h1) (by rw [ok.mg]; exact hm) (by rw [ok.hK]; exact hkp) (by rw [ok.hK]; exact hb) (by rw [hl, ← e2]; rfl) (okn h2).1
        | cons x xs =>
          have st := star_of es _ h6
          exact e_call F' ok.room ok.tk (ok.gl h1) (by rw [ok.mg]; exact hm) (by rw [ok.hK]; exact hkp) (by rw [ok.hK]; exact hb) A (fun σ M ds M' q => by rw [den_len es _ σ M ds M' h6 q, e2, hl]) (okn h2).1 (star_cons (st x List.mem_cons_self)) (star_all fun y hy => st y (List.mem_cons_of_mem _ hy))
      · cases h3
    · cases h
  | .bi b es, e, X, ns, W, ok, h => by
    unfold ckE at h
    split at h
    · simp only [Bool.and_eq_true] at h
      obtain ⟨⟨h1, h2⟩, h3⟩ := h
      obtain ⟨b1, b2, b3, b4⟩ := ok.bl g h2
      have st := star_of es _ h3
      exact e_bis ok.calm ok.hK (eq_of_beq h1) b1 b2 b4 b3 (soundEs g es _ ok h3) (star_cons (st _ List.mem_cons_self)) (star_all fun y hy => st y (List.mem_cons_of_mem _ hy))
    · cases h
  | .bl b l, e, X, ns, W, ok, h => by
    unfold ckE at h
    split at h
    · simp only [Bool.and_eq_true, Bool.not_eq_true'] at h
      obtain ⟨⟨⟨⟨h1, h2⟩, h3⟩, h4⟩, h5⟩ := h
      obtain ⟨b1, b2, b3, b4⟩ := ok.bl g h2
      have A := soundL g l _ ok h3
      exact bl_sound ok (eq_of_beq h1) b1 b2 b4 b3 (zimp (ZOf.sq l) A) (fun hw => zimp (fun _ _ _ _ z => (ZOf.w l hw _ _ _ _ z).s) A) h4 h5
    · cases h
  | .me b o es, e, X, ns, W, ok, h => by
    unfold ckE at h
    split at h
    · simp only [Bool.and_eq_true] at h
      obtain ⟨⟨⟨⟨⟨h1, h2⟩, h3⟩, h4⟩, h5⟩, h6⟩ := h
      exact me_sound ok (eq_of_beq h1) h2 h3 (soundE g o _ ok h4) (soundEs g es _ ok h5) (star_of es _ h5) h6 h5
    · cases h
  | .ml b o l, e, X, ns, W, ok, h => by
    unfold ckE at h
    split at h
    · simp only [Bool.and_eq_true, Bool.not_eq_true'] at h
      obtain ⟨⟨⟨⟨⟨⟨h1, h2⟩, h3⟩, h4⟩, h5⟩, h6⟩, h7⟩ := h
      exact ml_sound ok (eq_of_beq h1) h2 h3 (soundE g o _ ok h4) (soundL g l _ ok h5) h6 h7
    · cases h
theorem soundEs (g : GOk C G n Φ) : ∀ (m : Es) (es : List Expr) {X : Cx} {ns : NK} {W : WX}, Ok C N n X ns W → ckEs G N ns m es = true → PA X es (rdA C W (denEs Φ m))
  | .nil, [], X, ns, W, ok, h => a_nil
  | .nil, _ :: _, X, ns, W, ok, h => by simp [ckEs] at h
  | .cons e es, [], X, ns, W, ok, h => by simp [ckEs] at h
  | .cons e es, x :: xs, X, ns, W, ok, h => by
    simp only [ckEs, Bool.and_eq_true, Bool.not_eq_true'] at h
    exact a_cons (soundE g e _ ok h.1.1) (soundEs g es _ ok h.2) (star_cons h.1.2)
theorem soundO (g : GOk C G n Φ) : ∀ (m : O) (e : Option Expr) {X : Cx} {ns : NK} {W : WX}, Ok C N n X ns W → ckO G N ns m e = true → PO X e (rdO C W (denO Φ m))
  | .none, none, X, ns, W, ok, h => poimp po_none fun τ H Q ⟨ι, σ, M, hE, hR, h⟩ => h.here hR
  | .none, some _, X, ns, W, ok, h => by simp [ckO] at h
  | .some e, none, X, ns, W, ok, h => by simp [ckO] at h
  | .some e, some x, X, ns, W, ok, h => by
    simp only [ckO] at h
    exact o_some (soundE g e _ ok h)
theorem soundT (g : GOk C G n Φ) : ∀ (m : T) (e : Expr) {X : Cx} {ns : NK} {W : WX}, Ok C N n X ns W → ckT G N ns m e = true → PT X e (rdT C W (denT Φ m)) ∧ (isBoolOp e = true → PW X e (rdT C W (denT Φ m)))
  | .tru a, e, X, ns, W, ok, h => by
    unfold ckT at h
    rw [Bool.and_eq_true, Bool.or_eq_true] at h
    obtain ⟨h1, h2⟩ := h
    rcases h2 with h2 | h2
    · refine ⟨t_tru ok.hK (soundE g a _ ok h1) (plain_true h2), fun hb => ?_⟩
      cases e <;> first | cases hb; done | cases h2
    · cases e with
      | Compare x ops ys pos =>
        refine ⟨?_, fun hb => by cases hb⟩
        match a, h1, h2 with
        | .op2 p a b, h1, h2 =>
          obtain ⟨op, y, rfl, rfl, q1, q2, q3, q4⟩ := inv_op2 h1
          have o := cmp_of (C := C) ok.hK ok.room.units q1
          exact t_cmp o.2 o.1 (soundE g a _ ok q2) (soundE g b _ ok q3) q4
        | .chn p q a b c, h1, h2 =>
          obtain ⟨op1, op2, y, z, rfl, rfl, h1, h2, h3, h4, h5, h6⟩ := inv_chn h1
          have o1 := cmp_of (C := C) ok.hK ok.room.units h1
          have o2 := cmp_of (C := C) ok.hK ok.room.units h2
          exact t_chn o1.2 o2.2 o1.1 o2.1 (soundE g a _ ok h3) (soundE g b _ ok h4) (soundE g c _ ok h5) h6
      | _ => cases h2
  | .and a b, e, X, ns, W, ok, h => by
    unfold ckT at h
    split at h
    · rename_i x y rest pos
      rw [Bool.and_eq_true] at h
      have key : PW X (.BoolOp .And (x :: y :: rest) pos) (rdT C W (denT Φ (.and a b))) := by
        cases rest with
        | nil => exact w_and (soundT g a _ ok h.1).1 (w_and1 (soundT g b _ ok h.2).1)
        | cons z zs => exact w_and (soundT g a _ ok h.1).1 ((soundT g b _ ok h.2).2 rfl)
      exact ⟨key.pt, fun _ => key⟩
    · cases h
  | .or a b, e, X, ns, W, ok, h => by
    unfold ckT at h
    split at h
    · rename_i x y rest pos
      rw [Bool.and_eq_true] at h
      have key : PW X (.BoolOp .Or (x :: y :: rest) pos) (rdT C W (denT Φ (.or a b))) := by
        cases rest with
        | nil => exact w_or (soundT g a _ ok h.1).1 (w_or1 (soundT g b _ ok h.2).1)
        | cons z zs => exact w_or (soundT g a _ ok h.1).1 ((soundT g b _ ok h.2).2 rfl)
      exact ⟨key.pt, fun _ => key⟩
    · cases h
  | .not a, e, X, ns, W, ok, h => by
    unfold ckT at h
    split at h
    · exact ⟨t_not (soundT g a _ ok h).1, fun hb => by cases hb⟩
    · cases h
  | .yes, e, X, ns, W, ok, h => by cases (show false = true from h)
theorem soundL (g : GOk C G n Φ) : ∀ (m : L) (e : Expr) {X : Cx} {ns : NK} {W : WX}, Ok C N n X ns W → ckL G N ns m e = true → PE X e (rdZ C W (ZOf C m) (denL Φ m))
  | .val a, e, X, ns, W, ok, h => l_val (soundE g a _ ok h)
  | .vlst a, e, X, ns, W, ok, h => l_vlst (soundE g a _ ok h)
  | .lst es, e, X, ns, W, ok, h => by
    unfold ckL at h
    split at h
    · exact l_lst (soundEs g es _ ok h)
    · cases h
  | .lc elt ws tg it c, e, X, ns, W, ok, h => by
    obtain ⟨x, te, ie, ifs, scope, pos, rfl, hi, okb, hg, ht, he, hs, hw, ews⟩ := lc_sound ok h (fun te ie q => soundI g it te ie ok q) (fun x {X'} {ns'} o q => soundE g elt x o q) (fun x {X'} {ns'} o q => (soundT g c x o q).1)
    have := l_lc (C := C) (W := W) (fuel := Φ.fuel) ok.calm (by rw [ok.hN]; exact ok.nd) hi okb hg ht he hs (by rw [ews]; exact hw) (pos := pos)
    rw [ews] at this
    exact this
theorem soundI (g : GOk C G n Φ) : ∀ (m : I) (te e : Expr) {X : Cx} {ns : NK} {W : WX}, Ok C N n X ns W → ckI G N ns m te e = true → PI X te e (rdI C W (denI Φ m))
  | .val a, te, e, X, ns, W, ok, h => i_val ok.hK (soundE g a _ ok h)
  | .lis l, te, e, X, ns, W, ok, h => by
    unfold ckI at h
    rw [Bool.and_eq_true] at h
    have A := soundL g l _ ok h.2
    cases l with
    | lst es => exact i_lis ok.hK A
    | lc a b c d e => exact i_lis ok.hK A
    | _ => cases h.1
  | .rng1 a, te, e, X, ns, W, ok, h => by
    unfold ckI at h
    split at h
    · simp only [Bool.and_eq_true, Bool.not_eq_true'] at h
      obtain ⟨⟨⟨h1, h2⟩, h3⟩, h4⟩ := h
      obtain ⟨b1, b2, b3, b4⟩ := ok.bl g h2
      have e1 := eq_of_beq h1
      subst e1
      exact i_rng1 b1 b2 (soundE g a _ ok h3) (star_cons h4)
    · cases h
  | .rng2 a b, te, e, X, ns, W, ok, h => by
    unfold ckI at h
    split at h
    · simp only [Bool.and_eq_true, Bool.not_eq_true'] at h
      obtain ⟨⟨⟨⟨⟨h1, h2⟩, h3⟩, h4⟩, h5⟩, h6⟩ := h
      obtain ⟨b1, b2, b3, b4⟩ := ok.bl g h2
      have e1 := eq_of_beq h1
      subst e1
      exact i_rng2 b1 b2 (soundE g a _ ok h3) (soundE g b _ ok h4) (by rw [star_cons h5, star_cons h6]; rfl) (star_cons h6)
    · cases h
  | .rng3 a b c, te, e, X, ns, W, ok, h => by
    unfold ckI at h
    split at h
    · simp only [Bool.and_eq_true, Bool.not_eq_true'] at h
      obtain ⟨⟨⟨⟨⟨⟨⟨h1, h2⟩, h3⟩, h4⟩, h5⟩, h6⟩, h7⟩, h8⟩ := h
      obtain ⟨b1, b2, b3, b4⟩ := ok.bl g h2
      have e1 := eq_of_beq h1
      subst e1
      exact i_rng3 b1 b2 (soundE g a _ ok h3) (soundE g b _ ok h4) (soundE g c _ ok h5) (star_cons h6) (star_cons h7) (star_cons h8)
    · cases h
  | .enu _, te, e, X, ns, W, ok, h => by cases (show false = true from h)
  | .zip _ _, te, e, X, ns, W, ok, h => by cases (show false = true from h)
end
end
end PyL

set_option maxHeartbeats 4000000
/-! PyL: a checked text does what the small syntax tells: statements. -/
namespace PyL
open PySem PySem.Spec PyProof.Rows L2

def anyComp : Expr → Bool
  | .ListComp .. => true
  | .SetComp .. => true
  | .DictComp .. => true
  | _ => false
def notSD : Expr → Bool
  | .SetComp .. => false
  | .DictComp .. => false
  | _ => true
/-- the new list goes straight into the name -/
def swapB (ns : NK) (y : Str) (py : Pos) : Expr → Bool
  | .ListComp _ _ scope p => isLoc ns y && (py.line == p.line) && !(scope.names.any fun (n, k) => n == y && (k == .local || k == .cell))
  | _ => false
/-- the names on one line, all local -/
def lineNames (ns : NK) (ts : List Expr) : List Str :=
  ts.filterMap fun
    | .Name id pos => if ns.lookup id == some .local && pos.line == (ts.head?.map (·.pos.line)).getD 0 then some id else none
    | _ => none
/-- no swapped stores -/
def noSwap (ns : NK) (ts : List Expr) : Expr → Bool
  | .Tuple vs _ _ => !(ts.length == 2 || ts.length == 3) || vs.length != ts.length || (lineNames ns ts).length != ts.length || (lineNames ns ts).eraseDups.length != (lineNames ns ts).length || vs.all (foldedForSure 8)
  | _ => true
def doSwap (ns : NK) (ts vs : List Expr) : Bool :=
  (ts.length == 2 || ts.length == 3) && vs.length == ts.length && !(vs.any starB) && (lineNames ns ts).length == ts.length && (lineNames ns ts).eraseDups.length == (lineNames ns ts).length && !(vs.all (foldedForSure 8)) && !(vs.all (constantsAlone 8))
section
variable (G : GC) (N : List Str)
mutual
def ckS : NK → S → Stmt → Bool
  | _, .nop, s => (match s with
    | .Pass _ => true
    | _ => false)
  | ns, .ex e, s => (match s with
    | .Expr x _ => ckE G N ns e x && !anyComp x
    | _ => false)
  | ns, .as (.name i) e, s => (match s with
    | .Assign [.Name y _] x _ => (N[i]? == some y) && locB ns y && ckE G N ns e x && notSD x
    | _ => false)
  | ns, .as (.tup is) e, s => (match s with
    | .Assign [.Tuple ts _ _] x _ => ckNames N ns is ts && ckE G N ns e x && noSwap ns ts x
    | _ => false)
  | ns, .par [i, j] es, s => (match s with
    | .Assign [.Tuple [.Name x px, .Name y py] kt pt] (.Tuple vs _ _) _ => (N[i]? == some x) && (N[j]? == some y) && isLoc ns x && isLoc ns y && (i != j) && ckEs G N ns es vs && doSwap ns [.Name x px, .Name y py] vs
    | _ => false)
  | ns, .par [i, j, l] es, s => (match s with
    | .Assign [.Tuple [.Name x px, .Name y py, .Name z pz] kt pt] (.Tuple vs _ _) _ => (N[i]? == some x) && (N[j]? == some y) && (N[l]? == some z) && isLoc ns x && isLoc ns y && isLoc ns z && (i != j) && (i != l) && (j != l) && ckEs G N ns es vs && doSwap ns [.Name x px, .Name y py, .Name z pz] vs
    | _ => false)
  | _, .par _ _, _ => false
  | ns, .asub a i e, s => (match s with
    | .Assign [.Subscript o j _] x _ => ckE G N ns a o && ckE G N ns i j && plainIxB j && ckE G N ns e x
    | _ => false)
  | ns, .aug p i e, s => (match s with
    | .AugAssign (.Name x _) op y _ => (N[i]? == some x) && locB ns x && ckE G N ns e y && (match p, op with
      | .add, .Add => true
      | .sub, .Sub => true
      | _, _ => false)
    | _ => false)
  | ns, .rt e, s => (match s with
    | .Return (some x) _ => ckE G N ns e x
    | _ => false)
  | _, .rtN, s => (match s with
    | .Return none _ => true
    | _ => false)
  | ns, .ite c a b, s => (match s with
    | .If x as bs _ => ckT G N ns c x && ckSs ns a as && ckSs ns b bs
    | _ => false)
  | ns, .wh c b, s => (match s with
    | .While x bs [] _ => ckT G N ns c x && ckSs ns b bs
    | _ => false)
  | ns, .fo t it b, s => (match s with
    | .For te ie bs [] _ => ckTg N ns t te && ckI G N ns it te ie && !setB ie && ckSs ns b bs
    | _ => false)
  | _, .br, s => (match s with
    | .Break _ => true
    | _ => false)
  | _, .co, s => (match s with
    | .Continue _ => true
    | _ => false)
  | _, .never, _ => true
def ckSs : NK → Ss → List Stmt → Bool
  | _, .nil, ss => ss.isEmpty
  | ns, .cons s ss, xs => (match xs with
    | x :: xs => ckS ns s x && ckSs ns ss xs
    | [] => false)
end
end

structure SOk (C : Con) (N : List Str) (n : Nat) (X : Cx) (ns : NK) (W : WX) : Prop extends Ok C N n X ns W where
  po : PassesOwn (model X.prog X.w) X.A X.env X.xe
  fnT : ∀ x, X.fn x = true
section
variable {C : Con} {G : GC} {N : List Str} {n : Nat} {Φ : Fns} {X : Cx} {ns : NK} {W : WX}
theorem SOk.hl (ok : SOk C N n X ns W) (x : Str) (h : locB ns x = true) : L2.Loc X.env.scope x ∧ (X.fn x = true ∨ X.env.scope.names.lookup x = some .local) := by
  refine ⟨?_, .inl (ok.fnT x)⟩
  unfold locB at h
  unfold L2.Loc
  rw [ok.names]
  split at h
  · exact .inl (by assumption)
  · exact .inr (by assumption)
  · cases h
theorem Ok.loc (ok : Ok C N n X ns W) {x : Str} (h : isLoc ns x = true) : X.env.scope.names.lookup x = some .local := by
  unfold isLoc at h
  rw [ok.names]
  split at h
  · assumption
  · cases h
theorem Ok.bk (ok : Ok C N n X ns W) : X.env.blockKind = .function := by unfold Env.blockKind; rw [ok.kind]; rfl
theorem sw_none {x : Expr} {t : Option Expr} {l : Nat} {env : Env} (h : anyComp x = false) : swapsWith x t l env = pure false := by
  cases x <;> first | rfl | cases h
theorem sw_tup {x : Expr} {ts : List Expr} {k : Nat} {p : Pos} {l : Nat} {env : Env} : swapsWithSole [.Tuple ts k p] x l env = pure false := by
  cases x <;> rfl
theorem sw_sub {x o i : Expr} {p : Pos} {l : Nat} {env : Env} : swapsWithSole [.Subscript o i p] x l env = pure false := by
  cases x <;> rfl
theorem sw_name (ok : Ok C N n X ns W) {x : Expr} {y : Str} {py : Pos} {l : Nat} (h1 : notSD x = true) (h : swapB ns y py x = false) : swapsWith x (some (.Name y py)) l X.env = pure false := by
  cases x with
  | ListComp elt gs scope p =>
    have kk : X.env.kindOf y = ns.lookup y := by rw [← ok.names]; rfl
    have hb := ok.bk
    unfold swapB isLoc at h
    unfold swapsWith
    simp only [hb, kk, Expr.pos]
    cases q : ns.lookup y with
    | none => rfl
    | some k =>
      simp only [q] at h
      cases k <;> first | rfl | skip
      simp only [Bool.true_and] at h
      show (pure (true && true && (py.line == p.line) && !(scope.names.any fun (n, k) => n == y && (k == .local || k == .cell))) : Sem Bool) = pure false
      simp only [Bool.true_and]
      rw [h]
  | SetComp => cases h1
  | DictComp => cases h1
  | _ => rfl
theorem sw_yes (ok : Ok C N n X ns W) {elt : Expr} {gs : List Comprehension} {scope : Scope} {p py : Pos} {y : Str} {l : Nat} (h : swapB ns y py (.ListComp elt gs scope p) = true) : swapsWith (.ListComp elt gs scope p) (some (.Name y py)) l X.env = pure true := by
  simp only [swapB, Bool.and_eq_true, Bool.not_eq_true'] at h
  exact sw_true ok.kind (ok.loc h.1.1) h.1.2 h.2
def lineNamesE (env : Env) (ts : List Expr) : List Str :=
  ts.filterMap fun
    | .Name id pos => if env.kindOf id == some .local && pos.line == (ts.head?.map (·.pos.line)).getD 0 then some id else none
    | _ => none
theorem names_eq (ok : Ok C N n X ns W) (ts : List Expr) : lineNamesE X.env ts = lineNames ns ts := by
  unfold lineNames lineNamesE
  have : ∀ id, X.env.kindOf id = ns.lookup id := fun id => by rw [← ok.names]; rfl
  simp only [this]
theorem stores_eq {env : Env} {ts vs : List Expr} {k k2 : Nat} {p p2 : Pos} : swappedStores [.Tuple ts k p] (.Tuple vs k2 p2) env =
    (if (!(ts.length == 2 || ts.length == 3) || vs.length != ts.length || env.blockKind != .function) = true then pure none
    else if vs.any starB = true then pure none
    else if ((lineNamesE env ts).length != ts.length || (lineNamesE env ts).eraseDups.length != (lineNamesE env ts).length) = true then pure none
    else if vs.all (foldedForSure 8) = true then pure none
    else if vs.all (constantsAlone 8) = true then (do unsupported "assign.tuple-of-constant-expressions:order-of-the-stores"; pure (some (lineNamesE env ts)))
    else pure (some (lineNamesE env ts))) := rfl
theorem noSwap_ok (ok : Ok C N n X ns W) {ts : List Expr} {k : Nat} {p : Pos} {x : Expr} (h : noSwap ns ts x = true) : swappedStores [.Tuple ts k p] x X.env = pure none := by
  cases x <;> first | rfl | skip
  rename_i vs k2 p2
  have h : (!(ts.length == 2 || ts.length == 3) || vs.length != ts.length || (lineNames ns ts).length != ts.length || (lineNames ns ts).eraseDups.length != (lineNames ns ts).length || vs.all (foldedForSure 8)) = true := h
  rw [stores_eq, names_eq ok, ok.bk]
  have e0 : (ScopeKind.function != ScopeKind.function) = false := rfl
  simp only [e0, Bool.or_false]
  by_cases h1 : (!(ts.length == 2 || ts.length == 3) || vs.length != ts.length) = true
  · rw [if_pos h1]
  · rw [if_neg h1]
    have h1' : (!(ts.length == 2 || ts.length == 3) || vs.length != ts.length) = false := by simpa using h1
    rw [h1', Bool.false_or] at h
    by_cases h3 : vs.any starB = true
    · rw [if_pos h3]
    · rw [if_neg h3]
      by_cases h2 : ((lineNames ns ts).length != ts.length || (lineNames ns ts).eraseDups.length != (lineNames ns ts).length) = true
      · rw [if_pos h2]
      · rw [if_neg h2]
        have h2' : ((lineNames ns ts).length != ts.length || (lineNames ns ts).eraseDups.length != (lineNames ns ts).length) = false := by simpa using h2
        rw [h2', Bool.false_or] at h
        rw [if_pos h]
theorem doSwap_ok (ok : Ok C N n X ns W) {ts vs : List Expr} {k k2 : Nat} {p p2 : Pos} (h : doSwap ns ts vs = true) : swappedStores [.Tuple ts k p] (.Tuple vs k2 p2) X.env = pure (some (lineNames ns ts)) := by
  simp only [doSwap, Bool.and_eq_true, Bool.not_eq_true', beq_iff_eq] at h
  obtain ⟨⟨⟨⟨⟨⟨h1, h2⟩, h3⟩, h4⟩, h5⟩, h6⟩, h7⟩ := h
  rw [stores_eq, names_eq ok, ok.bk]
  have e0 : (ScopeKind.function != ScopeKind.function) = false := rfl
  have e2 : (vs.length != ts.length) = false := by rw [h2]; simp
  have e3 : ((lineNames ns ts).length != ts.length) = false := by rw [h4]; simp
  have e4 : ((lineNames ns ts).eraseDups.length != (lineNames ns ts).length) = false := by rw [h5]; simp
  simp only [e0, h1, h3, e2, e3, e4, h6, h7, Bool.or_false, Bool.not_true, Bool.false_eq_true, if_false]
theorem two_names {x y : Str} {px py : Pos} (h : (lineNames ns [.Name x px, .Name y py]).length = 2) : lineNames ns [.Name x px, .Name y py] = [x, y] := by
  unfold lineNames at h ⊢
  simp only [List.filterMap_cons, List.filterMap_nil] at h ⊢
  repeat' split at h
  all_goals first | (simp at h; done) | skip
  all_goals simp_all
theorem three_names {x y z : Str} {px py pz : Pos} (h : (lineNames ns [.Name x px, .Name y py, .Name z pz]).length = 3) : lineNames ns [.Name x px, .Name y py, .Name z pz] = [x, y, z] := by
  unfold lineNames at h ⊢
  simp only [List.filterMap_cons, List.filterMap_nil] at h ⊢
  repeat' split at h
  all_goals first | (simp at h; done) | skip
  all_goals simp_all
end
end PyL

set_option maxHeartbeats 4000000
namespace PyL
open PySem PySem.Spec PyProof.Rows L2
section
variable {C : Con} {G : GC} {N : List Str} {n : Nat} {Φ : Fns} {X : Cx} {ns : NK} {W : WX}
/-- the text of a new list is a comprehension's only for .ofL .lc -/
theorem swap_lc {e : E} {x : Expr} {y : Str} {py : Pos} (h : ckE G N ns e x = true) (hs : swapB ns y py x = true) : ∃ elt ws tg it c, e = .ofL (.lc elt ws tg it c) := by
  cases x with
  | ListComp elt gs scope p =>
    cases e with
    | ofL l =>
      rw [ckE, Bool.and_eq_true] at h
      cases l with
      | lc a b c d e => exact ⟨a, b, c, d, e, rfl⟩
      | lst es => exact absurd h.2 (by simp [ckL])
      | _ => cases h.1
    | dic t ks vs => cases ks <;> cases vs <;> exact absurd h (by simp [ckE])
    | _ => exact absurd h (by simp [ckE])
  | _ => cases hs
theorem sound_as (g : GOk C G n Φ) (ok : SOk C N n X ns W) {i : Nat} {e : E} {y : Str} {py pos : Pos} {x : Expr} (h1 : (N[i]? == some y) = true) (h2 : locB ns y = true) (h3 : ckE G N ns e x = true) (h4 : notSD x = true) :
    PS X (.Assign [.Name y py] x pos) (rdSt C W (denS Φ (.as (.name i) e))) := by
  obtain ⟨q1, q2⟩ := ok.hl y h2
  have hi : X.N[i]? = some y := by rw [ok.hN]; exact beq_iff_eq.mp h1
  cases hb : swapB ns y py x with
  | false => exact s_set (by rw [ok.hN]; exact ok.nd) hi q1 q2 (soundE g e x ok.toOk h3) (sw_name ok.toOk h4 hb)
  | true =>
    obtain ⟨elt, ws, tg, it, c, rfl⟩ := swap_lc h3 hb
    rw [ckE, Bool.and_eq_true] at h3
    obtain ⟨x, te, ie, ifs, scope, p, rfl, hI, okb, hg, ht, he, hs, hw, ews⟩ := lc_sound ok.toOk h3.2 (fun te ie q => soundI g it te ie ok.toOk q) (fun x {X'} {ns'} o q => soundE g elt x o q) (fun x {X'} {ns'} o q => (soundT g c x o q).1)
    have hyl : X.env.scope.names.lookup y = some .local := by
      simp only [swapB, Bool.and_eq_true] at hb
      exact ok.toOk.loc hb.1.1
    have := s_setLc (C := C) (W := W) (fuel := Φ.fuel) ok.calm (by rw [ok.hN]; exact ok.nd) hi hyl (sw_yes (l := pos.line) ok.toOk hb) hI okb hg ht he hs (by rw [ews]; exact hw)
    rw [ews] at this
    exact this
theorem sub_asg {o j : Expr} {p2 : Pos} {env : Env} (h : plainIxB j = true) (v : Value) : assign (.Subscript o j p2) env v = (do
      let ov ← holding [v] (eval o env)
      let iv ← holding [v, ov] (eval j env)
      standAt p2
      holding [v, ov, iv] (setItem ov iv v)
      release [v, ov, iv] []) := by
  cases j <;> first | rfl | cases h
mutual
theorem soundS (g : GOk C G n Φ) : ∀ (m : S) (s : Stmt), SOk C N n X ns W → ckS G N ns m s = true → PS X s (rdSt C W (denS Φ m))
  | .nop, s, ok, h => by
    unfold ckS at h
    split at h
    · exact s_pass
    · cases h
  | .ex e, s, ok, h => by
    unfold ckS at h
    split at h
    · simp only [Bool.and_eq_true, Bool.not_eq_true'] at h
      exact s_expr (soundE g e _ ok.toOk h.1) (sw_none h.2)
    · cases h
  | .as (.name i) e, s, ok, h => by
    unfold ckS at h
    split at h
    · simp only [Bool.and_eq_true] at h
      exact sound_as g ok h.1.1.1 h.1.1.2 h.1.2 h.2
    · cases h
  | .as (.tup is) e, s, ok, h => by
    unfold ckS at h
    split at h
    · simp only [Bool.and_eq_true] at h
      obtain ⟨a, b, c, d⟩ := ck_names (C := C) (X := X) (K := true) ok.hN ok.nd (fun x hx => ok.hl x hx) is _ h.1.1
      exact s_asg (t := .tup is) (soundE g e _ ok.toOk h.1.2) (g_tup ok.hK ok.calm a b c) sw_tup (noSwap_ok ok.toOk h.2) rfl
    · cases h
  | .par is es, s, ok, h => by
    match is, h with
    | [i, j], h =>
      unfold ckS at h
      split at h
      · rename_i x px y py kt pt vs k2 p2 pos _hh
        simp only [Bool.and_eq_true, bne_iff_ne] at h
        obtain ⟨⟨⟨⟨⟨⟨h1, h2⟩, h3⟩, h4⟩, h5⟩, h6⟩, h7⟩ := h
        have q := doSwap_ok (k := kt) (p := pt) (k2 := k2) (p2 := p2) ok.toOk h7
        simp only [doSwap, Bool.and_eq_true, beq_iff_eq] at h7
        have hl := h7.1.1.1.2
        rw [two_names hl] at q
        obtain ⟨a, b, rfl⟩ : ∃ a b, vs = [a, b] := by
          have := h7.1.1.1.1.1.2
          match vs, this with
          | [a, b], _ => exact ⟨a, b, rfl⟩
        exact s_par2 ok.calm (by rw [ok.hN]; exact ok.nd) (by rw [ok.hN]; exact beq_iff_eq.mp h1) (by rw [ok.hN]; exact beq_iff_eq.mp h2) h5 (ok.toOk.loc h3) (ok.toOk.loc h4) (soundEs g es _ ok.toOk h6) q sw_tup
      · cases h
    | [i, j, l], h =>
      unfold ckS at h
      split at h
      · rename_i x px y py z pz kt pt vs k2 p2 pos _hh
        simp only [Bool.and_eq_true, bne_iff_ne] at h
        obtain ⟨⟨⟨⟨⟨⟨⟨⟨⟨⟨h1, h2⟩, h2'⟩, h3⟩, h4⟩, h4'⟩, h5⟩, h5'⟩, h5''⟩, h6⟩, h7⟩ := h
        have q := doSwap_ok (k := kt) (p := pt) (k2 := k2) (p2 := p2) ok.toOk h7
        simp only [doSwap, Bool.and_eq_true, beq_iff_eq] at h7
        have hl := h7.1.1.1.2
        rw [three_names hl] at q
        obtain ⟨a, b, c, rfl⟩ : ∃ a b c, vs = [a, b, c] := by
          have := h7.1.1.1.1.1.2
          match vs, this with
          | [a, b, c], _ => exact ⟨a, b, c, rfl⟩
        exact s_par3 ok.calm (by rw [ok.hN]; exact ok.nd) (by rw [ok.hN]; exact beq_iff_eq.mp h1) (by rw [ok.hN]; exact beq_iff_eq.mp h2) (by rw [ok.hN]; exact beq_iff_eq.mp h2') h5 h5' h5'' (ok.toOk.loc h3) (ok.toOk.loc h4) (ok.toOk.loc h4') (soundEs g es _ ok.toOk h6) q sw_tup
      · cases h
    | [], h => simp [ckS] at h
    | [_], h => simp [ckS] at h
    | _ :: _ :: _ :: _ :: _, h => simp [ckS] at h
  | .asub a i e, s, ok, h => by
    unfold ckS at h
    split at h
    · simp only [Bool.and_eq_true] at h
      obtain ⟨⟨⟨h1, h2⟩, h3⟩, h4⟩ := h
      exact s_asub (soundE g e _ ok.toOk h4) (soundE g a _ ok.toOk h1) (soundE g i _ ok.toOk h2) (sub_asg h3) sw_sub rfl rfl
    · cases h
  | .aug p i e, s, ok, h => by
    unfold ckS at h
    split at h
    · simp only [Bool.and_eq_true] at h
      obtain ⟨⟨⟨h1, h2⟩, h3⟩, h4⟩ := h
      obtain ⟨q1, q2⟩ := ok.hl _ h2
      split at h4
      · exact s_aug (by rw [ok.hN]; exact ok.nd) (by rw [ok.hN]; exact beq_iff_eq.mp h1) q1 q2 (soundE g e _ ok.toOk h3) p_iadd
      · exact s_aug (by rw [ok.hN]; exact ok.nd) (by rw [ok.hN]; exact beq_iff_eq.mp h1) q1 q2 (soundE g e _ ok.toOk h3) p_isub
      · cases h4
    · cases h
  | .rt e, s, ok, h => by
    unfold ckS at h
    split at h
    · exact s_ret (soundE g e _ ok.toOk h)
    · cases h
  | .rtN, s, ok, h => by
    unfold ckS at h
    split at h
    · exact s_retN
    · cases h
  | .ite c a b, s, ok, h => by
    unfold ckS at h
    split at h
    · simp only [Bool.and_eq_true] at h
      exact s_if (soundT g c _ ok.toOk h.1.1).1 (soundSs g a _ ok h.1.2) (soundSs g b _ ok h.2)
    · cases h
  | .wh c b, s, ok, h => by
    unfold ckS at h
    split at h
    · simp only [Bool.and_eq_true] at h
      exact s_while ok.po (soundT g c _ ok.toOk h.1).1 (soundSs g b _ ok h.2)
    · cases h
  | .fo t it b, s, ok, h => by
    unfold ckS at h
    split at h
    · simp only [Bool.and_eq_true, Bool.not_eq_true'] at h
      obtain ⟨⟨⟨h1, h2⟩, h3⟩, h4⟩ := h
      exact s_for ok.po ok.calm (soundI g it _ _ ok.toOk h2) (ck_tg ok.toOk (fun x hx => ok.hl x hx) h1) (soundSs g b _ ok h4) (fold_ok h3)
    · cases h
  | .br, s, ok, h => by
    unfold ckS at h
    split at h
    · exact s_break
    · cases h
  | .co, s, ok, h => by
    unfold ckS at h
    split at h
    · exact s_cont
    · cases h
  | .never, s, ok, h => s_never
theorem soundSs (g : GOk C G n Φ) : ∀ (m : Ss) (ss : List Stmt), SOk C N n X ns W → ckSs G N ns m ss = true → PSs X ss (rdSt C W (denSs Φ m))
  | .nil, [], ok, h => s_nil
  | .nil, _ :: _, ok, h => by simp [ckSs] at h
  | .cons s ss, [], ok, h => by simp [ckSs] at h
  | .cons s ss, x :: xs, ok, h => by
    simp only [ckSs, Bool.and_eq_true] at h
    exact s_cons (soundS g s _ ok h.1) (soundSs g ss _ ok h.2)
end
end
end PyL

set_option maxHeartbeats 4000000
/-! PyL: all defs of a program at once. -/
namespace PyL
open PySem PySem.Spec PyProof.Rows L2

/-- a def: its name, its parameters, its slots, its text, its body in small -/
structure Fd where
  name : Str
  ps : List Str
  N : List Str
  st : Stmt
  body : Ss
def Fd.fr (d : Fd) : FR := ⟨d.ps.length, d.N.length, d.body⟩
def lcB (ns : NK) (x : Str) : Bool := match ns.lookup x with
  | some .local => true
  | some .cell => true
  | _ => false
def nfB : NameKind → Bool
  | .free => false
  | _ => true
def kfB : ScopeKind → Bool
  | .function => true
  | _ => false
def nodupB : List Str → Bool
  | [] => true
  | x :: xs => !xs.contains x && nodupB xs
theorem nodupB_ok : ∀ {xs : List Str}, nodupB xs = true → xs.Nodup
  | [], _ => .nil
  | x :: xs, h => by
    simp only [nodupB, Bool.and_eq_true, Bool.not_eq_true'] at h
    refine List.nodup_cons.mpr ⟨fun z => ?_, nodupB_ok h.2⟩
    have := List.contains_iff_mem.mpr z
    rw [h.1] at this
    cases this
def scB (N P : List Str) (sc : Scope) : Bool :=
  kfB sc.kind && !sc.isCoroutine && !sc.isGenerator && nodupB N && (N.take P.length == P) && P.all (lcB sc.names) && sc.names.all fun y => nfB y.2
theorem scB_ok {N P : List Str} {sc : Scope} (h : scB N P sc = true) : FnScope N P sc := by
  simp only [scB, Bool.and_eq_true, Bool.not_eq_true'] at h
  obtain ⟨⟨⟨⟨⟨⟨h1, h2⟩, h3⟩, h4⟩, h5⟩, h6⟩, h7⟩ := h
  refine ⟨?_, h2, h3, nodupB_ok h4, beq_iff_eq.mp h5, fun x hx => ?_, fun y hy e => ?_⟩
  · unfold kfB at h1
    split at h1
    · assumption
    · cases h1
  · have := List.all_eq_true.mp h6 x hx
    unfold lcB at this
    split at this
    · exact .inl (by assumption)
    · exact .inr (by assumption)
    · cases this
  · have := List.all_eq_true.mp h7 y hy
    simp only [nfB, e] at this
    cases this
def ckF (G : GC) (d : Fd) : Bool := scB d.N d.ps (defScope d.st) && ckSs G d.N (defScope d.st).names d.body (defBody d.st)

/-- where a def stands -/
structure DefAt (K : PySem.W.Frag) (mg : Str → Option Value) (d : Fd) (f : Addr) (fd : FuncData) : Prop where
  fn : Fun K d.name d.name d.st f fd
  mg : mg d.name = some (.ref f)
  kp : PySem.W.keepIn K (.ref f) = true
  ba : ∀ us : List Value, us.length = d.ps.length → bindArgs fd ⟨us, []⟩ = pure (d.ps.zip us)
theorem DefAt.mk' {K : PySem.W.Frag} {h : Heap} {mg : Str → Option Value} (X : K.In h) (G : h.Ns mainGlobals mg) (d : Fd) {f : Addr} {od an : Option Addr} {sl : Array (Option Value)} {oc kV dc pm cd ct : Value}
    (a : PySem.W.nsIn K mainGlobals d.name = some (some (.ref f))) (l : K.lookup f = some ⟨oc, od, .func (PySem.W.fnOf d.name d.name (defArgs d.st) (defBody d.st) (defScope d.st) .none kV dc pm an cd ct), sl⟩)
    (c : PySem.W.codeIn K cd d.name = true) (k : PySem.W.keepIn K (.ref f) = true)
    (hb : ∀ us : List Value, us.length = d.ps.length → bindArgs (PySem.W.fnOf d.name d.name (defArgs d.st) (defBody d.st) (defScope d.st) .none kV dc pm an cd ct) ⟨us, []⟩ = pure (d.ps.zip us)) :
    ∃ f fd, DefAt K mg d f fd := ⟨_, _, fun_mk l c k, PySem.W.mg_of X G a, k, hb⟩
/-- the module's other names -/
structure ModOk (C : Con) (G : GC) (con : List D) : Prop where
  blt : ∀ x, G.blts.contains x = true → C.mg x = none
  con : ∀ (j : Nat) (x : Str), G.cons[j]? = some x → ∃ d u v, con[j]? = some d ∧ C.mg x = some u ∧ L2.RelV v u ∧ ∀ ι H, Rep C ι H d v
section
variable {C : Con} {G : GC}
theorem start_rep {ι : List Addr} {H : Hp} {N : List Str} {ds : List D} {vs : List V} (r : Reps C ι H ds vs) (np : Nat) (hn : ds.length = np) : EnR C ι H (ds.map some ++ List.replicate (N.length - np) none) (L2.start N vs) := by
  have hl := r.length
  refine ⟨?_, fun i d q => ?_⟩
  · unfold L2.start
    simp only [List.length_append, List.length_map, List.length_replicate]
    omega
  · unfold L2.start
    by_cases hi : i < ds.length
    · rw [List.getElem?_append_left (by simpa using hi), List.getElem?_map] at q
      rw [List.getElem?_append_left (by simp; omega), List.getElem?_map]
      cases e : ds[i]? with
      | none => rw [e] at q; cases q
      | some d' =>
        rw [e] at q
        cases q
        obtain ⟨v, h1, h2⟩ := r.get e
        exact ⟨v, by rw [h1]; rfl, h2⟩
    · rw [List.getElem?_append_right (by simpa using hi), List.getElem?_replicate] at q
      split at q
      · cases q
      · cases q
/-- every def of the table does what its small body tells, to any depth -/
theorem prog_ok {fds : List Fd} {con : List D} {fuel : Nat} (hG : G.funs = fds.map fun d => (d.name, d.ps.length)) (hck : (fds.all (ckF G)) = true) (hdef : ∀ d ∈ fds, ∃ f fd, DefAt C.K C.mg d f fd) (hm : ModOk C G con) :
    ∀ (n k : Nat) (d : Fd), fds[k]? = some d → ∀ f fd, DefAt C.K C.mg d f fd → FnOk C.P C.w C.K C.mg C.base (L2.CX C.P C.w) n f fd d.ps (spOf C (callN (fds.map Fd.fr) con fuel n k) d.ps.length)
  | 0, k, d, hk, f, fd, A => by
    have no : ∀ vs H Q E, ¬ spOf C (callN (fds.map Fd.fr) con fuel 0 k) d.ps.length vs H Q E := fun vs H Q E ⟨ι, M, ds, _, _, _, h⟩ => h
    exact ⟨fun vs H Q E h => (no _ _ _ _ h).elim, fun A outer s H args us vs Q E _ _ _ _ h => (no _ _ _ _ h).elim⟩
  | n + 1, k, d, hk, f, fd, A => by
    have ih := prog_ok (fuel := fuel) hG hck hdef hm n
    have ck := List.all_eq_true.mp hck d (List.mem_of_getElem? hk)
    simp only [ckF, Bool.and_eq_true] at ck
    have S := scB_ok ck.1
    refine A.fn.okX S (fun vs H Q E h => ?_) (fun cdv Ar outer s H vs Q E hr h => ?_)
    · obtain ⟨ι, M, ds, _, r, e, _⟩ := h
      rw [← r.length]; exact e
    · obtain ⟨ι, M, ds, R, r, e, h⟩ := h
      have g : GOk C G n ⟨callN (fds.map Fd.fr) con fuel n, con, fuel⟩ := by
        refine ⟨hm.blt, hm.con, fun k' g' np hk' => ?_⟩
        rw [hG, List.getElem?_map] at hk'
        cases q : fds[k']? with
        | none => rw [q] at hk'; cases hk'
        | some d' =>
          rw [q] at hk'
          cases hk'
          obtain ⟨f', fd', A'⟩ := hdef d' (List.mem_of_getElem? q)
          exact ⟨f', fd', d'.ps, rfl, A'.mg, A'.kp, .all A'.ba, ih k' d' q f' fd' A'⟩
      have tk : Takes (cxOf (L2.CX C.P C.w) C.P C.w C.K C.mg C.base d.N d.name (defScope d.st) f cdv Ar outer s H E) (fun cls dd _ H => E cls dd H) := takes_of rfl rfl rfl rfl
      have ok : SOk C d.N n (cxOf (L2.CX C.P C.w) C.P C.w C.K C.mg C.base d.N d.name (defScope d.st) f cdv Ar outer s H E) (defScope d.st).names (fun cls dd _ H => E cls dd H) :=
        ⟨⟨rfl, rfl, rfl, rfl, rfl, rfl, S.nd, S.kind, rfl, rfl, hr, tk⟩, passes_of rfl, fun _ => rfl⟩
      refine ⟨_, soundSs g d.body (defBody d.st) ok ck.2, ι, ds.map some ++ List.replicate (d.N.length - d.ps.length) none, M, start_rep r _ e, R, ?_⟩
      have hf : (fds.map Fd.fr)[k]? = some d.fr := by rw [List.getElem?_map, hk]; rfl
      simp only [callN, hf, runFR, Fd.fr, e, if_true] at h
      cases q : denSs ⟨callN (fds.map Fd.fr) con fuel n, con, fuel⟩ d.body (ds.map some ++ List.replicate (d.N.length - d.ps.length) none) M with
      | nx σ' M' => rw [q] at h; exact fun ι' H' τ' e' r' _ => h ι' H' e' r' _ .non
      | rt v M' => rw [q] at h; exact fun ι' H' v e' r' rv => h ι' H' e' r' v rv
      | exc x σ' M' => rw [q] at h; exact fun ι' H' τ' c dd e' r' _ x' => h ι' H' c dd e' r' x'
      | bk σ' M' => rw [q] at h; exact h.elim
      | ct σ' M' => rw [q] at h; exact h.elim
      | bad => rw [q] at h; exact h.elim
/-- the promise of a law's def -/
def spLaw (K : PySem.W.Frag) : Sp := fun vs H Q _ => ∃ (a : Addr) (ns : List Int), vs = [.ref a] ∧ SqL K H a (ns.map V.int) ∧ ns.length ≤ 63 ∧ Only H ∧ ∀ H', Q (.bl true) H'
/-- the script, as the law's def is given it -/
def IsScr (ns : List Int) (d : D) (M : Sto) : Prop := (M = [.lst (ns.map .int)] ∧ d = .ref 0) ∨ (M = [.fro (ns.map .int)] ∧ d = .ref 0) ∨ (M = [] ∧ d = .kl (ns.map .int))
theorem law_imp {fs : List FR} {con : List D} {fuel n k : Nat} (hlaw : ∀ (ns : List Int) (d : D) (M : Sto), ns.length ≤ 63 → IsScr ns d M → ∃ M', callN fs con fuel n k [d] M = .ok (.bl true) M') :
    ∀ vs H Q E, spLaw C.K vs H Q E → spOf C (callN fs con fuel n k) 1 vs H Q E := by
  rintro vs H Q E ⟨a, ns, rfl, hq, hl, hO, h⟩
  have cut : cutD (ns.map .int) none (some 63) = ns.map .int := by
    unfold cutD
    have e1 : HT.sIx (ns.map D.int).length 0 none = 0 := rfl
    have e2 : HT.sIx (ns.map D.int).length (ns.map D.int).length (some 63) = (ns.map D.int).length := by
      have := HT.sIx_nat (ns.map D.int).length (ns.map D.int).length 63
      rw [show ((63 : Nat) : Int) = 63 from rfl] at this
      rw [this, List.length_map]
      omega
    rw [e1, e2, List.drop_zero, Nat.sub_zero, List.take_length]
  have fin : ∀ ι M d, Rel C ι H M → Rep C ι H d (.ref a) → IsScr ns d M → spOf C (callN fs con fuel n k) 1 [.ref a] H Q E := fun ι M d R r hs => by
    obtain ⟨M', e⟩ := hlaw ns d M hl hs
    refine ⟨ι, M, [d], R, .cons r .nil, rfl, ?_⟩
    rw [e]
    exact fun ι' H' _ _ v rv => by cases rv; exact h H'
  have in1 : ∀ u mo, H a = some u → RepO C [a] H mo u → Rel C [a] H [mo] := fun u mo e ro => ⟨rfl, by simp, fun n b o h1 h2 => by
    cases n with
    | zero => cases h1; cases h2; exact ⟨u, e, ro⟩
    | succ n => simp at h1⟩
  rcases hq with (hq | ⟨o, hq⟩) | hq
  · exact fin [a] [.lst (ns.map .int)] (.ref 0) (in1 _ _ hq (.lst (.of_ints ns))) (.ref rfl) (.inl ⟨rfl, rfl⟩)
  · exact fin [a] [.fro (ns.map .int)] (.ref 0) (in1 _ _ hq (.fro (.of_ints ns))) (.ref rfl) (.inr (.inl ⟨rfl, rfl⟩))
  · exact fin [] [] (.kl (ns.map .int)) ⟨rfl, .nil, fun n b o h1 _ => by simp at h1⟩ (.kl hq (.of_ints ns)) (.inr (.inr ⟨rfl, rfl⟩))
end
/-- the promise of the law's def -/
theorem law_end {P : Program} {w : World} {K : PySem.W.Frag} {mg : Str → Option Value} {fa : Addr} {G : GC} {fds : List Fd} {con : List D} {fuel n k : Nat} {d : Fd} (F : Nat → Option Addr)
    (hG : G.funs = fds.map fun d => (d.name, d.ps.length)) (hck : (fds.all (ckF G)) = true) (hdef : ∀ d ∈ fds, ∃ f fd, DefAt K mg d f fd) (hm : ∀ base, ModOk ⟨P, w, K, mg, base, F⟩ G con)
    (hk : fds[k]? = some d) (hps : d.ps = (["script"] : List Str)) (hfa : mg d.name = some (.ref fa))
    (hlaw : ∀ (ns : List Int) (d : D) (M : Sto), ns.length ≤ 63 → IsScr ns d M → ∃ M', callN (fds.map Fd.fr) con fuel n k [d] M = .ok (.bl true) M') :
    ∃ fd : FuncData, (∀ (s : Shared) (u : Value), BindsTo s fd ⟨[u], []⟩ [(("script" : Str), u)]) ∧ ∀ base : Heap, K.In base → base.Ns mainGlobals mg → FnOk P w K mg base (L2.CX P w) n fa fd (["script"] : List Str) (spLaw K) := by
  obtain ⟨f, fd, A⟩ := hdef d (List.mem_of_getElem? hk)
  have e := hfa.symm.trans A.mg
  cases e
  refine ⟨fd, fun s u => .of_eq ?_, fun base _ _ => ?_⟩
  · have := A.ba [u] (by rw [hps]; rfl)
    rw [hps] at this
    exact this
  · have R := prog_ok (C := ⟨P, w, K, mg, base, F⟩) (fuel := fuel) hG hck hdef (hm base) n k d hk fa fd A
    rw [hps] at R
    exact R.imp (law_imp (C := ⟨P, w, K, mg, base, F⟩) hlaw)
theorem cx_no (P : Program) (w : World) (H : Hp) (s : Shared) (e : Value) (s' : Shared) (h : L2.CX P w [] H s (fun _ _ _ => False) e s') : False := by
  obtain ⟨_, _, _, _, _, _, _, _, _, _, _, _, h⟩ := h
  exact h
/-- a module constant: its name, its value in small -/
structure ConAt (P : Program) (w : World) (K : PySem.W.Frag) (mg : Str → Option Value) (F : Nat → Option Addr) (x : Str) (d : D) : Prop where
  ex : ∃ u v, mg x = some u ∧ L2.RelV v u ∧ ∀ base ι H, Rep ⟨P, w, K, mg, base, F⟩ ι H d v
inductive ConsAt (P : Program) (w : World) (K : PySem.W.Frag) (mg : Str → Option Value) (F : Nat → Option Addr) : List Str → List D → Prop
  | nil : ConsAt P w K mg F [] []
  | cons {x : Str} {d : D} {xs : List Str} {ds : List D} : ConAt P w K mg F x d → ConsAt P w K mg F xs ds → ConsAt P w K mg F (x :: xs) (d :: ds)
section
variable {P : Program} {w : World} {K : PySem.W.Frag} {h : Heap} {mg : Str → Option Value} {F : Nat → Option Addr}
theorem ConsAt.get : ∀ {xs : List Str} {ds : List D}, ConsAt P w K mg F xs ds → ∀ (j : Nat) (x : Str), xs[j]? = some x → ∃ d, ds[j]? = some d ∧ ConAt P w K mg F x d
  | _, _, .nil, j, x, e => by simp at e
  | _, _, .cons a r, 0, x, e => by simp at e; subst e; exact ⟨_, rfl, a⟩
  | _, _, .cons a r, j + 1, x, e => by
    obtain ⟨d, h1, h2⟩ := r.get j x (by simpa using e)
    exact ⟨d, by simpa using h1, h2⟩
theorem mod_ok {G : GC} {con : List D} (hc : ConsAt P w K mg F G.cons con) (hb : ∀ x ∈ G.blts, mg x = none) (base : Heap) : ModOk ⟨P, w, K, mg, base, F⟩ G con :=
  ⟨fun x hx => hb x (List.contains_iff_mem.mp hx), fun j x e => by
    obtain ⟨d, h1, u, v, h2, h3, h4⟩ := hc.get j x e
    exact ⟨d, u, v, h1, h2, h3, h4 base⟩⟩
theorem con_int (X : K.In h) (G : h.Ns mainGlobals mg) {x : Str} {i : Int} {t} (e : PySem.W.nsIn K mainGlobals x = some (some (.int i t))) : ConAt P w K mg F x (.int i) := ⟨_, .int i, PySem.W.mg_of X G e, ⟨t, rfl⟩, fun _ _ _ => .int i⟩
theorem con_str (X : K.In h) (G : h.Ns mainGlobals mg) {x z : Str} {t} (e : PySem.W.nsIn K mainGlobals x = some (some (.str z t))) : ConAt P w K mg F x (.str z) := ⟨_, .str z, PySem.W.mg_of X G e, ⟨t, rfl⟩, fun _ _ _ => .str z⟩
inductive DefsAt (K : PySem.W.Frag) (mg : Str → Option Value) : List Fd → Prop
  | nil : DefsAt K mg []
  | cons {d : Fd} {ds : List Fd} : (∃ f fd, DefAt K mg d f fd) → DefsAt K mg ds → DefsAt K mg (d :: ds)
theorem DefsAt.all : ∀ {ds : List Fd}, DefsAt K mg ds → ∀ d ∈ ds, ∃ f fd, DefAt K mg d f fd
  | _, .nil, d, hd => by simp at hd
  | _, .cons a r, d, hd => by
    rcases List.mem_cons.mp hd with rfl | hd
    · exact a
    · exact r.all d hd
inductive NoneAt (mg : Str → Option Value) : List Str → Prop
  | nil : NoneAt mg []
  | cons {x : Str} {xs : List Str} : mg x = none → NoneAt mg xs → NoneAt mg (x :: xs)
theorem NoneAt.all : ∀ {xs : List Str}, NoneAt mg xs → ∀ x ∈ xs, mg x = none
  | _, .nil, x, hx => by simp at hx
  | _, .cons a r, x, hx => by
    rcases List.mem_cons.mp hx with rfl | hx
    · exact a
    · exact r.all x hx
theorem con_bl (X : K.In h) (G : h.Ns mainGlobals mg) {x : Str} {b : Bool} (e : PySem.W.nsIn K mainGlobals x = some (some (.bool b))) : ConAt P w K mg F x (.bl b) := ⟨_, .bl b, PySem.W.mg_of X G e, rfl, fun _ _ _ => .bl b⟩
theorem con_non (X : K.In h) (G : h.Ns mainGlobals mg) {x : Str} (e : PySem.W.nsIn K mainGlobals x = some (some .none)) : ConAt P w K mg F x .non := ⟨_, .non, PySem.W.mg_of X G e, rfl, fun _ _ _ => .non⟩
mutual
/-- data of the written part -/
inductive KVal (K : PySem.W.Frag) : D → V → Value → Prop
  | non : KVal K .non .non .none
  | bl (b : Bool) : KVal K (.bl b) (.bl b) (.bool b)
  | int (i : Int) (t) : KVal K (.int i) (.int i) (.int i t)
  | str (z : Str) (t) : KVal K (.str z) (.str z) (.str z t)
  | tup {a : Addr} {od : Option Addr} {its : Array Value} {n : Nat} {sl : Array (Option Value)} {ds : List D} {vs : List V} : K.lookup a = some ⟨.type "tuple", od, .seq its n, sl⟩ → its.size ≤ sizeLine → KVals K ds vs its.toList → KVal K (.tup ds) (.ref a) (.ref a)
inductive KVals (K : PySem.W.Frag) : List D → List V → List Value → Prop
  | nil : KVals K [] [] []
  | cons {d : D} {v : V} {u : Value} {ds : List D} {vs : List V} {us : List Value} : KVal K d v u → KVals K ds vs us → KVals K (d :: ds) (v :: vs) (u :: us)
end
mutual
theorem KVal.rel : ∀ {d : D} {v : V} {u : Value}, KVal K d v u → L2.RelV v u
  | _, _, _, .non => rfl
  | _, _, _, .bl b => rfl
  | _, _, _, .int i t => ⟨t, rfl⟩
  | _, _, _, .str z t => ⟨t, rfl⟩
  | _, _, _, .tup _ _ _ => rfl
theorem KVals.rel : ∀ {ds : List D} {vs : List V} {us : List Value}, KVals K ds vs us → Vals vs us
  | _, _, _, .nil => .nil
  | _, _, _, .cons a r => .cons a.rel r.rel
end
mutual
theorem KVal.rep {C : Con} {ι : List Addr} {H : Hp} (hK : C.K = K) : ∀ {d : D} {v : V} {u : Value}, KVal K d v u → Rep C ι H d v
  | _, _, _, .non => .non
  | _, _, _, .bl b => .bl b
  | _, _, _, .int i t => .int i
  | _, _, _, .str z t => .str z
  | _, _, _, .tup l s r => .tup (.inr ⟨_, _, _, by rw [hK]; exact l, rfl, rfl, s, r.rel⟩) (r.rep hK)
theorem KVals.rep {C : Con} {ι : List Addr} {H : Hp} (hK : C.K = K) : ∀ {ds : List D} {vs : List V} {us : List Value}, KVals K ds vs us → Reps C ι H ds vs
  | _, _, _, .nil => .nil
  | _, _, _, .cons a r => .cons (a.rep hK) (r.rep hK)
end
theorem con_kv (X : K.In h) (G : h.Ns mainGlobals mg) {x : Str} {d : D} {v : V} {u : Value} (e : PySem.W.nsIn K mainGlobals x = some (some u)) (kv : KVal K d v u) : ConAt P w K mg F x d := ⟨u, v, PySem.W.mg_of X G e, kv.rel, fun _ _ _ => kv.rep rfl⟩
end
end PyL

/-! PyL: reckoning with the small syntax. -/
namespace PyL
open PySem
/-! ### the equations, one by one: what comes behind is looked at when it is its turn -/
theorem bind_lazy {α β : Type} {o o' : Out α} {k : α → Sto → Out β} (h : o = o') : o.bind k = o'.bind k := by rw [h]
theorem ofOut_lazy {α : Type} {o o' : Out α} {σ : En} {k : α → Sto → SO} (h : o = o') : SO.ofOut o σ k = SO.ofOut o' σ k := by rw [h]
theorem andThen_lazy {o o' : SO} {k : En → Sto → SO} (h : o = o') : o.andThen k = o'.andThen k := by rw [h]
def rng1K (d : D) (M1 : Sto) : Out It := match d with
    | .int j => if small62 j = true then .ok (.snap (rangeL 0 1 j.toNat)) M1 else .bad
    | _ => .bad
def rng2K (x y : D) (M2 : Sto) : Out It := match x, y with
    | .int i, .int j => if small62 i && small62 j then .ok (.snap (rangeL i 1 (j - i).toNat)) M2 else .bad
    | _, _ => .bad
theorem small62_of {i : Int} (h : 0 ≤ i) (h2 : i < 1000000) : small62 i = true := by
  unfold small62
  exact decide_eq_true (by omega)
theorem rng1K_nat {k : Nat} (h : k < 1000000) (M : Sto) : rng1K (.int (k : Int)) M = .ok (.snap (rangeL 0 1 k)) M := by
  unfold rng1K
  simp only [small62_of (i := (k : Int)) (by omega) (by omega), if_true]
  rfl
theorem rng1K_int {j : Int} (h0 : 0 ≤ j) (h : j < 1000000) (M : Sto) : rng1K (.int j) M = .ok (.snap (rangeL 0 1 j.toNat)) M := by
  unfold rng1K
  simp only [small62_of h0 h, if_true]
/-- a comprehension's turn -/
def lcStep (Φ : Fns) (elt : E) (ws : List Nat) (tg : Tg) (c : T) (σ : En) : D → Sto → Out (Option D) := fun x M => match setTg tg x (wipeD σ ws) with
    | none => .bad
    | some σ' => (denT Φ c σ' M).bind fun k M2 => if k = true then (denE Φ elt σ' M2).bind fun d M3 => .ok (some d) M3 else .ok none M2
section
variable {Φ : Fns} {σ : En} {M : Sto}
@[simp] theorem dE_var (i : Nat) : denE Φ (.var i) σ M = match σ[i]? with
    | some (some d) => .ok d M
    | _ => .bad := by first | (rw [denE]; done) | (rw [denE]; rfl)
@[simp] theorem dE_con (d : D) : denE Φ (.con d) σ M = .ok d M := by first | (rw [denE]; done) | (rw [denE]; rfl)
@[simp] theorem dE_glb (j : Nat) : denE Φ (.glb j) σ M = match Φ.con[j]? with
    | some d => .ok d M
    | none => .bad := by first | (rw [denE]; done) | (rw [denE]; rfl)
@[simp] theorem dE_tup (es : Es) : denE Φ (.tup es) σ M = (denEs Φ es σ M).bind fun ds M' => if ds.length ≤ sizeLine then .ok (.tup ds) M' else .bad := by first | (rw [denE]; done) | (rw [denE]; rfl)
@[simp] theorem dE_ofL (l : L) : denE Φ (.ofL l) σ M = (denL Φ l σ M).bind fun ds M' => .ok (.ref M'.length) (M' ++ [.lst ds]) := by first | (rw [denE]; done) | (rw [denE]; rfl)
@[simp] theorem dE_dic (t : Bool) : denE Φ (.dic t .nil .nil) σ M = .ok (.ref M.length) (M ++ [.dct t []]) := by first | (rw [denE]; done) | (rw [denE]; rfl)
@[simp] theorem dE_op1 (p : P1) (a : E) : denE Φ (.op1 p a) σ M = (denE Φ a σ M).bind fun d M' => p.den d M' := by first | (rw [denE]; done) | (rw [denE]; rfl)
@[simp] theorem dE_op2 (p : P2) (a b : E) : denE Φ (.op2 p a b) σ M = (denE Φ a σ M).bind fun x M1 => (denE Φ b σ M1).bind fun y M2 => p.den x y M2 := by first | (rw [denE]; done) | (rw [denE]; rfl)
@[simp] theorem dE_chn (p q : P2) (a b c : E) : denE Φ (.chn p q a b c) σ M = (denE Φ a σ M).bind fun x M1 => (denE Φ b σ M1).bind fun y M2 => (p.den x y M2).bind fun r M3 =>
    match r with
    | .bl true => (denE Φ c σ M3).bind fun z M4 => q.den y z M4
    | .bl false => .ok (.bl false) M3
    | _ => .bad := by first | (rw [denE]; done) | (rw [denE]; rfl)
@[simp] theorem dE_not (a : E) : denE Φ (.not a) σ M = ((denE Φ a σ M).bind fun d M1 => match truth M1 d with
    | some b => .ok b M1
    | none => .bad).bind fun k M' => .ok (.bl (!k)) M' := by first | (rw [denE]; done) | (rw [denE]; rfl)
@[simp] theorem dE_and (a b : E) : denE Φ (.and a b) σ M = (denE Φ a σ M).bind fun x M' => match truth M' x with
    | some true => denE Φ b σ M'
    | some false => .ok x M'
    | none => .bad := by first | (rw [denE]; done) | (rw [denE]; rfl)
@[simp] theorem dE_or (a b : E) : denE Φ (.or a b) σ M = (denE Φ a σ M).bind fun x M' => match truth M' x with
    | some true => .ok x M'
    | some false => denE Φ b σ M'
    | none => .bad := by first | (rw [denE]; done) | (rw [denE]; rfl)
@[simp] theorem dE_ite (c : T) (a b : E) : denE Φ (.ite c a b) σ M = (denT Φ c σ M).bind fun k M' => if k = true then denE Φ a σ M' else denE Φ b σ M' := by first | (rw [denE]; done) | (rw [denE]; rfl)
@[simp] theorem dE_ix (a b : E) : denE Φ (.ix a b) σ M = (denE Φ a σ M).bind fun x M1 => (denE Φ b σ M1).bind fun y M2 => ixD M2 x y := by first | (rw [denE]; done) | (rw [denE]; rfl)
@[simp] theorem dE_sl (a : E) (lo hi : O) : denE Φ (.sl a lo hi) σ M = (denE Φ a σ M).bind fun x M1 => (denO Φ lo σ M1).bind fun l M2 => (denO Φ hi σ M2).bind fun h M3 => slD M3 x l h := by first | (rw [denE]; done) | (rw [denE]; rfl)
@[simp] theorem dE_rev (a : E) : denE Φ (.rev a) σ M = (denE Φ a σ M).bind fun x M1 => revD M1 x := by first | (rw [denE]; done) | (rw [denE]; rfl)
@[simp] theorem dE_isin (a : E) (ts : List Ty) : denE Φ (.isin a ts) σ M = (denE Φ a σ M).bind fun x M1 => dIsin x ts M1 := by first | (rw [denE]; done) | (rw [denE]; rfl)
@[simp] theorem dE_call (k : Nat) (es : Es) : denE Φ (.call k es) σ M = (denEs Φ es σ M).bind fun ds M' => Φ.call k ds M' := by first | (rw [denE]; done) | (rw [denE]; rfl)
@[simp] theorem dE_bi (b : Bi) (es : Es) : denE Φ (.bi b es) σ M = (denEs Φ es σ M).bind fun ds M' => b.den ds M' := by first | (rw [denE]; done) | (rw [denE]; rfl)
@[simp] theorem dE_bl (b : BL) (l : L) : denE Φ (.bl b l) σ M = (denL Φ l σ M).bind fun ds M' => b.den ds M' := by first | (rw [denE]; done) | (rw [denE]; rfl)
@[simp] theorem dE_me (m : Me) (o : E) (es : Es) : denE Φ (.me m o es) σ M = (denE Φ o σ M).bind fun x M1 => if m.ok M1 x = true then (denEs Φ es σ M1).bind fun ds M' => m.den x ds M' else .bad := by first | (rw [denE]; done) | (rw [denE]; rfl)
@[simp] theorem dE_ml (m : ML) (o : E) (l : L) : denE Φ (.ml m o l) σ M = (denE Φ o σ M).bind fun x M1 => if m.ok M1 x = true then (denL Φ l σ M1).bind fun ds M' => m.den x ds M' else .bad := by first | (rw [denE]; done) | (rw [denE]; rfl)
@[simp] theorem dEs_nil : denEs Φ .nil σ M = .ok [] M := by first | (rw [denEs]; done) | (rw [denEs]; rfl)
@[simp] theorem dEs_cons (e : E) (es : Es) : denEs Φ (.cons e es) σ M = (denE Φ e σ M).bind fun d M1 => (denEs Φ es σ M1).bind fun ds M2 => .ok (d :: ds) M2 := by first | (rw [denEs]; done) | (rw [denEs]; rfl)
@[simp] theorem dO_none : denO Φ .none σ M = .ok none M := by first | (rw [denO]; done) | (rw [denO]; rfl)
@[simp] theorem dO_some (e : E) : denO Φ (.some e) σ M = (denE Φ e σ M).bind fun d M1 => match d with
    | .int i => .ok (some i) M1
    | _ => .bad := by first | (rw [denO]; done) | (rw [denO]; rfl)
@[simp] theorem dT_tru (e : E) : denT Φ (.tru e) σ M = (denE Φ e σ M).bind fun d M1 => match truth M1 d with
    | some b => .ok b M1
    | none => .bad := by first | (rw [denT]; done) | (rw [denT]; rfl)
@[simp] theorem dT_and (a b : T) : denT Φ (.and a b) σ M = (denT Φ a σ M).bind fun k M1 => if k = true then denT Φ b σ M1 else .ok false M1 := by first | (rw [denT]; done) | (rw [denT]; rfl)
@[simp] theorem dT_or (a b : T) : denT Φ (.or a b) σ M = (denT Φ a σ M).bind fun k M1 => if k = true then .ok true M1 else denT Φ b σ M1 := by first | (rw [denT]; done) | (rw [denT]; rfl)
@[simp] theorem dT_not (a : T) : denT Φ (.not a) σ M = (denT Φ a σ M).bind fun k M1 => .ok (!k) M1 := by first | (rw [denT]; done) | (rw [denT]; rfl)
@[simp] theorem dT_yes : denT Φ .yes σ M = .ok true M := by first | (rw [denT]; done) | (rw [denT]; rfl)
@[simp] theorem dL_val (e : E) : denL Φ (.val e) σ M = (denE Φ e σ M).bind fun d M1 => match items M1 d with
    | some xs => .ok xs M1
    | none => .bad := by first | (rw [denL]; done) | (rw [denL]; rfl)
@[simp] theorem dL_vlst (e : E) : denL Φ (.vlst e) σ M = (denE Φ e σ M).bind fun d M1 => match d with
    | .ref k => (match lstAt M1 k with
      | some xs => .ok xs M1
      | none => .bad)
    | _ => .bad := by first | (rw [denL]; done) | (rw [denL]; rfl)
@[simp] theorem dL_lst (es : Es) : denL Φ (.lst es) σ M = (denEs Φ es σ M).bind fun ds M' => if ds.length ≤ sizeLine then .ok ds M' else .bad := by first | (rw [denL]; done) | (rw [denL]; rfl)
@[simp] theorem dL_lc (elt : E) (ws : List Nat) (tg : Tg) (it : I) (c : T) : denL Φ (.lc elt ws tg it c) σ M = (denI Φ it σ M).bind fun J M1 => lcGo J (lcStep Φ elt ws tg c σ) Φ.fuel 0 [] M1 := by first | (rw [denL]; done) | (rw [denL]; rfl)
@[simp] theorem dI_val (e : E) : denI Φ (.val e) σ M = (denE Φ e σ M).bind fun d M1 => match itOf M1 d with
    | some J => .ok J M1
    | none => .bad := by first | (rw [denI]; done) | (rw [denI]; rfl)
@[simp] theorem dI_rng1 (e : E) : denI Φ (.rng1 e) σ M = (denE Φ e σ M).bind rng1K := by first | (rw [denI]; done) | (rw [denI]; rfl)
@[simp] theorem dI_rng2 (a b : E) : denI Φ (.rng2 a b) σ M = (denE Φ a σ M).bind fun x M1 => (denE Φ b σ M1).bind fun y M2 => rng2K x y M2 := by first | (rw [denI]; done) | (rw [denI]; rfl)
@[simp] theorem dI_lis (l : L) : denI Φ (.lis l) σ M = (denL Φ l σ M).bind fun ds M1 => .ok (.snap ds) M1 := by first | (rw [denI]; done) | (rw [denI]; rfl)
@[simp] theorem dS_nop : denS Φ .nop σ M = .nx σ M := by first | (rw [denS]; done) | (rw [denS]; rfl)
@[simp] theorem dS_ex (e : E) : denS Φ (.ex e) σ M = .ofOut (denE Φ e σ M) σ fun _ M' => .nx σ M' := by first | (rw [denS]; done) | (rw [denS]; rfl)
@[simp] theorem dS_as (t : Tg) (e : E) : denS Φ (.as t e) σ M = .ofOut (denE Φ e σ M) σ fun d M' => match setTg t d σ with
    | some σ' => .nx σ' M'
    | none => .bad := by first | (rw [denS]; done) | (rw [denS]; rfl)
@[simp] theorem dS_par (is : List Nat) (es : Es) : denS Φ (.par is es) σ M = .ofOut (denEs Φ es σ M) σ fun ds M' => match setMany is ds σ with
    | some σ' => .nx σ' M'
    | none => .bad := by first | (rw [denS]; done) | (rw [denS]; rfl)
@[simp] theorem dS_asub (a i e : E) : denS Φ (.asub a i e) σ M = .ofOut (denE Φ e σ M) σ fun v M1 => .ofOut (denE Φ a σ M1) σ fun x M2 => .ofOut (denE Φ i σ M2) σ fun j M3 => match setIx M3 x j v with
    | some M4 => .nx σ M4
    | none => .bad := by first | (rw [denS]; done) | (rw [denS]; rfl)
@[simp] theorem dS_aug (p : P2) (i : Nat) (e : E) : denS Φ (.aug p i e) σ M = (match σ[i]? with
    | some (some x) => .ofOut (denE Φ e σ M) σ fun y M1 => .ofOut (p.iden x y M1) σ fun z M2 => .nx (σ.set i (some z)) M2
    | _ => .bad) := by first | (rw [denS]; done) | (rw [denS]; rfl)
@[simp] theorem dS_rt (e : E) : denS Φ (.rt e) σ M = .ofOut (denE Φ e σ M) σ fun d M' => .rt d M' := by first | (rw [denS]; done) | (rw [denS]; rfl)
@[simp] theorem dS_rtN : denS Φ .rtN σ M = .rt .non M := by first | (rw [denS]; done) | (rw [denS]; rfl)
@[simp] theorem dS_ite (c : T) (a b : Ss) : denS Φ (.ite c a b) σ M = .ofOut (denT Φ c σ M) σ fun k M' => if k = true then denSs Φ a σ M' else denSs Φ b σ M' := by first | (rw [denS]; done) | (rw [denS]; rfl)
@[simp] theorem dS_wh (c : T) (b : Ss) : denS Φ (.wh c b) σ M = whileGo (denT Φ c) (denSs Φ b) Φ.fuel σ M := by first | (rw [denS]; done) | (rw [denS]; rfl)
@[simp] theorem dS_fo (t : Tg) (it : I) (b : Ss) : denS Φ (.fo t it b) σ M = .ofOut (denI Φ it σ M) σ fun J M' => forGo J t (denSs Φ b) Φ.fuel 0 σ M' := by first | (rw [denS]; done) | (rw [denS]; rfl)
@[simp] theorem dS_br : denS Φ .br σ M = .bk σ M := by first | (rw [denS]; done) | (rw [denS]; rfl)
@[simp] theorem dS_co : denS Φ .co σ M = .ct σ M := by first | (rw [denS]; done) | (rw [denS]; rfl)
@[simp] theorem dSs_nil : denSs Φ .nil σ M = .nx σ M := by first | (rw [denSs]; done) | (rw [denSs]; rfl)
@[simp] theorem dSs_cons (s : S) (ss : Ss) : denSs Φ (.cons s ss) σ M = (denS Φ s σ M).andThen fun σ' M' => denSs Φ ss σ' M' := by first | (rw [denSs]; done) | (rw [denSs]; rfl)
end
/-! ### the primitives at heads -/
section
variable {M : Sto}
@[simp] theorem isin_non_int : dIsin .non [.int] M = .ok (.bl false) M := rfl
@[simp] theorem isin_bl_int (b : Bool) : dIsin (.bl b) [.int] M = .ok (.bl true) M := rfl
@[simp] theorem isin_in_int (i : Int) : dIsin (.int i) [.int] M = .ok (.bl true) M := rfl
@[simp] theorem isin_st_int (z : Str) : dIsin (.str z) [.int] M = .ok (.bl false) M := rfl
@[simp] theorem isin_tu_int (xs : List D) : dIsin (.tup xs) [.int] M = .ok (.bl false) M := rfl
@[simp] theorem isin_non_str : dIsin .non [.str] M = .ok (.bl false) M := rfl
@[simp] theorem isin_bl_str (b : Bool) : dIsin (.bl b) [.str] M = .ok (.bl false) M := rfl
@[simp] theorem isin_in_str (i : Int) : dIsin (.int i) [.str] M = .ok (.bl false) M := rfl
@[simp] theorem isin_st_str (z : Str) : dIsin (.str z) [.str] M = .ok (.bl true) M := rfl
@[simp] theorem isin_tu_str (xs : List D) : dIsin (.tup xs) [.str] M = .ok (.bl false) M := rfl
@[simp] theorem isin_non_bool : dIsin .non [.bool] M = .ok (.bl false) M := rfl
@[simp] theorem isin_bl_bool (b : Bool) : dIsin (.bl b) [.bool] M = .ok (.bl true) M := rfl
@[simp] theorem isin_in_bool (i : Int) : dIsin (.int i) [.bool] M = .ok (.bl false) M := rfl
@[simp] theorem isin_st_bool (z : Str) : dIsin (.str z) [.bool] M = .ok (.bl false) M := rfl
@[simp] theorem isin_tu_bool (xs : List D) : dIsin (.tup xs) [.bool] M = .ok (.bl false) M := rfl
@[simp] theorem isin_non_tuple : dIsin .non [.tuple] M = .ok (.bl false) M := rfl
@[simp] theorem isin_bl_tuple (b : Bool) : dIsin (.bl b) [.tuple] M = .ok (.bl false) M := rfl
@[simp] theorem isin_in_tuple (i : Int) : dIsin (.int i) [.tuple] M = .ok (.bl false) M := rfl
@[simp] theorem isin_st_tuple (z : Str) : dIsin (.str z) [.tuple] M = .ok (.bl false) M := rfl
@[simp] theorem isin_tu_tuple (xs : List D) : dIsin (.tup xs) [.tuple] M = .ok (.bl true) M := rfl
@[simp] theorem isin_non_list : dIsin .non [.list] M = .ok (.bl false) M := rfl
@[simp] theorem isin_bl_list (b : Bool) : dIsin (.bl b) [.list] M = .ok (.bl false) M := rfl
@[simp] theorem isin_in_list (i : Int) : dIsin (.int i) [.list] M = .ok (.bl false) M := rfl
@[simp] theorem isin_st_list (z : Str) : dIsin (.str z) [.list] M = .ok (.bl false) M := rfl
@[simp] theorem isin_tu_list (xs : List D) : dIsin (.tup xs) [.list] M = .ok (.bl false) M := rfl
@[simp] theorem isin_non_dict : dIsin .non [.dict] M = .ok (.bl false) M := rfl
@[simp] theorem isin_bl_dict (b : Bool) : dIsin (.bl b) [.dict] M = .ok (.bl false) M := rfl
@[simp] theorem isin_in_dict (i : Int) : dIsin (.int i) [.dict] M = .ok (.bl false) M := rfl
@[simp] theorem isin_st_dict (z : Str) : dIsin (.str z) [.dict] M = .ok (.bl false) M := rfl
@[simp] theorem isin_tu_dict (xs : List D) : dIsin (.tup xs) [.dict] M = .ok (.bl false) M := rfl
@[simp] theorem truth_non : truth M .non = some false := rfl
@[simp] theorem truth_bl (b : Bool) : truth M (.bl b) = some b := rfl
@[simp] theorem truth_int (i : Int) : truth M (.int i) = some (i != 0) := rfl
@[simp] theorem truth_tup (xs : List D) : truth M (.tup xs) = some (!xs.isEmpty) := rfl
@[simp] theorem truth_ref (k : Nat) : truth M (.ref k) = (listAt M k).map fun xs => !xs.isEmpty := rfl
@[simp] theorem setTg_name (i : Nat) (d : D) (σ : En) : setTg (.name i) d σ = some (σ.set i (some d)) := rfl
@[simp] theorem setTg_tup (is : List Nat) (ds : List D) (σ : En) : setTg (.tup is) (.tup ds) σ = setMany is ds σ := rfl
@[simp] theorem setMany_nil (σ : En) : setMany [] [] σ = some σ := rfl
@[simp] theorem setMany_cons (i : Nat) (is : List Nat) (d : D) (ds : List D) (σ : En) : setMany (i :: is) (d :: ds) σ = setMany is ds (σ.set i (some d)) := rfl
@[simp] theorem wipeD_nil (σ : En) : wipeD σ [] = σ := rfl
@[simp] theorem wipeD_cons (σ : En) (i : Nat) (is : List Nat) : wipeD σ (i :: is) = (wipeD σ is).set i none := rfl
@[simp] theorem den_neg (i : Int) : P1.den .neg (.int i) M = .ok (.int (-i)) M := rfl
@[simp] theorem den_add_int (i j : Int) : P2.den .add (.int i) (.int j) M = .ok (.int (i + j)) M := rfl
@[simp] theorem den_sub_int (i j : Int) : P2.den .sub (.int i) (.int j) M = .ok (.int (i - j)) M := rfl
@[simp] theorem den_lt_int (i j : Int) : P2.den .lt (.int i) (.int j) M = .ok (.bl (decide (i < j))) M := rfl
@[simp] theorem den_le_int (i j : Int) : P2.den .le (.int i) (.int j) M = .ok (.bl (decide (i ≤ j))) M := rfl
@[simp] theorem den_gt_int (i j : Int) : P2.den .gt (.int i) (.int j) M = .ok (.bl (decide (j < i))) M := rfl
@[simp] theorem den_ge_int (i j : Int) : P2.den .ge (.int i) (.int j) M = .ok (.bl (decide (j ≤ i))) M := rfl
@[simp] theorem iden_add_int (i j : Int) : P2.iden .add (.int i) (.int j) M = .ok (.int (i + j)) M := rfl
@[simp] theorem iden_sub_int (i j : Int) : P2.iden .sub (.int i) (.int j) M = .ok (.int (i - j)) M := rfl
theorem ord_int (i j : Int) : ordOk M (.int i) (.int j) = true := rfl
theorem strOk_shaped {x : Str} (h : PyData.strOk x = true) : SeqAt.shaped (.str x) = true := by
  unfold SeqAt.shaped
  rw [show PyData.canLay0 (.str x) = true by rw [PyData.canLay0]; exact h]
  rfl
theorem ord_str {x y : Str} (hx : PyData.strOk x = true) (hy : PyData.strOk y = true) : ordOk M (.str x) (.str y) = true := by
  show (SeqAt.shaped (.str x) && SeqAt.shaped (.str y)) = true
  rw [strOk_shaped hx, strOk_shaped hy]
  rfl
theorem beqI (x y : Int) : (x == y) = decide (x = y) := by
  by_cases h : x = y
  · subst h; simp
  · simp [h]
theorem beqD (x y : Str) : (x == y) = decide (x = y) := by
  by_cases h : x = y
  · subst h; simp
  · simp [h]
@[simp] theorem den_eq_int (i j : Int) : P2.den .eq (.int i) (.int j) M = .ok (.bl (decide (i = j))) M := by
  show dEq _ _ _ = _
  unfold dEq
  rw [if_pos (ord_int i j)]
  show Out.ok (D.bl (PyData.eqv (.int i) (.int j))) M = _
  rw [show PyData.eqv (.int i) (.int j) = (i == j) by rw [PyData.eqv], beqI]
@[simp] theorem den_ne_int (i j : Int) : P2.den .ne (.int i) (.int j) M = .ok (.bl (!decide (i = j))) M := by
  show dNe _ _ _ = _
  unfold dNe
  rw [if_pos (ord_int i j)]
  show Out.ok (D.bl (!PyData.eqv (.int i) (.int j))) M = _
  rw [show PyData.eqv (.int i) (.int j) = (i == j) by rw [PyData.eqv], beqI]
theorem den_eq_str {x y : Str} (hx : PyData.strOk x = true) (hy : PyData.strOk y = true) : P2.den .eq (.str x) (.str y) M = .ok (.bl (decide (x = y))) M := by
  show dEq _ _ _ = _
  unfold dEq
  rw [if_pos (ord_str hx hy)]
  show Out.ok (D.bl (PyData.eqv (.str x) (.str y))) M = _
  rw [show PyData.eqv (.str x) (.str y) = (x == y) by rw [PyData.eqv], beqD]
theorem den_ne_str {x y : Str} (hx : PyData.strOk x = true) (hy : PyData.strOk y = true) : P2.den .ne (.str x) (.str y) M = .ok (.bl (!decide (x = y))) M := by
  show dNe _ _ _ = _
  unfold dNe
  rw [if_pos (ord_str hx hy)]
  show Out.ok (D.bl (!PyData.eqv (.str x) (.str y))) M = _
  rw [show PyData.eqv (.str x) (.str y) = (x == y) by rw [PyData.eqv], beqD]
theorem den_add_str {x y : Str} (h : x.length + y.length ≤ sizeLine) : P2.den .add (.str x) (.str y) M = .ok (.str (x ++ y)) M := by
  show (if x.length + y.length ≤ sizeLine then Out.ok (D.str (x ++ y)) M else .bad) = _
  rw [if_pos h]
theorem den_add_tup {x y : List D} (h : x.length + y.length ≤ sizeLine) : P2.den .add (.tup x) (.tup y) M = .ok (.tup (x ++ y)) M := by
  show (if x.length + y.length ≤ sizeLine then Out.ok (D.tup (x ++ y)) M else .bad) = _
  rw [if_pos h]
theorem den_add_ref {a b : Nat} {x y : List D} (ha : M[a]? = some (.lst x)) (hb : M[b]? = some (.lst y)) (h : x.length + y.length ≤ sizeLine) : P2.den .add (.ref a) (.ref b) M = .ok (.ref M.length) (M ++ [.lst (x ++ y)]) := by
  show dAdd (.ref a) (.ref b) M = _
  simp only [dAdd, lstAt, ha, hb, if_pos h]
theorem den_mul_tup {x : List D} {j : Int} (h0 : -(2 ^ 60) < j) (h1 : j ≤ 1000) (h2 : x.length ≤ 1000) : P2.den .mul (.tup x) (.int j) M = .ok (.tup (List.replicate j.toNat x).flatten) M := by
  show (if -(2 ^ 60) < j ∧ j ≤ 1000 ∧ x.length ≤ 1000 then Out.ok (D.tup (List.replicate j.toNat x).flatten) M else .bad) = _
  rw [if_pos ⟨h0, h1, h2⟩]
theorem join_ok {s : Str} {ts : List Str} (h : (ts.map (·.length)).sum + ts.length * s.length ≤ 16777216) : ML.den .join (.str s) (ts.map D.str) M = .ok (.str (Txt.join s ts)) M := by
  show lJoin (.str s) (ts.map D.str) M = _
  have e : allStr (ts.map D.str) = some ts := by
    clear h
    induction ts with
    | nil => rfl
    | cons t ts ih =>
      show (allStr (ts.map D.str)).map (t :: ·) = _
      rw [ih]; rfl
  simp only [lJoin, e, if_pos h]
theorem den_mod_int {i j : Int} (h : j ≠ 0) : P2.den .mod (.int i) (.int j) M = .ok (.int (i.fmod j)) M := by
  show (if j ≠ 0 then Out.ok (D.int (i.fmod j)) M else .bad) = _
  rw [if_pos h]
theorem den_div_int {i j : Int} (h : j ≠ 0) (h2 : j.natAbs < 1073741824) : P2.den .fdiv (.int i) (.int j) M = .ok (.int (i.fdiv j)) M := by
  show (if j ≠ 0 ∧ j.natAbs < 1073741824 then Out.ok (D.int (i.fdiv j)) M else .bad) = _
  rw [if_pos ⟨h, h2⟩]
theorem den_mul_l {i j : Int} (h : i.natAbs < 2 ^ 64) : P2.den .mul (.int i) (.int j) M = .ok (.int (i * j)) M := by
  show (if i.natAbs < 2 ^ 64 ∨ j.natAbs < 2 ^ 64 then Out.ok (D.int (i * j)) M else .bad) = _
  rw [if_pos (.inl h)]
theorem den_mul_r {i j : Int} (h : j.natAbs < 2 ^ 64) : P2.den .mul (.int i) (.int j) M = .ok (.int (i * j)) M := by
  show (if i.natAbs < 2 ^ 64 ∨ j.natAbs < 2 ^ 64 then Out.ok (D.int (i * j)) M else .bad) = _
  rw [if_pos (.inr h)]
theorem den_pow_int {i j : Int} (h : 0 ≤ j) (h1 : j ≤ 1000000) (h2 : i.natAbs < 2 ^ 64) : P2.den .pow (.int i) (.int j) M = .ok (.int (i ^ j.toNat)) M := by
  show (if 0 ≤ j ∧ j ≤ 1000000 ∧ i.natAbs < 2 ^ 64 then Out.ok (D.int (i ^ j.toNat)) M else .bad) = _
  rw [if_pos ⟨h, h1, h2⟩]
@[simp] theorem den_int (i : Int) : Bi.den .int [.int i] M = .ok (.int i) M := rfl
@[simp] theorem bl_tuple (xs : List D) : BL.den .tuple xs M = .ok (.tup xs) M := rfl
@[simp] theorem bl_list (xs : List D) : BL.den .list xs M = .ok (.ref M.length) (M ++ [.lst xs]) := rfl
@[simp] theorem bl_len (xs : List D) : BL.den .len xs M = .ok (.int xs.length) M := rfl
@[simp] theorem items_tup (xs : List D) : items M (.tup xs) = some xs := rfl
@[simp] theorem items_ref (k : Nat) : items M (.ref k) = listAt M k := rfl
@[simp] theorem den_is_non_non : P2.den .is .non .non M = .ok (.bl true) M := rfl
@[simp] theorem den_isnot_non_non : P2.den .isnot .non .non M = .ok (.bl false) M := rfl
@[simp] theorem den_is_ref_non (n : Nat) : P2.den .is (.ref n) .non M = .ok (.bl false) M := rfl
@[simp] theorem den_isnot_ref_non (n : Nat) : P2.den .isnot (.ref n) .non M = .ok (.bl true) M := rfl
@[simp] theorem den_is_tup_non (n : List D) : P2.den .is (.tup n) .non M = .ok (.bl false) M := rfl
@[simp] theorem den_isnot_tup_non (n : List D) : P2.den .isnot (.tup n) .non M = .ok (.bl true) M := rfl
@[simp] theorem den_is_int_non (n : Int) : P2.den .is (.int n) .non M = .ok (.bl false) M := rfl
@[simp] theorem den_isnot_int_non (n : Int) : P2.den .isnot (.int n) .non M = .ok (.bl true) M := rfl
@[simp] theorem den_is_str_non (n : Str) : P2.den .is (.str n) .non M = .ok (.bl false) M := rfl
@[simp] theorem den_isnot_str_non (n : Str) : P2.den .isnot (.str n) .non M = .ok (.bl true) M := rfl
@[simp] theorem den_is_bl (a b : Bool) : P2.den .is (.bl a) (.bl b) M = .ok (.bl (a == b)) M := by cases a <;> cases b <;> rfl
@[simp] theorem den_isnot_bl (a b : Bool) : P2.den .isnot (.bl a) (.bl b) M = .ok (.bl (!(a == b))) M := by cases a <;> cases b <;> rfl
theorem den_isin_strs (z : Str) (zs : List Str) : P2.den .isin (.str z) (.tup (zs.map D.str)) M = .ok (.bl (zs.any (· == z))) M := by
  show dIn false _ _ _ = _
  have h1 : (zs.map D.str).all isFlat = true := by simp [isFlat]
  have h2 : ((zs.map D.str).any fun x => PyData.eqv x.data (D.data (.str z))) = zs.any (· == z) := by
    rw [List.any_map]
    congr 1
  have h3 : inD M (.str z) (.tup (zs.map D.str)) = some (zs.any (· == z)) := by
    show (match items M (.tup (zs.map D.str)) with | some xs => if (isFlat (.str z) && xs.all isFlat) = true then some (xs.any fun x => PyData.eqv x.data (D.data (.str z))) else none | none => none) = _
    show (if (isFlat (.str z) && (zs.map D.str).all isFlat) = true then some ((zs.map D.str).any fun x => PyData.eqv x.data (D.data (.str z))) else none) = _
    rw [h1, h2]
    rfl
  unfold dIn
  rw [h3]
  simp
theorem den_isin_sub (x y : Str) : P2.den .isin (.str x) (.str y) M = .ok (.bl (!(Builtin.Str.occurrences y x 0 y.length 1).isEmpty)) M := by
  show dIn false (.str x) (.str y) M = _
  unfold dIn
  rw [show inD M (.str x) (.str y) = some (!(Builtin.Str.occurrences y x 0 y.length 1).isEmpty) from rfl]
  simp
theorem itOf_str (z : Str) : itOf M (.str z) = some (.snap (z.cps.toList.map fun c => .str ⟨#[c]⟩)) := rfl
@[simp] theorem itOf_tup (xs : List D) : itOf M (.tup xs) = some (.snap xs) := rfl
theorem len_str {z : Str} (h : z.length ≤ sizeLine) : Bi.den .len [.str z] M = .ok (.int z.length) M := by
  show (match lenD M (.str z) with | some n => Out.ok (D.int n) M | none => .bad) = _
  rw [show lenD M (.str z) = (if z.length ≤ sizeLine then some z.length else none) from rfl, if_pos h]
@[simp] theorem len_tup (xs : List D) : Bi.den .len [.tup xs] M = .ok (.int xs.length) M := rfl
theorem len_ref {k : Nat} {xs : List D} (h : M[k]? = some (.lst xs)) : Bi.den .len [.ref k] M = .ok (.int xs.length) M := by
  show (match lenD M (.ref k) with | some n => Out.ok (D.int n) M | none => .bad) = _
  rw [show lenD M (.ref k) = (match M[k]? with
    | some (.lst xs) => some xs.length
    | some (.fro xs) => some xs.length
    | some (.dct _ kvs) => some kvs.length
    | _ => none) from rfl, h]
theorem allBl_map : ∀ bs : List Bool, allBl (bs.map D.bl) = some bs
  | [] => rfl
  | b :: bs => by
    show (allBl (bs.map D.bl)).map (b :: ·) = _
    rw [allBl_map bs]; rfl
theorem den_all (bs : List Bool) : BL.den .all (bs.map D.bl) M = .ok (.bl (bs.all id)) M := by
  show (match allBl (bs.map D.bl) with | some bs => Out.ok (D.bl (bs.all id)) M | none => .bad) = _
  rw [allBl_map]
theorem den_all_map {α : Type} (f : α → Bool) (xs : List α) : BL.den .all (xs.map (D.bl ∘ f)) M = .ok (.bl (xs.all f)) M := by
  rw [← List.map_map, den_all, List.all_map]
  rfl
end
/-! ### the store -/
/-- a list, a dict: a value that one looks at and never into -/
def opq (M : Sto) : D → Bool
  | .ref n => (match M[n]? with
    | some (.lst _) => true
    | some (.fro _) => true
    | some (.dct _ _) => true
    | _ => false)
  | _ => false
def MO.plain : MO → Bool
  | .ins _ _ => false
  | _ => true
theorem opq_iff {M : Sto} {n : Nat} : opq M (.ref n) = true ↔ ∃ o, M[n]? = some o ∧ o.plain = true := by
  show (match M[n]? with
    | some (.lst _) => true
    | some (.fro _) => true
    | some (.dct _ _) => true
    | _ => false) = true ↔ _
  cases q : M[n]? with
  | none => simp
  | some o => cases o <;> simp [MO.plain]
/-- what stood still stands, but for what may be written -/
structure Fr (wr : Nat → Prop) (M M' : Sto) : Prop where
  len : M.length ≤ M'.length
  keep : ∀ i, i < M.length → ¬ wr i → M'[i]? = M[i]?
  kd : ∀ (i : Nat) (o : MO), M[i]? = some o → o.plain = true → ∃ o' : MO, M'[i]? = some o' ∧ o'.plain = true
theorem Fr.opq {wr : Nat → Prop} {M M' : Sto} (f : Fr wr M M') {d : D} (h : opq M d = true) : opq M' d = true := by
  cases d with
  | ref n =>
    obtain ⟨o, h1, h2⟩ := opq_iff.mp h
    exact opq_iff.mpr (f.kd n o h1 h2)
  | _ => cases h
theorem Fr.refl {wr : Nat → Prop} {M : Sto} : Fr wr M M := ⟨Nat.le_refl _, fun _ _ _ => rfl, fun i o h p => ⟨o, h, p⟩⟩
theorem Fr.trans {wr : Nat → Prop} {M M1 M2 : Sto} (a : Fr wr M M1) (b : Fr wr M1 M2) : Fr wr M M2 :=
  ⟨Nat.le_trans a.1 b.1, fun i hi hm => by rw [b.2 i (Nat.lt_of_lt_of_le hi a.1) hm, a.2 i hi hm], fun i o h p => by
    obtain ⟨o', h', p'⟩ := a.kd i o h p
    exact b.kd i o' h' p'⟩
theorem Fr.mono {wr wr2 : Nat → Prop} {M M1 : Sto} (a : Fr wr M M1) (h : ∀ i, i < M.length → wr i → wr2 i) : Fr wr2 M M1 :=
  ⟨a.1, fun i hi hm => a.2 i hi fun hh => hm (h i hi hh), a.kd⟩
theorem Fr.push {wr : Nat → Prop} {M : Sto} (o : MO) : Fr wr M (M ++ [o]) := ⟨by simp, fun i hi _ => List.getElem?_append_left hi, fun i o' h p => ⟨o', by rw [List.getElem?_append_left (List.getElem?_eq_some_iff.mp h).1]; exact h, p⟩⟩
theorem Fr.set {wr : Nat → Prop} {M : Sto} {k : Nat} {o : MO} (h : k < M.length → wr k) (hp : o.plain = true) : Fr wr M (M.set k o) :=
  ⟨by simp, fun i hi hm => List.getElem?_set_ne fun e => hm (by subst e; exact h hi), fun i o' e p => by
    by_cases q : k = i
    · subst q
      exact ⟨o, by rw [List.getElem?_set_self (List.getElem?_eq_some_iff.mp e).1], hp⟩
    · exact ⟨o', by rw [List.getElem?_set_ne q]; exact e, p⟩⟩
theorem Fr.get {wr : Nat → Prop} {M M' : Sto} (a : Fr wr M M') {i : Nat} {o : MO} (h : M[i]? = some o) (hm : ¬ wr i) : M'[i]? = some o := by
  rw [a.2 i (List.getElem?_eq_some_iff.mp h).1 hm]; exact h
abbrev Non : Nat → Prop := fun _ => False
theorem push_get (M : Sto) (o : MO) : (M ++ [o])[M.length]? = some o := by simp
theorem lstAt_is {M : Sto} {k : Nat} {xs : List D} (h : M[k]? = some (.lst xs)) : lstAt M k = some xs := by unfold lstAt; rw [h]
theorem listAt_is {M : Sto} {k : Nat} {xs : List D} (h : M[k]? = some (.lst xs)) : listAt M k = some xs := by unfold listAt; rw [h]
theorem itOf_ref {M : Sto} {k : Nat} {xs : List D} (h : M[k]? = some (.lst xs)) : itOf M (.ref k) = some (.live k) := by
  show (listAt M k).map _ = _
  rw [listAt_is h]; rfl
theorem isLst_of {M : Sto} {k : Nat} {xs : List D} (h : M[k]? = some (.lst xs)) : isLst M (.ref k) = true := by
  show (lstAt M k).isSome = true
  rw [lstAt_is h]; rfl
theorem pop_ok {M : Sto} {k : Nat} {xs : List D} {d : D} (h : M[k]? = some (.lst (xs ++ [d]))) : Me.den .pop (.ref k) [] M = .ok d (M.set k (.lst xs)) := by
  show mPop (.ref k) [] M = _
  simp [mPop, lstAt_is h]
theorem append_ok {M : Sto} {k : Nat} {xs : List D} {d : D} (h : M[k]? = some (.lst xs)) (hz : xs.length < sizeLine) : Me.den .append (.ref k) [d] M = .ok .non (M.set k (.lst (xs ++ [d]))) := by
  show mAppend (.ref k) [d] M = _
  simp only [mAppend, lstAt_is h, if_pos hz]
theorem extend_ok {M : Sto} {k : Nat} {xs ys : List D} (h : M[k]? = some (.lst xs)) (hz : xs.length + ys.length ≤ sizeLine) : ML.den .extend (.ref k) ys M = .ok .non (M.set k (.lst (xs ++ ys))) := by
  show lExtend (.ref k) ys M = _
  simp only [lExtend, lstAt_is h, if_pos hz]
@[simp] theorem ok_append (M : Sto) (d : D) : Me.ok .append M d = isLst M d := rfl
@[simp] theorem ok_pop (M : Sto) (d : D) : Me.ok .pop M d = isLst M d := rfl
@[simp] theorem ok_extend (M : Sto) (d : D) : ML.ok .extend M d = isLst M d := rfl
@[simp] theorem ok_join (M : Sto) (z : Str) : ML.ok .join M (.str z) = true := rfl
/-! ### items -/
theorem atI_nat {α : Type} {xs : List α} {i : Nat} {d : α} (h : xs[i]? = some d) : L2.atI xs (i : Int) = some d := by
  have hi := (List.getElem?_eq_some_iff.mp h).1
  unfold L2.atI L2.ixN
  rw [if_pos (by omega), if_pos (by omega)]
  simpa using h
theorem atI_neg {α : Type} {xs : List α} {i : Nat} {d : α} (h1 : 1 ≤ i) (h2 : i ≤ xs.length) (h : xs[xs.length - i]? = some d) : L2.atI xs (-(i : Int)) = some d := by
  unfold L2.atI L2.ixN
  rw [if_neg (by omega), if_pos (by omega)]
  rw [show (-(i : Int) + (xs.length : Int)).toNat = xs.length - i by omega]
  simpa using h
theorem ix_tup {M : Sto} {xs : List D} {i : Nat} {d : D} (h : xs[i]? = some d) : ixD M (.tup xs) (.int (i : Int)) = .ok d M := by
  simp only [ixD, items, atI_nat h]
@[simp] theorem ix_tup0 {M : Sto} (x : D) (xs : List D) : ixD M (.tup (x :: xs)) (.int 0) = .ok x M := ix_tup (i := 0) rfl
@[simp] theorem ix_tup1 {M : Sto} (x y : D) (xs : List D) : ixD M (.tup (x :: y :: xs)) (.int 1) = .ok y M := ix_tup (i := 1) rfl
@[simp] theorem ix_tup2 {M : Sto} (x y z : D) (xs : List D) : ixD M (.tup (x :: y :: z :: xs)) (.int 2) = .ok z M := ix_tup (i := 2) rfl
theorem ix_ref {M : Sto} {k : Nat} {xs : List D} (hk : M[k]? = some (.lst xs)) {i : Nat} {d : D} (h : xs[i]? = some d) : ixD M (.ref k) (.int (i : Int)) = .ok d M := by
  simp only [ixD, items, listAt_is hk, atI_nat h]
theorem ix_refN {M : Sto} {k : Nat} {xs : List D} (hk : M[k]? = some (.lst xs)) {i : Nat} {d : D} (h1 : 1 ≤ i) (h2 : i ≤ xs.length) (h : xs[xs.length - i]? = some d) : ixD M (.ref k) (.int (-(i : Int))) = .ok d M := by
  simp only [ixD, items, listAt_is hk, atI_neg h1 h2 h]
theorem ix_ref0 {M : Sto} {k : Nat} {x : D} {xs : List D} (hk : M[k]? = some (.lst (x :: xs))) : ixD M (.ref k) (.int 0) = .ok x M := ix_ref (i := 0) hk rfl
theorem ix_ref1 {M : Sto} {k : Nat} {x y : D} {xs : List D} (hk : M[k]? = some (.lst (x :: y :: xs))) : ixD M (.ref k) (.int 1) = .ok y M := ix_ref (i := 1) hk rfl
theorem ix_ref2 {M : Sto} {k : Nat} {x y z : D} {xs : List D} (hk : M[k]? = some (.lst (x :: y :: z :: xs))) : ixD M (.ref k) (.int 2) = .ok z M := ix_ref (i := 2) hk rfl
theorem ix_ref3 {M : Sto} {k : Nat} {x y z u : D} {xs : List D} (hk : M[k]? = some (.lst (x :: y :: z :: u :: xs))) : ixD M (.ref k) (.int 3) = .ok u M := ix_ref (i := 3) hk rfl
theorem ix_ref4 {M : Sto} {k : Nat} {x y z u v : D} {xs : List D} (hk : M[k]? = some (.lst (x :: y :: z :: u :: v :: xs))) : ixD M (.ref k) (.int 4) = .ok v M := ix_ref (i := 4) hk rfl
theorem ixN_nat {n i : Nat} (h : i < n) : L2.ixN n (i : Int) = some i := by
  unfold L2.ixN
  rw [if_pos (by omega), if_pos (by omega)]
  simp
theorem setIx_nat {M : Sto} {k : Nat} {xs : List D} {i : Nat} {v : D} (hk : M[k]? = some (.lst xs)) (h : i < xs.length) : setIx M (.ref k) (.int (i : Int)) v = some (M.set k (.lst (xs.set i v))) := by
  simp only [setIx, hk, ixN_nat h]
/-! ### small sizes -/
@[simp] theorem sz_0 : ((0 : Nat) ≤ sizeLine) = True := by rw [sizeLine_eq]; simp
@[simp] theorem st_0 : ((0 : Nat) < sizeLine) = True := by rw [sizeLine_eq]; simp
@[simp] theorem sz_1 : ((1 : Nat) ≤ sizeLine) = True := by rw [sizeLine_eq]; simp
@[simp] theorem st_1 : ((1 : Nat) < sizeLine) = True := by rw [sizeLine_eq]; simp
@[simp] theorem sz_2 : ((2 : Nat) ≤ sizeLine) = True := by rw [sizeLine_eq]; simp
@[simp] theorem st_2 : ((2 : Nat) < sizeLine) = True := by rw [sizeLine_eq]; simp
@[simp] theorem sz_3 : ((3 : Nat) ≤ sizeLine) = True := by rw [sizeLine_eq]; simp
@[simp] theorem st_3 : ((3 : Nat) < sizeLine) = True := by rw [sizeLine_eq]; simp
@[simp] theorem sz_4 : ((4 : Nat) ≤ sizeLine) = True := by rw [sizeLine_eq]; simp
@[simp] theorem st_4 : ((4 : Nat) < sizeLine) = True := by rw [sizeLine_eq]; simp
@[simp] theorem sz_5 : ((5 : Nat) ≤ sizeLine) = True := by rw [sizeLine_eq]; simp
@[simp] theorem st_5 : ((5 : Nat) < sizeLine) = True := by rw [sizeLine_eq]; simp
@[simp] theorem sz_6 : ((6 : Nat) ≤ sizeLine) = True := by rw [sizeLine_eq]; simp
@[simp] theorem st_6 : ((6 : Nat) < sizeLine) = True := by rw [sizeLine_eq]; simp
@[simp] theorem sz_7 : ((7 : Nat) ≤ sizeLine) = True := by rw [sizeLine_eq]; simp
@[simp] theorem st_7 : ((7 : Nat) < sizeLine) = True := by rw [sizeLine_eq]; simp
@[simp] theorem sz_8 : ((8 : Nat) ≤ sizeLine) = True := by rw [sizeLine_eq]; simp
@[simp] theorem st_8 : ((8 : Nat) < sizeLine) = True := by rw [sizeLine_eq]; simp
@[simp] theorem sz_9 : ((9 : Nat) ≤ sizeLine) = True := by rw [sizeLine_eq]; simp
@[simp] theorem st_9 : ((9 : Nat) < sizeLine) = True := by rw [sizeLine_eq]; simp
@[simp] theorem sz_10 : ((10 : Nat) ≤ sizeLine) = True := by rw [sizeLine_eq]; simp
@[simp] theorem st_10 : ((10 : Nat) < sizeLine) = True := by rw [sizeLine_eq]; simp
@[simp] theorem sz_11 : ((11 : Nat) ≤ sizeLine) = True := by rw [sizeLine_eq]; simp
@[simp] theorem st_11 : ((11 : Nat) < sizeLine) = True := by rw [sizeLine_eq]; simp
@[simp] theorem sz_12 : ((12 : Nat) ≤ sizeLine) = True := by rw [sizeLine_eq]; simp
@[simp] theorem st_12 : ((12 : Nat) < sizeLine) = True := by rw [sizeLine_eq]; simp
@[simp] theorem sz_13 : ((13 : Nat) ≤ sizeLine) = True := by rw [sizeLine_eq]; simp
@[simp] theorem st_13 : ((13 : Nat) < sizeLine) = True := by rw [sizeLine_eq]; simp
@[simp] theorem sz_14 : ((14 : Nat) ≤ sizeLine) = True := by rw [sizeLine_eq]; simp
@[simp] theorem st_14 : ((14 : Nat) < sizeLine) = True := by rw [sizeLine_eq]; simp
@[simp] theorem sz_15 : ((15 : Nat) ≤ sizeLine) = True := by rw [sizeLine_eq]; simp
@[simp] theorem st_15 : ((15 : Nat) < sizeLine) = True := by rw [sizeLine_eq]; simp
@[simp] theorem sz_16 : ((16 : Nat) ≤ sizeLine) = True := by rw [sizeLine_eq]; simp
@[simp] theorem st_16 : ((16 : Nat) < sizeLine) = True := by rw [sizeLine_eq]; simp
@[simp] theorem sz_17 : ((17 : Nat) ≤ sizeLine) = True := by rw [sizeLine_eq]; simp
@[simp] theorem st_17 : ((17 : Nat) < sizeLine) = True := by rw [sizeLine_eq]; simp
@[simp] theorem sz_18 : ((18 : Nat) ≤ sizeLine) = True := by rw [sizeLine_eq]; simp
@[simp] theorem st_18 : ((18 : Nat) < sizeLine) = True := by rw [sizeLine_eq]; simp
@[simp] theorem sz_19 : ((19 : Nat) ≤ sizeLine) = True := by rw [sizeLine_eq]; simp
@[simp] theorem st_19 : ((19 : Nat) < sizeLine) = True := by rw [sizeLine_eq]; simp
@[simp] theorem sz_20 : ((20 : Nat) ≤ sizeLine) = True := by rw [sizeLine_eq]; simp
@[simp] theorem st_20 : ((20 : Nat) < sizeLine) = True := by rw [sizeLine_eq]; simp
@[simp] theorem sz_26 : ((26 : Nat) ≤ sizeLine) = True := by rw [sizeLine_eq]; simp
@[simp] theorem st_26 : ((26 : Nat) < sizeLine) = True := by rw [sizeLine_eq]; simp
@[simp] theorem sz_30 : ((30 : Nat) ≤ sizeLine) = True := by rw [sizeLine_eq]; simp
@[simp] theorem st_30 : ((30 : Nat) < sizeLine) = True := by rw [sizeLine_eq]; simp
@[simp] theorem sz_60 : ((60 : Nat) ≤ sizeLine) = True := by rw [sizeLine_eq]; simp
@[simp] theorem st_60 : ((60 : Nat) < sizeLine) = True := by rw [sizeLine_eq]; simp
@[simp] theorem sz_63 : ((63 : Nat) ≤ sizeLine) = True := by rw [sizeLine_eq]; simp
@[simp] theorem st_63 : ((63 : Nat) < sizeLine) = True := by rw [sizeLine_eq]; simp
@[simp] theorem sz_100 : ((100 : Nat) ≤ sizeLine) = True := by rw [sizeLine_eq]; simp
@[simp] theorem st_100 : ((100 : Nat) < sizeLine) = True := by rw [sizeLine_eq]; simp
@[simp] theorem sz_200 : ((200 : Nat) ≤ sizeLine) = True := by rw [sizeLine_eq]; simp
@[simp] theorem st_200 : ((200 : Nat) < sizeLine) = True := by rw [sizeLine_eq]; simp
@[simp] theorem sz_1000 : ((1000 : Nat) ≤ sizeLine) = True := by rw [sizeLine_eq]; simp
@[simp] theorem st_1000 : ((1000 : Nat) < sizeLine) = True := by rw [sizeLine_eq]; simp
theorem setIx0 {M : Sto} {k : Nat} {x v : D} {xs : List D} (hk : M[k]? = some (.lst (x :: xs))) : setIx M (.ref k) (.int 0) v = some (M.set k (.lst (v :: xs))) := setIx_nat (i := 0) hk (by simp)
theorem setIx1 {M : Sto} {k : Nat} {x y v : D} {xs : List D} (hk : M[k]? = some (.lst (x :: y :: xs))) : setIx M (.ref k) (.int 1) v = some (M.set k (.lst (x :: v :: xs))) := setIx_nat (i := 1) hk (by simp)
theorem setIx2 {M : Sto} {k : Nat} {x y z v : D} {xs : List D} (hk : M[k]? = some (.lst (x :: y :: z :: xs))) : setIx M (.ref k) (.int 2) v = some (M.set k (.lst (x :: y :: v :: xs))) := setIx_nat (i := 2) hk (by simp)
theorem setIx3 {M : Sto} {k : Nat} {x y z u v : D} {xs : List D} (hk : M[k]? = some (.lst (x :: y :: z :: u :: xs))) : setIx M (.ref k) (.int 3) v = some (M.set k (.lst (x :: y :: z :: v :: xs))) := setIx_nat (i := 3) hk (by simp)
theorem setIx4 {M : Sto} {k : Nat} {x y z u t v : D} {xs : List D} (hk : M[k]? = some (.lst (x :: y :: z :: u :: t :: xs))) : setIx M (.ref k) (.int 4) v = some (M.set k (.lst (x :: y :: z :: u :: v :: xs))) := setIx_nat (i := 4) hk (by simp)
theorem cut_from (xs : List D) (k : Nat) : cutD xs (some (k : Int)) none = xs.drop k := by
  unfold cutD
  rw [HT.sIx_nat, HT.sIx_none]
  by_cases h : k ≤ xs.length
  · rw [Nat.min_eq_left h]
    exact List.take_of_length_le (by rw [List.length_drop]; omega)
  · rw [Nat.min_eq_right (by omega), Nat.sub_self, List.take_zero, List.drop_eq_nil_of_le (by omega)]
theorem cut_to (xs : List D) (k : Nat) : cutD xs none (some (k : Int)) = xs.take k := by
  unfold cutD
  rw [HT.sIx_nat, HT.sIx_none, List.drop_zero, Nat.sub_zero]
  by_cases h : k ≤ xs.length
  · rw [Nat.min_eq_left h]
  · rw [Nat.min_eq_right (by omega), List.take_of_length_le (Nat.le_refl _), List.take_of_length_le (by omega)]
theorem sl_ref {M : Sto} {k : Nat} {xs : List D} (h : M[k]? = some (.lst xs)) (lo hi : Option Int) : slD M (.ref k) lo hi = .ok (.ref M.length) (M ++ [.lst (cutD xs lo hi)]) := by
  simp only [slD, listAt_is h]
@[simp] theorem sl_tup {M : Sto} (xs : List D) (lo hi : Option Int) : slD M (.tup xs) lo hi = .ok (.tup (cutD xs lo hi)) M := rfl
theorem rev_ref {M : Sto} {k : Nat} {xs : List D} (h : M[k]? = some (.lst xs)) : revD M (.ref k) = .ok (.ref M.length) (M ++ [.lst xs.reverse]) := by
  simp only [revD, listAt_is h]
/-! ### parts of a text -/
def Ss.hd : Ss → S
  | .cons s _ => s
  | .nil => .nop
def Ss.tl : Ss → Ss
  | .cons _ ss => ss
  | .nil => .nil
def S.body : S → Ss
  | .wh _ b => b
  | .fo _ _ b => b
  | .ite _ a _ => a
  | _ => .nil
def S.test : S → T
  | .wh c _ => c
  | .ite c _ _ => c
  | _ => .yes
/-! ### a call -/
def retOf : SO → Out D
  | .nx _ M' => .ok .non M'
  | .rt d M' => .ok d M'
  | .exc x _ M' => .exc x M'
  | _ => .bad
@[simp] theorem retOf_nx (σ : En) (M : Sto) : retOf (.nx σ M) = .ok .non M := rfl
@[simp] theorem retOf_rt (d : D) (M : Sto) : retOf (.rt d M) = .ok d M := rfl
theorem callN_eq {fs : List FR} {con : List D} {fuel n k : Nat} {args : List D} {M : Sto} {r : FR} (h : fs[k]? = some r) (ha : args.length = r.np) :
    callN fs con fuel (n + 1) k args M = retOf (denSs ⟨callN fs con fuel n, con, fuel⟩ r.body (args.map some ++ List.replicate (r.ns - r.np) none) M) := by
  rw [callN, h]
  simp only [runFR, ha, if_true, retOf]
  all_goals rfl
/-! ### loops -/
/-- a comprehension over items that stay: an invariant over what is done, what is found, the store -/
theorem lcGo_snap {f : D → Sto → Out (Option D)} {xs : List D} {fuel : Nat} {M : Sto} (P : List D → List D → Sto → Prop) (hf : xs.length < fuel) (hz : xs.length ≤ sizeLine) (h0 : P [] [] M)
    (step : ∀ pre x suf acc M, xs = pre ++ x :: suf → P pre acc M → (∃ d M', f x M = .ok (some d) M' ∧ P (pre ++ [x]) (acc ++ [d]) M') ∨ ∃ M', f x M = .ok none M' ∧ P (pre ++ [x]) acc M') :
    ∃ acc M', lcGo (.snap xs) f fuel 0 [] M = .ok acc M' ∧ P xs acc M' := by
  suffices H : ∀ (suf pre acc : List D) (n : Nat) (M : Sto), xs = pre ++ suf → suf.length < n → acc.length ≤ pre.length → P pre acc M → ∃ acc' M', lcGo (.snap xs) f n pre.length acc M = .ok acc' M' ∧ P xs acc' M' from
    H xs [] [] fuel M rfl hf (Nat.le_refl _) h0
  intro suf
  induction suf with
  | nil =>
    intro pre acc n M e hn hl hP
    cases n with
    | zero => omega
    | succ n =>
      rw [List.append_nil] at e
      subst e
      refine ⟨acc, M, ?_, hP⟩
      unfold lcGo
      simp only [It.next, List.getElem?_eq_none (Nat.le_refl _)]
  | cons x suf ih =>
    intro pre acc n M e hn hl hP
    cases n with
    | zero => omega
    | succ n =>
      have hx : xs[pre.length]? = some x := by rw [e, List.getElem?_append_right (Nat.le_refl _), Nat.sub_self]; rfl
      have e' : xs = (pre ++ [x]) ++ suf := by rw [e, List.append_assoc]; rfl
      have hn' : suf.length < n := by simp only [List.length_cons] at hn; omega
      have hlen : pre.length + suf.length + 1 = xs.length := by rw [e]; simp; omega
      rcases step pre x suf acc M e hP with ⟨d, M', h1, h2⟩ | ⟨M', h1, h2⟩
      · obtain ⟨acc', M'', r1, r2⟩ := ih (pre ++ [x]) (acc ++ [d]) n M' e' hn' (by simp; omega) h2
        refine ⟨acc', M'', ?_, r2⟩
        unfold lcGo
        simp only [It.next, hx, h1]
        rw [if_pos (show acc.length < sizeLine by omega)]
        rw [List.length_append] at r1
        exact r1
      · obtain ⟨acc', M'', r1, r2⟩ := ih (pre ++ [x]) acc n M' e' hn' (by simp; omega) h2
        refine ⟨acc', M'', ?_, r2⟩
        unfold lcGo
        simp only [It.next, hx, h1]
        rw [List.length_append] at r1
        exact r1
/-- .. that only makes values, whatever stands in the store -/
theorem lcGo_map {f : D → Sto → Out (Option D)} {xs : List D} {fuel : Nat} {M : Sto} (g : D → D) (hf : xs.length < fuel) (hz : xs.length ≤ sizeLine) (step : ∀ x ∈ xs, f x M = .ok (some (g x)) M) :
    lcGo (.snap xs) f fuel 0 [] M = .ok (xs.map g) M := by
  obtain ⟨acc, M', h1, h2, h3⟩ := lcGo_snap (f := f) (xs := xs) (fuel := fuel) (M := M) (fun pre acc M' => acc = pre.map g ∧ M' = M) hf hz ⟨rfl, rfl⟩ fun pre x suf acc M1 e ⟨h1, h2⟩ => .inl ⟨g x, M, by rw [h2]; exact step x (by rw [e]; simp), by simp [h1], rfl⟩
  rw [h1, h2, h3]
/-- .. over a list that nobody writes meanwhile -/
theorem lcGo_live {f : D → Sto → Out (Option D)} {xs : List D} {fuel k : Nat} {M : Sto} (P : List D → List D → Sto → Prop) (hf : xs.length < fuel) (hz : xs.length ≤ sizeLine) (h0 : P [] [] M)
    (hl : ∀ pre acc M, P pre acc M → listAt M k = some xs)
    (step : ∀ pre x suf acc M, xs = pre ++ x :: suf → P pre acc M → (∃ d M', f x M = .ok (some d) M' ∧ P (pre ++ [x]) (acc ++ [d]) M') ∨ ∃ M', f x M = .ok none M' ∧ P (pre ++ [x]) acc M') :
    ∃ acc M', lcGo (.live k) f fuel 0 [] M = .ok acc M' ∧ P xs acc M' := by
  suffices H : ∀ (suf pre acc : List D) (n : Nat) (M : Sto), xs = pre ++ suf → suf.length < n → acc.length ≤ pre.length → P pre acc M → ∃ acc' M', lcGo (.live k) f n pre.length acc M = .ok acc' M' ∧ P xs acc' M' from
    H xs [] [] fuel M rfl hf (Nat.le_refl _) h0
  intro suf
  induction suf with
  | nil =>
    intro pre acc n M e hn hl' hP
    cases n with
    | zero => omega
    | succ n =>
      rw [List.append_nil] at e
      subst e
      refine ⟨acc, M, ?_, hP⟩
      unfold lcGo
      simp only [It.next, hl _ _ _ hP, Option.map_some, List.getElem?_eq_none (Nat.le_refl _)]
  | cons x suf ih =>
    intro pre acc n M e hn hl' hP
    cases n with
    | zero => omega
    | succ n =>
      have hx : xs[pre.length]? = some x := by rw [e, List.getElem?_append_right (Nat.le_refl _), Nat.sub_self]; rfl
      have e' : xs = (pre ++ [x]) ++ suf := by rw [e, List.append_assoc]; rfl
      have hn' : suf.length < n := by simp only [List.length_cons] at hn; omega
      have hlen : pre.length + suf.length + 1 = xs.length := by rw [e]; simp; omega
      rcases step pre x suf acc M e hP with ⟨d, M', h1, h2⟩ | ⟨M', h1, h2⟩
      · obtain ⟨acc', M'', r1, r2⟩ := ih (pre ++ [x]) (acc ++ [d]) n M' e' hn' (by simp; omega) h2
        refine ⟨acc', M'', ?_, r2⟩
        unfold lcGo
        simp only [It.next, hl _ _ _ hP, Option.map_some, hx, h1]
        rw [if_pos (show acc.length < sizeLine by omega)]
        rw [List.length_append] at r1
        exact r1
      · obtain ⟨acc', M'', r1, r2⟩ := ih (pre ++ [x]) acc n M' e' hn' (by simp; omega) h2
        refine ⟨acc', M'', ?_, r2⟩
        unfold lcGo
        simp only [It.next, hl _ _ _ hP, Option.map_some, hx, h1]
        rw [List.length_append] at r1
        exact r1
theorem lcGo_liveMap {f : D → Sto → Out (Option D)} {xs : List D} {fuel k : Nat} {M : Sto} (g : D → D) (hf : xs.length < fuel) (hz : xs.length ≤ sizeLine) (hl : listAt M k = some xs) (step : ∀ x ∈ xs, f x M = .ok (some (g x)) M) :
    lcGo (.live k) f fuel 0 [] M = .ok (xs.map g) M := by
  obtain ⟨acc, M', h1, h2, h3⟩ := lcGo_live (f := f) (xs := xs) (fuel := fuel) (k := k) (M := M) (fun pre acc M' => acc = pre.map g ∧ M' = M) hf hz ⟨rfl, rfl⟩ (fun pre acc M1 h => by rw [h.2]; exact hl) fun pre x suf acc M1 e ⟨h1, h2⟩ => .inl ⟨g x, M, by rw [h2]; exact step x (by rw [e]; simp), by simp [h1], rfl⟩
  rw [h1, h2, h3]
/-- a for over items that stay -/
theorem forGo_snap {b : En → Sto → SO} {xs : List D} {fuel : Nat} {tg : Tg} {σ : En} {M : Sto} (P : List D → En → Sto → Prop) (R : SO → Prop) (hf : xs.length < fuel) (h0 : P [] σ M)
    (hend : ∀ σ M, P xs σ M → R (.nx σ M))
    (step : ∀ pre x suf σ M, xs = pre ++ x :: suf → P pre σ M → ∃ σ1, setTg tg x σ = some σ1 ∧ ((∃ σ' M', (b σ1 M = .nx σ' M' ∨ b σ1 M = .ct σ' M') ∧ P (pre ++ [x]) σ' M') ∨ (∃ σ' M', b σ1 M = .bk σ' M' ∧ R (.nx σ' M')) ∨ ∃ d M', b σ1 M = .rt d M' ∧ R (.rt d M'))) :
    R (forGo (.snap xs) tg b fuel 0 σ M) := by
  suffices H : ∀ (suf pre : List D) (n : Nat) (σ : En) (M : Sto), xs = pre ++ suf → suf.length < n → P pre σ M → R (forGo (.snap xs) tg b n pre.length σ M) from
    H xs [] fuel σ M rfl hf h0
  intro suf
  induction suf with
  | nil =>
    intro pre n σ M e hn hP
    cases n with
    | zero => omega
    | succ n =>
      rw [List.append_nil] at e
      subst e
      unfold forGo
      simp only [It.next, List.getElem?_eq_none (Nat.le_refl _)]
      exact hend σ M hP
  | cons x suf ih =>
    intro pre n σ M e hn hP
    cases n with
    | zero => omega
    | succ n =>
      have hx : xs[pre.length]? = some x := by rw [e, List.getElem?_append_right (Nat.le_refl _), Nat.sub_self]; rfl
      have e' : xs = (pre ++ [x]) ++ suf := by rw [e, List.append_assoc]; rfl
      have hn' : suf.length < n := by simp only [List.length_cons] at hn; omega
      obtain ⟨σ1, s1, h⟩ := step pre x suf σ M e hP
      unfold forGo
      simp only [It.next, hx, s1]
      rcases h with ⟨σ', M', hb, hp⟩ | ⟨σ', M', hb, hr⟩ | ⟨d, M', hb, hr⟩
      · have := ih (pre ++ [x]) n σ' M' e' hn' hp
        rw [List.length_append] at this
        rcases hb with hb | hb <;> rw [hb] <;> exact this
      · rw [hb]; exact hr
      · rw [hb]; exact hr
/-- a for over a list that nobody writes meanwhile -/
theorem forGo_live {b : En → Sto → SO} {xs : List D} {fuel k : Nat} {tg : Tg} {σ : En} {M : Sto} (P : List D → En → Sto → Prop) (R : SO → Prop) (hf : xs.length < fuel) (h0 : P [] σ M)
    (hl : ∀ pre σ M, P pre σ M → listAt M k = some xs) (hend : ∀ σ M, P xs σ M → R (.nx σ M))
    (step : ∀ pre x suf σ M, xs = pre ++ x :: suf → P pre σ M → ∃ σ1, setTg tg x σ = some σ1 ∧ ((∃ σ' M', (b σ1 M = .nx σ' M' ∨ b σ1 M = .ct σ' M') ∧ P (pre ++ [x]) σ' M') ∨ (∃ σ' M', b σ1 M = .bk σ' M' ∧ R (.nx σ' M')) ∨ ∃ d M', b σ1 M = .rt d M' ∧ R (.rt d M'))) :
    R (forGo (.live k) tg b fuel 0 σ M) := by
  suffices H : ∀ (suf pre : List D) (n : Nat) (σ : En) (M : Sto), xs = pre ++ suf → suf.length < n → P pre σ M → R (forGo (.live k) tg b n pre.length σ M) from
    H xs [] fuel σ M rfl hf h0
  intro suf
  induction suf with
  | nil =>
    intro pre n σ M e hn hP
    cases n with
    | zero => omega
    | succ n =>
      rw [List.append_nil] at e
      subst e
      unfold forGo
      simp only [It.next, hl _ _ _ hP, Option.map_some, List.getElem?_eq_none (Nat.le_refl _)]
      exact hend σ M hP
  | cons x suf ih =>
    intro pre n σ M e hn hP
    cases n with
    | zero => omega
    | succ n =>
      have hx : xs[pre.length]? = some x := by rw [e, List.getElem?_append_right (Nat.le_refl _), Nat.sub_self]; rfl
      have e' : xs = (pre ++ [x]) ++ suf := by rw [e, List.append_assoc]; rfl
      have hn' : suf.length < n := by simp only [List.length_cons] at hn; omega
      obtain ⟨σ1, s1, h⟩ := step pre x suf σ M e hP
      unfold forGo
      simp only [It.next, hl _ _ _ hP, Option.map_some, hx, s1]
      rcases h with ⟨σ', M', hb, hp⟩ | ⟨σ', M', hb, hr⟩ | ⟨d, M', hb, hr⟩
      · have := ih (pre ++ [x]) n σ' M' e' hn' hp
        rw [List.length_append] at this
        rcases hb with hb | hb <;> rw [hb] <;> exact this
      · rw [hb]; exact hr
      · rw [hb]; exact hr
/-- a while: an invariant and what falls -/
theorem whileGo_inv {c : En → Sto → Out Bool} {b : En → Sto → SO} {fuel : Nat} {σ : En} {M : Sto} (P : Nat → En → Sto → Prop) (R : SO → Prop) {m : Nat} (hf : m < fuel) (h0 : P m σ M)
    (step : ∀ m σ M, P m σ M → (∃ M1, c σ M = .ok false M1 ∧ R (.nx σ M1)) ∨ ∃ M1, c σ M = .ok true M1 ∧ ((∃ σ' M' m', (b σ M1 = .nx σ' M' ∨ b σ M1 = .ct σ' M') ∧ m' < m ∧ P m' σ' M') ∨ (∃ σ' M', b σ M1 = .bk σ' M' ∧ R (.nx σ' M')) ∨ ∃ d M', b σ M1 = .rt d M' ∧ R (.rt d M'))) :
    R (whileGo c b fuel σ M) := by
  induction fuel generalizing m σ M with
  | zero => omega
  | succ n ih =>
    unfold whileGo
    rcases step m σ M h0 with ⟨M1, h1, h2⟩ | ⟨M1, h1, h⟩
    · rw [h1]; exact h2
    · rw [h1]
      rcases h with ⟨σ', M', m', hb, hm, hp⟩ | ⟨σ', M', hb, hr⟩ | ⟨d, M', hb, hr⟩
      · have := ih (m := m') (by omega) hp
        rcases hb with hb | hb <;> simp only [hb] <;> exact this
      · simp only [hb]; exact hr
      · simp only [hb]; exact hr
end PyL

namespace K00
open PySem PySem.Spec PyProof.Rows L2 PyL
def topS (i : Nat) : Stmt := PySem.Challenge.pw_pilewords_k00_whole_programs_values_and.main.body.getD i (.Pass ⟨0, 0, 0, 0⟩)
def b_is_integer : Ss := (.cons (.rt (.and (.isin (.var 0) [.int]) (.not (.isin (.var 0) [.bool]))))
      .nil)
def d_is_integer : Fd := ⟨"is_integer", ["thing"], ["thing"], topS 11, b_is_integer⟩
def b_is_name : Ss := (.cons (.ite (.or (.not (.tru (.isin (.var 0) [.str]))) (.or (.not (.tru (.chn .le .le (.con (.int 1)) (.bi .len (.cons (.var 0) .nil)) (.glb 1)))) (.tru (.op2 .isin (.var 0) (.glb 9))))) (.cons (.rt (.con (.bl false)))
      .nil) .nil)
      (.cons (.rt (.bl .all (.lc (.op2 .isin (.var 1) (.glb 0)) [1] (.name 1) (.val (.var 0)) .yes)))
      .nil))
def d_is_name : Fd := ⟨"is_name", ["thing"], ["thing", "sign"], topS 12, b_is_name⟩
def b_is_told : Ss := (.cons (.ite (.or (.not (.tru (.isin (.var 0) [.tuple]))) (.or (.tru (.op2 .ne (.bi .len (.cons (.var 0) .nil)) (.con (.int 2)))) (.or (.not (.tru (.isin (.ix (.var 0) (.con (.int 0))) [.str]))) (.tru (.op2 .ne (.ix (.var 0) (.con (.int 0))) (.var 1)))))) (.cons (.rt (.con (.bl false)))
      .nil) .nil)
      (.cons (.rt (.isin (.ix (.var 0) (.con (.int 1))) [.tuple]))
      .nil))
def d_is_told : Fd := ⟨"is_told", ["thing", "word"], ["thing", "word"], topS 13, b_is_told⟩
def b_is_number_value : Ss := (.cons (.rt (.or (.isin (.var 0) [.bool]) (.and (.call 0 (.cons (.var 0) .nil)) (.op2 .le (.bi .abs (.cons (.var 0) .nil)) (.glb 2)))))
      .nil)
def d_is_number_value : Fd := ⟨"is_number_value", ["thing"], ["thing"], topS 14, b_is_number_value⟩
def b_inner_rows : Ss := (.cons (.ite (.tru (.call 3 (.cons (.var 0) .nil))) (.cons (.rt (.ofL (.lst .nil)))
      .nil) .nil)
      (.cons (.ite (.and (.tru (.var 1)) (.tru (.call 1 (.cons (.var 0) .nil)))) (.cons (.rt (.ofL (.lst .nil)))
      .nil) .nil)
      (.cons (.ite (.tru (.call 2 (.cons (.var 0) (.cons (.glb 6) .nil)))) (.cons (.rt (.ofL (.lc (.tup (.cons (.var 2) (.cons (.con (.bl true)) .nil))) [2] (.name 2) (.val (.ix (.var 0) (.con (.int 1)))) .yes)))
      .nil) .nil)
      (.cons (.ite (.not (.tru (.var 1))) (.cons (.rt (.ite (.tru (.call 2 (.cons (.var 0) (.cons (.glb 8) .nil)))) (.ofL (.lc (.tup (.cons (.var 2) (.cons (.con (.bl false)) .nil))) [2] (.name 2) (.val (.ix (.var 0) (.con (.int 1)))) .yes)) (.con .non)))
      .nil) .nil)
      (.cons (.ite (.and (.tru (.isin (.var 0) [.tuple])) (.and (.tru (.op2 .eq (.bi .len (.cons (.var 0) .nil)) (.con (.int 2)))) (.and (.tru (.isin (.ix (.var 0) (.con (.int 0))) [.str])) (.tru (.op2 .eq (.ix (.var 0) (.con (.int 0))) (.glb 7)))))) (.cons (.rt (.ofL (.lst (.cons (.tup (.cons (.ix (.var 0) (.con (.int 1))) (.cons (.con (.bl false)) .nil))) .nil))))
      .nil) .nil)
      (.cons (.rt (.con .non))
      .nil))))))
def d_inner_rows : Fd := ⟨"inner_rows", ["thing", "is_item"], ["thing", "is_item", "one"], topS 15, b_inner_rows⟩
def b_is_bounded : Ss := (.cons (.par [1, 2] (.cons (.con (.int 0)) (.cons (.ofL (.lc (.tup (.cons (.var 4) (.cons (.var 5) (.cons (.con (.int 1)) .nil)))) [4, 5] (.tup [4, 5]) (.val (.var 0)) .yes)) .nil)))
      (.cons (.wh (.tru (.op2 .gt (.bi .len (.cons (.var 2) .nil)) (.con (.int 0)))) (.cons (.as (.tup [4, 5, 6]) (.me .pop (.var 2) .nil))
      (.cons (.aug .add 1 (.con (.int 1)))
      (.cons (.as (.name 3) (.call 4 (.cons (.var 4) (.cons (.var 5) .nil))))
      (.cons (.ite (.or (.tru (.op2 .is (.var 3) (.con .non))) (.or (.tru (.op2 .gt (.var 1) (.glb 3))) (.tru (.op2 .gt (.var 6) (.glb 4))))) (.cons (.rt (.con (.bl false)))
      .nil) .nil)
      (.cons (.ex (.ml .extend (.var 2) (.lc (.tup (.cons (.var 7) (.cons (.var 8) (.cons (.op2 .add (.var 6) (.con (.int 1))) .nil)))) [7, 8] (.tup [7, 8]) (.val (.var 3)) .yes)))
      .nil))))))
      (.cons (.rt (.con (.bl true)))
      .nil)))
def d_is_bounded : Fd := ⟨"is_bounded", ["rows"], ["rows", "many", "waiting", "inner", "thing", "is_item", "depth", "one", "its"], topS 16, b_is_bounded⟩
def b_is_program : Ss := (.cons (.rt (.and (.isin (.var 0) [.tuple]) (.call 5 (.cons (.ofL (.lc (.tup (.cons (.var 1) (.cons (.con (.bl true)) .nil))) [1] (.name 1) (.val (.var 0)) .yes)) .nil))))
      .nil)
def d_is_program : Fd := ⟨"is_program", ["thing"], ["thing", "one"], topS 17, b_is_program⟩
def b_is_value : Ss := (.cons (.rt (.call 5 (.cons (.ofL (.lst (.cons (.tup (.cons (.var 0) (.cons (.con (.bl false)) .nil))) .nil))) .nil)))
      .nil)
def d_is_value : Fd := ⟨"is_value", ["thing"], ["thing"], topS 18, b_is_value⟩
def b_is_pile : Ss := (.cons (.rt (.and (.isin (.var 0) [.tuple]) (.and (.op2 .le (.bi .len (.cons (.var 0) .nil)) (.glb 5)) (.bl .all (.lc (.call 7 (.cons (.var 1) .nil)) [1] (.name 1) (.val (.var 0)) .yes)))))
      .nil)
def d_is_pile : Fd := ⟨"is_pile", ["thing"], ["thing", "one"], topS 19, b_is_pile⟩
def b__law_bag : Ss := (.cons (.as (.name 1) (.ofL (.lc (.bi .int (.cons (.op2 .mod (.bi .int (.cons (.var 2) .nil)) (.op2 .pow (.con (.int 10)) (.con (.int 40)))) .nil)) [2] (.name 2) (.val (.sl (.var 0) .none (.some (.con (.int 63))))) .yes)))
      (.cons (.rt (.ofL (.lst (.cons (.var 1) (.cons (.con (.int 0)) (.cons (.con (.int 0)) (.cons (.op2 .add (.con (.int 2371)) (.op2 .mul (.con (.int 11)) (.bi .len (.cons (.var 1) .nil)))) (.cons (.con (.int 0)) .nil))))))))
      .nil))
def d__law_bag : Fd := ⟨"_law_bag", ["script"], ["script", "cells", "cell"], topS 21, b__law_bag⟩
def b__law_pick : Ss := (.cons (.ite (.and (.tru (.op2 .eq (.ix (.var 0) (.con (.int 2))) (.con (.int 0)))) (.tru (.op2 .lt (.ix (.var 0) (.con (.int 1))) (.bi .len (.cons (.ix (.var 0) (.con (.int 0))) .nil))))) (.cons (.as (.name 3) (.ix (.ix (.var 0) (.con (.int 0))) (.ix (.var 0) (.con (.int 1)))))
      (.cons (.asub (.var 0) (.con (.int 1)) (.op2 .add (.ix (.var 0) (.con (.int 1))) (.con (.int 1))))
      (.cons (.asub (.var 0) (.con (.int 3)) (.op2 .mod (.bi .int (.cons (.op2 .add (.op2 .add (.op2 .mul (.ix (.var 0) (.con (.int 3))) (.con (.int 69621))) (.op2 .mul (.var 3) (.con (.int 40692)))) (.con (.int 41))) .nil)) (.con (.int 2147483629))))
      (.cons (.ite (.tru (.op2 .ge (.var 3) (.op2 .pow (.con (.int 10)) (.con (.int 18))))) (.cons (.asub (.var 0) (.con (.int 2)) (.var 3))
      .nil) .nil)
      .nil)))) .nil)
      (.cons (.ite (.tru (.op2 .gt (.ix (.var 0) (.con (.int 2))) (.con (.int 0)))) (.cons (.as (.name 4) (.op2 .mod (.bi .int (.cons (.ix (.var 0) (.con (.int 2))) .nil)) (.var 1)))
      (.cons (.asub (.var 0) (.con (.int 2)) (.op2 .fdiv (.ix (.var 0) (.con (.int 2))) (.var 1)))
      (.cons (.rt (.var 4))
      .nil))) .nil)
      (.cons (.asub (.var 0) (.con (.int 4)) (.op2 .add (.ix (.var 0) (.con (.int 4))) (.con (.int 1))))
      (.cons (.as (.name 2) (.op2 .mod (.bi .int (.cons (.op2 .mul (.bi .int (.cons (.op2 .add (.ix (.var 0) (.con (.int 3))) (.op2 .mul (.con (.int 7919)) (.ix (.var 0) (.con (.int 4))))) .nil)) (.con (.int 48271))) .nil)) (.con (.int 2147483647))))
      (.cons (.as (.name 2) (.op2 .mod (.bi .int (.cons (.op2 .mul (.var 2) (.op2 .add (.op2 .fdiv (.var 2) (.con (.int 1009))) (.con (.int 69621)))) .nil)) (.con (.int 2147483647))))
      (.cons (.as (.name 2) (.op2 .mod (.bi .int (.cons (.op2 .mul (.var 2) (.op2 .add (.op2 .fdiv (.var 2) (.con (.int 2003))) (.con (.int 40014)))) .nil)) (.con (.int 2147483563))))
      (.cons (.rt (.op2 .mod (.bi .int (.cons (.op2 .fdiv (.var 2) (.con (.int 16))) .nil)) (.var 1)))
      .nil)))))))
def d__law_pick : Fd := ⟨"_law_pick", ["bag", "width"], ["bag", "width", "number", "cell", "digit"], topS 22, b__law_pick⟩
def b__law_some : Ss := (.cons (.rt (.ix (.var 1) (.call 10 (.cons (.var 0) (.cons (.bi .len (.cons (.var 1) .nil)) .nil)))))
      .nil)
def d__law_some : Fd := ⟨"_law_some", ["bag", "things"], ["bag", "things"], topS 23, b__law_some⟩
def b__law_built : Ss := (.cons (.as (.name 1) (.ofL (.lst .nil)))
      (.cons (.fo (.name 2) (.val (.rev (.var 0))) (.cons (.ite (.tru (.op2 .eq (.ix (.var 2) (.con (.int 0))) (.con (.str "leaf")))) (.cons (.ex (.me .append (.var 1) (.cons (.ix (.var 2) (.con (.int 1))) .nil)))
      .nil) (.cons (.as (.name 3) (.op2 .sub (.bi .len (.cons (.var 1) .nil)) (.ix (.var 2) (.con (.int 1)))))
      (.cons (.as (.name 4) (.bl .tuple (.val (.rev (.sl (.var 1) (.some (.var 3)) .none)))))
      (.cons (.as (.name 1) (.op2 .add (.sl (.var 1) .none (.some (.var 3))) (.ofL (.lst (.cons (.tup (.cons (.ix (.var 2) (.con (.int 0))) (.cons (.ite (.tru (.op2 .eq (.ix (.var 2) (.con (.int 0))) (.con (.str "put")))) (.ix (.var 4) (.con (.int 0))) (.var 4)) .nil))) .nil)))))
      .nil))))
      .nil))
      (.cons (.rt (.bl .tuple (.val (.rev (.var 1)))))
      .nil)))
def d__law_built : Fd := ⟨"_law_built", ["signs"], ["signs", "pile", "sign", "under", "parts"], topS 24, b__law_built⟩
def b__law_levels : Ss := (.cons (.par [3, 4] (.cons (.ofL (.lst (.cons (.ofL (.lst (.cons (.var 1) (.cons (.op2 .add (.bi .len (.cons (.var 0) .nil)) (.con (.int 1))) .nil)))) .nil))) (.cons (.ofL (.lst .nil)) .nil)))
      (.cons (.fo (.name 2) (.val (.var 0)) (.cons (.ex (.me .append (.var 4) (.cons (.tup (.cons (.bi .len (.cons (.var 3) .nil)) (.cons (.ix (.ix (.var 3) (.op1 .neg (.con (.int 1)))) (.con (.int 0))) .nil))) .nil)))
      (.cons (.as (.name 5) (.ix (.var 3) (.op1 .neg (.con (.int 1)))))
      (.cons (.asub (.var 5) (.con (.int 1)) (.op2 .sub (.ix (.var 5) (.con (.int 1))) (.con (.int 1))))
      (.cons (.ex (.me .append (.var 3) (.cons (.ofL (.lst (.cons (.ix (.var 2) (.con (.int 0))) (.cons (.ite (.tru (.op2 .eq (.ix (.var 2) (.con (.int 0))) (.con (.str "leaf")))) (.con (.int 0)) (.ix (.var 2) (.con (.int 1)))) .nil)))) .nil)))
      (.cons (.wh (.tru (.op2 .eq (.ix (.ix (.var 3) (.op1 .neg (.con (.int 1)))) (.con (.int 1))) (.con (.int 0)))) (.cons (.ex (.me .pop (.var 3) .nil))
      .nil))
      .nil))))))
      (.cons (.rt (.var 4))
      .nil)))
def d__law_levels : Fd := ⟨"_law_levels", ["signs", "outside"], ["signs", "outside", "sign", "waiting", "found", "top"], topS 25, b__law_levels⟩
def b__law_word : Ss := (.cons (.as (.name 1) (.con (.str "abcdefghijklmnopqrstuvwxyz")))
      (.cons (.as (.name 2) (.ml .join (.con (.str "")) (.lc (.call 11 (.cons (.var 0) (.cons (.var 1) .nil))) [3] (.name 3) (.rng1 (.op2 .add (.con (.int 1)) (.call 10 (.cons (.var 0) (.cons (.con (.int 12)) .nil))))) .yes)))
      (.cons (.as (.name 2) (.ite (.tru (.op2 .isin (.var 2) (.tup (.cons (.con (.str "true")) (.cons (.con (.str "false")) (.cons (.con (.str "list")) (.cons (.con (.str "put")) .nil))))))) (.op2 .add (.var 2) (.con (.str "x"))) (.var 2)))
      (.cons (.rt (.call 11 (.cons (.var 0) (.cons (.ofL (.lst (.cons (.con (.str "dup")) (.cons (.con (.str "swap")) (.cons (.con (.str "add")) (.cons (.con (.str "call")) (.cons (.con (.str "if")) (.cons (.con (.str "times")) (.cons (.var 2) (.cons (.var 2) (.cons (.con (.str "cons")) (.cons (.con (.str "say")) .nil)))))))))))) .nil))))
      .nil))))
def d__law_word : Fd := ⟨"_law_word", ["bag"], ["bag", "letters", "drawn", "turn"], topS 26, b__law_word⟩
def b__law_leaf : Ss := (.cons (.as (.name 2) (.call 10 (.cons (.var 0) (.cons (.con (.int 6)) .nil))))
      (.cons (.ite (.and (.tru (.var 1)) (.tru (.op2 .lt (.var 2) (.con (.int 3))))) (.cons (.rt (.tup (.cons (.con (.str "leaf")) (.cons (.call 14 (.cons (.var 0) .nil)) .nil))))
      .nil) .nil)
      (.cons (.as (.name 3) (.call 11 (.cons (.var 0) (.cons (.ofL (.lst (.cons (.op2 .pow (.con (.int 10)) (.con (.int 18))) (.cons (.op2 .sub (.op2 .pow (.con (.int 10)) (.con (.int 18))) (.con (.int 1))) (.cons (.op2 .pow (.con (.int 10)) (.con (.int 9))) (.cons (.con (.int 0)) (.cons (.con (.int 7)) (.cons (.con (.int 12345)) (.cons (.op2 .add (.op2 .mul (.call 10 (.cons (.var 0) (.cons (.op2 .pow (.con (.int 10)) (.con (.int 6))) .nil))) (.op2 .pow (.con (.int 10)) (.con (.int 12)))) (.con (.int 5))) .nil))))))))) .nil))))
      (.cons (.rt (.tup (.cons (.con (.str "leaf")) (.cons (.call 11 (.cons (.var 0) (.cons (.ofL (.lst (.cons (.con (.bl true)) (.cons (.con (.bl false)) (.cons (.var 3) (.cons (.op1 .neg (.var 3)) (.cons (.op2 .sub (.call 10 (.cons (.var 0) (.cons (.con (.int 40)) .nil))) (.con (.int 9))) .nil))))))) .nil))) .nil))))
      .nil))))
def d__law_leaf : Fd := ⟨"_law_leaf", ["bag", "is_item"], ["bag", "is_item", "turn", "edge"], topS 27, b__law_leaf⟩
def b__law_drawn : Ss := (.cons (.par [4, 5] (.cons (.ofL (.lst (.cons (.ofL (.lst (.cons (.call 15 (.cons (.var 0) (.cons (.con (.bl true)) .nil))) .nil))) (.cons (.ofL (.lst (.cons (.call 15 (.cons (.var 0) (.cons (.con (.bl true)) .nil))) .nil))) .nil)))) (.cons (.ofL (.lst (.cons (.ofL (.lst (.cons (.call 15 (.cons (.var 0) (.cons (.con (.bl false)) .nil))) .nil))) (.cons (.ofL (.lst (.cons (.call 15 (.cons (.var 0) (.cons (.con (.bl false)) .nil))) .nil))) .nil)))) .nil)))
      (.cons (.fo (.name 3) (.rng1 (.var 1)) (.cons (.par [7, 8, 9] (.cons (.call 11 (.cons (.var 0) (.cons (.ofL (.lst (.cons (.con (.str "quote")) (.cons (.con (.str "quote")) (.cons (.con (.str "put")) (.cons (.con (.str "list")) (.cons (.con (.str "both")) .nil))))))) .nil))) (.cons (.call 10 (.cons (.var 0) (.cons (.con (.int 5)) .nil))) (.cons (.ofL (.lst .nil)) .nil))))
      (.cons (.fo (.name 6) (.rng1 (.var 8)) (.cons (.as (.name 9) (.op2 .add (.var 9) (.ite (.tru (.op2 .eq (.var 7) (.con (.str "list")))) (.call 11 (.cons (.var 0) (.cons (.var 5) .nil))) (.call 11 (.cons (.var 0) (.cons (.var 4) .nil))))))
      .nil))
      (.cons (.ite (.tru (.op2 .gt (.bi .len (.cons (.var 9) .nil)) (.var 2))) (.cons (.par [8, 9] (.cons (.con (.int 0)) (.cons (.ofL (.lst .nil)) .nil)))
      .nil) .nil)
      (.cons (.ite (.tru (.op2 .eq (.var 7) (.con (.str "put")))) (.cons (.ex (.me .append (.var 4) (.cons (.op2 .add (.ofL (.lst (.cons (.tup (.cons (.con (.str "put")) (.cons (.con (.int 1)) .nil))) .nil))) (.call 11 (.cons (.var 0) (.cons (.var 5) .nil)))) .nil)))
      .nil) (.cons (.ite (.tru (.op2 .eq (.var 7) (.con (.str "list")))) (.cons (.ex (.me .append (.var 5) (.cons (.op2 .add (.ofL (.lst (.cons (.tup (.cons (.con (.str "list")) (.cons (.var 8) .nil))) .nil))) (.var 9)) .nil)))
      .nil) (.cons (.ex (.me .append (.var 4) (.cons (.op2 .add (.ofL (.lst (.cons (.tup (.cons (.con (.str "quote")) (.cons (.var 8) .nil))) .nil))) (.var 9)) .nil)))
      (.cons (.ex (.me .append (.var 5) (.cons (.op2 .add (.ofL (.lst (.cons (.tup (.cons (.con (.str "quote")) (.cons (.var 8) .nil))) .nil))) (.var 9)) .nil)))
      .nil)))
      .nil))
      (.cons (.ex (.me .append (.var 4) (.cons (.ofL (.lst (.cons (.call 15 (.cons (.var 0) (.cons (.con (.bl true)) .nil))) .nil))) .nil)))
      (.cons (.ex (.me .append (.var 5) (.cons (.ofL (.lst (.cons (.call 15 (.cons (.var 0) (.cons (.con (.bl false)) .nil))) .nil))) .nil)))
      .nil)))))))
      (.cons (.rt (.tup (.cons (.var 4) (.cons (.var 5) .nil))))
      .nil)))
def d__law_drawn : Fd := ⟨"_law_drawn", ["bag", "turns", "most"], ["bag", "turns", "most", "turn", "items", "values", "time", "kind", "many", "found"], topS 28, b__law_drawn⟩
def b__law_drawn_signs : Ss := (.cons (.par [5, 6] (.cons (.ix (.call 16 (.cons (.var 0) (.cons (.var 1) (.cons (.var 2) .nil)))) (.con (.int 0))) (.cons (.ofL (.lst .nil)) .nil)))
      (.cons (.fo (.name 4) (.rng1 (.call 10 (.cons (.var 0) (.cons (.op2 .add (.var 3) (.con (.int 1))) .nil)))) (.cons (.as (.name 6) (.op2 .add (.var 6) (.call 11 (.cons (.var 0) (.cons (.op2 .add (.sl (.var 5) (.some (.op1 .neg (.con (.int 4)))) .none) (.var 5)) .nil)))))
      .nil))
      (.cons (.rt (.var 6))
      .nil)))
def d__law_drawn_signs : Fd := ⟨"_law_drawn_signs", ["bag", "turns", "most", "many"], ["bag", "turns", "most", "many", "turn", "items", "found"], topS 29, b__law_drawn_signs⟩
def b__law_odd_item : Ss := (.cons (.as (.name 1) (.ofL (.lst (.cons (.con .non) (.cons (.con (.str "")) (.cons (.con (.str "Dup")) (.cons (.op2 .mul (.con (.str "a")) (.con (.int 13))) (.cons (.con (.str "list")) (.cons (.con (.str "put")) (.cons (.con (.str "true")) (.cons (.con (.str "false")) (.cons (.op2 .add (.op2 .pow (.con (.int 10)) (.con (.int 18))) (.con (.int 1))) (.cons (.op2 .sub (.op1 .neg (.op2 .pow (.con (.int 10)) (.con (.int 18)))) (.con (.int 1))) (.cons (.tup (.cons (.con (.str "list")) (.cons (.tup .nil) .nil))) (.cons (.tup (.cons (.con (.str "quote")) .nil)) (.cons (.tup .nil) .nil))))))))))))))))
      (.cons (.as (.name 1) (.op2 .add (.var 1) (.ofL (.lst (.cons (.tup (.cons (.con (.str "quote")) (.cons (.ofL (.lst .nil)) .nil))) (.cons (.tup (.cons (.con (.str "quote")) (.cons (.con (.int 5)) .nil))) (.cons (.ofL (.lst (.cons (.con (.str "quote")) (.cons (.tup .nil) .nil)))) (.cons (.tup (.cons (.con (.str "put")) .nil)) (.cons (.tup (.cons (.con (.str "put")) (.cons (.con (.str "dup")) .nil))) (.cons (.tup (.cons (.con (.str "put")) (.cons (.con .non) .nil))) (.cons (.tup (.cons (.con (.str "take")) (.cons (.tup .nil) .nil))) (.cons (.tup (.cons (.con (.str "put")) (.cons (.tup .nil) .nil))) .nil))))))))))))
      (.cons (.as (.name 1) (.op2 .add (.var 1) (.ofL (.lst (.cons (.tup (.cons (.con (.str "quote")) (.cons (.tup .nil) (.cons (.tup .nil) .nil)))) (.cons (.con (.str "a b")) (.cons (.con (.str "a1")) (.cons (.con (.str "dup ")) (.cons (.tup (.cons (.con (.str "dup")) .nil)) (.cons (.dic false .nil .nil) (.cons (.tup (.cons (.con (.str "quote")) (.cons (.con .non) .nil))) (.cons (.tup (.cons (.con (.str "put")) (.cons (.tup (.cons (.con (.str "put")) (.cons (.con (.int 3)) .nil))) .nil))) (.cons (.tup (.cons (.con (.str "put")) (.cons (.con (.int 3)) (.cons (.con (.int 4)) .nil)))) (.cons (.ofL (.lst .nil)) .nil))))))))))))))
      (.cons (.as (.name 1) (.op2 .add (.var 1) (.ofL (.lst (.cons (.tup (.cons (.con (.str "put")) (.cons (.tup (.cons (.con (.str "list")) (.cons (.ofL (.lst (.cons (.con (.int 1)) .nil))) .nil))) .nil))) (.cons (.tup (.cons (.con (.str "quote")) (.cons (.con (.str "dup")) .nil))) (.cons (.tup (.cons (.con (.str "put")) (.cons (.tup (.cons (.con (.str "list")) (.cons (.tup (.cons (.con (.str "add")) .nil)) .nil))) .nil))) (.cons (.con (.str "-")) (.cons (.con (.str "~5")) (.cons (.op2 .sub (.op2 .pow (.con (.int 10)) (.con (.int 60))) (.con (.int 1))) (.cons (.tup (.cons (.con (.str "put")) (.cons (.tup (.cons (.con (.str "quote")) .nil)) .nil))) .nil)))))))))))
      (.cons (.rt (.call 11 (.cons (.var 0) (.cons (.var 1) .nil))))
      .nil)))))
def d__law_odd_item : Fd := ⟨"_law_odd_item", ["bag"], ["bag", "odd"], topS 30, b__law_odd_item⟩
def b__law_odd_value : Ss := (.cons (.as (.name 1) (.ofL (.lst (.cons (.con .non) (.cons (.con (.str "dup")) (.cons (.con (.str "")) (.cons (.tup (.cons (.con (.str "put")) (.cons (.con (.int 3)) .nil))) (.cons (.tup (.cons (.con (.str "put")) (.cons (.tup (.cons (.con (.str "list")) (.cons (.tup .nil) .nil))) .nil))) (.cons (.op2 .add (.op2 .pow (.con (.int 10)) (.con (.int 18))) (.con (.int 1))) (.cons (.op2 .sub (.op1 .neg (.op2 .pow (.con (.int 10)) (.con (.int 18)))) (.con (.int 1))) (.cons (.tup (.cons (.con (.str "list")) .nil)) (.cons (.tup (.cons (.con (.str "list")) (.cons (.ofL (.lst .nil)) .nil))) (.cons (.ofL (.lst (.cons (.con (.str "list")) (.cons (.tup .nil) .nil)))) (.cons (.tup .nil) .nil))))))))))))))
      (.cons (.as (.name 1) (.op2 .add (.var 1) (.ofL (.lst (.cons (.tup (.cons (.con (.str "quote")) (.cons (.ofL (.lst .nil)) .nil))) (.cons (.tup (.cons (.con (.str "quote")) .nil)) (.cons (.tup (.cons (.con (.str "quote")) (.cons (.con (.int 3)) .nil))) (.cons (.tup (.cons (.con (.str "list")) (.cons (.con (.int 4)) .nil))) (.cons (.tup (.cons (.con (.str "list")) (.cons (.tup .nil) (.cons (.tup .nil) .nil)))) (.cons (.tup (.cons (.con (.int 1)) (.cons (.con (.int 2)) .nil))) (.cons (.dic false .nil .nil) (.cons (.tup (.cons (.con (.str "list")) (.cons (.con .non) .nil))) (.cons (.tup (.cons (.con (.str "list")) (.cons (.con (.str "dup")) .nil))) .nil)))))))))))))
      (.cons (.rt (.call 11 (.cons (.var 0) (.cons (.op2 .add (.var 1) (.ofL (.lst (.cons (.tup (.cons (.con (.str "quote")) (.cons (.tup (.cons (.con .non) .nil)) .nil))) (.cons (.tup (.cons (.con (.str "list")) (.cons (.tup (.cons (.con (.str "add")) .nil)) .nil))) (.cons (.tup (.cons (.con (.str "quote")) (.cons (.tup (.cons (.tup (.cons (.con (.str "list")) (.cons (.tup .nil) .nil))) .nil)) .nil))) (.cons (.tup (.cons (.con (.bl true)) .nil)) (.cons (.ofL (.lst .nil)) (.cons (.con (.str "true")) .nil))))))))) .nil))))
      .nil)))
def d__law_odd_value : Fd := ⟨"_law_odd_value", ["bag"], ["bag", "odd"], topS 31, b__law_odd_value⟩
def b__law_spoiled : Ss := (.cons (.par [5, 6] (.cons (.call 13 (.cons (.var 1) (.cons (.var 2) .nil))) (.cons (.call 10 (.cons (.var 0) (.cons (.bi .len (.cons (.var 1) .nil)) .nil))) .nil)))
      (.cons (.as (.name 3) (.op2 .add (.var 6) (.con (.int 1))))
      (.cons (.wh (.and (.tru (.op2 .lt (.var 3) (.bi .len (.cons (.var 1) .nil)))) (.tru (.op2 .gt (.ix (.ix (.var 5) (.var 3)) (.con (.int 0))) (.ix (.ix (.var 5) (.var 6)) (.con (.int 0)))))) (.cons (.as (.name 3) (.op2 .add (.var 3) (.con (.int 1))))
      .nil))
      (.cons (.as (.name 4) (.ite (.tru (.op2 .eq (.ix (.ix (.var 5) (.var 6)) (.con (.int 1))) (.con (.str "quote")))) (.call 18 (.cons (.var 0) .nil)) (.call 19 (.cons (.var 0) .nil))))
      (.cons (.rt (.op2 .add (.op2 .add (.sl (.var 1) .none (.some (.var 6))) (.ofL (.lst (.cons (.tup (.cons (.con (.str "leaf")) (.cons (.var 4) .nil))) .nil)))) (.sl (.var 1) (.some (.var 3)) .none)))
      .nil)))))
def d__law_spoiled : Fd := ⟨"_law_spoiled", ["bag", "signs", "outside"], ["bag", "signs", "outside", "end", "odd", "levels", "at"], topS 32, b__law_spoiled⟩
def b__law_are_right : Ss := (.cons (.as (.name 1) (.call 17 (.cons (.var 0) (.cons (.con (.int 9)) (.cons (.con (.int 60)) (.cons (.con (.int 6)) .nil))))))
      (.cons (.as (.name 2) (.call 12 (.cons (.var 1) .nil)))
      (.cons (.ite (.or (.tru (.op2 .isnot (.call 6 (.cons (.var 2) .nil)) (.con (.bl true)))) (.or (.tru (.op2 .isnot (.call 7 (.cons (.tup (.cons (.con (.str "quote")) (.cons (.var 2) .nil))) .nil)) (.con (.bl true)))) (.tru (.op2 .isnot (.call 6 (.cons (.bl .list (.val (.var 2))) .nil)) (.con (.bl false)))))) (.cons (.rt (.con (.bl false)))
      .nil) .nil)
      (.cons (.as (.name 3) (.ofL (.lc (.var 6) [6] (.name 6) (.val (.var 2)) (.or (.tru (.isin (.var 6) [.str])) (.and (.tru (.isin (.var 6) [.tuple])) (.tru (.op2 .eq (.ix (.var 6) (.con (.int 0))) (.con (.str "put")))))))))
      (.cons (.ite (.or (.tru (.op2 .ne (.bi .repr (.cons (.call 8 (.cons (.var 2) .nil)) .nil)) (.bi .repr (.cons (.op2 .eq (.var 3) (.ofL (.lst .nil))) .nil)))) (.tru (.op2 .isnot (.call 7 (.cons (.var 2) .nil)) (.con (.bl false))))) (.cons (.rt (.con (.bl false)))
      .nil) .nil)
      (.cons (.ite (.tru (.op2 .gt (.bi .len (.cons (.var 1) .nil)) (.con (.int 0)))) (.cons (.as (.name 4) (.call 12 (.cons (.call 20 (.cons (.var 0) (.cons (.var 1) (.cons (.con (.str "quote")) .nil)))) .nil)))
      (.cons (.ite (.or (.tru (.op2 .isnot (.call 6 (.cons (.var 4) .nil)) (.con (.bl false)))) (.tru (.op2 .isnot (.call 7 (.cons (.tup (.cons (.con (.str "quote")) (.cons (.var 4) .nil))) .nil)) (.con (.bl false))))) (.cons (.rt (.con (.bl false)))
      .nil) .nil)
      (.cons (.ite (.or (.tru (.op2 .isnot (.call 6 (.cons (.tup (.cons (.con (.int 3)) (.cons (.tup (.cons (.con (.str "put")) (.cons (.tup (.cons (.con (.str "list")) (.cons (.tup (.cons (.tup (.cons (.con (.str "quote")) (.cons (.var 4) .nil))) .nil)) .nil))) .nil))) .nil))) .nil)) (.con (.bl false)))) (.tru (.op2 .isnot (.call 8 (.cons (.tup (.cons (.con (.int 4)) (.cons (.tup (.cons (.con (.str "quote")) (.cons (.var 4) .nil))) .nil))) .nil)) (.con (.bl false))))) (.cons (.rt (.con (.bl false)))
      .nil) .nil)
      .nil))) .nil)
      (.cons (.as (.name 1) (.call 11 (.cons (.var 0) (.cons (.sl (.ix (.call 16 (.cons (.var 0) (.cons (.con (.int 8)) (.cons (.con (.int 60)) .nil)))) (.con (.int 1))) (.some (.op1 .neg (.con (.int 4)))) .none) .nil))))
      (.cons (.par [5, 4] (.cons (.ix (.call 12 (.cons (.var 1) .nil)) (.con (.int 0))) (.cons (.ix (.call 12 (.cons (.call 20 (.cons (.var 0) (.cons (.var 1) (.cons (.con (.str "list")) .nil)))) .nil)) (.con (.int 0))) .nil)))
      (.cons (.ite (.or (.tru (.op2 .isnot (.call 7 (.cons (.var 5) .nil)) (.con (.bl true)))) (.or (.tru (.op2 .isnot (.call 8 (.cons (.tup (.cons (.var 5) (.cons (.con (.bl true)) (.cons (.var 5) .nil)))) .nil)) (.con (.bl true)))) (.tru (.op2 .isnot (.call 6 (.cons (.tup (.cons (.tup (.cons (.con (.str "put")) (.cons (.var 5) .nil))) .nil)) .nil)) (.con (.bl true)))))) (.cons (.rt (.con (.bl false)))
      .nil) .nil)
      (.cons (.ite (.or (.tru (.op2 .isnot (.call 7 (.cons (.var 4) .nil)) (.con (.bl false)))) (.or (.tru (.op2 .isnot (.call 8 (.cons (.tup (.cons (.var 5) (.cons (.var 4) .nil))) .nil)) (.con (.bl false)))) (.tru (.op2 .isnot (.call 6 (.cons (.tup (.cons (.tup (.cons (.con (.str "put")) (.cons (.var 4) .nil))) (.cons (.con (.str "dup")) .nil))) .nil)) (.con (.bl false)))))) (.cons (.rt (.con (.bl false)))
      .nil) .nil)
      (.cons (.rt (.and (.op2 .is (.call 8 (.cons (.ofL (.lst (.cons (.var 5) .nil))) .nil)) (.con (.bl false))) (.and (.op2 .is (.call 8 (.cons (.tup (.cons (.tup (.cons (.con (.str "put")) (.cons (.var 5) .nil))) .nil)) .nil)) (.con (.bl false))) (.op2 .is (.call 6 (.cons (.tup (.cons (.tup (.cons (.con (.str "list")) (.cons (.tup (.cons (.var 5) .nil)) .nil))) .nil)) .nil)) (.con (.bl false))))))
      .nil)))))))))))
def d__law_are_right : Fd := ⟨"_law_are_right", ["bag"], ["bag", "signs", "program", "others", "wrong", "value", "item"], topS 33, b__law_are_right⟩
def b__law_are_sizes_right : Ss := (.cons (.par [1, 3] (.cons (.call 10 (.cons (.var 0) (.cons (.con (.int 998)) .nil))) (.cons (.call 11 (.cons (.var 0) (.cons (.ofL (.lst (.cons (.con (.int 4)) (.cons (.con (.bl true)) (.cons (.tup (.cons (.con (.str "quote")) (.cons (.tup .nil) .nil))) .nil))))) .nil))) .nil)))
      (.cons (.fo (.tup [4, 5]) (.lis (.lst (.cons (.tup (.cons (.op2 .sub (.con (.int 999)) (.var 1)) (.cons (.con (.bl true)) .nil))) (.cons (.tup (.cons (.op2 .sub (.con (.int 1000)) (.var 1)) (.cons (.con (.bl false)) .nil))) .nil)))) (.cons (.as (.name 6) (.op2 .add (.op2 .mul (.tup (.cons (.var 3) .nil)) (.var 4)) (.tup (.cons (.tup (.cons (.con (.str "quote")) (.cons (.op2 .mul (.tup (.cons (.con (.str "dup")) .nil)) (.var 1)) .nil))) .nil))))
      (.cons (.as (.name 7) (.bi .repr (.cons (.var 5) .nil)))
      (.cons (.ite (.or (.tru (.op2 .ne (.bi .repr (.cons (.call 6 (.cons (.var 6) .nil)) .nil)) (.var 7))) (.tru (.op2 .ne (.bi .repr (.cons (.call 7 (.cons (.tup (.cons (.con (.str "quote")) (.cons (.sl (.var 6) (.some (.con (.int 1))) .none) .nil))) .nil)) .nil)) (.var 7)))) (.cons (.rt (.con (.bl false)))
      .nil) .nil)
      (.cons (.ite (.tru (.op2 .ne (.bi .repr (.cons (.call 7 (.cons (.tup (.cons (.con (.str "list")) (.cons (.sl (.var 6) (.some (.con (.int 1))) .none) .nil))) .nil)) .nil)) (.var 7))) (.cons (.rt (.con (.bl false)))
      .nil) .nil)
      (.cons (.ite (.tru (.op2 .ne (.bi .repr (.cons (.call 6 (.cons (.op2 .add (.tup (.cons (.tup (.cons (.con (.str "put")) (.cons (.tup (.cons (.con (.str "list")) (.cons (.op2 .mul (.tup (.cons (.var 3) .nil)) (.var 1)) .nil))) .nil))) .nil)) (.op2 .mul (.tup (.cons (.con (.str "swap")) .nil)) (.op2 .sub (.var 4) (.con (.int 1))))) .nil)) .nil)) (.var 7))) (.cons (.rt (.con (.bl false)))
      .nil) .nil)
      (.cons (.ite (.tru (.op2 .ne (.bi .repr (.cons (.call 7 (.cons (.tup (.cons (.con (.str "list")) (.cons (.op2 .add (.tup (.cons (.tup (.cons (.con (.str "list")) (.cons (.op2 .mul (.tup (.cons (.var 3) .nil)) (.var 1)) .nil))) .nil)) (.op2 .mul (.tup (.cons (.con (.int 3)) .nil)) (.op2 .sub (.var 4) (.con (.int 1))))) .nil))) .nil)) .nil)) (.var 7))) (.cons (.rt (.con (.bl false)))
      .nil) .nil)
      .nil)))))))
      (.cons (.as (.name 1) (.op2 .add (.con (.int 150)) (.call 10 (.cons (.var 0) (.cons (.con (.int 51)) .nil)))))
      (.cons (.as (.name 2) (.op2 .add (.op2 .mul (.tup (.cons (.var 3) .nil)) (.var 1)) (.op2 .mul (.tup (.cons (.tup (.cons (.con (.str "list")) (.cons (.op2 .mul (.tup (.cons (.var 3) .nil)) (.con (.int 300))) .nil))) .nil)) (.op2 .sub (.con (.int 200)) (.var 1)))))
      (.cons (.rt (.and (.op2 .is (.call 8 (.cons (.var 2) .nil)) (.con (.bl true))) (.and (.op2 .is (.call 8 (.cons (.op2 .add (.var 2) (.tup (.cons (.con (.int 1)) .nil))) .nil)) (.con (.bl false))) (.and (.op2 .is (.call 8 (.cons (.tup .nil) .nil)) (.con (.bl true))) (.op2 .is (.call 6 (.cons (.tup .nil) .nil)) (.con (.bl true)))))))
      .nil)))))
def d__law_are_sizes_right : Fd := ⟨"_law_are_sizes_right", ["bag"], ["bag", "many", "pile", "leaf", "left", "is_let", "program", "due"], topS 34, b__law_are_sizes_right⟩
def b__law_are_depths_right : Ss := (.cons (.par [3, 4] (.cons (.call 11 (.cons (.var 0) (.cons (.ofL (.lst (.cons (.con (.int 3)) (.cons (.con (.bl false)) (.cons (.tup (.cons (.con (.str "quote")) (.cons (.tup .nil) .nil))) (.cons (.tup (.cons (.con (.str "list")) (.cons (.tup .nil) .nil))) .nil)))))) .nil))) (.cons (.con (.int 1)) .nil)))
      (.cons (.fo (.name 1) (.rng1 (.con (.int 28))) (.cons (.as (.name 5) (.call 11 (.cons (.var 0) (.cons (.ofL (.lst (.cons (.con (.str "list")) (.cons (.con (.str "quote")) (.cons (.con (.str "put")) .nil))))) .nil))))
      (.cons (.ite (.and (.tru (.op2 .eq (.var 5) (.con (.str "put")))) (.tru (.op2 .lt (.var 4) (.con (.int 28))))) (.cons (.par [3, 4] (.cons (.tup (.cons (.con (.str "quote")) (.cons (.tup (.cons (.con (.str "dup")) (.cons (.tup (.cons (.con (.str "put")) (.cons (.var 3) .nil))) .nil))) .nil))) (.cons (.op2 .add (.var 4) (.con (.int 2))) .nil)))
      .nil) (.cons (.ite (.and (.tru (.op2 .eq (.var 5) (.con (.str "quote")))) (.and (.or (.not (.tru (.isin (.var 3) [.tuple]))) (.tru (.op2 .eq (.ix (.var 3) (.con (.int 0))) (.con (.str "quote"))))) (.tru (.op2 .lt (.var 4) (.con (.int 29)))))) (.cons (.par [3, 4] (.cons (.tup (.cons (.con (.str "quote")) (.cons (.tup (.cons (.var 3) (.cons (.con (.int 5)) .nil))) .nil))) (.cons (.op2 .add (.var 4) (.con (.int 1))) .nil)))
      .nil) (.cons (.ite (.tru (.op2 .lt (.var 4) (.con (.int 29)))) (.cons (.par [3, 4] (.cons (.tup (.cons (.con (.str "list")) (.cons (.tup (.cons (.con (.bl true)) (.cons (.var 3) .nil))) .nil))) (.cons (.op2 .add (.var 4) (.con (.int 1))) .nil)))
      .nil) .nil)
      .nil))
      .nil))
      .nil)))
      (.cons (.ite (.or (.tru (.op2 .isnot (.call 6 (.cons (.tup (.cons (.tup (.cons (.con (.str "put")) (.cons (.var 3) .nil))) .nil)) .nil)) (.con (.bl true)))) (.tru (.op2 .isnot (.call 7 (.cons (.tup (.cons (.con (.str "list")) (.cons (.tup (.cons (.var 3) .nil)) .nil))) .nil)) (.con (.bl true))))) (.cons (.rt (.con (.bl false)))
      .nil) .nil)
      (.cons (.as (.name 2) (.tup (.cons (.con (.str "list")) (.cons (.tup (.cons (.var 3) (.cons (.con (.int 1)) .nil))) .nil))))
      (.cons (.ite (.or (.tru (.op2 .isnot (.call 6 (.cons (.tup (.cons (.tup (.cons (.con (.str "put")) (.cons (.var 2) .nil))) .nil)) .nil)) (.con (.bl false)))) (.or (.tru (.op2 .isnot (.call 7 (.cons (.var 2) .nil)) (.con (.bl true)))) (.tru (.op2 .isnot (.call 7 (.cons (.tup (.cons (.con (.str "list")) (.cons (.tup (.cons (.var 2) .nil)) .nil))) .nil)) (.con (.bl false)))))) (.cons (.rt (.con (.bl false)))
      .nil) .nil)
      (.cons (.rt (.and (.op2 .is (.call 8 (.cons (.tup (.cons (.var 2) (.cons (.tup (.cons (.con (.str "list")) (.cons (.tup (.cons (.var 2) .nil)) .nil))) .nil))) .nil)) (.con (.bl false))) (.op2 .is (.call 8 (.cons (.op2 .mul (.tup (.cons (.var 2) .nil)) (.con (.int 5))) .nil)) (.con (.bl true)))))
      .nil))))))
def d__law_are_depths_right : Fd := ⟨"_law_are_depths_right", ["bag"], ["bag", "turn", "deeper", "value", "deep", "wrap"], topS 35, b__law_are_depths_right⟩
def b_law : Ss := (.cons (.as (.name 1) (.call 9 (.cons (.var 0) .nil)))
      (.cons (.ite (.or (.tru (.op2 .isnot (.call 6 (.cons (.tup (.cons (.op2 .pow (.con (.int 10)) (.con (.int 18))) (.cons (.op1 .neg (.op2 .pow (.con (.int 10)) (.con (.int 18)))) (.cons (.op2 .mul (.con (.str "a")) (.con (.int 12))) .nil)))) .nil)) (.con (.bl true)))) (.tru (.op2 .isnot (.call 6 (.cons (.tup (.cons (.op2 .add (.op2 .pow (.con (.int 10)) (.con (.int 18))) (.con (.int 1))) .nil)) .nil)) (.con (.bl false))))) (.cons (.rt (.con (.bl false)))
      .nil) .nil)
      (.cons (.ite (.or (.tru (.op2 .isnot (.call 7 (.cons (.con (.str "add")) .nil)) (.con (.bl false)))) (.or (.tru (.op2 .isnot (.call 7 (.cons (.op1 .neg (.op2 .pow (.con (.int 10)) (.con (.int 18)))) .nil)) (.con (.bl true)))) (.tru (.op2 .isnot (.call 7 (.cons (.op2 .sub (.op1 .neg (.op2 .pow (.con (.int 10)) (.con (.int 18)))) (.con (.int 1))) .nil)) (.con (.bl false)))))) (.cons (.rt (.con (.bl false)))
      .nil) .nil)
      (.cons (.fo (.name 2) (.rng1 (.con (.int 3))) (.cons (.ite (.not (.tru (.call 21 (.cons (.var 1) .nil)))) (.cons (.rt (.con (.bl false)))
      .nil) .nil)
      .nil))
      (.cons (.rt (.and (.call 22 (.cons (.var 1) .nil)) (.call 23 (.cons (.var 1) .nil))))
      .nil)))))
def d_law : Fd := ⟨"law", ["script"], ["script", "bag", "lap"], topS 36, b_law⟩
def fds : List Fd := [d_is_integer, d_is_name, d_is_told, d_is_number_value, d_inner_rows, d_is_bounded, d_is_program, d_is_value, d_is_pile, d__law_bag, d__law_pick, d__law_some, d__law_built, d__law_levels, d__law_word, d__law_leaf, d__law_drawn, d__law_drawn_signs, d__law_odd_item, d__law_odd_value, d__law_spoiled, d__law_are_right, d__law_are_sizes_right, d__law_are_depths_right, d_law]
def gc : GC := ⟨[("is_integer", 1), ("is_name", 1), ("is_told", 2), ("is_number_value", 1), ("inner_rows", 2), ("is_bounded", 1), ("is_program", 1), ("is_value", 1), ("is_pile", 1), ("_law_bag", 1), ("_law_pick", 2), ("_law_some", 2), ("_law_built", 1), ("_law_levels", 2), ("_law_word", 1), ("_law_leaf", 2), ("_law_drawn", 3), ("_law_drawn_signs", 4), ("_law_odd_item", 1), ("_law_odd_value", 1), ("_law_spoiled", 3), ("_law_are_right", 1), ("_law_are_sizes_right", 1), ("_law_are_depths_right", 1), ("law", 1)], ["LETTERS", "MOST_NAME", "MOST_INTEGER", "MOST_ITEMS", "MOST_DEEP", "MOST_PILE", "QUOTE", "PUT", "LIST", "KEPT"], ["abs", "all", "bool", "int", "isinstance", "len", "list", "range", "repr", "str", "tuple"]⟩
def con : List D := [(.str "abcdefghijklmnopqrstuvwxyz"), (.int 12), (.int 1000000000000000000), (.int 1000), (.int 30), (.int 200), (.str "quote"), (.str "put"), (.str "list"), (.tup [(.str "true"), (.str "false"), (.str "list"), (.str "put")])]
def fuel : Nat := 100000
def run (n k : Nat) (args : List D) (M : Sto) : Out D := callN (fds.map Fd.fr) con fuel n k args M
def Φ (n : Nat) : Fns := ⟨run n, con, fuel⟩
@[simp] theorem Φ_call (n : Nat) : (Φ n).call = run n := rfl
@[simp] theorem Φ_fuel (n : Nat) : (Φ n).fuel = fuel := rfl
@[simp] theorem Φ_con0 (n : Nat) : (Φ n).con[0]? = some (.str "abcdefghijklmnopqrstuvwxyz") := rfl
@[simp] theorem Φ_con1 (n : Nat) : (Φ n).con[1]? = some (.int 12) := rfl
@[simp] theorem Φ_con2 (n : Nat) : (Φ n).con[2]? = some (.int 1000000000000000000) := rfl
@[simp] theorem Φ_con3 (n : Nat) : (Φ n).con[3]? = some (.int 1000) := rfl
@[simp] theorem Φ_con4 (n : Nat) : (Φ n).con[4]? = some (.int 30) := rfl
@[simp] theorem Φ_con5 (n : Nat) : (Φ n).con[5]? = some (.int 200) := rfl
@[simp] theorem Φ_con6 (n : Nat) : (Φ n).con[6]? = some (.str "quote") := rfl
@[simp] theorem Φ_con7 (n : Nat) : (Φ n).con[7]? = some (.str "put") := rfl
@[simp] theorem Φ_con8 (n : Nat) : (Φ n).con[8]? = some (.str "list") := rfl
@[simp] theorem Φ_con9 (n : Nat) : (Φ n).con[9]? = some (.tup [(.str "true"), (.str "false"), (.str "list"), (.str "put")]) := rfl
theorem r_is_integer (n : Nat) (a0 : D) (M : Sto) : run (n + 1) 0 [a0] M = retOf (denSs (Φ n) b_is_integer [some a0] M) := callN_eq (r := d_is_integer.fr) rfl rfl
theorem r_is_name (n : Nat) (a0 : D) (M : Sto) : run (n + 1) 1 [a0] M = retOf (denSs (Φ n) b_is_name [some a0, none] M) := callN_eq (r := d_is_name.fr) rfl rfl
theorem r_is_told (n : Nat) (a0 a1 : D) (M : Sto) : run (n + 1) 2 [a0, a1] M = retOf (denSs (Φ n) b_is_told [some a0, some a1] M) := callN_eq (r := d_is_told.fr) rfl rfl
theorem r_is_number_value (n : Nat) (a0 : D) (M : Sto) : run (n + 1) 3 [a0] M = retOf (denSs (Φ n) b_is_number_value [some a0] M) := callN_eq (r := d_is_number_value.fr) rfl rfl
theorem r_inner_rows (n : Nat) (a0 a1 : D) (M : Sto) : run (n + 1) 4 [a0, a1] M = retOf (denSs (Φ n) b_inner_rows [some a0, some a1, none] M) := callN_eq (r := d_inner_rows.fr) rfl rfl
theorem r_is_bounded (n : Nat) (a0 : D) (M : Sto) : run (n + 1) 5 [a0] M = retOf (denSs (Φ n) b_is_bounded [some a0, none, none, none, none, none, none, none, none] M) := callN_eq (r := d_is_bounded.fr) rfl rfl
theorem r_is_program (n : Nat) (a0 : D) (M : Sto) : run (n + 1) 6 [a0] M = retOf (denSs (Φ n) b_is_program [some a0, none] M) := callN_eq (r := d_is_program.fr) rfl rfl
theorem r_is_value (n : Nat) (a0 : D) (M : Sto) : run (n + 1) 7 [a0] M = retOf (denSs (Φ n) b_is_value [some a0] M) := callN_eq (r := d_is_value.fr) rfl rfl
theorem r_is_pile (n : Nat) (a0 : D) (M : Sto) : run (n + 1) 8 [a0] M = retOf (denSs (Φ n) b_is_pile [some a0, none] M) := callN_eq (r := d_is_pile.fr) rfl rfl
theorem r__law_bag (n : Nat) (a0 : D) (M : Sto) : run (n + 1) 9 [a0] M = retOf (denSs (Φ n) b__law_bag [some a0, none, none] M) := callN_eq (r := d__law_bag.fr) rfl rfl
theorem r__law_pick (n : Nat) (a0 a1 : D) (M : Sto) : run (n + 1) 10 [a0, a1] M = retOf (denSs (Φ n) b__law_pick [some a0, some a1, none, none, none] M) := callN_eq (r := d__law_pick.fr) rfl rfl
theorem r__law_some (n : Nat) (a0 a1 : D) (M : Sto) : run (n + 1) 11 [a0, a1] M = retOf (denSs (Φ n) b__law_some [some a0, some a1] M) := callN_eq (r := d__law_some.fr) rfl rfl
theorem r__law_built (n : Nat) (a0 : D) (M : Sto) : run (n + 1) 12 [a0] M = retOf (denSs (Φ n) b__law_built [some a0, none, none, none, none] M) := callN_eq (r := d__law_built.fr) rfl rfl
theorem r__law_levels (n : Nat) (a0 a1 : D) (M : Sto) : run (n + 1) 13 [a0, a1] M = retOf (denSs (Φ n) b__law_levels [some a0, some a1, none, none, none, none] M) := callN_eq (r := d__law_levels.fr) rfl rfl
theorem r__law_word (n : Nat) (a0 : D) (M : Sto) : run (n + 1) 14 [a0] M = retOf (denSs (Φ n) b__law_word [some a0, none, none, none] M) := callN_eq (r := d__law_word.fr) rfl rfl
theorem r__law_leaf (n : Nat) (a0 a1 : D) (M : Sto) : run (n + 1) 15 [a0, a1] M = retOf (denSs (Φ n) b__law_leaf [some a0, some a1, none, none] M) := callN_eq (r := d__law_leaf.fr) rfl rfl
theorem r__law_drawn (n : Nat) (a0 a1 a2 : D) (M : Sto) : run (n + 1) 16 [a0, a1, a2] M = retOf (denSs (Φ n) b__law_drawn [some a0, some a1, some a2, none, none, none, none, none, none, none] M) := callN_eq (r := d__law_drawn.fr) rfl rfl
theorem r__law_drawn_signs (n : Nat) (a0 a1 a2 a3 : D) (M : Sto) : run (n + 1) 17 [a0, a1, a2, a3] M = retOf (denSs (Φ n) b__law_drawn_signs [some a0, some a1, some a2, some a3, none, none, none] M) := callN_eq (r := d__law_drawn_signs.fr) rfl rfl
theorem r__law_odd_item (n : Nat) (a0 : D) (M : Sto) : run (n + 1) 18 [a0] M = retOf (denSs (Φ n) b__law_odd_item [some a0, none] M) := callN_eq (r := d__law_odd_item.fr) rfl rfl
theorem r__law_odd_value (n : Nat) (a0 : D) (M : Sto) : run (n + 1) 19 [a0] M = retOf (denSs (Φ n) b__law_odd_value [some a0, none] M) := callN_eq (r := d__law_odd_value.fr) rfl rfl
theorem r__law_spoiled (n : Nat) (a0 a1 a2 : D) (M : Sto) : run (n + 1) 20 [a0, a1, a2] M = retOf (denSs (Φ n) b__law_spoiled [some a0, some a1, some a2, none, none, none, none] M) := callN_eq (r := d__law_spoiled.fr) rfl rfl
theorem r__law_are_right (n : Nat) (a0 : D) (M : Sto) : run (n + 1) 21 [a0] M = retOf (denSs (Φ n) b__law_are_right [some a0, none, none, none, none, none, none] M) := callN_eq (r := d__law_are_right.fr) rfl rfl
theorem r__law_are_sizes_right (n : Nat) (a0 : D) (M : Sto) : run (n + 1) 22 [a0] M = retOf (denSs (Φ n) b__law_are_sizes_right [some a0, none, none, none, none, none, none, none] M) := callN_eq (r := d__law_are_sizes_right.fr) rfl rfl
theorem r__law_are_depths_right (n : Nat) (a0 : D) (M : Sto) : run (n + 1) 23 [a0] M = retOf (denSs (Φ n) b__law_are_depths_right [some a0, none, none, none, none, none] M) := callN_eq (r := d__law_are_depths_right.fr) rfl rfl
theorem r_law (n : Nat) (a0 : D) (M : Sto) : run (n + 1) 24 [a0] M = retOf (denSs (Φ n) b_law [some a0, none, none] M) := callN_eq (r := d_law.fr) rfl rfl
theorem ck_all : (fds.all (ckF gc)) = true := by decide +kernel
end K00

/-! V: the small syntax over values alone. A list that a name holds alone is a value of that name's slot. -/
namespace PyL
open PySem

/-- values: a list, a dict, an object stands as what it holds -/
inductive W where
  | non | bl (b : Bool) | int (i : Int) | str (s : Str) | tup (xs : List W) | lst (xs : List W)
  | dct (t : Bool) (ks vs : List W) | ins (c : Nat) (ns : List Str) (vs : List W) | fn (k : Nat) (vs : List W)
  deriving Inhabited
abbrev VE := List (Option W)
structure XW where
  cls : Nat
  arg : Option W
inductive R (α : Type) where
  | ok (a : α) (σ : VE)
  | exc (x : XW) (σ : VE)
  | bad
def R.bind {α β : Type} (o : R α) (k : α → VE → R β) : R β :=
  match o with
  | .ok a σ => k a σ
  | .exc x σ => .exc x σ
  | .bad => .bad
@[simp] theorem R.bind_ok {α β : Type} (a : α) (σ : VE) (k : α → VE → R β) : (R.ok a σ).bind k = k a σ := by rw [R.bind]
@[simp] theorem R.bind_exc {α β : Type} (x : XW) (σ : VE) (k : α → VE → R β) : (R.exc x σ : R α).bind k = .exc x σ := by rw [R.bind]
@[simp] theorem R.bind_bad {α β : Type} (k : α → VE → R β) : (R.bad : R α).bind k = .bad := by rw [R.bind]
/-- a value, if there is one -/
def R.opt {α : Type} (o : Option α) (σ : VE) : R α :=
  match o with
  | some a => .ok a σ
  | none => .bad
@[simp] theorem R.opt_some {α : Type} (a : α) (σ : VE) : R.opt (some a) σ = .ok a σ := by rw [R.opt]
@[simp] theorem R.opt_none {α : Type} (σ : VE) : (R.opt none σ : R α) = .bad := by rw [R.opt]
inductive SW where
  | nx (σ : VE) | rt (d : W) (σ : VE) | bk (σ : VE) | ct (σ : VE) | exc (x : XW) (σ : VE) | bad
def SW.ofR {α : Type} (o : R α) (k : α → VE → SW) : SW :=
  match o with
  | .ok a σ => k a σ
  | .exc x σ => .exc x σ
  | .bad => .bad
@[simp] theorem SW.ofR_ok {α : Type} (a : α) (σ : VE) (k : α → VE → SW) : SW.ofR (R.ok a σ) k = k a σ := by rw [SW.ofR]
@[simp] theorem SW.ofR_exc {α : Type} (x : XW) (σ : VE) (k : α → VE → SW) : SW.ofR (R.exc x σ : R α) k = .exc x σ := by rw [SW.ofR]
@[simp] theorem SW.ofR_bad {α : Type} (k : α → VE → SW) : SW.ofR (R.bad : R α) k = .bad := by rw [SW.ofR]
def SW.andThen (o : SW) (k : VE → SW) : SW :=
  match o with
  | .nx σ => k σ
  | o => o
@[simp] theorem SW.andThen_nx (σ : VE) (k : VE → SW) : (SW.nx σ).andThen k = k σ := by rw [SW.andThen]
@[simp] theorem SW.andThen_rt (d : W) (σ : VE) (k : VE → SW) : (SW.rt d σ).andThen k = .rt d σ := rfl
@[simp] theorem SW.andThen_bk (σ : VE) (k : VE → SW) : (SW.bk σ).andThen k = .bk σ := rfl
@[simp] theorem SW.andThen_ct (σ : VE) (k : VE → SW) : (SW.ct σ).andThen k = .ct σ := rfl
@[simp] theorem SW.andThen_exc (x : XW) (σ : VE) (k : VE → SW) : (SW.exc x σ).andThen k = .exc x σ := rfl
@[simp] theorem SW.andThen_bad (k : VE → SW) : SW.bad.andThen k = .bad := rfl
theorem rbind_lazy {α β : Type} {o o' : R α} {k : α → VE → R β} (h : o = o') : o.bind k = o'.bind k := by rw [h]
theorem ofR_lazy {α : Type} {o o' : R α} {k : α → VE → SW} (h : o = o') : SW.ofR o k = SW.ofR o' k := by rw [h]
theorem wandThen_lazy {o o' : SW} {k : VE → SW} (h : o = o') : o.andThen k = o'.andThen k := by rw [h]

/-! ### values as the kit's data -/
mutual
def W.data : W → PyData
  | .non => .none
  | .bl b => .bool b
  | .int i => .int i
  | .str s => .str s
  | .tup xs => .tuple (W.dataL xs)
  | .lst _ => .dict []
  | .dct _ _ _ => .dict []
  | .ins _ _ _ => .dict []
  | .fn _ _ => .dict []
def W.dataL : List W → List PyData
  | [] => []
  | x :: xs => x.data :: W.dataL xs
end
def W.top : W → PyData
  | .lst xs => .list (W.dataL xs)
  | w => w.data
def W.items : W → Option (List W)
  | .tup xs => some xs
  | .lst xs => some xs
  | _ => none
def W.truth : W → Option Bool
  | .non => some false
  | .bl b => some b
  | .int i => some (i != 0)
  | .str s => if s.length ≤ sizeLine then some ((s.length : Int) != 0) else none
  | .tup xs => some (!xs.isEmpty)
  | .lst xs => some (!xs.isEmpty)
  | _ => none
def W.flat : W → Bool
  | .non | .bl _ | .int _ | .str _ => true
  | _ => false

/-! ### primitives -/
def P1.v : P1 → W → Option W
  | .neg, .int i => some (.int (-i))
  | _, _ => none
def vAdd : W → W → Option W
  | .int i, .int j => some (.int (i + j))
  | .str x, .str y => if x.length + y.length ≤ sizeLine then some (.str (x ++ y)) else none
  | .tup xs, .tup ys => if xs.length + ys.length ≤ sizeLine then some (.tup (xs ++ ys)) else none
  | .lst xs, .lst ys => if xs.length + ys.length ≤ sizeLine then some (.lst (xs ++ ys)) else none
  | _, _ => none
def vSub : W → W → Option W
  | .int i, .int j => some (.int (i - j))
  | _, _ => none
def vMul : W → W → Option W
  | .int i, .int j => if (i.natAbs < 2 ^ 64 ∨ j.natAbs < 2 ^ 64) then some (.int (i * j)) else none
  | .str x, .int j => if 2 ≤ j ∧ j ≤ 1000 ∧ 1 ≤ x.length ∧ x.length ≤ 1000 then some (.str ⟨(List.replicate j.toNat x.cps).foldl (· ++ ·) #[]⟩) else none
  | .tup xs, .int j => if -(2 ^ 60) < j ∧ j ≤ 1000 ∧ xs.length ≤ 1000 then some (.tup (List.replicate j.toNat xs).flatten) else none
  | .lst xs, .int j => if -(2 ^ 60) < j ∧ j < 2 ^ 60 ∧ xs.length * j.toNat ≤ sizeLine then some (.lst (List.replicate j.toNat xs).flatten) else none
  | _, _ => none
def vDiv : W → W → Option W
  | .int i, .int j => if j ≠ 0 ∧ j.natAbs < 1073741824 then some (.int (i.fdiv j)) else none
  | _, _ => none
def vMod : W → W → Option W
  | .int i, .int j => if j ≠ 0 then some (.int (i.fmod j)) else none
  | _, _ => none
def vPow : W → W → Option W
  | .int i, .int j => if 0 ≤ j ∧ j ≤ 1000000 ∧ i.natAbs < 2 ^ 64 then some (.int (i ^ j.toNat)) else none
  | _, _ => none
def W.ord (a b : W) : Bool := SeqAt.shaped a.top && SeqAt.shaped b.top
def vEq (a b : W) : Option W := if W.ord a b then some (.bl (PyData.eqv a.top b.top)) else none
def vNe (a b : W) : Option W := if W.ord a b then some (.bl (!PyData.eqv a.top b.top)) else none
def vCmp (f : Int → Int → Bool) : W → W → Option W
  | .int i, .int j => some (.bl (f i j))
  | _, _ => none
def W.is : W → W → Option Bool
  | .non, .non => some true
  | .non, .bl _ => some false
  | .bl a, .bl b => some (a == b)
  | .int _, .bl _ => some false
  | .str _, .bl _ => some false
  | .tup _, .bl _ => some false
  | .lst _, .bl _ => some false
  | .dct _ _ _, .bl _ => some false
  | .ins _ _ _, .bl _ => some false
  | .bl _, .non => some false
  | .int _, .non => some false
  | .str _, .non => some false
  | .tup _, .non => some false
  | .lst _, .non => some false
  | .dct _ _ _, .non => some false
  | .ins _ _ _, .non => some false
  | _, _ => none
def vIs (neg : Bool) (a b : W) : Option W := (W.is a b).map fun r => .bl (r != neg)
def W.isin (a b : W) : Option Bool :=
  match a, b with
  | .str x, .str y => some (!(Builtin.Str.occurrences y x 0 y.length 1).isEmpty)
  | a, b => (match b.items with
    | some xs => if a.flat && xs.all W.flat then some (xs.any fun x => PyData.eqv x.data a.data) else none
    | none => none)
def vIn (neg : Bool) (a b : W) : Option W := (W.isin a b).map fun r => .bl (r != neg)
def P2.v : P2 → W → W → Option W
  | .add => vAdd | .sub => vSub | .mul => vMul | .fdiv => vDiv | .mod => vMod | .pow => vPow
  | .eq => vEq | .ne => vNe
  | .lt => vCmp fun i j => decide (i < j)
  | .le => vCmp fun i j => decide (i ≤ j)
  | .gt => vCmp fun i j => decide (j < i)
  | .ge => vCmp fun i j => decide (j ≤ i)
  | .is => vIs false | .isnot => vIs true | .isin => vIn false | .notin => vIn true
/-- a op= b at a name: ints and texts alone -/
def P2.iv : P2 → W → W → Option W
  | .add, .int i, .int j => some (.int (i + j))
  | .add, .str x, .str y => if x.length + y.length ≤ sizeLine then some (.str (x ++ y)) else none
  | .sub, .int i, .int j => some (.int (i - j))
  | _, _, _ => none
def W.tyIs (d : W) (t : Ty) : Option Bool :=
  match d with
  | .non => some (t == .none)
  | .bl _ => some (t == .bool || t == .int)
  | .int _ => some (t == .int)
  | .str _ => some (t == .str)
  | .tup _ => some (t == .tuple)
  | .lst _ => some (t == .list)
  | .dct _ _ _ => some (t == .dict)
  | .ins c _ _ => some (t == .own c)
  | .fn _ _ => none
def W.tysIs (d : W) : List Ty → Option Bool
  | [] => some false
  | t :: ts => (match d.tyIs t with
    | some true => some true
    | some false => d.tysIs ts
    | none => none)
def W.len : W → Option Nat
  | .str s => if s.length ≤ sizeLine then some s.length else none
  | .tup xs => some xs.length
  | .lst xs => some xs.length
  | .dct _ ks _ => some ks.length
  | _ => none
def wBl : List W → Option (List Bool)
  | [] => some []
  | .bl b :: xs => (wBl xs).map (b :: ·)
  | _ :: _ => none
def wInt : List W → Option (List Int)
  | [] => some []
  | .int i :: xs => (wInt xs).map (i :: ·)
  | _ :: _ => none
def wStr : List W → Option (List Str)
  | [] => some []
  | .str i :: xs => (wStr xs).map (i :: ·)
  | _ :: _ => none
def Bi.v1 : Bi → W → Option W
  | .len, d => d.len.map fun n => .int (n : Nat)
  | .int, .int i => some (.int i)
  | .int, .bl b => some (.int (if b then 1 else 0))
  | .abs, .int i => some (.int (if i < 0 then -i else i))
  | .str, .int i => if i.natAbs.log2 < 1920 then some (.str (toString i)) else none
  | .bool, .int i => some (.bl (i != 0))
  | .bool, .bl b => some (.bl b)
  | .repr, .bl b => some (.str (if b then "True" else "False"))
  | _, _ => none
def Bi.v2 : Bi → W → W → Option W
  | .max2, .int i, .int j => some (.int (if j > i then j else i))
  | .min2, .int i, .int j => some (.int (if j < i then j else i))
  | _, _, _ => none
def Bi.v (b : Bi) : List W → Option W
  | [w] => b.v1 w
  | [w, u] => b.v2 w u
  | _ => none
def BL.v : BL → List W → Option W
  | .tuple, xs => some (.tup xs)
  | .list, xs => some (.lst xs)
  | .len, xs => some (.int xs.length)
  | .all, xs => (wBl xs).map fun bs => .bl (bs.all id)
  | .any, xs => (wBl xs).map fun bs => .bl (bs.any id)
  | .sum, xs => (wInt xs).map fun ns => .int ns.sum
  | _, _ => none

/-! ### items, slices -/
def W.ix (a b : W) : Option W :=
  match b with
  | .int i => (match a with
    | .str z => if z.length ≤ sizeLine then (L2.atI z.cps.toList i).map fun c => .str ⟨#[c]⟩ else none
    | .tup xs => L2.atI xs i
    | .lst xs => L2.atI xs i
    | _ => none)
  | _ => none
def cutW (xs : List W) (lo hi : Option Int) : List W := (xs.drop (HT.sIx xs.length 0 lo)).take (HT.sIx xs.length xs.length hi - HT.sIx xs.length 0 lo)
def W.sl (a : W) (lo hi : Option Int) : Option W :=
  match a with
  | .tup xs => some (.tup (cutW xs lo hi))
  | .str z => if z.length ≤ sizeLine then some (.str (L2.cutS z lo hi)) else none
  | .lst xs => some (.lst (cutW xs lo hi))
  | _ => none
def W.rev : W → Option W
  | .lst xs => some (.lst xs.reverse)
  | _ => none
/-- what a loop goes through -/
def W.iter : W → Option (List W)
  | .tup xs => some xs
  | .lst xs => some xs
  | .str z => some (z.cps.toList.map fun c => .str ⟨#[c]⟩)
  | _ => none
def enumV (i : Nat) : List W → List W
  | [] => []
  | x :: xs => .tup [.int i, x] :: enumV (i + 1) xs
def zipV : List W → List W → List W
  | x :: xs, y :: ys => .tup [x, y] :: zipV xs ys
  | _, _ => []
def noStr : W → Bool
  | .str _ => false
  | _ => true
def rangeW (lo c : Int) (n : Nat) : List W := (List.range n).map fun i => .int (lo + (i : Nat) * c)
def wMany : List Nat → List W → VE → Option VE
  | [], [], σ => some σ
  | i :: is, d :: ds, σ => wMany is ds (σ.set i (some d))
  | _, _, _ => none
def wTg (t : Tg) (d : W) (σ : VE) : Option VE :=
  match t with
  | .name i => some (σ.set i (some d))
  | .tup is => (match d with
    | .tup xs => wMany is xs σ
    | _ => none)
def wWipe (σ : VE) : List Nat → VE
  | [] => σ
  | i :: is => (wWipe σ is).set i none
/-- slots put back as they were -/
def wBack (σ0 : VE) : List Nat → VE → VE
  | [], σ => σ
  | i :: is, σ => (wBack σ0 is σ).set i (σ0[i]?.join)

/-! ### calls -/
inductive FW where
  | ok (a : W) (ps : VE)
  | exc (x : XW) (ps : VE)
  | bad
structure VFns where
  call : Nat → List W → FW
  con : List W
  fuel : Nat
  io : Nat → List Bool
/-- what a call has changed goes back into the names that were handed in -/
def wIo : List Bool → Es → VE → VE → Option VE
  | true :: bs, .cons (.var j) es, ps, σ => (match ps.head? with
    | some (some w) => wIo bs es ps.tail (σ.set j (some w))
    | _ => none)
  | false :: bs, .cons _ es, ps, σ => wIo bs es ps.tail σ
  | [], _, _, σ => some σ
  | _, _, _, _ => none
/-- what is handed in to be written to is taken as it stands when the call begins -/
def wLate : List Bool → Es → List W → VE → Option (List W)
  | true :: bs, .cons (.var j) es, _ :: ds, σ => (match σ[j]? with
    | some (some w) => (wLate bs es ds σ).map (w :: ·)
    | _ => none)
  | false :: bs, .cons _ es, d :: ds, σ => (wLate bs es ds σ).map (d :: ·)
  | [], .nil, [], _ => some []
  | _, _, _, _ => none
def FW.back (o : FW) (bs : List Bool) (es : Es) (σ : VE) : R W :=
  match o with
  | .ok w ps => (match wIo bs es ps σ with
    | some σ' => .ok w σ'
    | none => .bad)
  | .exc x ps => (match wIo bs es ps σ with
    | some σ' => .exc x σ'
    | none => .bad)
  | .bad => .bad

/-! ### places that are written -/
/-- the place within a value: at these numbers -/
def W.upd : List W → W → (W → Option (W × W)) → Option (W × W)
  | [], w, f => f w
  | .int i :: is, .lst xs, f => (match L2.ixN xs.length i with
    | some n => (match xs[n]? with
      | some x => (match W.upd is x f with
        | some (x', r) => some (.lst (xs.set n x'), r)
        | none => none)
      | none => none)
    | none => none)
  | _, _, _ => none
def mApp (v : W) : W → Option (W × W)
  | .lst xs => if xs.length < sizeLine then some (.lst (xs ++ [v]), .non) else none
  | _ => none
def mPp : W → Option (W × W)
  | .lst xs => (match xs[xs.length - 1]? with
    | some d => some (.lst xs.dropLast, d)
    | none => none)
  | _ => none
def mExt (ys : List W) : W → Option (W × W)
  | .lst xs => if xs.length + ys.length ≤ sizeLine then some (.lst (xs ++ ys), .non) else none
  | _ => none
def mSet (i v : W) : W → Option (W × W)
  | .lst xs => (match i with
    | .int j => (match L2.ixN xs.length j with
      | some n => some (.lst (xs.set n v), .non)
      | none => none)
    | _ => none)
  | _ => none
/-- a name's value changed at a place (the numbers from the inside out) -/
def updAt (j : Nat) (is : List W) (f : W → Option (W × W)) (σ : VE) : R W :=
  match σ[j]? with
  | some (some w) => (match W.upd is.reverse w f with
    | some (w', r) => .ok r (σ.set j (some w'))
    | none => .bad)
  | _ => .bad
def meF : Me → List W → W → Option (W × W)
  | .append, [d] => mApp d
  | .pop, [] => mPp
  | _, _ => fun _ => none
/-- a name that is there -/
def okN (j : Nat) (σ : VE) : Bool := match σ[j]? with
  | some (some _) => true
  | _ => false
def W.isL : W → Bool
  | .lst _ => true
  | _ => false
/-- a list at a place -/
def okPl (j : Nat) (is : List W) (σ : VE) : Bool := match σ[j]? with
  | some (some w) => (match is with
    | [] => w.isL
    | [i] => (match w with
      | .lst xs => (match W.ix (.lst xs) i with
        | some (.lst _) => true
        | _ => false)
      | _ => false)
    | _ => false)
  | _ => false
mutual
def D.w : D → Option W
  | .non => some .non
  | .bl b => some (.bl b)
  | .int i => some (.int i)
  | .str s => some (.str s)
  | .tup xs => (D.wL xs).map .tup
  | _ => none
def D.wL : List D → Option (List W)
  | [] => some []
  | x :: xs => match x.w, D.wL xs with
    | some w, some ws => some (w :: ws)
    | _, _ => none
end
def lcV (f : W → VE → R (Option W)) : List W → List W → VE → R (List W)
  | [], acc, σ => .ok acc σ
  | x :: xs, acc, σ => (match f x σ with
    | .ok none σ' => lcV f xs acc σ'
    | .ok (some y) σ' => if acc.length < sizeLine then lcV f xs (acc ++ [y]) σ' else .bad
    | _ => .bad)
section
variable (Φ : VFns)
/-- a comprehension's turn -/
def lcT (elt : VE → R W) (c : VE → R Bool) (ws : List Nat) (tg : Tg) (x : W) (σ : VE) : R (Option W) :=
  match wTg tg x (wWipe σ ws) with
  | none => .bad
  | some σ' => match c σ' with
    | .ok k σ2 => if k = true then (match elt σ2 with
      | .ok d σ3 => .ok (some d) (wBack σ ws σ3)
      | _ => .bad) else .ok none (wBack σ ws σ2)
    | _ => .bad
mutual
def vE : E → VE → R W
  | .var i, σ => (match σ[i]? with
    | some (some d) => .ok d σ
    | _ => .bad)
  | .con d, σ => R.opt d.w σ
  | .glb j, σ => R.opt Φ.con[j]? σ
  | .tup es, σ => (vEs es σ).bind fun ds σ' => if ds.length ≤ sizeLine then .ok (.tup ds) σ' else .bad
  | .ofL l, σ => (vL l σ).bind fun ds σ' => .ok (.lst ds) σ'
  | .dic t .nil .nil, σ => .ok (.dct t [] []) σ
  | .dic _ _ _, _ => .bad
  | .op1 p a, σ => (vE a σ).bind fun d σ' => R.opt (p.v d) σ'
  | .op2 p a b, σ => (vE a σ).bind fun x σ1 => (vE b σ1).bind fun y σ2 => R.opt (p.v x y) σ2
  | .chn p q a b c, σ => (vE a σ).bind fun x σ1 => (vE b σ1).bind fun y σ2 => (R.opt (p.v x y) σ2).bind fun r σ3 =>
    match r with
    | .bl true => (vE c σ3).bind fun z σ4 => R.opt (q.v y z) σ4
    | .bl false => .ok (.bl false) σ3
    | _ => .bad
  | .not a, σ => (vE a σ).bind fun d σ1 => (R.opt d.truth σ1).bind fun k σ2 => .ok (.bl (!k)) σ2
  | .and a b, σ => (vE a σ).bind fun x σ1 => (R.opt x.truth σ1).bind fun k σ2 => if k = true then vE b σ2 else .ok x σ2
  | .or a b, σ => (vE a σ).bind fun x σ1 => (R.opt x.truth σ1).bind fun k σ2 => if k = true then .ok x σ2 else vE b σ2
  | .ite c a b, σ => (vT c σ).bind fun k σ' => if k = true then vE a σ' else vE b σ'
  | .ix a b, σ => (vE a σ).bind fun x σ1 => (vE b σ1).bind fun y σ2 => R.opt (x.ix y) σ2
  | .sl a lo hi, σ => (vE a σ).bind fun x σ1 => (vO lo σ1).bind fun l σ2 => (vO hi σ2).bind fun h σ3 => R.opt (x.sl l h) σ3
  | .rev a, σ => (vE a σ).bind fun x σ1 => R.opt x.rev σ1
  | .isin a ts, σ => (vE a σ).bind fun x σ1 => R.opt ((x.tysIs ts).map .bl) σ1
  | .call k es, σ => (vEs es σ).bind fun ds σ' => (R.opt (wLate (Φ.io k) es ds σ') σ').bind fun ds' σ2 => (Φ.call k ds').back (Φ.io k) es σ2
  | .bi b es, σ => (vEs es σ).bind fun ds σ' => R.opt (b.v ds) σ'
  | .bl b l, σ => (vL l σ).bind fun ds σ' => R.opt (b.v ds) σ'
  | .me m (.var j) es, σ => if okPl j [] σ = true then (vEs es σ).bind fun ds σ' => updAt j [] (meF m ds) σ' else .bad
  | .me m (.ix (.var j) b) es, σ => if okN j σ = true then (vE b σ).bind fun i σ1 => if okPl j [i] σ1 = true then (vEs es σ1).bind fun ds σ' => updAt j [i] (meF m ds) σ' else .bad else .bad
  | .me _ _ _, _ => .bad
  | .ml .extend (.var j) l, σ => if okPl j [] σ = true then (vL l σ).bind fun ds σ' => updAt j [] (mExt ds) σ' else .bad
  | .ml .join o l, σ => (vE o σ).bind fun x σ1 => match x with
    | .str s => (vL l σ1).bind fun ds σ' => (match wStr ds with
      | some ts => if (ts.map (·.length)).sum + ts.length * s.length ≤ 16777216 then .ok (.str (Txt.join s ts)) σ' else .bad
      | none => .bad)
    | _ => .bad
  | .ml _ _ _, _ => .bad
def vEs : Es → VE → R (List W)
  | .nil, σ => .ok [] σ
  | .cons e es, σ => (vE e σ).bind fun d σ1 => (vEs es σ1).bind fun ds σ2 => .ok (d :: ds) σ2
def vO : O → VE → R (Option Int)
  | .none, σ => .ok none σ
  | .some e, σ => (vE e σ).bind fun d σ1 => match d with
    | .int i => .ok (some i) σ1
    | _ => .bad
def vT : T → VE → R Bool
  | .tru e, σ => (vE e σ).bind fun d σ1 => R.opt d.truth σ1
  | .and a b, σ => (vT a σ).bind fun k σ1 => if k = true then vT b σ1 else .ok false σ1
  | .or a b, σ => (vT a σ).bind fun k σ1 => if k = true then .ok true σ1 else vT b σ1
  | .not a, σ => (vT a σ).bind fun k σ1 => .ok (!k) σ1
  | .yes, σ => .ok true σ
def vL : L → VE → R (List W)
  | .val e, σ => (vE e σ).bind fun d σ1 => R.opt d.items σ1
  | .vlst e, σ => (vE e σ).bind fun d σ1 => match d with
    | .lst xs => .ok xs σ1
    | _ => .bad
  | .lst es, σ => (vEs es σ).bind fun ds σ' => if ds.length ≤ sizeLine then .ok ds σ' else .bad
  | .lc elt ws tg it c, σ => (vI it σ).bind fun xs σ1 => if xs.length < Φ.fuel then
      lcV (lcT (vE elt) (vT c) ws tg) xs [] σ1 else .bad
def vI : I → VE → R (List W)
  | .val e, σ => (vE e σ).bind fun d σ1 => R.opt d.iter σ1
  | .rng1 e, σ => (vE e σ).bind fun d σ1 => match d with
    | .int j => if small62 j = true then .ok (rangeW 0 1 j.toNat) σ1 else .bad
    | _ => .bad
  | .rng2 a b, σ => (vE a σ).bind fun x σ1 => (vE b σ1).bind fun y σ2 => match x, y with
    | .int i, .int j => if small62 i && small62 j then .ok (rangeW i 1 (j - i).toNat) σ2 else .bad
    | _, _ => .bad
  | .rng3 a b c, σ => (vE a σ).bind fun x σ1 => (vE b σ1).bind fun y σ2 => (vE c σ2).bind fun z σ3 => match x, y, z with
    | .int i, .int j, .int k => if k ≠ 0 ∧ k.natAbs < 1073741824 ∧ Builtin.Range.small i j k = true ∧ 0 ≤ Builtin.Range.rangeSize i j k then .ok (rangeW i k (Builtin.Range.rangeSize i j k).toNat) σ3 else .bad
    | _, _, _ => .bad
  | .lis l, σ => (vL l σ).bind fun ds σ1 => .ok ds σ1
  | .enu e, σ => (vE e σ).bind fun d σ1 => if noStr d = true then (R.opt d.iter σ1).bind fun xs σ2 => .ok (enumV 0 xs) σ2 else .bad
  | .zip a b, σ => (vE a σ).bind fun x σ1 => (vE b σ1).bind fun y σ2 => if (noStr x && noStr y) = true then
      (R.opt x.iter σ2).bind fun xs σ3 => (R.opt y.iter σ3).bind fun ys σ4 => .ok (zipV xs ys) σ4 else .bad
end
end

/-! ### statements -/
def whileV (c : VE → R Bool) (b : VE → SW) : Nat → VE → SW
  | 0, _ => .bad
  | n + 1, σ => match c σ with
    | .ok true σ1 => (match b σ1 with
      | .nx σ' => whileV c b n σ'
      | .ct σ' => whileV c b n σ'
      | .bk σ' => .nx σ'
      | o => o)
    | .ok false σ1 => .nx σ1
    | .exc x σ1 => .exc x σ1
    | .bad => .bad
def forV (tg : Tg) (b : VE → SW) : List W → VE → SW
  | [], σ => .nx σ
  | x :: xs, σ => match wTg tg x σ with
    | none => .bad
    | some σ1 => match b σ1 with
      | .nx σ' => forV tg b xs σ'
      | .ct σ' => forV tg b xs σ'
      | .bk σ' => .nx σ'
      | o => o
section
variable (Φ : VFns)
mutual
def vS : S → VE → SW
  | .nop, σ => .nx σ
  | .ex e, σ => .ofR (vE Φ e σ) fun _ σ' => .nx σ'
  | .as t e, σ => .ofR (vE Φ e σ) fun d σ' => match wTg t d σ' with
    | some σ2 => .nx σ2
    | none => .bad
  | .par is es, σ => .ofR (vEs Φ es σ) fun ds σ' => match wMany is ds σ' with
    | some σ2 => .nx σ2
    | none => .bad
  | .asub (.var j) i e, σ => .ofR (vE Φ e σ) fun v σ1 => if okPl j [] σ1 = true then .ofR (vE Φ i σ1) fun k σ2 => .ofR (updAt j [] (mSet k v) σ2) fun _ σ3 => .nx σ3 else .bad
  | .asub (.ix (.var j) b) i e, σ => .ofR (vE Φ e σ) fun v σ1 => if okN j σ1 = true then .ofR (vE Φ b σ1) fun p σ2 => if okPl j [p] σ2 = true then .ofR (vE Φ i σ2) fun k σ3 => .ofR (updAt j [p] (mSet k v) σ3) fun _ σ4 => .nx σ4 else .bad else .bad
  | .asub _ _ _, _ => .bad
  | .aug p i e, σ => (match σ[i]? with
    | some (some x) => .ofR (vE Φ e σ) fun y σ1 => .ofR (R.opt (p.iv x y) σ1) fun z σ2 => .nx (σ2.set i (some z))
    | _ => .bad)
  | .rt e, σ => .ofR (vE Φ e σ) fun d σ' => .rt d σ'
  | .rtN, σ => .rt .non σ
  | .ite c a b, σ => .ofR (vT Φ c σ) fun k σ' => if k = true then vSs a σ' else vSs b σ'
  | .wh c b, σ => whileV (vT Φ c) (vSs b) Φ.fuel σ
  | .fo t it b, σ => .ofR (vI Φ it σ) fun xs σ' => if xs.length < Φ.fuel then forV t (vSs b) xs σ' else .bad
  | .br, σ => .bk σ
  | .co, σ => .ct σ
  | .never, _ => .bad
def vSs : Ss → VE → SW
  | .nil, σ => .nx σ
  | .cons s ss, σ => (vS s σ).andThen fun σ' => vSs ss σ'
end
end
/-! ### the defs -/
def endV (np : Nat) : SW → FW
  | .nx σ => .ok .non (σ.take np)
  | .rt d σ => .ok d (σ.take np)
  | .exc x σ => .exc x (σ.take np)
  | _ => .bad
def runV (Φ : VFns) (r : FR) (args : List W) : FW :=
  if args.length = r.np then endV r.np (vSs Φ r.body (args.map some ++ List.replicate (r.ns - r.np) none)) else .bad
def callV (fs : List FR) (io : Nat → List Bool) (con : List W) (fuel : Nat) : Nat → Nat → List W → FW
  | 0, _, _ => .bad
  | n + 1, k, args => match fs[k]? with
    | some r => runV ⟨callV fs io con fuel n, con, fuel, io⟩ r args
    | none => .bad
end PyL

/-! V: how values stand in the store. -/
namespace PyL
open PySem

abbrev Zs := Nat → Prop
mutual
/-- what nobody writes to any more -/
inductive FZ (M : Sto) (Z : Zs) : D → W → Prop
  | non : FZ M Z .non .non
  | bl (b : Bool) : FZ M Z (.bl b) (.bl b)
  | int (i : Int) : FZ M Z (.int i) (.int i)
  | str (s : Str) : FZ M Z (.str s) (.str s)
  | tup {ds : List D} {ws : List W} : FZs M Z ds ws → FZ M Z (.tup ds) (.tup ws)
  | lst {n : Nat} {ds : List D} {ws : List W} : Z n → M[n]? = some (.lst ds) → FZs M Z ds ws → FZ M Z (.ref n) (.lst ws)
  | dct {n : Nat} {t : Bool} {kvs : List (D × D)} {ks vs : List W} : Z n → M[n]? = some (.dct t kvs) → FZs M Z (kvs.map (·.1)) ks → FZs M Z (kvs.map (·.2)) vs → FZ M Z (.ref n) (.dct t ks vs)
  | ins {n c : Nat} {fs : List (Str × D)} {vs : List W} : Z n → M[n]? = some (.ins c fs) → FZs M Z (fs.map (·.2)) vs → FZ M Z (.ref n) (.ins c (fs.map (·.1)) vs)
inductive FZs (M : Sto) (Z : Zs) : List D → List W → Prop
  | nil : FZs M Z [] []
  | cons {d : D} {w : W} {ds : List D} {ws : List W} : FZ M Z d w → FZs M Z ds ws → FZs M Z (d :: ds) (w :: ws)
end
section
variable {M M' : Sto} {Z Z' : Zs}
mutual
theorem FZ.step (h : ∀ n, Z n → M'[n]? = M[n]?) (hz : ∀ n, Z n → Z' n) : ∀ {d : D} {w : W}, FZ M Z d w → FZ M' Z' d w
  | _, _, .non => .non
  | _, _, .bl b => .bl b
  | _, _, .int i => .int i
  | _, _, .str s => .str s
  | _, _, .tup r => .tup (FZs.step h hz r)
  | _, _, .lst z m r => .lst (hz _ z) ((h _ z).trans m) (FZs.step h hz r)
  | _, _, .dct z m r r' => .dct (hz _ z) ((h _ z).trans m) (FZs.step h hz r) (FZs.step h hz r')
  | _, _, .ins z m r => .ins (hz _ z) ((h _ z).trans m) (FZs.step h hz r)
theorem FZs.step (h : ∀ n, Z n → M'[n]? = M[n]?) (hz : ∀ n, Z n → Z' n) : ∀ {ds : List D} {ws : List W}, FZs M Z ds ws → FZs M' Z' ds ws
  | _, _, .nil => .nil
  | _, _, .cons a r => .cons (FZ.step h hz a) (FZs.step h hz r)
end
theorem FZs.length : ∀ {ds : List D} {ws : List W}, FZs M Z ds ws → ds.length = ws.length
  | _, _, .nil => rfl
  | _, _, .cons _ r => by rw [List.length_cons, List.length_cons, r.length]
theorem FZs.append : ∀ {ds es : List D} {ws us : List W}, FZs M Z ds ws → FZs M Z es us → FZs M Z (ds ++ es) (ws ++ us)
  | _, _, _, _, .nil, r => r
  | _, _, _, _, .cons a q, r => .cons a (q.append r)
theorem FZs.get : ∀ {ds : List D} {ws : List W}, FZs M Z ds ws → ∀ {i : Nat} {w : W}, ws[i]? = some w → ∃ d, ds[i]? = some d ∧ FZ M Z d w
  | _, _, .nil, i, w, h => by simp at h
  | _, _, .cons a r, 0, w, h => by simp at h; subst h; exact ⟨_, rfl, a⟩
  | _, _, .cons a r, i + 1, w, h => by
    obtain ⟨d, h1, h2⟩ := r.get (i := i) (by simpa using h)
    exact ⟨d, by simpa using h1, h2⟩
theorem FZs.get' : ∀ {ds : List D} {ws : List W}, FZs M Z ds ws → ∀ {i : Nat} {d : D}, ds[i]? = some d → ∃ w, ws[i]? = some w ∧ FZ M Z d w
  | _, _, .nil, i, w, h => by simp at h
  | _, _, .cons a r, 0, w, h => by simp at h; subst h; exact ⟨_, rfl, a⟩
  | _, _, .cons a r, i + 1, w, h => by
    obtain ⟨d, h1, h2⟩ := r.get' (i := i) (by simpa using h)
    exact ⟨d, by simpa using h1, h2⟩
theorem FZs.drop : ∀ {ds : List D} {ws : List W}, FZs M Z ds ws → ∀ n : Nat, FZs M Z (ds.drop n) (ws.drop n)
  | _, _, r, 0 => by simpa using r
  | _, _, .nil, n + 1 => by simpa using FZs.nil
  | _, _, .cons a r, n + 1 => by simpa using r.drop n
theorem FZs.take : ∀ {ds : List D} {ws : List W}, FZs M Z ds ws → ∀ n : Nat, FZs M Z (ds.take n) (ws.take n)
  | _, _, r, 0 => by simpa using FZs.nil
  | _, _, .nil, n + 1 => by simpa using FZs.nil
  | _, _, .cons a r, n + 1 => by simpa using FZs.cons a (r.take n)
theorem FZs.rev {ds : List D} {ws : List W} (r : FZs M Z ds ws) : FZs M Z ds.reverse ws.reverse := by
  induction ds generalizing ws with
  | nil => cases r; exact .nil
  | cons d ds ih =>
    cases r with
    | cons a r =>
      rw [List.reverse_cons, List.reverse_cons]
      exact (ih r).append (.cons a .nil)
theorem FZs.dropLast : ∀ {ds : List D} {ws : List W}, FZs M Z ds ws → FZs M Z ds.dropLast ws.dropLast
  | _, _, .nil => .nil
  | _, _, .cons a .nil => .nil
  | _, _, .cons a (.cons b r) => .cons a (FZs.dropLast (.cons b r))
theorem FZs.set : ∀ {ds : List D} {ws : List W}, FZs M Z ds ws → ∀ (i : Nat) {d : D} {w : W}, FZ M Z d w → FZs M Z (ds.set i d) (ws.set i w)
  | _, _, .nil, i, _, _, _ => by simpa using FZs.nil
  | _, _, .cons a r, 0, _, _, h => .cons h r
  | _, _, .cons a r, i + 1, _, _, h => .cons a (r.set i h)
theorem FZs.rep {d : D} {w : W} (h : FZ M Z d w) : ∀ n : Nat, FZs M Z (List.replicate n d) (List.replicate n w)
  | 0 => .nil
  | n + 1 => .cons h (FZs.rep h n)
theorem FZs.reps {ds : List D} {ws : List W} (h : FZs M Z ds ws) : ∀ n : Nat, FZs M Z (List.replicate n ds).flatten (List.replicate n ws).flatten
  | 0 => .nil
  | n + 1 => by
    rw [List.replicate_succ, List.replicate_succ, List.flatten_cons, List.flatten_cons]
    exact h.append (FZs.reps h n)
mutual
theorem FZ.data : ∀ {d : D} {w : W}, FZ M Z d w → d.data = w.data
  | _, _, .non => rfl
  | _, _, .bl b => rfl
  | _, _, .int i => rfl
  | _, _, .str s => rfl
  | _, _, .tup r => by rw [D.data, W.data, FZs.data r]
  | _, _, .lst _ _ _ => rfl
  | _, _, .dct _ _ _ _ => rfl
  | _, _, .ins _ _ _ => rfl
theorem FZs.data : ∀ {ds : List D} {ws : List W}, FZs M Z ds ws → D.dataL ds = W.dataL ws
  | _, _, .nil => rfl
  | _, _, .cons a r => by rw [D.dataL, W.dataL, FZ.data a, FZs.data r]
end
end

/-! ### shapes: what is held alone -/
inductive Sh where
  | fr | el | ls (s : Sh)
  deriving DecidableEq, Inhabited
inductive All3 (P : List Nat → D → W → Prop) : List (List Nat) → List D → List W → Prop
  | nil : All3 P [] [] []
  | cons {a : List Nat} {d : D} {w : W} {as : List (List Nat)} {ds : List D} {ws : List W} : P a d w → All3 P as ds ws → All3 P (a :: as) (d :: ds) (w :: ws)
def RV (M : Sto) (Z : Zs) : Sh → List Nat → D → W → Prop
  | .fr, as, d, w => as = [] ∧ FZ M Z d w
  | .el, as, d, w => (as = [] ∧ FZ M Z d w) ∨ ∃ n ds ws, as = [n] ∧ d = .ref n ∧ w = .lst ws ∧ M[n]? = some (.lst ds) ∧ FZs M Z ds ws
  | .ls s, as, d, w => ∃ n ds ws ass, d = .ref n ∧ w = .lst ws ∧ M[n]? = some (.lst ds) ∧ as = n :: ass.flatten ∧ All3 (RV M Z s) ass ds ws
theorem All3.mono {P Q : List Nat → D → W → Prop} : ∀ {as : List (List Nat)} {ds : List D} {ws : List W}, All3 P as ds ws → (∀ a ∈ as, ∀ d w, P a d w → Q a d w) → All3 Q as ds ws
  | _, _, _, .nil, _ => .nil
  | _, _, _, .cons a r, h => .cons (h _ List.mem_cons_self _ _ a) (r.mono fun b hb => h b (List.mem_cons_of_mem _ hb))
theorem All3.length {P : List Nat → D → W → Prop} : ∀ {as : List (List Nat)} {ds : List D} {ws : List W}, All3 P as ds ws → as.length = ws.length ∧ ds.length = ws.length
  | _, _, _, .nil => ⟨rfl, rfl⟩
  | _, _, _, .cons _ r => by simp [r.length]
theorem All3.append {P : List Nat → D → W → Prop} : ∀ {as bs : List (List Nat)} {ds es : List D} {ws us : List W}, All3 P as ds ws → All3 P bs es us → All3 P (as ++ bs) (ds ++ es) (ws ++ us)
  | _, _, _, _, _, _, .nil, r => r
  | _, _, _, _, _, _, .cons a q, r => .cons a (q.append r)
section
variable {M M' : Sto} {Z Z' : Zs}
theorem All3.fr : ∀ {ds : List D} {ws : List W}, FZs M Z ds ws → All3 (RV M Z .fr) (ds.map fun _ => []) ds ws
  | _, _, .nil => .nil
  | _, _, .cons a r => .cons ⟨rfl, a⟩ (All3.fr r)
theorem All3.toFRs : ∀ {as : List (List Nat)} {ds : List D} {ws : List W}, All3 (RV M Z .fr) as ds ws → FZs M Z ds ws ∧ as.flatten = []
  | _, _, _, .nil => ⟨.nil, rfl⟩
  | _, _, _, .cons ⟨h, a⟩ r => ⟨.cons a r.toFRs.1, by rw [List.flatten_cons, h, r.toFRs.2]; rfl⟩
theorem flat_nil {α : Type} (ds : List α) : (ds.map fun _ => ([] : List Nat)).flatten = [] := by
  induction ds with
  | nil => rfl
  | cons d ds ih => rw [List.map_cons, List.flatten_cons, ih]; rfl
theorem RV.lsfr {n : Nat} {ds : List D} {ws : List W} (h : M[n]? = some (.lst ds)) (r : FZs M Z ds ws) : RV M Z (.ls .fr) [n] (.ref n) (.lst ws) :=
  ⟨n, ds, ws, _, rfl, rfl, h, by rw [flat_nil], All3.fr r⟩
theorem RV.step (hz : ∀ n, Z n → M'[n]? = M[n]? ∧ Z' n) : ∀ {s : Sh} {as : List Nat} {d : D} {w : W}, RV M Z s as d w → (∀ n ∈ as, M'[n]? = M[n]?) → RV M' Z' s as d w
  | .fr, as, d, w, ⟨h, r⟩, _ => ⟨h, r.step (fun n z => (hz n z).1) fun n z => (hz n z).2⟩
  | .el, as, d, w, .inl ⟨h, r⟩, _ => .inl ⟨h, r.step (fun n z => (hz n z).1) fun n z => (hz n z).2⟩
  | .el, as, d, w, .inr ⟨n, ds, ws, h1, h2, h3, h4, h5⟩, k => .inr ⟨n, ds, ws, h1, h2, h3, by rw [k n (by rw [h1]; simp)]; exact h4, h5.step (fun n z => (hz n z).1) fun n z => (hz n z).2⟩
  | .ls s, as, d, w, ⟨n, ds, ws, ass, h1, h2, h3, h4, h5⟩, k => ⟨n, ds, ws, ass, h1, h2, by rw [k n (by rw [h4]; simp)]; exact h3, h4, h5.mono fun a ha d w r => RV.step hz r fun i hi => k i (by rw [h4]; exact List.mem_cons_of_mem _ (List.mem_flatten.mpr ⟨a, ha, hi⟩))⟩
theorem RV.lt : ∀ {s : Sh} {as : List Nat} {d : D} {w : W}, RV M Z s as d w → ∀ n ∈ as, n < M.length
  | .fr, as, d, w, ⟨h, r⟩, n, hn => by subst h; simp at hn
  | .el, as, d, w, .inl ⟨h, r⟩, n, hn => by subst h; simp at hn
  | .el, as, d, w, .inr ⟨k, ds, ws, h1, h2, h3, h4, h5⟩, n, hn => by
    subst h1; rw [List.mem_singleton.mp hn]; exact (List.getElem?_eq_some_iff.mp h4).1
  | .ls s, as, d, w, ⟨k, ds, ws, ass, h1, h2, h3, h4, h5⟩, n, hn => by
    subst h4
    rcases List.mem_cons.mp hn with rfl | hn
    · exact (List.getElem?_eq_some_iff.mp h3).1
    · obtain ⟨a, ha, hi⟩ := List.mem_flatten.mp hn
      have : ∀ (ass : List (List Nat)) (ds : List D) (ws : List W), All3 (RV M Z s) ass ds ws → ∀ a ∈ ass, ∀ n ∈ a, n < M.length := fun ass ds ws r => by
        induction r with
        | nil => intro a ha; simp at ha
        | cons p r ih =>
          intro a ha n hn
          rcases List.mem_cons.mp ha with rfl | ha
          · exact RV.lt p n hn
          · exact ih a ha n hn
      exact this ass ds ws h5 a ha n hi
/-- held alone no more -/
theorem RV.freeze (hz : ∀ n, Z n → Z' n) : ∀ {s : Sh} {as : List Nat} {d : D} {w : W}, RV M Z s as d w → (∀ n ∈ as, Z' n) → FZ M Z' d w
  | .fr, as, d, w, ⟨h, r⟩, _ => r.step (fun _ _ => rfl) hz
  | .el, as, d, w, .inl ⟨h, r⟩, _ => r.step (fun _ _ => rfl) hz
  | .el, as, d, w, .inr ⟨n, ds, ws, h1, h2, h3, h4, h5⟩, k => by
    subst h2 h3
    exact .lst (k n (by rw [h1]; simp)) h4 (h5.step (fun _ _ => rfl) hz)
  | .ls s, as, d, w, ⟨n, ds, ws, ass, h1, h2, h3, h4, h5⟩, k => by
    subst h1 h2 h4
    refine .lst (k n (by simp)) h3 ?_
    have : ∀ (ass : List (List Nat)) (ds : List D) (ws : List W), All3 (RV M Z s) ass ds ws → (∀ a ∈ ass, ∀ n ∈ a, Z' n) → FZs M Z' ds ws := fun ass ds ws r => by
      induction r with
      | nil => intro _; exact .nil
      | cons p r ih => intro k; exact .cons (RV.freeze hz p (k _ List.mem_cons_self)) (ih fun a ha => k a (List.mem_cons_of_mem _ ha))
    exact this ass ds ws h5 fun a ha i hi => k i (List.mem_cons_of_mem _ (List.mem_flatten.mpr ⟨a, ha, hi⟩))
end

/-! ### modes of the slots -/
inductive Md where
  | F | O (s : Sh) | B | I (s : Sh) | K
  deriving DecidableEq, Inhabited
def Md.sh : Md → Option Sh
  | .F => some .fr
  | .O s => some s
  | .B => some .el
  | .I s => some s
  | .K => none
def Md.own : Md → Bool
  | .O _ => true
  | .I _ => true
  | _ => false
def Md.isI : Md → Bool
  | .I _ => true
  | _ => false
/-- the script -/
def KR (M : Sto) (Z : Zs) (d : D) (w : W) : Prop := ∃ ns : List Int, w = .lst (ns.map .int) ∧ (d = .kl (ns.map .int) ∨ ∃ n, d = .ref n ∧ Z n ∧ (M[n]? = some (.lst (ns.map .int)) ∨ M[n]? = some (.fro (ns.map .int))))
def RM (M : Sto) (Z : Zs) (m : Md) (as : List Nat) (d : D) (w : W) : Prop :=
  match m.sh with
  | some s => RV M Z s as d w
  | none => as = [] ∧ KR M Z d w
abbrev Ad := Nat → List Nat
structure EnvR (md : Nat → Md) (M : Sto) (Z : Zs) (ad : Ad) (σ : VE) (τ : En) : Prop where
  len : σ.length = τ.length
  sl : ∀ i w, σ[i]? = some (some w) → ∃ d, τ[i]? = some (some d) ∧ RM M Z (md i) (ad i) d w
  no : ∀ i, (∀ w, σ[i]? ≠ some (some w)) → ad i = []
  nd : ∀ i, (md i).own = true → (ad i).Nodup
  dis : ∀ i j, (md i).own = true → i ≠ j → ∀ n ∈ ad i, n ∉ ad j
  nz : ∀ i, (md i).own = true → ∀ n ∈ ad i, ¬ Z n
  lt : ∀ i n, n ∈ ad i → n < M.length
  zl : ∀ n, Z n → n < M.length
  io : ∀ i, (md i).isI = true → ∃ w, σ[i]? = some (some w)
/-- what an evaluation leaves as it was: but for what the names of mu hold -/
structure Step (mu : Nat → Prop) (M : Sto) (Z : Zs) (ad : Ad) (M' : Sto) (Z' : Zs) (ad' : Ad) : Prop where
  len : M.length ≤ M'.length
  keep : ∀ n, n < M.length → (∀ j, mu j → n ∉ ad j) → M'[n]? = M[n]?
  zm : ∀ n, Z n → Z' n
  zn : ∀ n, Z' n → Z n ∨ M.length ≤ n ∨ ∃ j, mu j ∧ n ∈ ad j
  sm : ∀ i, ¬ mu i → ad' i = ad i
  an : ∀ i, mu i → ∀ n ∈ ad' i, M.length ≤ n ∨ ∃ j, mu j ∧ n ∈ ad j
section
variable {mu mu' : Nat → Prop} {M M1 M2 : Sto} {Z Z1 Z2 : Zs} {ad ad1 ad2 : Ad}
theorem Step.refl : Step mu M Z ad M Z ad := ⟨Nat.le_refl _, fun _ _ _ => rfl, fun _ h => h, fun _ h => .inl h, fun _ _ => rfl, fun i h n hn => .inr ⟨i, h, hn⟩⟩
theorem Step.trans (a : Step mu M Z ad M1 Z1 ad1) (b : Step mu M1 Z1 ad1 M2 Z2 ad2) : Step mu M Z ad M2 Z2 ad2 := by
  have back : ∀ n, (∃ j, mu j ∧ n ∈ ad1 j) → M.length ≤ n ∨ ∃ j, mu j ∧ n ∈ ad j := fun n ⟨j, h1, h2⟩ => a.an j h1 n h2
  refine ⟨Nat.le_trans a.len b.len, fun n hn h => ?_, fun n h => b.zm n (a.zm n h), fun n h => ?_, fun i h => (b.sm i h).trans (a.sm i h), fun i h n hn => ?_⟩
  · rw [b.keep n (Nat.lt_of_lt_of_le hn a.len) fun j hj hm => ?_, a.keep n hn h]
    rcases a.an j hj n hm with h1 | ⟨k, h1, h2⟩
    · omega
    · exact h k h1 h2
  · rcases b.zn n h with h | h | h
    · exact a.zn n h
    · exact .inr (.inl (Nat.le_trans a.len h))
    · exact .inr (back n h)
  · rcases b.an i h n hn with h | h
    · exact .inl (Nat.le_trans a.len h)
    · exact back n h
theorem Step.mono (a : Step mu M Z ad M1 Z1 ad1) (h : ∀ i, mu i → mu' i) : Step mu' M Z ad M1 Z1 ad1 :=
  ⟨a.len, fun n hn k => a.keep n hn fun j hj => k j (h j hj), a.zm, fun n hn => by
    rcases a.zn n hn with z | z | ⟨j, h1, h2⟩
    · exact .inl z
    · exact .inr (.inl z)
    · exact .inr (.inr ⟨j, h j h1, h2⟩), fun i hi => a.sm i fun z => hi (h i z), fun i hi n hn => by
    by_cases c : mu i
    · rcases a.an i c n hn with z | ⟨j, h1, h2⟩
      · exact .inl z
      · exact .inr ⟨j, h j h1, h2⟩
    · rw [a.sm i c] at hn; exact .inr ⟨i, hi, hn⟩⟩
variable {md : Nat → Md} {σ : VE} {τ : En}
/-- what nobody writes to stays -/
theorem EnvR.zkeep (E : EnvR md M Z ad σ τ) (S : Step mu M Z ad M1 Z1 ad1) (ho : ∀ j, mu j → (md j).own = true) (n : Nat) (h : Z n) : M1[n]? = M[n]? ∧ Z1 n :=
  ⟨S.keep n (E.zl n h) fun j hj hm => E.nz j (ho j hj) n hm h, S.zm n h⟩
theorem FZ.go {d : D} {w : W} (r : FZ M Z d w) (E : EnvR md M Z ad σ τ) (S : Step mu M Z ad M1 Z1 ad1) (ho : ∀ j, mu j → (md j).own = true) : FZ M1 Z1 d w :=
  r.step (fun n h => (E.zkeep S ho n h).1) fun n h => (E.zkeep S ho n h).2
theorem FZs.go {d : List D} {w : List W} (r : FZs M Z d w) (E : EnvR md M Z ad σ τ) (S : Step mu M Z ad M1 Z1 ad1) (ho : ∀ j, mu j → (md j).own = true) : FZs M1 Z1 d w :=
  r.step (fun n h => (E.zkeep S ho n h).1) fun n h => (E.zkeep S ho n h).2
theorem KR.go {d : D} {w : W} (r : KR M Z d w) (h : ∀ n, Z n → M1[n]? = M[n]? ∧ Z1 n) : KR M1 Z1 d w := by
  obtain ⟨ns, h1, h2⟩ := r
  refine ⟨ns, h1, ?_⟩
  rcases h2 with h2 | ⟨n, h2, h3, h4⟩
  · exact .inl h2
  · exact .inr ⟨n, h2, (h n h3).2, by rw [(h n h3).1]; exact h4⟩
end
end PyL

/-! V: the check of who holds what; what an evaluation has to show. -/
namespace PyL
open PySem

structure Sg where
  ps : List Md
  ret : Md
  deriving Inhabited
def Sg.io (s : Sg) : List Bool := s.ps.map Md.isI
/-- the root of a place -/
def rootE : E → List Nat
  | .var j => [j]
  | .ix a _ => rootE a
  | _ => []
def ioS : List Bool → Es → List Nat
  | b :: bs, .cons e es => (if b then rootE e else []) ++ ioS bs es
  | _, _ => []
section
variable (io : Nat → List Bool)
mutual
/-- the slots that an evaluation may write to -/
def muE : E → List Nat
  | .var _ => []
  | .con _ => []
  | .glb _ => []
  | .tup es => muEs es
  | .ofL l => muL l
  | .dic _ a b => muEs a ++ muEs b
  | .op1 _ a => muE a
  | .op2 _ a b => muE a ++ muE b
  | .chn _ _ a b c => muE a ++ (muE b ++ muE c)
  | .not a => muE a
  | .and a b => muE a ++ muE b
  | .or a b => muE a ++ muE b
  | .ite c a b => muT c ++ (muE a ++ muE b)
  | .ix a b => muE a ++ muE b
  | .sl a lo hi => muE a ++ (muO lo ++ muO hi)
  | .rev a => muE a
  | .isin a _ => muE a
  | .call k es => ioS (io k) es ++ muEs es
  | .bi _ es => muEs es
  | .bl _ l => muL l
  | .me _ o es => rootE o ++ (muE o ++ muEs es)
  | .ml _ o l => rootE o ++ (muE o ++ muL l)
def muEs : Es → List Nat
  | .nil => []
  | .cons e es => muE e ++ muEs es
def muO : O → List Nat
  | .none => []
  | .some e => muE e
def muT : T → List Nat
  | .tru e => muE e
  | .and a b => muT a ++ muT b
  | .or a b => muT a ++ muT b
  | .not a => muT a
  | .yes => []
def muL : L → List Nat
  | .val e => muE e
  | .vlst e => muE e
  | .lst es => muEs es
  | .lc elt _ _ it c => muI it ++ (muE elt ++ muT c)
def muI : I → List Nat
  | .val e => muE e
  | .rng1 e => muE e
  | .rng2 a b => muE a ++ muE b
  | .rng3 a b c => muE a ++ (muE b ++ muE c)
  | .lis l => muL l
  | .enu e => muE e
  | .zip a b => muE a ++ muE b
end
end
def offB (rs ms : List Nat) : Bool := rs.all fun j => !ms.contains j
def shR : Sh → Bool
  | .fr => true
  | .el => true
  | .ls .fr => true
  | _ => false
def tgSlots : Tg → List Nat
  | .name i => [i]
  | .tup is => is
structure CG where
  md : Nat → Md
  sg : Nat → Sg
def CG.io (G : CG) (k : Nat) : List Bool := (G.sg k).io
/-- a name that holds a list alone -/
def varL (G : CG) : E → Bool
  | .var j => (match (G.md j).sh with
    | some (.ls _) => true
    | _ => false)
  | _ => false
section
variable (G : CG)
mutual
def oE : Nat → E → Sh → Bool
  | 0, _, _ => false
  | n + 1, .var i, s => s == .fr && G.md i == .F
  | n + 1, .con _, s => s == .fr
  | n + 1, .glb _, s => s == .fr
  | n + 1, .tup es, s => s == .fr && oEs n es .fr
  | n + 1, .ofL l, s => (match s with
    | .fr => oL n l .fr
    | .ls t => oL n l t
    | .el => false)
  | n + 1, .dic _ .nil .nil, s => s == .fr
  | n + 1, .dic _ _ _, _ => false
  | n + 1, .op1 _ a, s => s == .fr && oE n a .fr
  | n + 1, .op2 p a b, s => (match oR n a, oR n b with
    | some rs, some _ => offB rs (muE G.io b) && (s == .fr || (s == .ls .fr && (p == .add && (oSure n a || oSure n b || varL G a || varL G b) || p == .mul && (oSure n a || varL G a))))
    | _, _ => false)
  | n + 1, .chn _ _ a b c, s => s == .fr && oE n a .fr && oE n b .fr && oE n c .fr
  | n + 1, .not a, s => s == .fr && (oR n a).isSome
  | n + 1, .and a b, s => s == .fr && oE n a .fr && oE n b .fr
  | n + 1, .or a b, s => s == .fr && oE n a .fr && oE n b .fr
  | n + 1, .ite c a b, s => oT n c && oE n a s && oE n b s
  | n + 1, .ix a b, s => s == .fr && oE n b .fr && (match oR n a with
    | some rs => offB rs (muE G.io b)
    | none => false)
  | n + 1, .sl a lo hi, s => (s == .fr || (s == .ls .fr && (oSure n a || varL G a))) && oO n lo && oO n hi && (match oR n a with
    | some rs => offB rs (muO G.io lo ++ muO G.io hi)
    | none => (match a with
      | .var j => s == .fr && G.md j == .K && (match lo, hi with
        | .none, .some (.con (.int z)) => z == 63
        | _, _ => false)
      | _ => false))
  | n + 1, .rev a, s => (s == .fr || s == .ls .fr) && (oR n a).isSome
  | n + 1, .isin a _, s => s == .fr && (oR n a).isSome
  | n + 1, .call k es, s => (s == .fr || (G.sg k).ret == .O s) && s != .el && oA n (G.sg k).ps es (ioS (G.io k) es ++ muEs G.io es) && decide ((ioS (G.io k) es).Nodup)
  | n + 1, .bi _ es, s => s == .fr && (oEs n es .fr || (match es with
    | .cons a .nil => (oR n a).isSome
    | _ => false))
  | n + 1, .bl b l, s => (s == .fr || (s == .ls .fr && b == .list)) && oL n l .fr
  | n + 1, .me m o es, s => (match oP n o with
    | some (j, .ls t) => (G.md j).own && (match m, es with
      | .append, .cons e .nil => s == .fr && oE n e t && offB [j] (muE G.io e) && t != .el
      | .pop, .nil => (s == .fr || s == t) && s != .el && t != .el
      | _, _ => false)
    | _ => false)
  | n + 1, .ml m o l, s => s == .fr && (match m with
    | .extend => (match o with
      | .var j => G.md j == .O (.ls .fr) || G.md j == .I (.ls .fr)
      | _ => false) && oL n l .fr && offB (rootE o) (muL G.io l)
    | .join => oE n o .fr && oL n l .fr && rootE o == [])
/-- a place that may be written to -/
def oP : Nat → E → Option (Nat × Sh)
  | 0, _ => none
  | n + 1, .var j => if (G.md j).own then (G.md j).sh.map fun s => (j, s) else none
  | n + 1, .ix (.var j) b => if (G.md j).own && oE n b .fr && (muE G.io b).isEmpty then (match (G.md j).sh with
    | some (.ls t) => some (j, t)
    | _ => none) else none
  | n + 1, _ => none
/-- what may be read: whose it is -/
def oR : Nat → E → Option (List Nat)
  | 0, _ => none
  | n + 1, .var j => (match (G.md j).sh with
    | some s => if shR s then some (if (G.md j) == .F then [] else [j]) else none
    | none => none)
  | n + 1, .ix (.var j) b => if oE n b .fr && (muE G.io b).isEmpty then (match (G.md j).sh with
    | some .fr => some []
    | some .el => some []
    | some (.ls .fr) => some []
    | some (.ls (.ls .fr)) => some [j]
    | _ => none) else if oE n (.ix (.var j) b) .fr then some [] else none
  | n + 1, e => if oE n e .fr then some [] else none
def oSure : Nat → E → Bool
  | 0, _ => false
  | n + 1, .ofL _ => true
  | n + 1, .rev _ => true
  | n + 1, .sl a _ _ => oSure n a
  | n + 1, .op2 .add a b => oSure n a || oSure n b
  | n + 1, _ => false
def oEs : Nat → Es → Sh → Bool
  | 0, _, _ => false
  | n + 1, .nil, _ => true
  | n + 1, .cons e es, s => oE n e s && oEs n es s
def oO : Nat → O → Bool
  | 0, _ => false
  | n + 1, .none => true
  | n + 1, .some e => oE n e .fr
def oT : Nat → T → Bool
  | 0, _ => false
  | n + 1, .tru e => (oR n e).isSome
  | n + 1, .and a b => oT n a && oT n b
  | n + 1, .or a b => oT n a && oT n b
  | n + 1, .not a => oT n a
  | n + 1, .yes => true
def oL : Nat → L → Sh → Bool
  | 0, _, _ => false
  | n + 1, .val e, s => s == .fr && (oR n e).isSome
  | n + 1, .vlst e, s => s == .fr && (oR n e).isSome
  | n + 1, .lst es, s => oEs n es s && s != .el
  | n + 1, .lc elt ws tg it c, s => s != .el && oE n elt s && oT n c && ws.all (fun i => G.md i == .F) && (tgSlots tg).all (fun i => ws.contains i) && (match oI n it with
    | some rs => offB rs (muE G.io elt ++ muT G.io c)
    | none => false)
def oI : Nat → I → Option (List Nat)
  | 0, _ => none
  | n + 1, .val e => oR n e
  | n + 1, .rng1 e => if oE n e .fr then some [] else none
  | n + 1, .rng2 a b => if oE n a .fr && oE n b .fr then some [] else none
  | n + 1, .rng3 a b c => if oE n a .fr && oE n b .fr && oE n c .fr then some [] else none
  | n + 1, .lis l => if oL n l .fr then some [] else none
  | n + 1, .enu e => oR n e
  | n + 1, .zip a b => (match oR n a, oR n b with
    | some rs, some us => if offB rs (muE G.io b) then some (rs ++ us) else none
    | _, _ => none)
/-- the arguments of a call -/
def oA : Nat → List Md → Es → List Nat → Bool
  | 0, _, _, _ => false
  | n + 1, [], .nil, _ => true
  | n + 1, m :: ps, .cons e es, ms => (match m with
    | .F => oE n e .fr
    | .B => (match oR n e with
      | some rs => offB rs ms
      | none => false)
    | .I s => (match e with
      | .var j => G.md j == .O s || G.md j == .I s
      | _ => false)
    | .K => (match e with
      | .var j => G.md j == .K
      | _ => false)
    | .O _ => false) && oA n ps es ms
  | n + 1, _, _, _ => false
end
end
end PyL

/-! V: what an evaluation has to show; how such are put together. -/
namespace PyL
open PySem

def Mu (md : Nat → Md) (l : List Nat) : Nat → Prop := fun j => j ∈ l ∧ (md j).own = true
structure XR (M : Sto) (Z : Zs) (y : Exn) (x : XW) : Prop where
  cls : y.cls = x.cls
  arg : (y.arg = none ∧ x.arg = none) ∨ ∃ d w, y.arg = some d ∧ x.arg = some w ∧ FZ M Z d w
abbrev QT (α β : Type) := Sto → Zs → Ad → α → β → Prop
def Gd {α β : Type} (md : Nat → Md) (l : List Nat) (τ : En) (M : Sto) (Z : Zs) (ad : Ad) (o : Out α) (r : R β) (Q : QT α β) : Prop :=
  match r with
  | .ok b σ' => ∃ a M' Z' ad', o = .ok a M' ∧ EnvR md M' Z' ad' σ' τ ∧ Step (Mu md l) M Z ad M' Z' ad' ∧ Q M' Z' ad' a b
  | .exc x σ' => ∃ y M' Z' ad', o = .exc y M' ∧ EnvR md M' Z' ad' σ' τ ∧ Step (Mu md l) M Z ad M' Z' ad' ∧ XR M' Z' y x
  | .bad => True
/-- fresh: held by nobody yet -/
def OwQ (md : Nat → Md) (l : List Nat) (M0 : Sto) (ad0 : Ad) (s : Sh) : QT D W := fun M Z ad d w =>
  ∃ as, RV M Z s as d w ∧ as.Nodup ∧ ∀ n ∈ as, ¬ Z n ∧ n < M.length ∧ (∀ i, n ∉ ad i) ∧ (M0.length ≤ n ∨ ∃ j, Mu md l j ∧ n ∈ ad0 j)
def FrQ : QT D W := fun M Z _ d w => FZ M Z d w
def FrsQ : QT (List D) (List W) := fun M Z _ d w => FZs M Z d w
def RdQ (rs : List Nat) : QT D W := fun M Z ad d w => ∃ as, RV M Z .el as d w ∧ ∀ n ∈ as, ∃ j, j ∈ rs ∧ n ∈ ad j
def EqQ {α : Type} : QT α α := fun _ _ _ a b => a = b
section
variable {md : Nat → Md} {l l1 l2 : List Nat} {τ : En} {σ : VE} {M M1 M2 : Sto} {Z Z1 Z2 : Zs} {ad ad1 ad2 : Ad}
theorem Mu.own {j : Nat} (h : Mu md l j) : (md j).own = true := h.2
theorem Mu.mono (h : ∀ j ∈ l1, j ∈ l) : ∀ j, Mu md l1 j → Mu md l j := fun j k => ⟨h j k.1, k.2⟩
theorem Gd.mono {α β : Type} {o : Out α} {r : R β} {Q Q' : QT α β} (A : Gd md l1 τ M Z ad o r Q) (hl : ∀ j ∈ l1, j ∈ l) (h : ∀ a b M' Z' ad' σ', EnvR md M' Z' ad' σ' τ → Step (Mu md l1) M Z ad M' Z' ad' → Q M' Z' ad' a b → Q' M' Z' ad' a b) : Gd md l τ M Z ad o r Q' := by
  cases r with
  | bad => trivial
  | ok b σ' =>
    obtain ⟨a, M', Z', ad', h1, h2, h3, h4⟩ := A
    exact ⟨a, M', Z', ad', h1, h2, h3.mono (Mu.mono hl), h _ _ _ _ _ _ h2 h3 h4⟩
  | exc x σ' =>
    obtain ⟨a, M', Z', ad', h1, h2, h3, h4⟩ := A
    exact ⟨a, M', Z', ad', h1, h2, h3.mono (Mu.mono hl), h4⟩
theorem Gd.ok {α β : Type} {a : α} {b : β} {Q : QT α β} (E : EnvR md M Z ad σ τ) (q : Q M Z ad a b) : Gd md l τ M Z ad (.ok a M) (.ok b σ) Q := ⟨a, M, Z, ad, rfl, E, .refl, q⟩
theorem Gd.bind {α β γ δ : Type} {o : Out α} {r : R β} {k : α → Sto → Out γ} {k' : β → VE → R δ} {Q1 : QT α β} {Q : QT γ δ} (A : Gd md l1 τ M Z ad o r Q1) (hl : ∀ j ∈ l1, j ∈ l)
    (B : ∀ a b M' Z' ad' σ', EnvR md M' Z' ad' σ' τ → Step (Mu md l1) M Z ad M' Z' ad' → Q1 M' Z' ad' a b → Gd md l τ M' Z' ad' (k a M') (k' b σ') Q) : Gd md l τ M Z ad (o.bind k) (r.bind k') Q := by
  cases r with
  | bad => rw [R.bind_bad]; trivial
  | exc x σ' =>
    obtain ⟨y, M', Z', ad', h1, h2, h3, h4⟩ := A
    rw [h1, R.bind_exc, Out.bind_exc]
    exact ⟨y, M', Z', ad', rfl, h2, h3.mono (Mu.mono hl), h4⟩
  | ok b σ' =>
    obtain ⟨a, M', Z', ad', h1, h2, h3, h4⟩ := A
    rw [h1, R.bind_ok, Out.bind_ok]
    have G := B a b M' Z' ad' σ' h2 h3 h4
    generalize k a M' = o at G
    generalize k' b σ' = r at G
    have h3' := h3.mono (Mu.mono hl)
    cases r with
    | bad => trivial
    | ok c σ2 =>
      obtain ⟨a, M', Z', ad', g1, g2, g3, g4⟩ := G
      exact ⟨a, M', Z', ad', g1, g2, h3'.trans g3, g4⟩
    | exc x σ2 =>
      obtain ⟨a, M', Z', ad', g1, g2, g3, g4⟩ := G
      exact ⟨a, M', Z', ad', g1, g2, h3'.trans g3, g4⟩
/-- another turn of the same evaluation, seen from the start -/
theorem Gd.opt {α β γ : Type} {o : Out α} {v : Option β} {f : β → VE → R γ} {Q : QT α γ} (h : ∀ b, v = some b → Gd md l τ M Z ad o (f b σ) Q) : Gd md l τ M Z ad o ((R.opt v σ).bind f) Q := by
  cases v with
  | none => rw [R.opt_none, R.bind_bad]; trivial
  | some b => rw [R.opt_some, R.bind_ok]; exact h b rfl
theorem Gd.opt' {α β : Type} {o : Out α} {v : Option β} {Q : QT α β} (h : ∀ b, v = some b → Gd md l τ M Z ad o (.ok b σ) Q) : Gd md l τ M Z ad o (R.opt v σ) Q := by
  cases v with
  | none => rw [R.opt_none]; trivial
  | some b => rw [R.opt_some]; exact h b rfl
/-! ### the store grows -/
theorem get_push {o : MO} {n : Nat} (h : n < M.length) : (M ++ [o])[n]? = M[n]? := List.getElem?_append_left h
theorem RM.step {m : Md} {as : List Nat} {d : D} {w : W} (hz : ∀ n, Z n → M1[n]? = M[n]? ∧ Z1 n) (r : RM M Z m as d w) (h : ∀ n ∈ as, M1[n]? = M[n]?) : RM M1 Z1 m as d w := by
  unfold RM at r ⊢
  cases q : m.sh with
  | none => rw [q] at r; exact ⟨r.1, r.2.go hz⟩
  | some s => rw [q] at r; exact RV.step hz r h
/-- the names' values stand, whatever else changes -/
theorem EnvR.keep (E : EnvR md M Z ad σ τ) (hl : M.length ≤ M1.length) (hk : ∀ n, n < M.length → (Z n ∨ ∃ i, n ∈ ad i) → M1[n]? = M[n]?) (hz : ∀ n, Z n → Z1 n) (hn : ∀ n, Z1 n → n < M1.length ∧ (Z n ∨ ∀ i, (md i).own = true → n ∉ ad i)) : EnvR md M1 Z1 ad σ τ :=
  ⟨E.len, fun i w h => by
    obtain ⟨d, h1, h2⟩ := E.sl i w h
    exact ⟨d, h1, h2.step (fun n z => ⟨hk n (E.zl n z) (.inl z), hz n z⟩) fun n h => hk n (E.lt i n h) (.inr ⟨i, h⟩)⟩,
    E.no, E.nd, E.dis, fun i h n m z => by
      rcases (hn n z).2 with z | z
      · exact E.nz i h n m z
      · exact z i h m, fun i n h => Nat.lt_of_lt_of_le (E.lt i n h) hl, fun n z => (hn n z).1, E.io⟩
theorem EnvR.push (E : EnvR md M Z ad σ τ) (o : MO) : EnvR md (M ++ [o]) Z ad σ τ :=
  E.keep (by simp) (fun n h _ => get_push h) (fun _ h => h) fun n z => ⟨by have := E.zl n z; simp; omega, .inl z⟩
theorem EnvR.pushZ (E : EnvR md M Z ad σ τ) (o : MO) : EnvR md (M ++ [o]) (fun n => Z n ∨ n = M.length) ad σ τ :=
  E.keep (by simp) (fun n h _ => get_push h) (fun _ h => .inl h) fun n z => by
    rcases z with z | z
    · exact ⟨by have := E.zl n z; simp; omega, .inl z⟩
    · exact ⟨by simp; omega, .inr fun i _ m => by have := E.lt i n m; omega⟩
theorem Step.push {mu : Nat → Prop} (o : MO) : Step mu M Z ad (M ++ [o]) Z ad := ⟨by simp, fun n h _ => get_push h, fun _ h => h, fun _ h => .inl h, fun _ _ => rfl, fun i h n hn => .inr ⟨i, h, hn⟩⟩
theorem Step.pushZ {mu : Nat → Prop} (o : MO) : Step mu M Z ad (M ++ [o]) (fun n => Z n ∨ n = M.length) ad :=
  ⟨by simp, fun n h _ => get_push h, fun _ h => .inl h, fun n h => by
    rcases h with h | h
    · exact .inl h
    · exact .inr (.inl (by omega)), fun _ _ => rfl, fun i h n hn => .inr ⟨i, h, hn⟩⟩
theorem FZs.push {ds : List D} {ws : List W} (r : FZs M Z ds ws) (zl : ∀ n, Z n → n < M.length) (o : MO) : FZs (M ++ [o]) Z ds ws := r.step (fun n h => get_push (zl n h)) fun _ h => h
theorem FZs.up {ds : List D} {ws : List W} (r : FZs M Z ds ws) (h : ∀ n, Z n → Z1 n) : FZs M Z1 ds ws := r.step (fun _ _ => rfl) h
/-- what is fresh is let go -/
theorem Gd.freeze {o : Out D} {r : R W} {s : Sh} (A : Gd md l τ M Z ad o r (OwQ md l M ad s)) : Gd md l τ M Z ad o r (OwQ md l M ad .fr) := by
  cases r with
  | bad => trivial
  | exc x σ' => exact A
  | ok b σ' =>
    obtain ⟨d, M', Z', ad', h1, E, S, as, q1, q2, q3⟩ := A
    refine ⟨d, M', fun n => Z' n ∨ n ∈ as, ad', h1, ?_, ?_, [], ⟨rfl, q1.freeze (fun _ h => .inl h) fun n h => .inr h⟩, .nil, by simp⟩
    · exact E.keep (Nat.le_refl _) (fun _ _ _ => rfl) (fun _ h => .inl h) fun n z => by
        rcases z with z | z
        · exact ⟨E.zl n z, .inl z⟩
        · exact ⟨(q3 n z).2.1, .inr fun i _ => (q3 n z).2.2.1 i⟩
    · exact ⟨S.len, S.keep, fun n h => .inl (S.zm n h), fun n h => by
        rcases h with h | h
        · exact S.zn n h
        · rcases (q3 n h).2.2.2 with z | z
          · exact .inr (.inl z)
          · exact .inr (.inr z), S.sm, S.an⟩
theorem OwQ.fr {M0 : Sto} {ad0 : Ad} {d : D} {w : W} : OwQ md l M0 ad0 .fr M Z ad d w ↔ FZ M Z d w :=
  ⟨fun ⟨as, h, _⟩ => h.2, fun h => ⟨[], ⟨rfl, h⟩, .nil, by simp⟩⟩
/-- seen from an earlier start -/
theorem OwQ.back {s : Sh} {d : D} {w : W} (q : OwQ md l M1 ad1 s M2 Z2 ad2 d w) (S : Step (Mu md l) M Z ad M1 Z1 ad1) : OwQ md l M ad s M2 Z2 ad2 d w := by
  obtain ⟨as, q1, q2, q3⟩ := q
  refine ⟨as, q1, q2, fun n hn => ?_⟩
  obtain ⟨h1, h2, h3, h4⟩ := q3 n hn
  refine ⟨h1, h2, h3, ?_⟩
  rcases h4 with h4 | ⟨j, h4, h5⟩
  · exact .inl (Nat.le_trans S.len h4)
  · exact S.an j h4 n h5
theorem OwQ.mono {M0 : Sto} {ad0 : Ad} {s : Sh} {d : D} {w : W} (q : OwQ md l1 M0 ad0 s M Z ad d w) (hl : ∀ j ∈ l1, j ∈ l) : OwQ md l M0 ad0 s M Z ad d w := by
  obtain ⟨as, q1, q2, q3⟩ := q
  refine ⟨as, q1, q2, fun n hn => ?_⟩
  obtain ⟨h1, h2, h3, h4⟩ := q3 n hn
  refine ⟨h1, h2, h3, ?_⟩
  rcases h4 with h4 | ⟨j, h4, h5⟩
  · exact .inl h4
  · exact .inr ⟨j, Mu.mono hl j h4, h5⟩
/-- what is fresh stands while more is evaluated -/
theorem OwQ.go {M0 : Sto} {ad0 : Ad} {s : Sh} {d : D} {w : W} (q : OwQ md l M0 ad0 s M Z ad d w) (E : EnvR md M Z ad σ τ) (S : Step (Mu md l1) M Z ad M1 Z1 ad1) : OwQ md l M0 ad0 s M1 Z1 ad1 d w := by
  obtain ⟨as, q1, q2, q3⟩ := q
  refine ⟨as, q1.step (fun n z => E.zkeep S (fun j h => h.2) n z) fun n hn => S.keep n (q3 n hn).2.1 fun j _ => (q3 n hn).2.2.1 j, q2, fun n hn => ?_⟩
  obtain ⟨h1, h2, h3, h4⟩ := q3 n hn
  refine ⟨fun z => ?_, Nat.lt_of_lt_of_le h2 S.len, fun i hi => ?_, h4⟩
  · rcases S.zn n z with z | z | ⟨j, _, z⟩
    · exact h1 z
    · omega
    · exact h3 j z
  · by_cases c : Mu md l1 i
    · rcases S.an i c n hi with z | ⟨j, _, z⟩
      · omega
      · exact h3 j z
    · rw [S.sm i c] at hi; exact h3 i hi
theorem offB_iff {rs ms : List Nat} : offB rs ms = true ↔ ∀ j ∈ rs, j ∉ ms := by
  unfold offB
  rw [List.all_eq_true]
  constructor
  · intro h j hj hm
    have := h j hj
    rw [List.contains_iff_mem.mpr hm] at this
    cases this
  · intro h j hj
    cases q : ms.contains j with
    | false => rfl
    | true => exact absurd (List.contains_iff_mem.mp q) (h j hj)
/-- what is read stands while others are written to -/
theorem RdQ.go {rs : List Nat} {d : D} {w : W} (q : RdQ rs M Z ad d w) (E : EnvR md M Z ad σ τ) (S : Step (Mu md l1) M Z ad M1 Z1 ad1) (h : offB rs l1 = true) : RdQ rs M1 Z1 ad1 d w := by
  obtain ⟨as, q1, q2⟩ := q
  have ho := offB_iff.mp h
  refine ⟨as, q1.step (fun n z => E.zkeep S (fun j h => h.2) n z) fun n hn => ?_, fun n hn => ?_⟩
  · obtain ⟨j, h1, h2⟩ := q2 n hn
    refine S.keep n (E.lt j n h2) fun i hi hm => ?_
    exact E.dis i j hi.2 (fun e => ho j h1 (e ▸ hi.1)) n hm h2
  · obtain ⟨j, h1, h2⟩ := q2 n hn
    exact ⟨j, h1, by rw [S.sm j fun z => ho j h1 z.1]; exact h2⟩
theorem RdQ.of_fr {rs : List Nat} {d : D} {w : W} (h : FZ M Z d w) : RdQ rs M Z ad d w := ⟨[], .inl ⟨rfl, h⟩, by simp⟩
end
end PyL

/-! V: the primitives do in the store what they do over values. -/
namespace PyL
open PySem
section
variable {M : Sto} {Z : Zs}
theorem FZ.non' {d : D} (h : FZ M Z d .non) : d = .non := by cases h; rfl
theorem FZ.bl' {d : D} {b : Bool} (h : FZ M Z d (.bl b)) : d = .bl b := by cases h; rfl
theorem FZ.int' {d : D} {i : Int} (h : FZ M Z d (.int i)) : d = .int i := by cases h; rfl
theorem FZ.str' {d : D} {z : Str} (h : FZ M Z d (.str z)) : d = .str z := by cases h; rfl
theorem FZ.tup' {d : D} {ws : List W} (h : FZ M Z d (.tup ws)) : ∃ ds, d = .tup ds ∧ FZs M Z ds ws := by cases h with | tup r => exact ⟨_, rfl, r⟩
theorem FZ.lst' {d : D} {ws : List W} (h : FZ M Z d (.lst ws)) : ∃ n ds, d = .ref n ∧ Z n ∧ M[n]? = some (.lst ds) ∧ FZs M Z ds ws := by cases h with | lst z m r => exact ⟨_, _, rfl, z, m, r⟩
theorem FZ.fn' {d : D} {k : Nat} {ws : List W} (h : FZ M Z d (.fn k ws)) : False := by cases h
/-- what may be read: its items are nobody's -/
inductive El (M : Sto) (Z : Zs) : D → W → Prop
  | lst {n : Nat} {ds : List D} {ws : List W} : M[n]? = some (.lst ds) → FZs M Z ds ws → El M Z (.ref n) (.lst ws)
  | at {d : D} {w : W} : FZ M Z d w → (∀ ws, w ≠ .lst ws) → El M Z d w
theorem FZ.el {d : D} {w : W} (h : FZ M Z d w) : El M Z d w := by
  cases h with
  | lst z m r => exact .lst m r
  | non => exact .at .non (by simp)
  | bl b => exact .at (.bl b) (by simp)
  | int b => exact .at (.int b) (by simp)
  | str b => exact .at (.str b) (by simp)
  | tup b => exact .at (.tup b) (by simp)
  | dct a b c d => exact .at (.dct a b c d) (by simp)
  | ins a b c => exact .at (.ins a b c) (by simp)
theorem RV.toEl {as : List Nat} {d : D} {w : W} (h : RV M Z .el as d w) : El M Z d w := by
  rcases h with ⟨_, h⟩ | ⟨n, ds, ws, _, rfl, rfl, h, r⟩
  · exact h.el
  · exact .lst h r
theorem El.non' {d : D} (h : El M Z d .non) : d = .non := by cases h with | «at» h _ => exact h.non'
theorem El.bl' {d : D} {b : Bool} (h : El M Z d (.bl b)) : d = .bl b := by cases h with | «at» h _ => exact h.bl'
theorem El.int' {d : D} {i : Int} (h : El M Z d (.int i)) : d = .int i := by cases h with | «at» h _ => exact h.int'
theorem El.str' {d : D} {z : Str} (h : El M Z d (.str z)) : d = .str z := by cases h with | «at» h _ => exact h.str'
theorem El.tup' {d : D} {ws : List W} (h : El M Z d (.tup ws)) : ∃ ds, d = .tup ds ∧ FZs M Z ds ws := by cases h with | «at» h _ => exact h.tup'
theorem El.lst' {d : D} {ws : List W} (h : El M Z d (.lst ws)) : ∃ n ds, d = .ref n ∧ M[n]? = some (.lst ds) ∧ FZs M Z ds ws := by
  cases h with
  | lst m r => exact ⟨_, _, rfl, m, r⟩
  | «at» h k => exact absurd rfl (k _)
theorem El.fn' {d : D} {k : Nat} {ws : List W} (h : El M Z d (.fn k ws)) : False := by cases h with | «at» h _ => exact h.fn'
theorem El.dct' {d : D} {t : Bool} {ks vs : List W} (h : El M Z d (.dct t ks vs)) : ∃ n kvs, d = .ref n ∧ M[n]? = some (.dct t kvs) ∧ kvs.length = ks.length := by
  cases h with
  | «at» h _ => cases h with | dct z m r r' => exact ⟨_, _, rfl, m, by have := r.length; simpa using this⟩
theorem El.ins' {d : D} {c : Nat} {ns : List Str} {vs : List W} (h : El M Z d (.ins c ns vs)) : ∃ n fs, d = .ref n ∧ M[n]? = some (.ins c fs) := by
  cases h with
  | «at» h _ => cases h with | ins z m r => exact ⟨_, _, rfl, m⟩
theorem vtop_ref (n : Nat) : topData M (.ref n) = (match M[n]? with
    | some (.lst xs) => PyData.list (D.dataL xs)
    | some (.fro xs) => PyData.list (D.dataL xs)
    | _ => PyData.dict []) := rfl
theorem vitems_ref (n : Nat) : items M (.ref n) = listAt M n := rfl
theorem vtruth_ref (n : Nat) : truth M (.ref n) = (listAt M n).map fun xs => !xs.isEmpty := rfl
theorem vlen_ref (n : Nat) : lenD M (.ref n) = (match M[n]? with
    | some (.lst xs) => some xs.length
    | some (.fro xs) => some xs.length
    | some (.dct _ kvs) => some kvs.length
    | _ => none) := rfl
theorem vty_ref (n : Nat) (t : Ty) : tyIs M (.ref n) t = (match M[n]? with
    | some (.lst _) => some (t == .list)
    | some (.fro _) => some (t == .list)
    | some (.dct _ _) => some (t == .dict)
    | some (.ins c _) => some (t == .own c)
    | none => none) := rfl
theorem lstAt_eq {n : Nat} {ds : List D} (m : M[n]? = some (.lst ds)) : lstAt M n = some ds := by unfold lstAt; rw [m]
theorem listAt_eq {n : Nat} {ds : List D} (m : M[n]? = some (.lst ds)) : listAt M n = some ds := by unfold listAt; rw [m]
theorem El.topEq {d : D} {w : W} (h : El M Z d w) : topData M d = w.top := by
  cases h with
  | lst m r => rw [vtop_ref, m]; show PyData.list _ = PyData.list _; rw [r.data]
  | «at» h k =>
    cases h with
    | lst z m r => exact absurd rfl (k _)
    | dct z m r r' => rw [vtop_ref, m]; rfl
    | ins z m r => rw [vtop_ref, m]; rfl
    | tup r => exact (FZ.tup r).data
    | _ => rfl
theorem El.itemsEq {d : D} {w : W} {ws : List W} (h : El M Z d w) (e : w.items = some ws) : ∃ ds, items M d = some ds ∧ FZs M Z ds ws := by
  cases w <;> try (cases e; done)
  · cases e; obtain ⟨ds, rfl, r⟩ := h.tup'; exact ⟨ds, rfl, r⟩
  · cases e; obtain ⟨n, ds, rfl, m, r⟩ := h.lst'; exact ⟨ds, by rw [vitems_ref, listAt_eq m], r⟩
theorem El.truthEq {d : D} {w : W} {b : Bool} (h : El M Z d w) (e : w.truth = some b) : truth M d = some b := by
  cases w with
  | non => rw [h.non']; exact e
  | bl b => rw [h.bl']; exact e
  | int b => rw [h.int']; exact e
  | str b => rw [h.str']; exact e
  | tup ws => obtain ⟨ds, rfl, r⟩ := h.tup'; rw [← e]; show some _ = some _; have := r.length; cases ds <;> cases ws <;> first | rfl | simp at this
  | lst ws =>
    obtain ⟨n, ds, rfl, m, r⟩ := h.lst'
    rw [← e, vtruth_ref, listAt_eq m]
    show some _ = some _; have := r.length; cases ds <;> cases ws <;> first | rfl | simp at this
  | _ => cases e
theorem El.lenEq {d : D} {w : W} {k : Nat} (h : El M Z d w) (e : w.len = some k) : lenD M d = some k := by
  cases w with
  | str b => rw [h.str']; exact e
  | tup ws => obtain ⟨ds, rfl, r⟩ := h.tup'; rw [← e]; show some _ = some _; rw [r.length]
  | lst ws => obtain ⟨n, ds, rfl, m, r⟩ := h.lst'; rw [← e, vlen_ref, m]; show some _ = some _; rw [r.length]
  | dct t ks vs => obtain ⟨n, kvs, rfl, m, r⟩ := h.dct'; rw [← e, vlen_ref, m]; show some _ = some _; rw [r]
  | _ => cases e
theorem El.tyEq {d : D} {w : W} {t : Ty} {b : Bool} (h : El M Z d w) (e : w.tyIs t = some b) : tyIs M d t = some b := by
  cases w with
  | non => rw [h.non']; exact e
  | bl b => rw [h.bl']; exact e
  | int b => rw [h.int']; exact e
  | str b => rw [h.str']; exact e
  | tup ws => obtain ⟨ds, rfl, r⟩ := h.tup'; exact e
  | lst ws => obtain ⟨n, ds, rfl, m, r⟩ := h.lst'; rw [vty_ref, m]; exact e
  | dct t ks vs => obtain ⟨n, kvs, rfl, m, r⟩ := h.dct'; rw [vty_ref, m]; exact e
  | ins c ns vs => obtain ⟨n, fs, rfl, m⟩ := h.ins'; rw [vty_ref, m]; exact e
  | fn k vs => exact h.fn'.elim
theorem El.tysEq {d : D} {w : W} (h : El M Z d w) : ∀ {ts : List Ty} {b : Bool}, w.tysIs ts = some b → tysIs M d ts = some b
  | [], b, e => e
  | t :: ts, b, e => by
    unfold W.tysIs at e
    unfold tysIs
    cases q : w.tyIs t with
    | none => rw [q] at e; cases e
    | some c =>
      rw [q] at e
      rw [h.tyEq q]
      cases c with
      | true => exact e
      | false => exact El.tysEq h e
/-- a value, or a list made anew -/
def Res (M : Sto) (Z : Zs) (o : Out D) (z : W) : Prop := (∃ e, o = .ok e M ∧ FZ M Z e z ∧ ∀ ws, z ≠ .lst ws) ∨ ∃ ds ws, o = .ok (.ref M.length) (M ++ [.lst ds]) ∧ z = .lst ws ∧ FZs M Z ds ws
def Res1 (M : Sto) (Z : Zs) (o : Out D) (z : W) : Prop := ∃ e, o = .ok e M ∧ FZ M Z e z
theorem p2_add {a b : D} {x y z : W} (ha : El M Z a x) (hb : El M Z b y) (e : vAdd x y = some z) : Res M Z (dAdd a b M) z := by
  cases x <;> cases y <;> simp only [vAdd, reduceCtorEq] at e <;> try (split at e)
  · cases e; rw [ha.int', hb.int']; exact .inl ⟨_, rfl, .int _, by simp⟩
  · cases e; rw [ha.str', hb.str']; exact .inl ⟨_, by simp only [dAdd]; rw [if_pos (by assumption)], .str _, by simp⟩
  · cases e
  · obtain ⟨ds, rfl, r⟩ := ha.tup'
    obtain ⟨es, rfl, r2⟩ := hb.tup'
    have := r.length; have := r2.length
    cases e
    exact .inl ⟨_, by simp only [dAdd]; rw [if_pos (by omega)], .tup (r.append r2), by simp⟩
  · cases e
  · obtain ⟨n, ds, rfl, m, r⟩ := ha.lst'
    obtain ⟨n2, es, rfl, m2, r2⟩ := hb.lst'
    have := r.length; have := r2.length
    cases e
    exact .inr ⟨_, _, by simp only [dAdd, lstAt_eq m, lstAt_eq m2]; rw [if_pos (by omega)], rfl, r.append r2⟩
  · cases e
theorem p2_mul {a b : D} {x y z : W} (ha : El M Z a x) (hb : El M Z b y) (e : vMul x y = some z) : Res M Z (dMul a b M) z := by
  cases x <;> cases y <;> simp only [vMul, reduceCtorEq] at e <;> try (split at e)
  · cases e; rw [ha.int', hb.int']; exact .inl ⟨_, by simp only [dMul]; rw [if_pos (by assumption)], .int _, by simp⟩
  · cases e
  · cases e; rw [ha.str', hb.int']; exact .inl ⟨_, by simp only [dMul]; rw [if_pos (by assumption)], .str _, by simp⟩
  · cases e
  · obtain ⟨ds, rfl, r⟩ := ha.tup'
    rw [hb.int']
    have := r.length
    rename_i c
    rw [← r.length] at c
    cases e
    exact .inl ⟨_, by simp only [dMul]; rw [if_pos c], .tup (r.reps _), by simp⟩
  · cases e
  · obtain ⟨n, ds, rfl, m, r⟩ := ha.lst'
    rw [hb.int']
    rename_i c
    rw [← r.length] at c
    cases e
    exact .inr ⟨_, _, by simp only [dMul, lstAt_eq m]; rw [if_pos c], rfl, r.reps _⟩
  · cases e
theorem El.flatEq {d : D} {w : W} (h : El M Z d w) : isFlat d = w.flat := by
  cases h with
  | lst m r => rfl
  | «at» h k => cases h <;> rfl
theorem FZs.flatEq : ∀ {ds : List D} {ws : List W}, FZs M Z ds ws → ds.all isFlat = ws.all W.flat
  | _, _, .nil => rfl
  | _, _, .cons a r => by rw [List.all_cons, List.all_cons, a.el.flatEq, r.flatEq]
theorem FZs.anyEq (y : PyData) : ∀ {ds : List D} {ws : List W}, FZs M Z ds ws → (ds.any fun x => PyData.eqv x.data y) = ws.any fun x => PyData.eqv x.data y
  | _, _, .nil => rfl
  | _, _, .cons a r => by rw [List.any_cons, List.any_cons, a.data, FZs.anyEq y r]
theorem isin_eq {a b : D} {x y : W} {k : Bool} (ha : El M Z a x) (hb : El M Z b y) (e : x.isin y = some k) : inD M a b = some k := by
  have gen : (∀ u v, ¬ (x = .str u ∧ y = .str v)) → inD M a b = some k := fun hn => by
    have e : (match y.items with
      | some xs => if x.flat && xs.all W.flat then some (xs.any fun z => PyData.eqv z.data x.data) else none
      | none => none) = some k := by
      rw [← e]
      cases x <;> cases y <;> first | rfl | exact (hn _ _ ⟨rfl, rfl⟩).elim
    have g : inD M a b = (match items M b with
      | some xs => if isFlat a && xs.all isFlat then some (xs.any fun z => PyData.eqv z.data a.data) else none
      | none => none) := by
      unfold inD
      split
      · rename_i u v _
        cases ha with
        | «at» ha _ => cases hb with | «at» hb _ => cases ha; cases hb; exact (hn _ _ ⟨rfl, rfl⟩).elim
      · rfl
    rw [g]
    cases q : y.items with
    | none => rw [q] at e; cases e
    | some ws =>
      rw [q] at e
      obtain ⟨ds, h1, r⟩ := hb.itemsEq q
      rw [h1]
      simp only at e ⊢
      rw [ha.flatEq, r.flatEq]
      by_cases c : (x.flat && ws.all W.flat) = true
      · rw [if_pos c] at e ⊢
        rw [← e]
        have hx : a.data = x.data := by
          cases ha with
          | lst _ _ => rfl
          | «at» h _ => exact h.data
        rw [hx, r.anyEq]
      · rw [if_neg c] at e; cases e
  by_cases c : ∃ u v, x = .str u ∧ y = .str v
  · obtain ⟨u, v, rfl, rfl⟩ := c
    rw [ha.str', hb.str']; exact e
  · exact gen fun u v h => c ⟨u, v, h⟩
theorem is_eq {a b : D} {x y : W} {k : Bool} (ha : El M Z a x) (hb : El M Z b y) (e : x.is y = some k) : isD a b = some k := by
  cases y with
  | non =>
    rw [hb.non']
    cases x <;> try (cases e; done)
    · rw [ha.non']; exact e
    · rw [ha.bl']; exact e
    · rw [ha.int']; exact e
    · rw [ha.str']; exact e
    · obtain ⟨ds, rfl, r⟩ := ha.tup'; exact e
    · obtain ⟨n, ds, rfl, m, r⟩ := ha.lst'; exact e
    · obtain ⟨n, ds, rfl, m, r⟩ := ha.dct'; exact e
    · obtain ⟨n, ds, rfl, m⟩ := ha.ins'; exact e
  | bl b =>
    rw [hb.bl']
    cases x <;> try (cases e; done)
    · rw [ha.non']; exact e
    · rw [ha.bl']; exact e
    · rw [ha.int']; exact e
    · rw [ha.str']; exact e
    · obtain ⟨ds, rfl, r⟩ := ha.tup'; exact e
    · obtain ⟨n, ds, rfl, m, r⟩ := ha.lst'; exact e
    · obtain ⟨n, ds, rfl, m, r⟩ := ha.dct'; exact e
    · obtain ⟨n, ds, rfl, m⟩ := ha.ins'; exact e
  | _ => cases x <;> cases e
theorem p2_eq {p : P2} {a b : D} {x y z : W} (ha : El M Z a x) (hb : El M Z b y) (e : p.v x y = some z) : Res M Z (p.den a b M) z := by
  have cmp : ∀ f, vCmp f x y = some z → Res M Z (dCmp f a b M) z := fun f e => by
    cases x <;> cases y <;> try (cases e; done)
    cases e; rw [ha.int', hb.int']; exact .inl ⟨_, rfl, .bl _, by simp⟩
  have iss : ∀ neg, vIs neg x y = some z → Res M Z (dIs neg a b M) z := fun neg e => by
    unfold vIs at e
    cases q : W.is x y with
    | none => rw [q] at e; cases e
    | some k => rw [q] at e; cases e; exact .inl ⟨_, by unfold dIs; rw [is_eq ha hb q], .bl _, by simp⟩
  have ins : ∀ neg, vIn neg x y = some z → Res M Z (dIn neg a b M) z := fun neg e => by
    unfold vIn at e
    cases q : W.isin x y with
    | none => rw [q] at e; cases e
    | some k => rw [q] at e; cases e; exact .inl ⟨_, by unfold dIn; rw [isin_eq ha hb q], .bl _, by simp⟩
  cases p with
  | add => exact p2_add ha hb e
  | mul => exact p2_mul ha hb e
  | sub =>
    have e : vSub x y = some z := e
    cases x <;> cases y <;> try (cases e; done)
    cases e; rw [ha.int', hb.int']; exact .inl ⟨_, rfl, .int _, by simp⟩
  | fdiv =>
    have e : vDiv x y = some z := e
    cases x <;> cases y <;> try (cases e; done)
    simp only [vDiv] at e
    split at e
    · cases e; rw [ha.int', hb.int']; exact .inl ⟨_, by simp only [P2.den, dDiv]; rw [if_pos (by assumption)], .int _, by simp⟩
    · cases e
  | mod =>
    have e : vMod x y = some z := e
    cases x <;> cases y <;> try (cases e; done)
    simp only [vMod] at e
    split at e
    · cases e; rw [ha.int', hb.int']; exact .inl ⟨_, by simp only [P2.den, dMod]; rw [if_pos (by assumption)], .int _, by simp⟩
    · cases e
  | pow =>
    have e : vPow x y = some z := e
    cases x <;> cases y <;> try (cases e; done)
    simp only [vPow] at e
    split at e
    · cases e; rw [ha.int', hb.int']; exact .inl ⟨_, by simp only [P2.den, dPow]; rw [if_pos (by assumption)], .int _, by simp⟩
    · cases e
  | eq =>
    have e : vEq x y = some z := e
    unfold vEq W.ord at e
    split at e
    · rename_i c
      cases e
      exact .inl ⟨_, by show dEq _ _ _ = _; unfold dEq ordOk; rw [ha.topEq, hb.topEq, if_pos c], .bl _, by simp⟩
    · cases e
  | ne =>
    have e : vNe x y = some z := e
    unfold vNe W.ord at e
    split at e
    · rename_i c
      cases e
      exact .inl ⟨_, by show dNe _ _ _ = _; unfold dNe ordOk; rw [ha.topEq, hb.topEq, if_pos c], .bl _, by simp⟩
    · cases e
  | lt => exact cmp _ e
  | le => exact cmp _ e
  | gt => exact cmp _ e
  | ge => exact cmp _ e
  | is => exact iss _ e
  | isnot => exact iss _ e
  | isin => exact ins _ e
  | notin => exact ins _ e
theorem atI_get {ds : List D} {ws : List W} {i : Int} {z : W} (r : FZs M Z ds ws) (e : L2.atI ws i = some z) : ∃ d, L2.atI ds i = some d ∧ FZ M Z d z := by
  unfold L2.atI at e ⊢
  rw [r.length]
  cases q : L2.ixN ws.length i with
  | none => rw [q] at e; cases e
  | some k => rw [q] at e; exact r.get e
theorem ix_eq {a b : D} {x y z : W} (ha : El M Z a x) (hb : El M Z b y) (e : x.ix y = some z) : Res1 M Z (ixD M a b) z := by
  cases y <;> try (cases e; done)
  rename_i i
  rw [hb.int']
  cases x <;> try (cases e; done)
  · rw [ha.str']
    simp only [W.ix] at e
    split at e
    · rename_i z' c
      cases q : L2.atI z'.cps.toList i with
      | none => rw [q] at e; cases e
      | some k => rw [q] at e; cases e; exact ⟨_, by simp only [ixD]; rw [if_pos c, q], .str _⟩
    · cases e
  · obtain ⟨ds, rfl, r⟩ := ha.tup'
    obtain ⟨d, h1, h2⟩ := atI_get r e
    exact ⟨d, by simp only [ixD, items]; rw [h1], h2⟩
  · obtain ⟨n, ds, rfl, m, r⟩ := ha.lst'
    obtain ⟨d, h1, h2⟩ := atI_get r e
    exact ⟨d, by simp only [ixD, items, listAt_eq m]; rw [h1], h2⟩
theorem FZs.cut {ds : List D} {ws : List W} (r : FZs M Z ds ws) (lo hi : Option Int) : FZs M Z (cutD ds lo hi) (cutW ws lo hi) := by
  unfold cutD cutW
  rw [r.length]
  exact (r.drop _).take _
theorem sl_eq {a : D} {x z : W} {lo hi : Option Int} (ha : El M Z a x) (e : x.sl lo hi = some z) : Res M Z (slD M a lo hi) z := by
  cases x <;> try (cases e; done)
  · rw [ha.str']
    simp only [W.sl] at e
    split at e
    · rename_i c
      cases e
      exact .inl ⟨_, by simp only [slD]; rw [if_pos c], .str _, by simp⟩
    · cases e
  · obtain ⟨ds, rfl, r⟩ := ha.tup'
    cases e
    exact .inl ⟨_, rfl, .tup (r.cut _ _), by simp⟩
  · obtain ⟨n, ds, rfl, m, r⟩ := ha.lst'
    cases e
    exact .inr ⟨_, _, by simp only [slD, listAt_eq m], rfl, r.cut _ _⟩
theorem rev_eq {a : D} {x z : W} (ha : El M Z a x) (e : x.rev = some z) : Res M Z (revD M a) z := by
  cases x <;> try (cases e; done)
  obtain ⟨n, ds, rfl, m, r⟩ := ha.lst'
  cases e
  exact .inr ⟨_, _, by simp only [revD, listAt_eq m], rfl, r.rev⟩
theorem p1_eq {p : P1} {a : D} {x z : W} (ha : FZ M Z a x) (e : p.v x = some z) : Res1 M Z (p.den a M) z := by
  cases p
  cases x <;> try (cases e; done)
  cases e
  rw [ha.int']
  exact ⟨_, rfl, .int _⟩
theorem bi1_eq {b : Bi} {d : D} {w z : W} (h : El M Z d w) (e : b.v1 w = some z) : Res1 M Z (b.den [d] M) z := by
  cases b with
  | len =>
    simp only [Bi.v1] at e
    cases q : w.len with
    | none => rw [q] at e; cases e
    | some k => rw [q] at e; cases e; exact ⟨_, by simp only [Bi.den, bLen, h.lenEq q], .int _⟩
  | int =>
    cases w <;> try (cases e; done)
    · cases e; rw [h.bl']; exact ⟨_, rfl, .int _⟩
    · cases e; rw [h.int']; exact ⟨_, rfl, .int _⟩
  | abs =>
    cases w <;> try (cases e; done)
    cases e; rw [h.int']; exact ⟨_, rfl, .int _⟩
  | str =>
    cases w <;> try (cases e; done)
    simp only [Bi.v1] at e
    split at e
    · rename_i c
      cases e; rw [h.int']; exact ⟨_, by simp only [Bi.den, bStr]; rw [if_pos c], .str _⟩
    · cases e
  | bool =>
    cases w <;> try (cases e; done)
    · cases e; rw [h.bl']; exact ⟨_, rfl, .bl _⟩
    · cases e; rw [h.int']; exact ⟨_, rfl, .bl _⟩
  | repr =>
    cases w <;> try (cases e; done)
    cases e; rw [h.bl']; exact ⟨_, rfl, .str _⟩
  | max2 => cases w <;> cases e
  | min2 => cases w <;> cases e
theorem bi_eq {b : Bi} {ds : List D} {ws : List W} {z : W} (h : FZs M Z ds ws) (e : b.v ws = some z) : Res1 M Z (b.den ds M) z := by
  cases h with
  | nil => cases e
  | @cons _ w _ _ a r =>
    cases r with
    | nil => exact bi1_eq a.el e
    | @cons _ w2 _ _ a2 r =>
      cases r with
      | nil =>
        have e : b.v2 w w2 = some z := e
        cases b <;> first | (cases e; done) | skip
        · cases w <;> cases w2 <;> first | (cases e; done) | skip
          cases e; rw [a.int', a2.int']; exact ⟨_, rfl, .int _⟩
        · cases w <;> cases w2 <;> first | (cases e; done) | skip
          cases e; rw [a.int', a2.int']; exact ⟨_, rfl, .int _⟩
      | cons a3 r => cases e
theorem wBl_eq : ∀ {ds : List D} {ws : List W} {bs : List Bool}, FZs M Z ds ws → wBl ws = some bs → allBl ds = some bs
  | _, _, _, .nil, e => e
  | _, _, bs, .cons (w := w) a r, e => by
    cases w <;> try (cases e; done)
    rw [a.bl']
    simp only [wBl, allBl] at e ⊢
    cases q : wBl _ with
    | none => rw [q] at e; cases e
    | some cs => rw [q] at e; rw [wBl_eq r q]; exact e
theorem wInt_eq : ∀ {ds : List D} {ws : List W} {bs : List Int}, FZs M Z ds ws → wInt ws = some bs → allInt ds = some bs
  | _, _, _, .nil, e => e
  | _, _, bs, .cons (w := w) a r, e => by
    cases w <;> try (cases e; done)
    rw [a.int']
    simp only [wInt, allInt] at e ⊢
    cases q : wInt _ with
    | none => rw [q] at e; cases e
    | some cs => rw [q] at e; rw [wInt_eq r q]; exact e
theorem wStr_eq : ∀ {ds : List D} {ws : List W} {bs : List Str}, FZs M Z ds ws → wStr ws = some bs → allStr ds = some bs
  | _, _, _, .nil, e => e
  | _, _, bs, .cons (w := w) a r, e => by
    cases w <;> try (cases e; done)
    rw [a.str']
    simp only [wStr, allStr] at e ⊢
    cases q : wStr _ with
    | none => rw [q] at e; cases e
    | some cs => rw [q] at e; rw [wStr_eq r q]; exact e
theorem bl_eq {b : BL} {ds : List D} {ws : List W} {z : W} (r : FZs M Z ds ws) (e : b.v ws = some z) : Res M Z (b.den ds M) z := by
  cases b with
  | tuple => cases e; exact .inl ⟨_, rfl, .tup r, by simp⟩
  | list => cases e; exact .inr ⟨_, _, rfl, rfl, r⟩
  | len => cases e; exact .inl ⟨_, by show Out.ok _ _ = _; rw [r.length], .int _, by simp⟩
  | all =>
    simp only [BL.v] at e
    cases q : wBl ws with
    | none => rw [q] at e; cases e
    | some bs => rw [q] at e; cases e; exact .inl ⟨_, by simp only [BL.den, wBl_eq r q], .bl _, by simp⟩
  | any =>
    simp only [BL.v] at e
    cases q : wBl ws with
    | none => rw [q] at e; cases e
    | some bs => rw [q] at e; cases e; exact .inl ⟨_, by simp only [BL.den, wBl_eq r q], .bl _, by simp⟩
  | sum =>
    simp only [BL.v] at e
    cases q : wInt ws with
    | none => rw [q] at e; cases e
    | some bs => rw [q] at e; cases e; exact .inl ⟨_, by simp only [BL.den, wInt_eq r q], .int _, by simp⟩
  | sorted => cases e
  | max => cases e
  | min => cases e
end
end PyL

/-! V: leaves, lists made, loops over what is read, places written. -/
namespace PyL
open PySem
def OwsQ (md : Nat → Md) (l : List Nat) (M0 : Sto) (ad0 : Ad) (s : Sh) : QT (List D) (List W) := fun M Z ad ds ws =>
  ∃ ass, All3 (RV M Z s) ass ds ws ∧ ass.flatten.Nodup ∧ ∀ n ∈ ass.flatten, ¬ Z n ∧ n < M.length ∧ (∀ i, n ∉ ad i) ∧ (M0.length ≤ n ∨ ∃ j, Mu md l j ∧ n ∈ ad0 j)
section
variable {md : Nat → Md} {l l1 l2 : List Nat} {τ : En} {σ : VE} {M M1 M2 : Sto} {Z Z1 Z2 : Zs} {ad ad1 ad2 : Ad}
theorem Gd.res {o : Out D} {z : W} {s : Sh} (E : EnvR md M Z ad σ τ) (h : Res M Z o z) (hs : s = .fr ∨ (s = .ls .fr ∧ ∃ ws, z = .lst ws)) : Gd md l τ M Z ad o (.ok z σ) (OwQ md l M ad s) := by
  rcases h with ⟨e, rfl, h, hn⟩ | ⟨ds, ws, rfl, rfl, r⟩
  · rcases hs with rfl | ⟨rfl, ws, rfl⟩
    · exact .ok E (OwQ.fr.mpr h)
    · exact absurd rfl (hn ws)
  · rcases hs with rfl | ⟨rfl, _⟩
    · exact ⟨_, _, _, ad, rfl, E.pushZ _, .pushZ _, OwQ.fr.mpr (.lst (.inr rfl) (by simp) ((r.push E.zl _).up fun _ h => .inl h))⟩
    · refine ⟨_, _, Z, ad, rfl, E.push _, .push _, [M.length], .lsfr (by simp) (r.push E.zl _), by simp, fun n hn => ?_⟩
      rw [List.mem_singleton.mp hn]
      exact ⟨fun z => absurd (E.zl _ z) (Nat.lt_irrefl _), by simp, fun i h => absurd (E.lt i _ h) (Nat.lt_irrefl _), .inl (Nat.le_refl _)⟩
theorem Gd.res1 {o : Out D} {z : W} (E : EnvR md M Z ad σ τ) (h : Res1 M Z o z) : Gd md l τ M Z ad o (.ok z σ) (OwQ md l M ad .fr) := by
  obtain ⟨e, rfl, h⟩ := h
  exact .ok E (OwQ.fr.mpr h)
theorem OwsQ.fr {M0 : Sto} {ad0 : Ad} {ds : List D} {ws : List W} : OwsQ md l M0 ad0 .fr M Z ad ds ws ↔ FZs M Z ds ws :=
  ⟨fun ⟨ass, h, _⟩ => h.toFRs.1, fun h => ⟨_, .fr h, by rw [flat_nil]; exact .nil, by rw [flat_nil]; simp⟩⟩
theorem OwsQ.back {s : Sh} {d : List D} {w : List W} (q : OwsQ md l M1 ad1 s M2 Z2 ad2 d w) (S : Step (Mu md l) M Z ad M1 Z1 ad1) : OwsQ md l M ad s M2 Z2 ad2 d w := by
  obtain ⟨as, q1, q2, q3⟩ := q
  refine ⟨as, q1, q2, fun n hn => ?_⟩
  obtain ⟨h1, h2, h3, h4⟩ := q3 n hn
  refine ⟨h1, h2, h3, ?_⟩
  rcases h4 with h4 | ⟨j, h4, h5⟩
  · exact .inl (Nat.le_trans S.len h4)
  · exact S.an j h4 n h5
theorem OwsQ.mono {M0 : Sto} {ad0 : Ad} {s : Sh} {d : List D} {w : List W} (q : OwsQ md l1 M0 ad0 s M Z ad d w) (hl : ∀ j ∈ l1, j ∈ l) : OwsQ md l M0 ad0 s M Z ad d w := by
  obtain ⟨as, q1, q2, q3⟩ := q
  refine ⟨as, q1, q2, fun n hn => ?_⟩
  obtain ⟨h1, h2, h3, h4⟩ := q3 n hn
  refine ⟨h1, h2, h3, ?_⟩
  rcases h4 with h4 | ⟨j, h4, h5⟩
  · exact .inl h4
  · exact .inr ⟨j, Mu.mono hl j h4, h5⟩
theorem OwsQ.nil {M0 : Sto} {ad0 : Ad} {s : Sh} : OwsQ md l M0 ad0 s M Z ad [] [] := ⟨[], .nil, by simp, by simp⟩
theorem OwsQ.go {M0 : Sto} {ad0 : Ad} {s : Sh} {d : List D} {w : List W} (q : OwsQ md l M0 ad0 s M Z ad d w) (E : EnvR md M Z ad σ τ) (S : Step (Mu md l1) M Z ad M1 Z1 ad1) : OwsQ md l M0 ad0 s M1 Z1 ad1 d w := by
  obtain ⟨ass, q1, q2, q3⟩ := q
  refine ⟨ass, q1.mono fun a ha d w r => r.step (fun n z => E.zkeep S (fun j h => h.2) n z) fun n hn => ?_, q2, fun n hn => ?_⟩
  · have h := q3 n (List.mem_flatten.mpr ⟨a, ha, hn⟩)
    exact S.keep n h.2.1 fun j _ => h.2.2.1 j
  · obtain ⟨h1, h2, h3, h4⟩ := q3 n hn
    refine ⟨fun z => ?_, Nat.lt_of_lt_of_le h2 S.len, fun i hi => ?_, h4⟩
    · rcases S.zn n z with z | z | ⟨j, _, z⟩
      · exact h1 z
      · omega
      · exact h3 j z
    · by_cases c : Mu md l1 i
      · rcases S.an i c n hi with z | ⟨j, _, z⟩
        · omega
        · exact h3 j z
      · rw [S.sm i c] at hi; exact h3 i hi
/-- one more behind: what was there is older -/
theorem OwsQ.snoc {M0 : Sto} {ad0 : Ad} {s : Sh} {d : D} {w : W} {ds : List D} {ws : List W} (q : OwsQ md l M0 ad0 s M Z ad ds ws) (E : EnvR md M Z ad σ τ) (S0 : Step (Mu md l) M0 Z1 ad0 M Z ad) (S : Step (Mu md l) M Z ad M2 Z2 ad2) (q2 : OwQ md l M ad s M2 Z2 ad2 d w) : OwsQ md l M0 ad0 s M2 Z2 ad2 (ds ++ [d]) (ws ++ [w]) := by
  obtain ⟨bs, r1, r2, r3⟩ := q
  obtain ⟨ass, p1, p2, p3⟩ := OwsQ.go (l := l) (M0 := M0) (ad0 := ad0) ⟨bs, r1, r2, r3⟩ E S
  obtain ⟨as, a1, a2, a3⟩ := q2
  refine ⟨bs ++ [as], ?_, ?_, ?_⟩
  · refine All3.append (r1.mono fun a ha d w r => r.step (fun n z => E.zkeep S (fun j h => h.2) n z) fun n hn => ?_) (.cons a1 .nil)
    have h := r3 n (List.mem_flatten.mpr ⟨a, ha, hn⟩)
    exact S.keep n h.2.1 fun j _ => h.2.2.1 j
  · rw [List.flatten_append, List.flatten_singleton]
    refine List.nodup_append.mpr ⟨r2, a2, fun x hx y hy e => ?_⟩
    subst e
    obtain ⟨_, h2, h3, _⟩ := r3 x hx
    rcases (a3 x hy).2.2.2 with z | ⟨j, _, z⟩
    · omega
    · exact h3 j z
  · intro n hn
    rw [List.flatten_append, List.flatten_singleton] at hn
    rcases List.mem_append.mp hn with hn | hn
    · obtain ⟨h1, h2, h3, h4⟩ := r3 n hn
      refine ⟨fun z => ?_, Nat.lt_of_lt_of_le h2 S.len, fun i hi => ?_, h4⟩
      · rcases S.zn n z with z | z | ⟨j, _, z⟩
        · exact h1 z
        · omega
        · exact h3 j z
      · by_cases c : Mu md l i
        · rcases S.an i c n hi with z | ⟨j, _, z⟩
          · omega
          · exact h3 j z
        · rw [S.sm i c] at hi; exact h3 i hi
    · obtain ⟨h1, h2, h3, h4⟩ := a3 n hn
      refine ⟨h1, h2, h3, ?_⟩
      rcases h4 with h4 | ⟨j, h4, h5⟩
      · exact .inl (Nat.le_trans S0.len h4)
      · exact S0.an j h4 n h5
theorem OwsQ.cons {M0 : Sto} {ad0 : Ad} {s : Sh} {d : D} {w : W} {ds : List D} {ws : List W} (q : OwQ md l M0 ad0 s M1 Z1 ad1 d w) (E : EnvR md M1 Z1 ad1 σ τ) (S0 : Step (Mu md l) M0 Z ad0 M1 Z1 ad1) (S : Step (Mu md l) M1 Z1 ad1 M2 Z2 ad2) (q2 : OwsQ md l M1 ad1 s M2 Z2 ad2 ds ws) : OwsQ md l M0 ad0 s M2 Z2 ad2 (d :: ds) (w :: ws) := by
  obtain ⟨as, a1, a2, a3⟩ := q.go E S
  obtain ⟨as', a1', a2', a3'⟩ := q
  obtain ⟨bs, r1, r2, r3⟩ := q2.back S0
  obtain ⟨bs', r1', r2', r3'⟩ := q2
  refine ⟨as' :: bs', .cons (a1'.step (fun n z => E.zkeep S (fun j h => h.2) n z) fun n hn => S.keep n (a3' n hn).2.1 fun j _ => (a3' n hn).2.2.1 j) r1', ?_, ?_⟩
  · rw [List.flatten_cons]
    refine List.nodup_append.mpr ⟨a2', r2', fun x hx y hy e => ?_⟩
    subst e
    obtain ⟨_, h2, h3, _⟩ := a3' x hx
    rcases (r3' x hy).2.2.2 with z | ⟨j, _, z⟩
    · omega
    · exact h3 j z
  · intro n hn
    rw [List.flatten_cons] at hn
    rcases List.mem_append.mp hn with hn | hn
    · obtain ⟨h1, h2, h3, h4⟩ := a3' n hn
      refine ⟨fun z => ?_, Nat.lt_of_lt_of_le h2 S.len, fun i hi => ?_, h4⟩
      · rcases S.zn n z with z | z | ⟨j, _, z⟩
        · exact h1 z
        · omega
        · exact h3 j z
      · by_cases c : Mu md l i
        · rcases S.an i c n hi with z | ⟨j, _, z⟩
          · omega
          · exact h3 j z
        · rw [S.sm i c] at hi; exact h3 i hi
    · obtain ⟨h1, h2, h3, h4⟩ := r3' n hn
      refine ⟨h1, h2, h3, ?_⟩
      rcases h4 with h4 | ⟨j, h4, h5⟩
      · exact .inl (Nat.le_trans S0.len h4)
      · exact S0.an j h4 n h5
/-- a new list of them -/
theorem Gd.mkList {ds : List D} {ws : List W} {t : Sh} {M0 : Sto} {ad0 : Ad} {Z0 : Zs} (E : EnvR md M Z ad σ τ) (S0 : Step (Mu md l) M0 Z0 ad0 M Z ad) (q : OwsQ md l M0 ad0 t M Z ad ds ws) : Gd md l τ M Z ad (.ok (.ref M.length) (M ++ [.lst ds])) (.ok (.lst ws) σ) (OwQ md l M0 ad0 (.ls t)) := by
  obtain ⟨ass, q1, q2, q3⟩ := q
  have st : ∀ a ∈ ass, ∀ n ∈ a, n < M.length := fun a ha n hn => (q3 n (List.mem_flatten.mpr ⟨a, ha, hn⟩)).2.1
  refine ⟨_, _, Z, ad, rfl, E.push _, .push _, M.length :: ass.flatten, ⟨M.length, ds, ws, ass, rfl, rfl, by simp, rfl, q1.mono fun a ha d w r => r.step (fun n z => ⟨get_push (E.zl n z), z⟩) fun n hn => get_push (st a ha n hn)⟩, List.nodup_cons.mpr ⟨fun h => absurd (q3 _ h).2.1 (Nat.lt_irrefl _), q2⟩, fun n hn => ?_⟩
  rcases List.mem_cons.mp hn with rfl | hn
  · exact ⟨fun z => absurd (E.zl _ z) (Nat.lt_irrefl _), by simp, fun i h => absurd (E.lt i _ h) (Nat.lt_irrefl _), .inl S0.len⟩
  · obtain ⟨h1, h2, h3, h4⟩ := q3 n hn
    exact ⟨h1, by simp; omega, h3, h4⟩
theorem Gd.mkFro {ds : List D} {ws : List W} (E : EnvR md M Z ad σ τ) (q : FZs M Z ds ws) : Gd md l τ M Z ad (.ok (.ref M.length) (M ++ [.lst ds])) (.ok (.lst ws) σ) (OwQ md l M ad .fr) :=
  .res E (.inr ⟨ds, ws, rfl, rfl, q⟩) (.inl rfl)

/-! ### what is gone through -/
inductive ItW (M : Sto) (Z : Zs) (ad : Ad) (rs : List Nat) : It → List W → Prop
  | snap {ds : List D} {ws : List W} : FZs M Z ds ws → ItW M Z ad rs (.snap ds) ws
  | live {n : Nat} {ds : List D} {ws : List W} : M[n]? = some (.lst ds) → FZs M Z ds ws → (Z n ∨ ∃ j, j ∈ rs ∧ n ∈ ad j) → ItW M Z ad rs (.live n) ws
  | enu {J : It} {ws : List W} : ItW M Z ad rs J ws → ItW M Z ad rs (.enu J) (enumV 0 ws)
  | zip {J J' : It} {ws us : List W} : ItW M Z ad rs J ws → ItW M Z ad rs J' us → ItW M Z ad rs (.zip J J') (zipV ws us)
def ItQ (rs : List Nat) : QT It (List W) := fun M Z ad J ws => ItW M Z ad rs J ws
theorem ItW.go {rs : List Nat} {J : It} {ws : List W} (q : ItW M Z ad rs J ws) (E : EnvR md M Z ad σ τ) (S : Step (Mu md l1) M Z ad M1 Z1 ad1) (h : offB rs l1 = true) : ItW M1 Z1 ad1 rs J ws := by
  have ho := offB_iff.mp h
  induction q with
  | snap r => exact .snap (r.go E S fun j h => h.2)
  | live m r hz =>
    rcases hz with hz | ⟨j, h1, h2⟩
    · have := E.zkeep S (fun j h => h.2) _ hz
      exact .live (this.1.trans m) (r.go E S fun j h => h.2) (.inl this.2)
    · refine .live ((S.keep _ (E.lt j _ h2) fun i hi hm => ?_).trans m) (r.go E S fun j h => h.2) (.inr ⟨j, h1, by rw [S.sm j fun z => ho j h1 z.1]; exact h2⟩)
      exact E.dis i j hi.2 (fun e => ho j h1 (e ▸ hi.1)) _ hm h2
  | enu _ ih => exact .enu ih
  | zip _ _ ih1 ih2 => exact .zip ih1 ih2
theorem ItW.up {rs rs' : List Nat} {J : It} {ws : List W} (q : ItW M Z ad rs J ws) (h : ∀ j ∈ rs, j ∈ rs') : ItW M Z ad rs' J ws := by
  induction q with
  | snap r => exact .snap r
  | live m r hz => exact .live m r (hz.imp id fun ⟨j, h1, h2⟩ => ⟨j, h j h1, h2⟩)
  | enu _ ih => exact .enu ih
  | zip _ _ ih1 ih2 => exact .zip ih1 ih2
theorem enumV_get : ∀ (ws : List W) (k i : Nat), (enumV k ws)[i]? = ws[i]?.map fun w => .tup [.int ((k + i : Nat) : Int), w]
  | [], k, i => by simp [enumV]
  | w :: ws, k, 0 => by simp [enumV]
  | w :: ws, k, i + 1 => by
    rw [enumV, List.getElem?_cons_succ, List.getElem?_cons_succ, enumV_get ws (k + 1) i, show k + 1 + i = k + (i + 1) by omega]
theorem zipV_get : ∀ (ws us : List W) (i : Nat), (zipV ws us)[i]? = match ws[i]?, us[i]? with
    | some x, some y => some (.tup [x, y])
    | _, _ => none
  | [], us, i => by simp [zipV]
  | w :: ws, [], i => by
    simp only [zipV, List.getElem?_nil]
    cases (w :: ws)[i]? <;> rfl
  | w :: ws, u :: us, 0 => by simp [zipV]
  | w :: ws, u :: us, i + 1 => by rw [zipV, List.getElem?_cons_succ, List.getElem?_cons_succ, List.getElem?_cons_succ, zipV_get ws us i]
theorem ItW.next {rs : List Nat} {J : It} {ws : List W} (q : ItW M Z ad rs J ws) (i : Nat) : (ws[i]? = none ∧ J.next i M = some none) ∨ ∃ w d, ws[i]? = some w ∧ J.next i M = some (some d) ∧ FZ M Z d w := by
  have base : ∀ {ds : List D} {ws : List W}, FZs M Z ds ws → (ws[i]? = none ∧ some ds[i]? = some none) ∨ ∃ w d, ws[i]? = some w ∧ some ds[i]? = some (some d) ∧ FZ M Z d w := fun {ds ws} r => by
    cases e : ws[i]? with
    | none => exact .inl ⟨rfl, by rw [List.getElem?_eq_none_iff] at e; rw [List.getElem?_eq_none_iff.mpr (by rw [r.length]; exact e)]⟩
    | some w =>
      obtain ⟨d, h1, h2⟩ := r.get e
      exact .inr ⟨w, d, rfl, by rw [h1], h2⟩
  induction q with
  | snap r => exact base r
  | live m r hz =>
    rcases base r with ⟨h1, h2⟩ | ⟨w, d, h1, h2, h3⟩
    · exact .inl ⟨h1, by unfold It.next; rw [listAt_eq m]; exact h2⟩
    · exact .inr ⟨w, d, h1, by unfold It.next; rw [listAt_eq m]; exact h2, h3⟩
  | enu _ ih =>
    rw [enumV_get]
    rcases ih with ⟨h1, h2⟩ | ⟨w, d, h1, h2, h3⟩
    · exact .inl ⟨by rw [h1]; rfl, by unfold It.next; rw [h2]; rfl⟩
    · exact .inr ⟨_, _, by rw [h1]; rfl, by unfold It.next; rw [h2]; rfl, .tup (.cons (by rw [Nat.zero_add]; exact .int _) (.cons h3 .nil))⟩
  | zip _ _ ih1 ih2 =>
    rw [zipV_get]
    rcases ih1 with ⟨h1, h2⟩ | ⟨w, d, h1, h2, h3⟩
    · rcases ih2 with ⟨g1, g2⟩ | ⟨w', d', g1, g2, g3⟩
      · exact .inl ⟨by rw [h1], by unfold It.next; rw [h2, g2]⟩
      · exact .inl ⟨by rw [h1], by unfold It.next; rw [h2, g2]⟩
    · rcases ih2 with ⟨g1, g2⟩ | ⟨w', d', g1, g2, g3⟩
      · exact .inl ⟨by rw [h1, g1], by unfold It.next; rw [h2, g2]⟩
      · exact .inr ⟨_, _, by rw [h1, g1], by unfold It.next; rw [h2, g2], .tup (.cons h3 (.cons g3 .nil))⟩
theorem FZs.strs (cs : List Nat) : FZs M Z (cs.map fun c => .str ⟨#[c]⟩) (cs.map fun c => .str ⟨#[c]⟩) := by
  induction cs with
  | nil => exact .nil
  | cons c cs ih => exact .cons (.str _) ih
theorem iter_eq {rs : List Nat} {d : D} {w : W} {ws : List W} (h : RdQ rs M Z ad d w) (e : w.iter = some ws) : ∃ J, itOf M d = some J ∧ ItW M Z ad rs J ws := by
  obtain ⟨as, h, ha⟩ := h
  cases w <;> try (cases e; done)
  · cases e; rw [h.toEl.str']; exact ⟨_, rfl, .snap (.strs _)⟩
  · cases e; obtain ⟨ds, rfl, r⟩ := h.toEl.tup'; exact ⟨_, rfl, .snap r⟩
  · cases e
    have of : ∀ n ds, M[n]? = some (.lst ds) → itOf M (.ref n) = some (.live n) := fun n ds m => by
      show (listAt M n).map (fun _ => It.live n) = _; rw [listAt_eq m]; rfl
    rcases h with ⟨h1, h2⟩ | ⟨n, ds, ws', h1, h2, h3, h4, h5⟩
    · obtain ⟨n, ds, rfl, z, m, r⟩ := h2.lst'
      exact ⟨_, of n ds m, .live m r (.inl z)⟩
    · cases h3
      subst h2
      exact ⟨_, of n ds h4, .live h4 h5 (.inr (ha n (by rw [h1]; simp)))⟩
def OpQ (md : Nat → Md) (l : List Nat) (M0 : Sto) (ad0 : Ad) (s : Sh) : QT (Option D) (Option W) := fun M Z ad d w => (d = none ∧ w = none) ∨ ∃ x y, d = some x ∧ w = some y ∧ OwQ md l M0 ad0 s M Z ad x y
theorem Gd.lc {J : It} {xs : List W} {rs : List Nat} {F : D → Sto → Out (Option D)} {f : W → VE → R (Option W)} {s : Sh} {M0 : Sto} {ad0 : Ad} {Z0 : Zs} (ho : offB rs l = true)
    (step : ∀ M Z ad σ x w, EnvR md M Z ad σ τ → FZ M Z x w → Gd md l τ M Z ad (F x M) (f w σ) (OpQ md l M ad s)) :
    ∀ (rest : List W) (n i : Nat) (acc : List D) (accw : List W) (M : Sto) (Z : Zs) (ad : Ad) (σ : VE), xs.drop i = rest → rest.length < n → EnvR md M Z ad σ τ → Step (Mu md l) M0 Z0 ad0 M Z ad → ItW M Z ad rs J xs → OwsQ md l M0 ad0 s M Z ad acc accw →
      Gd md l τ M Z ad (lcGo J F n i acc M) (lcV f rest accw σ) (OwsQ md l M0 ad0 s)
  | [], n, i, acc, accw, M, Z, ad, σ, hd, hn, E, S0, hj, q => by
    obtain ⟨m, rfl⟩ : ∃ m, n = m + 1 := ⟨n - 1, by simp at hn; omega⟩
    rw [lcGo, lcV]
    have : xs[i]? = none := by
      rw [List.getElem?_eq_none_iff]; have := congrArg List.length hd; simp at this; omega
    rcases hj.next i with ⟨h1, h2⟩ | ⟨w, d, h1, _⟩
    · rw [h2]; exact .ok E q
    · rw [this] at h1; cases h1
  | w :: rest, n, i, acc, accw, M, Z, ad, σ, hd, hn, E, S0, hj, q => by
    obtain ⟨m, rfl⟩ : ∃ m, n = m + 1 := ⟨n - 1, by simp at hn; omega⟩
    rw [lcGo, lcV]
    have hw : xs[i]? = some w := by
      have := congrArg (fun l => l[0]?) hd
      simpa using this
    have hd' : xs.drop (i + 1) = rest := by
      rw [← List.drop_drop, hd]; rfl
    rcases hj.next i with ⟨h1, _⟩ | ⟨w', d, h1, h2, h3⟩
    · rw [hw] at h1; cases h1
    · rw [hw] at h1
      cases h1
      rw [h2]
      have G := step M Z ad σ d w E h3
      simp only
      generalize f w σ = r at G
      generalize F d M = o at G
      cases r with
      | bad => trivial
      | exc x σ' => trivial
      | ok b σ' =>
        obtain ⟨a, M', Z', ad', rfl, E', S', hq⟩ := G
        have fin : ∀ acc accw, OwsQ md l M0 ad0 s M' Z' ad' acc accw → Gd md l τ M Z ad (lcGo J F m (i + 1) acc M') (lcV f rest accw σ') (OwsQ md l M0 ad0 s) := fun acc accw q' => by
          have R := Gd.lc ho step rest m (i + 1) acc accw M' Z' ad' σ' hd' (by simp at hn; omega) E' (S0.trans S') (hj.go E S' ho) q'
          generalize lcV f rest accw σ' = r at R
          generalize lcGo J F m (i + 1) acc M' = o at R
          cases r with
          | bad => trivial
          | ok b σ2 =>
            obtain ⟨a, M2, Z2, ad2, g1, g2, g3, g4⟩ := R
            exact ⟨a, M2, Z2, ad2, g1, g2, S'.trans g3, g4⟩
          | exc b σ2 =>
            obtain ⟨a, M2, Z2, ad2, g1, g2, g3, g4⟩ := R
            exact ⟨a, M2, Z2, ad2, g1, g2, S'.trans g3, g4⟩
        rcases hq with ⟨rfl, rfl⟩ | ⟨x, y, rfl, rfl, hq⟩
        · exact fin acc accw (q.go E S')
        · simp only
          have hl : acc.length = accw.length := by
            obtain ⟨ass, r, _⟩ := q
            exact r.length.2
          by_cases c : accw.length < sizeLine
          · rw [if_pos c, if_pos (by omega)]
            exact fin _ _ (q.snoc E S0 S' hq)
          · rw [if_neg c]; trivial
end
end PyL

/-! V: places written. -/
namespace PyL
open PySem
section
variable {md : Nat → Md} {l l1 l2 : List Nat} {τ : En} {σ : VE} {M M0 M1 M2 : Sto} {Z Z0 Z1 Z2 : Zs} {ad ad0 ad1 ad2 : Ad}
theorem Gd.bind0 {α β γ δ : Type} {o : Out α} {r : R β} {k : α → Sto → Out γ} {k' : β → VE → R δ} {Q1 : QT α β} {Q : QT γ δ} (A : Gd md l1 τ M Z ad o r Q1) (hl : ∀ j ∈ l1, j ∈ l)
    (B : ∀ a b M' Z' ad' σ', EnvR md M' Z' ad' σ' τ → Step (Mu md l1) M Z ad M' Z' ad' → Q1 M' Z' ad' a b → Gd md l τ M Z ad (k a M') (k' b σ') Q) : Gd md l τ M Z ad (o.bind k) (r.bind k') Q := by
  cases r with
  | bad => rw [R.bind_bad]; trivial
  | exc x σ' =>
    obtain ⟨y, M', Z', ad', h1, h2, h3, h4⟩ := A
    rw [h1, R.bind_exc, Out.bind_exc]
    exact ⟨y, M', Z', ad', rfl, h2, h3.mono (Mu.mono hl), h4⟩
  | ok b σ' =>
    obtain ⟨a, M', Z', ad', h1, h2, h3, h4⟩ := A
    rw [h1, R.bind_ok, Out.bind_ok]
    exact B a b M' Z' ad' σ' h2 h3 h4
/-- from a later state to an earlier one -/
theorem Gd.since {α β : Type} {o : Out α} {r : R β} {Q Q' : QT α β} (A : Gd md l1 τ M1 Z1 ad1 o r Q) (S : Step (Mu md l) M Z ad M1 Z1 ad1) (hl : ∀ j ∈ l1, j ∈ l) (h : ∀ a b M' Z' ad' σ', EnvR md M' Z' ad' σ' τ → Step (Mu md l1) M1 Z1 ad1 M' Z' ad' → Q M' Z' ad' a b → Q' M' Z' ad' a b) : Gd md l τ M Z ad o r Q' := by
  cases r with
  | bad => trivial
  | ok b σ' =>
    obtain ⟨a, M', Z', ad', h1, h2, h3, h4⟩ := A
    exact ⟨a, M', Z', ad', h1, h2, S.trans (h3.mono (Mu.mono hl)), h _ _ _ _ _ _ h2 h3 h4⟩
  | exc x σ' =>
    obtain ⟨a, M', Z', ad', h1, h2, h3, h4⟩ := A
    exact ⟨a, M', Z', ad', h1, h2, S.trans (h3.mono (Mu.mono hl)), h4⟩
def upA (ad : Ad) (j : Nat) (as : List Nat) : Ad := fun k => if k = j then as else ad k
theorem upA_same {j : Nat} {as : List Nat} : upA ad j as j = as := if_pos rfl
theorem upA_ne {j k : Nat} {as : List Nat} (h : k ≠ j) : upA ad j as k = ad k := if_neg h
theorem RM.of_sh {m : Md} {s : Sh} {as : List Nat} {d : D} {w : W} (h : m.sh = some s) : RM M Z m as d w ↔ RV M Z s as d w := by unfold RM; rw [h]
/-- a slot has a new value, at the same place of the store -/
theorem EnvR.put {j n : Nat} {w0 w' : W} {d0 : D} {o : MO} {s : Sh} {as' : List Nat} (E : EnvR md M Z ad σ τ) (ho : (md j).own = true) (sl : σ[j]? = some (some w0)) (hd : τ[j]? = some (some d0)) (hn : n ∈ ad j) (hs : (md j).sh = some s)
    (r : RV (M.set n o) Z s as' d0 w') (nd : as'.Nodup) (h : ∀ x ∈ as', x ∈ ad j ∨ (¬ Z x ∧ x < M.length ∧ ∀ i, x ∉ ad i)) : EnvR md (M.set n o) Z (upA ad j as') (σ.set j (some w')) τ := by
  have hjl : j < σ.length := (List.getElem?_eq_some_iff.mp sl).1
  have old : ∀ i, i ≠ j → ∀ x ∈ as', x ∉ ad i := fun i hi x hx hm => by
    rcases h x hx with z | z
    · exact E.dis j i ho (Ne.symm hi) x z hm
    · exact z.2.2 i hm
  have stay : ∀ x, x ≠ n → (M.set n o)[x]? = M[x]? := fun x hx => List.getElem?_set_ne (Ne.symm hx)
  refine ⟨by rw [List.length_set]; exact E.len, fun i w hw => ?_, fun i hi => ?_, fun i hi => ?_, fun i k hi hne x hx => ?_, fun i hi x hx => ?_, fun i x hx => ?_, fun x hx => by rw [List.length_set]; exact E.zl x hx, fun i hi => ?_⟩
  · by_cases c : i = j
    · subst c
      rw [List.getElem?_set_self hjl] at hw
      cases hw
      exact ⟨d0, hd, by rw [upA_same]; exact (RM.of_sh hs).mpr r⟩
    · rw [List.getElem?_set_ne (Ne.symm c)] at hw
      obtain ⟨d, h1, h2⟩ := E.sl i w hw
      rw [upA_ne c]
      exact ⟨d, h1, h2.step (fun x z => ⟨stay x fun e => E.nz j ho n hn (e ▸ z), z⟩) fun x hx => stay x fun e => E.dis j i ho (Ne.symm c) n hn (e ▸ hx)⟩
  · by_cases c : i = j
    · subst c
      exact absurd (List.getElem?_set_self hjl) (hi w')
    · rw [upA_ne c]
      exact E.no i fun w => by have := hi w; rw [List.getElem?_set_ne (Ne.symm c)] at this; exact this
  · by_cases c : i = j
    · subst c; rw [upA_same]; exact nd
    · rw [upA_ne c]; exact E.nd i hi
  · by_cases c : i = j
    · subst c
      rw [upA_same] at hx
      rw [upA_ne (Ne.symm hne)]
      exact old k (Ne.symm hne) x hx
    · rw [upA_ne c] at hx
      by_cases c2 : k = j
      · subst c2; rw [upA_same]; exact fun hm => old i c x hm hx
      · rw [upA_ne c2]; exact E.dis i k hi hne x hx
  · by_cases c : i = j
    · subst c
      rw [upA_same] at hx
      rcases h x hx with z | z
      · exact E.nz i hi x z
      · exact z.1
    · rw [upA_ne c] at hx; exact E.nz i hi x hx
  · rw [List.length_set]
    by_cases c : i = j
    · subst c
      rw [upA_same] at hx
      rcases h x hx with z | z
      · exact E.lt i x z
      · exact z.2.1
    · rw [upA_ne c] at hx; exact E.lt i x hx
  · by_cases c : i = j
    · subst c; exact ⟨w', List.getElem?_set_self hjl⟩
    · obtain ⟨w, hw⟩ := E.io i hi
      exact ⟨w, by rw [List.getElem?_set_ne (Ne.symm c)]; exact hw⟩
theorem Step.put {j n : Nat} {o : MO} {as' : List Nat} (S : Step (Mu md l) M0 Z0 ad0 M Z ad) (hj : Mu md l j) (hn : n ∈ ad j) (h : ∀ x ∈ as', x ∈ ad j ∨ (M0.length ≤ x ∨ ∃ j, Mu md l j ∧ x ∈ ad0 j)) : Step (Mu md l) M0 Z0 ad0 (M.set n o) Z (upA ad j as') := by
  refine ⟨by rw [List.length_set]; exact S.len, fun x hx hk => ?_, S.zm, S.zn, fun i hi => ?_, fun i hi x hx => ?_⟩
  · rw [List.getElem?_set_ne, S.keep x hx hk]
    rintro rfl
    rcases S.an j hj n hn with z | ⟨k, h1, h2⟩
    · omega
    · exact hk k h1 h2
  · rw [upA_ne (fun e : i = j => hi (by rw [e]; exact hj))]; exact S.sm i hi
  · by_cases c : i = j
    · subst c
      rw [upA_same] at hx
      rcases h x hx with z | z
      · exact S.an i hi x z
      · exact z
    · rw [upA_ne c] at hx; exact S.an i hi x hx
theorem All3.get {P : List Nat → D → W → Prop} : ∀ {as : List (List Nat)} {ds : List D} {ws : List W}, All3 P as ds ws → ∀ {k : Nat} {w : W}, ws[k]? = some w → ∃ a d, as[k]? = some a ∧ ds[k]? = some d ∧ P a d w
  | _, _, _, .nil, k, w, h => by simp at h
  | _, _, _, .cons p r, 0, w, h => by simp at h; subst h; exact ⟨_, _, rfl, rfl, p⟩
  | _, _, _, .cons p r, k + 1, w, h => by
    obtain ⟨a, d, h1, h2, h3⟩ := r.get (k := k) (by simpa using h)
    exact ⟨a, d, by simpa using h1, by simpa using h2, h3⟩
/-- one of them has changed, the others not -/
theorem All3.set1 {P Q : List Nat → D → W → Prop} : ∀ {as : List (List Nat)} {ds : List D} {ws : List W}, All3 P as ds ws → ∀ {k : Nat} {a a' : List Nat} {d : D} {w' : W}, as[k]? = some a → ds[k]? = some d → as.flatten.Nodup →
    (∀ b d w, b ∈ as → (∀ x ∈ b, x ∉ a) → P b d w → Q b d w) → Q a' d w' → All3 Q (as.set k a') ds (ws.set k w') ∧ ∀ x, x ∈ (as.set k a').flatten → (x ∈ as.flatten ∧ x ∉ a) ∨ x ∈ a'
  | _, _, _, .nil, k, a, a', d, w', h, _, _, _, _ => by simp at h
  | _, _, _, .cons (a := b) (as := bs) p r, 0, a, a', d, w', h, hd, nd, hk, q => by
    simp at h hd
    subst h hd
    rw [List.flatten_cons, List.nodup_append] at nd
    refine ⟨.cons q (r.mono fun c hc d w pc => hk c d w (List.mem_cons_of_mem _ hc) (fun x hx hm => nd.2.2 x hm x (List.mem_flatten.mpr ⟨c, hc, hx⟩) rfl) pc), fun x hx => ?_⟩
    simp only [List.set_cons_zero, List.flatten_cons, List.mem_append] at hx ⊢
    rcases hx with hx | hx
    · exact .inr hx
    · exact .inl ⟨.inr hx, fun hm => nd.2.2 x hm x hx rfl⟩
  | _, _, _, .cons (a := b) (as := bs) p r, k + 1, a, a', d, w', h, hd, nd, hk, q => by
    simp only [List.getElem?_cons_succ] at h hd
    rw [List.flatten_cons, List.nodup_append] at nd
    have ha : ∀ x ∈ b, x ∉ a := fun x hx hm => nd.2.2 x hx x (List.mem_flatten.mpr ⟨a, List.mem_of_getElem? h, hm⟩) rfl
    obtain ⟨r1, r2⟩ := r.set1 h hd nd.2.1 (fun c d w hc => hk c d w (List.mem_cons_of_mem _ hc)) q
    refine ⟨.cons (hk b _ _ List.mem_cons_self ha p) r1, fun x hx => ?_⟩
    simp only [List.set_cons_succ, List.flatten_cons, List.mem_append] at hx ⊢
    rcases hx with hx | hx
    · exact .inl ⟨.inl hx, ha x hx⟩
    · rcases r2 x hx with ⟨z1, z2⟩ | z
      · exact .inl ⟨.inr z1, z2⟩
      · exact .inr z
theorem nodup_set1 : ∀ {as : List (List Nat)} {k : Nat} {a a' : List Nat}, as[k]? = some a → as.flatten.Nodup → a'.Nodup → (∀ x ∈ a', x ∈ a ∨ x ∉ as.flatten) → (as.set k a').flatten.Nodup
  | [], k, a, a', h, _, _, _ => by simp at h
  | b :: bs, 0, a, a', h, nd, n', ho => by
    simp at h
    subst h
    rw [List.set_cons_zero, List.flatten_cons, List.nodup_append] at *
    refine ⟨n', nd.2.1, fun x hx y hy e => ?_⟩
    subst e
    rcases ho x hx with z | z
    · exact nd.2.2 x z x hy rfl
    · exact z (List.mem_append_right _ hy)
  | b :: bs, k + 1, a, a', h, nd, n', ho => by
    simp only [List.getElem?_cons_succ] at h
    rw [List.flatten_cons, List.nodup_append] at nd
    rw [List.set_cons_succ, List.flatten_cons, List.nodup_append]
    refine ⟨nd.1, nodup_set1 h nd.2.1 n' fun x hx => (ho x hx).imp id fun z hm => z (by rw [List.flatten_cons]; exact List.mem_append_right _ hm), fun x hx y hy e => ?_⟩
    subst e
    obtain ⟨c, hc, hm⟩ := List.mem_flatten.mp hy
    rcases List.mem_or_eq_of_mem_set hc with hc | rfl
    · exact nd.2.2 x hx x (List.mem_flatten.mpr ⟨c, hc, hm⟩) rfl
    · rcases ho x hm with z | z
      · exact nd.2.2 x hx x (List.mem_flatten.mpr ⟨a, List.mem_of_getElem? h, z⟩) rfl
      · exact z (by rw [List.flatten_cons]; exact List.mem_append_left _ hx)
theorem nodup_of_flat : ∀ {as : List (List Nat)}, as.flatten.Nodup → ∀ a ∈ as, a.Nodup
  | b :: bs, h, a, ha => by
    rw [List.flatten_cons, List.nodup_append] at h
    rcases List.mem_cons.mp ha with rfl | ha
    · exact h.1
    · exact nodup_of_flat h.2.1 a ha
/-- a list that is written: where it stands, what comes of a store to it -/
structure Plc (md : Nat → Md) (l : List Nat) (τ : En) (M0 : Sto) (Z0 : Zs) (ad0 : Ad) (M : Sto) (Z : Zs) (ad : Ad) (σ : VE) (j n : Nat) (is : List W) (t : Sh) (ds : List D) (ws : List W) (ass : List (List Nat)) : Prop where
  at' : M[n]? = some (.lst ds)
  al : All3 (RV M Z t) ass ds ws
  nd : ass.flatten.Nodup
  inn : ∀ x ∈ ass.flatten, x ∈ ad j ∧ x ≠ n
  hn : n ∈ ad j
  put : ∀ (f : W → Option (W × W)) (ds' : List D) (ws' : List W) (r : W) (ass' : List (List Nat)), f (.lst ws) = some (.lst ws', r) → All3 (RV (M.set n (.lst ds')) Z t) ass' ds' ws' → ass'.flatten.Nodup →
    (∀ x ∈ ass'.flatten, x ∈ ass.flatten ∨ (¬ Z x ∧ x < M.length ∧ (∀ i, x ∉ ad i) ∧ (M0.length ≤ x ∨ ∃ j, Mu md l j ∧ x ∈ ad0 j))) →
    ∃ ad' σ', updAt j is f σ = .ok r σ' ∧ EnvR md (M.set n (.lst ds')) Z ad' σ' τ ∧ Step (Mu md l) M0 Z0 ad0 (M.set n (.lst ds')) Z ad' ∧ (∀ x, x ∈ ass.flatten → x ∉ ass'.flatten → ∀ i, x ∉ ad' i) ∧ ∀ x, x < M.length → (∀ i, x ∉ ad i) → x ∉ ass'.flatten → ∀ i, x ∉ ad' i
  no : ∀ (f : W → Option (W × W)), f (.lst ws) = none → updAt j is f σ = .bad
theorem plc0 {j : Nat} {w0 : W} {t : Sh} (E : EnvR md M Z ad σ τ) (S : Step (Mu md l) M0 Z0 ad0 M Z ad) (hj : Mu md l j) (sl : σ[j]? = some (some w0)) (hs : (md j).sh = some (.ls t)) :
    ∃ n ds ws ass, τ[j]? = some (some (.ref n)) ∧ w0 = .lst ws ∧ Plc md l τ M0 Z0 ad0 M Z ad σ j n [] t ds ws ass := by
  obtain ⟨d, h1, h2⟩ := E.sl j w0 sl
  obtain ⟨n, ds, ws, ass, rfl, rfl, hm, ha, r⟩ := (RM.of_sh hs).mp h2
  have nd := E.nd j hj.2
  rw [ha] at nd
  obtain ⟨n1, n2⟩ := List.nodup_cons.mp nd
  have hn : n ∈ ad j := by rw [ha]; exact List.mem_cons_self
  have hin : ∀ x ∈ ass.flatten, x ∈ ad j ∧ x ≠ n := fun x hx => ⟨by rw [ha]; exact List.mem_cons_of_mem _ hx, fun e => n1 (e ▸ hx)⟩
  have hnl : n < M.length := (List.getElem?_eq_some_iff.mp hm).1
  refine ⟨n, ds, ws, ass, h1, rfl, hm, r, n2, hin, hn, fun f ds' ws' r ass' hf hal hnd hx => ?_, fun f hf => ?_⟩
  · have nn : n ∉ ass'.flatten := fun hm => by
      rcases hx n hm with z | z
      · exact n1 z
      · exact z.2.2.1 j hn
    refine ⟨upA ad j (n :: ass'.flatten), σ.set j (some (.lst ws')), ?_, ?_, ?_, ?_, ?_⟩
    · unfold updAt; rw [sl]; simp only [List.reverse_nil, W.upd, hf]
    · refine E.put hj.2 sl h1 hn hs ⟨n, ds', ws', ass', rfl, rfl, List.getElem?_set_self hnl, rfl, hal⟩ (List.nodup_cons.mpr ⟨nn, hnd⟩) fun x hx' => ?_
      rcases List.mem_cons.mp hx' with rfl | hx'
      · exact .inl hn
      · exact (hx x hx').imp (fun z => (hin x z).1) fun z => ⟨z.1, z.2.1, z.2.2.1⟩
    · refine S.put hj hn fun x hx' => ?_
      rcases List.mem_cons.mp hx' with rfl | hx'
      · exact .inl hn
      · exact (hx x hx').imp (fun z => (hin x z).1) fun z => z.2.2.2
    · intro x k1 k2 i hi
      by_cases c : i = j
      · rw [c, upA_same] at hi
        rcases List.mem_cons.mp hi with hi | hi
        · exact (hin _ k1).2 hi
        · exact k2 hi
      · rw [upA_ne c] at hi
        exact E.dis j i hj.2 (Ne.symm c) x (hin x k1).1 hi
    · intro x _ k1 k2 i hi
      by_cases c : i = j
      · rw [c, upA_same] at hi
        rcases List.mem_cons.mp hi with hi | hi
        · exact k1 j (by rw [hi]; exact hn)
        · exact k2 hi
      · rw [upA_ne c] at hi
        exact k1 i hi
  · unfold updAt; rw [sl]; simp only [List.reverse_nil, W.upd, hf]
theorem plc1 {j : Nat} {w0 iw : W} {t : Sh} (E : EnvR md M Z ad σ τ) (S : Step (Mu md l) M0 Z0 ad0 M Z ad) (hj : Mu md l j) (sl : σ[j]? = some (some w0)) (hs : (md j).sh = some (.ls (.ls t))) :
    (∀ f, updAt j [iw] f σ = .bad) ∨ ∃ m n di ds ws ass, iw = .int di ∧ τ[j]? = some (some (.ref m)) ∧ ixD M (.ref m) (.int di) = .ok (.ref n) M ∧ Plc md l τ M0 Z0 ad0 M Z ad σ j n [iw] t ds ws ass := by
  obtain ⟨d, h1, h2⟩ := E.sl j w0 sl
  obtain ⟨m, dds, wws, asss, rfl, rfl, hm, ha, r⟩ := (RM.of_sh hs).mp h2
  have nob : (∀ f, W.upd [iw] (.lst wws) f = none) → ∀ f, updAt j [iw] f σ = .bad := fun h f => by
    unfold updAt; rw [sl]; simp only [List.reverse_singleton, h]
  cases iw with
  | int di =>
    cases q : L2.ixN wws.length di with
    | none => exact .inl (nob fun f => by simp only [W.upd, q])
    | some k =>
      cases qw : wws[k]? with
      | none => exact .inl (nob fun f => by simp only [W.upd, q, qw])
      | some x =>
        obtain ⟨a, dk, g1, g2, g3⟩ := r.get qw
        obtain ⟨n, ds, ws, ass, rfl, rfl, gm, ga, gr⟩ := g3
        right
        have nd := E.nd j hj.2
        rw [ha] at nd
        obtain ⟨n1, n2⟩ := List.nodup_cons.mp nd
        have amem : a ∈ asss := List.mem_of_getElem? g1
        have ain : ∀ x ∈ a, x ∈ asss.flatten := fun x hx => List.mem_flatten.mpr ⟨a, amem, hx⟩
        have hna : n ∈ a := by rw [ga]; exact List.mem_cons_self
        have hn : n ∈ ad j := by rw [ha]; exact List.mem_cons_of_mem _ (ain n hna)
        have and : a.Nodup := nodup_of_flat n2 a amem
        have and' := and
        rw [ga] at and'
        obtain ⟨a1, a2⟩ := List.nodup_cons.mp and'
        have hin : ∀ x ∈ ass.flatten, x ∈ ad j ∧ x ≠ n := fun x hx => ⟨by rw [ha]; exact List.mem_cons_of_mem _ (ain x (by rw [ga]; exact List.mem_cons_of_mem _ hx)), fun e => a1 (e ▸ hx)⟩
        have hnl : n < M.length := (List.getElem?_eq_some_iff.mp gm).1
        have mn : m ≠ n := fun e => n1 (by rw [e]; exact ain n hna)
        have hl : dds.length = wws.length := r.length.2
        refine ⟨m, n, di, ds, ws, ass, rfl, h1, ?_, gm, gr, a2, hin, hn, fun f ds' ws' rr ass' hf hal hnd hx => ?_, fun f hf => ?_⟩
        · have : L2.atI dds di = some (.ref n) := by unfold L2.atI; rw [hl, q]; exact g2
          simp only [ixD, items, listAt_eq hm, this]
        · have nn : n ∉ ass'.flatten := fun hm => by
            rcases hx n hm with z | z
            · exact a1 z
            · exact z.2.2.1 j hn
          have anew : ∀ x ∈ n :: ass'.flatten, x ∈ a ∨ x ∉ asss.flatten := fun x hx' => by
            rcases List.mem_cons.mp hx' with rfl | hx'
            · exact .inl hna
            · rcases hx x hx' with z | z
              · exact .inl (by rw [ga]; exact List.mem_cons_of_mem _ z)
              · exact .inr fun hm => z.2.2.1 j (by rw [ha]; exact List.mem_cons_of_mem _ hm)
          have hset := r.set1 (Q := RV (M.set n (.lst ds')) Z (.ls t)) (a' := n :: ass'.flatten) (w' := .lst ws') g1 g2 n2 (fun b d w hb hd p => p.step (fun x z => ⟨List.getElem?_set_ne fun e : n = x => E.nz j hj.2 n hn (by rw [e]; exact z), z⟩) fun x hx => List.getElem?_set_ne fun e : n = x => hd x hx (by rw [← e]; exact hna)) ⟨n, ds', ws', ass', rfl, rfl, List.getElem?_set_self hnl, rfl, hal⟩
          have hnd' := nodup_set1 g1 n2 (List.nodup_cons.mpr ⟨nn, hnd⟩) anew
          have mnew : m ∉ (asss.set k (n :: ass'.flatten)).flatten := fun hm' => by
            rcases hset.2 m hm' with z | z
            · exact n1 z.1
            · rcases List.mem_cons.mp z with z | z
              · exact mn z
              · rcases hx m z with z | z
                · exact n1 (ain m (by rw [ga]; exact List.mem_cons_of_mem _ z))
                · exact z.2.2.1 j (by rw [ha]; exact List.mem_cons_self)
          have who : ∀ x ∈ m :: (asss.set k (n :: ass'.flatten)).flatten, x ∈ ad j ∨ (¬ Z x ∧ x < M.length ∧ (∀ i, x ∉ ad i) ∧ (M0.length ≤ x ∨ ∃ j, Mu md l j ∧ x ∈ ad0 j)) := fun x hx' => by
            rcases List.mem_cons.mp hx' with rfl | hx'
            · exact .inl (by rw [ha]; exact List.mem_cons_self)
            · rcases hset.2 x hx' with z | z
              · exact .inl (by rw [ha]; exact List.mem_cons_of_mem _ z.1)
              · rcases List.mem_cons.mp z with rfl | z
                · exact .inl hn
                · exact (hx x z).imp (fun z => (hin x z).1) id
          have drop : ∀ x, x ∉ ass'.flatten → x ≠ n → x ≠ m → (x ∉ asss.flatten ∨ x ∈ a) → x ∉ m :: (asss.set k (n :: ass'.flatten)).flatten := fun x h1 h2 h3 h4 hm' => by
            rcases List.mem_cons.mp hm' with z | z
            · exact h3 z
            · rcases hset.2 x z with z | z
              · rcases h4 with h4 | h4
                · exact h4 z.1
                · exact z.2 h4
              · rcases List.mem_cons.mp z with z | z
                · exact h2 z
                · exact h1 z
          refine ⟨upA ad j (m :: (asss.set k (n :: ass'.flatten)).flatten), σ.set j (some (.lst (wws.set k (.lst ws')))), ?_, ?_, ?_, ?_, ?_⟩
          · unfold updAt; rw [sl]; simp only [List.reverse_singleton, W.upd, q, qw, hf]
          · exact E.put hj.2 sl h1 hn hs ⟨m, dds, _, _, rfl, rfl, by rw [List.getElem?_set_ne (Ne.symm mn)]; exact hm, rfl, hset.1⟩ (List.nodup_cons.mpr ⟨mnew, hnd'⟩) fun x hx' => (who x hx').imp id fun z => ⟨z.1, z.2.1, z.2.2.1⟩
          · exact S.put hj hn fun x hx' => (who x hx').imp id fun z => z.2.2.2
          · intro x k1 k2 i hi
            have xa : x ∈ a := by rw [ga]; exact List.mem_cons_of_mem _ k1
            by_cases c : i = j
            · rw [c, upA_same] at hi
              exact drop x k2 (hin x k1).2 (fun e => n1 (by rw [← e]; exact ain x xa)) (.inr xa) hi
            · rw [upA_ne c] at hi
              exact E.dis j i hj.2 (Ne.symm c) x (hin x k1).1 hi
          · intro x _ k1 k2 i hi
            by_cases c : i = j
            · rw [c, upA_same] at hi
              exact drop x k2 (fun e => k1 j (by rw [e]; exact hn)) (fun e => k1 j (by rw [e, ha]; exact List.mem_cons_self)) (.inl fun hm => k1 j (by rw [ha]; exact List.mem_cons_of_mem _ hm)) hi
            · rw [upA_ne c] at hi
              exact k1 i hi
        · unfold updAt; rw [sl]; simp only [List.reverse_singleton, W.upd, q, qw, hf]
  | _ => exact .inl (nob fun f => by simp only [W.upd])
end
end PyL

/-! V: calls. -/
namespace PyL
open PySem
def mdL (ps : List Md) : Nat → Md := fun i => ps.getD i .F
def maskV : List Md → VE → VE
  | m :: ps, x :: xs => (if m == .F then none else x) :: maskV ps xs
  | _, _ => []
def Sg.rs (s : Sg) : Sh := match s.ret with
  | .O t => t
  | _ => .fr
def ownL (ps : List Md) : Nat → Prop := fun j => (mdL ps j).own = true
def FreshR (s : Sg) (M : Sto) (ad : Ad) (M' : Sto) (Z' : Zs) (ad' : Ad) (d : D) (w : W) : Prop :=
  ∃ as, RV M' Z' s.rs as d w ∧ as.Nodup ∧ ∀ n ∈ as, ¬ Z' n ∧ n < M'.length ∧ (∀ i, n ∉ ad' i) ∧ (M.length ≤ n ∨ ∃ j, ownL s.ps j ∧ n ∈ ad j)
/-- a def does in the store what it does over values -/
def FnOk (s : Sg) (f : List D → Sto → Out D) (g : List W → FW) : Prop :=
  ∀ (M : Sto) (Z : Zs) (ad : Ad) (ws : List W) (ds : List D), ws.length = s.ps.length → EnvR (mdL s.ps) M Z ad (ws.map some) (ds.map some) →
    match g ws with
    | .ok w ps => ps.length = s.ps.length ∧ ∃ d M' Z' ad', f ds M = .ok d M' ∧ EnvR (mdL s.ps) M' Z' ad' (maskV s.ps ps) (ds.map some) ∧ Step (ownL s.ps) M Z ad M' Z' ad' ∧ FreshR s M ad M' Z' ad' d w
    | .exc x ps => ps.length = s.ps.length ∧ ∃ y M' Z' ad', f ds M = .exc y M' ∧ EnvR (mdL s.ps) M' Z' ad' (maskV s.ps ps) (ds.map some) ∧ Step (ownL s.ps) M Z ad M' Z' ad' ∧ XR M' Z' y x
    | .bad => True
/-- the slot that is handed in to be written to -/
def ioAt : List Md → Es → Nat → Option Nat
  | m :: _, .cons e _, 0 => if m.isI then (match e with
    | .var j => some j
    | _ => none) else none
  | _ :: ps, .cons _ es, p + 1 => ioAt ps es p
  | _, _, _ => none
def Arg1 (md : Nat → Md) (τ : En) (M : Sto) (Z : Zs) (ad : Ad) (io mm : List Nat) (m : Md) (e : E) (d : D) (w : W) (as : List Nat) : Prop :=
  match m with
  | .F => as = [] ∧ FZ M Z d w
  | .B => RV M Z .el as d w ∧ ∀ n ∈ as, ∃ j, j ∉ io ∧ j ∉ mm ∧ n ∈ ad j
  | .I s => ∃ j, e = .var j ∧ (md j).own = true ∧ (md j).sh = some s ∧ as = ad j ∧ j ∈ io ∧ RV M Z s as d w ∧ τ[j]? = some (some d)
  | .K => as = [] ∧ KR M Z d w
  | .O _ => False
/-- an argument while the others are still evaluated -/
def ArgE1 (md : Nat → Md) (τ : En) (M : Sto) (Z : Zs) (ad : Ad) (io mm : List Nat) (m : Md) (e : E) (d : D) (w : W) : Prop :=
  match m with
  | .F => FZ M Z d w
  | .B => ∃ as, RV M Z .el as d w ∧ ∀ n ∈ as, ∃ j, j ∉ io ∧ j ∉ mm ∧ n ∈ ad j
  | .I s => ∃ j, e = .var j ∧ (md j).own = true ∧ (md j).sh = some s ∧ j ∈ io ∧ τ[j]? = some (some d)
  | .K => KR M Z d w
  | .O _ => False
inductive ArgE (md : Nat → Md) (τ : En) (M : Sto) (Z : Zs) (ad : Ad) (io mm : List Nat) : List Md → Es → List D → List W → Prop
  | nil : ArgE md τ M Z ad io mm [] .nil [] []
  | cons {m : Md} {ps : List Md} {e : E} {es : Es} {d : D} {w : W} {ds : List D} {ws : List W} : ArgE1 md τ M Z ad io mm m e d w → ArgE md τ M Z ad io mm ps es ds ws → ArgE md τ M Z ad io mm (m :: ps) (.cons e es) (d :: ds) (w :: ws)
inductive ArgR (md : Nat → Md) (τ : En) (M : Sto) (Z : Zs) (ad : Ad) (io mm : List Nat) : List Md → Es → List D → List W → List (List Nat) → Prop
  | nil : ArgR md τ M Z ad io mm [] .nil [] [] []
  | cons {m : Md} {ps : List Md} {e : E} {es : Es} {d : D} {w : W} {ds : List D} {ws : List W} {as : List Nat} {ass : List (List Nat)} : Arg1 md τ M Z ad io mm m e d w as → ArgR md τ M Z ad io mm ps es ds ws ass → ArgR md τ M Z ad io mm (m :: ps) (.cons e es) (d :: ds) (w :: ws) (as :: ass)
section
variable {md : Nat → Md} {l l1 l2 io mm : List Nat} {τ : En} {σ : VE} {M M0 M1 M2 : Sto} {Z Z0 Z1 Z2 : Zs} {ad ad0 ad1 ad2 : Ad}
theorem ArgE1.go {m : Md} {e : E} {d : D} {w : W} (q : ArgE1 md τ M Z ad io mm m e d w) (E : EnvR md M Z ad σ τ) (S : Step (Mu md l1) M Z ad M1 Z1 ad1) (h : ∀ j ∈ l1, j ∈ mm) : ArgE1 md τ M1 Z1 ad1 io mm m e d w := by
  have zk := fun n z => E.zkeep S (fun j h => h.2) n z
  cases m with
  | F => exact FZ.go q E S fun j h => h.2
  | B =>
    obtain ⟨as, q1, q2⟩ := q
    refine ⟨as, q1.step zk fun n hn => ?_, fun n hn => ?_⟩
    · obtain ⟨j, h1, h2, h3⟩ := q2 n hn
      exact S.keep n (E.lt j n h3) fun i hi hm => E.dis i j hi.2 (fun e => h2 (h j (e ▸ hi.1))) n hm h3
    · obtain ⟨j, h1, h2, h3⟩ := q2 n hn
      exact ⟨j, h1, h2, by rw [S.sm j fun z => h2 (h j z.1)]; exact h3⟩
  | I s => exact q
  | K => exact KR.go q zk
  | O s => exact q.elim
theorem ArgE.go {ps : List Md} {es : Es} {ds : List D} {ws : List W} (q : ArgE md τ M Z ad io mm ps es ds ws) (E : EnvR md M Z ad σ τ) (S : Step (Mu md l1) M Z ad M1 Z1 ad1) (h : ∀ j ∈ l1, j ∈ mm) : ArgE md τ M1 Z1 ad1 io mm ps es ds ws := by
  induction q with
  | nil => exact .nil
  | cons a r ih => exact .cons (a.go E S h) ih
theorem ArgE.late {ps : List Md} {es : Es} {ds : List D} {ws : List W} (q : ArgE md τ M Z ad io mm ps es ds ws) (E : EnvR md M Z ad σ τ) : ∀ {ws' : List W}, wLate (ps.map Md.isI) es ws σ = some ws' → ∃ ass, ArgR md τ M Z ad io mm ps es ds ws' ass := by
  induction q with
  | nil =>
    intro ws' h
    simp only [List.map_nil, wLate] at h
    cases h
    exact ⟨[], .nil⟩
  | @cons m ps e es d w ds ws a r ih =>
    intro ws' h
    cases hm : m.isI with
    | false =>
      rw [List.map_cons, hm] at h
      simp only [wLate] at h
      cases q : wLate (ps.map Md.isI) es ws σ with
      | none => rw [q] at h; cases h
      | some us =>
        rw [q] at h
        cases h
        obtain ⟨ass, r'⟩ := ih q
        cases m with
        | F => exact ⟨[] :: ass, .cons ⟨rfl, a⟩ r'⟩
        | B => obtain ⟨as, a1, a2⟩ := a; exact ⟨as :: ass, .cons ⟨a1, a2⟩ r'⟩
        | K => exact ⟨[] :: ass, .cons ⟨rfl, a⟩ r'⟩
        | O s => exact a.elim
        | I s => cases hm
    | true =>
      rw [List.map_cons, hm] at h
      cases m <;> try (cases hm; done)
      obtain ⟨j, rfl, h2, h3, h4, h5⟩ := a
      simp only [wLate] at h
      cases qs : σ[j]? with
      | none => rw [qs] at h; cases h
      | some o =>
        cases o with
        | none => rw [qs] at h; cases h
        | some w' =>
          rw [qs] at h
          simp only at h
          cases q : wLate (ps.map Md.isI) es ws σ with
          | none => rw [q] at h; cases h
          | some us =>
            rw [q] at h
            cases h
            obtain ⟨ass, r'⟩ := ih q
            obtain ⟨d', k1, k2⟩ := E.sl j w' qs
            rw [h5] at k1
            cases k1
            exact ⟨ad j :: ass, .cons ⟨j, rfl, h2, h3, rfl, h4, (RM.of_sh h3).mp k2, h5⟩ r'⟩
theorem ArgR.length {ps : List Md} {es : Es} {ds : List D} {ws : List W} {ass : List (List Nat)} (q : ArgR md τ M Z ad io mm ps es ds ws ass) : ws.length = ps.length ∧ ds.length = ps.length ∧ ass.length = ps.length := by
  induction q with
  | nil => exact ⟨rfl, rfl, rfl⟩
  | cons a r ih => simp [ih]
theorem ArgR.get {ps : List Md} {es : Es} {ds : List D} {ws : List W} {ass : List (List Nat)} (q : ArgR md τ M Z ad io mm ps es ds ws ass) : ∀ {p : Nat} {w : W}, ws[p]? = some w → ∃ m e d as, ps[p]? = some m ∧ ds[p]? = some d ∧ ass[p]? = some as ∧ Arg1 md τ M Z ad io mm m e d w as ∧ (∀ j, m.isI = true → e = .var j → ioAt ps es p = some j) := by
  induction q with
  | nil => intro p w h; simp at h
  | @cons m ps e es d w ds ws as ass a r ih =>
    intro p w' h
    cases p with
    | zero =>
      simp at h
      subst h
      exact ⟨m, e, d, as, rfl, rfl, rfl, a, fun j h1 h2 => by subst h2; simp [ioAt, h1]⟩
    | succ p =>
      obtain ⟨m', e', d', as', h1, h2, h3, h4, h5⟩ := ih (p := p) (w := w') (by simpa using h)
      exact ⟨m', e', d', as', by simpa using h1, by simpa using h2, by simpa using h3, h4, fun j k1 k2 => by simpa [ioAt] using h5 j k1 k2⟩
theorem ioAt_mem : ∀ {ps : List Md} {es : Es} {p j : Nat}, ioAt ps es p = some j → j ∈ ioS (ps.map Md.isI) es
  | [], es, p, j, h => by cases es <;> cases p <;> simp [ioAt] at h
  | m :: ps, .nil, p, j, h => by cases p <;> simp [ioAt] at h
  | m :: ps, .cons e es, 0, j, h => by
    simp only [ioAt] at h
    split at h
    · rename_i hm
      cases e <;> first | (cases h; done) | skip
      cases h
      simp only [List.map_cons, ioS, hm, if_true, rootE]
      exact List.mem_append_left _ (by simp)
    · cases h
  | m :: ps, .cons e es, p + 1, j, h => by
    simp only [ioAt] at h
    simp only [List.map_cons, ioS]
    exact List.mem_append_right _ (ioAt_mem h)
theorem ioAt_inj : ∀ {ps : List Md} {es : Es} {p q j : Nat}, (ioS (ps.map Md.isI) es).Nodup → ioAt ps es p = some j → ioAt ps es q = some j → p = q
  | [], es, p, q, j, nd, h, _ => by cases es <;> cases p <;> simp [ioAt] at h
  | m :: ps, .nil, p, q, j, nd, h, _ => by cases p <;> simp [ioAt] at h
  | m :: ps, .cons e es, p, q, j, nd, h1, h2 => by
    simp only [List.map_cons, ioS, List.nodup_append] at nd
    have hd : ∀ r, ioAt (m :: ps) (.cons e es) 0 = some j → ioAt ps es r = some j → False := fun r k1 k2 => by
      simp only [ioAt] at k1
      split at k1
      · rename_i hm
        cases e <;> first | (cases k1; done) | skip
        cases k1
        exact nd.2.2 j (by simp [hm, rootE]) j (ioAt_mem k2) rfl
      · cases k1
    cases p with
    | zero =>
      cases q with
      | zero => rfl
      | succ q => exact (hd q h1 (by simpa [ioAt] using h2)).elim
    | succ p =>
      cases q with
      | zero => exact (hd p h2 (by simpa [ioAt] using h1)).elim
      | succ q => rw [ioAt_inj nd.2.1 (p := p) (q := q) (by simpa [ioAt] using h1) (by simpa [ioAt] using h2)]
theorem ArgR.ioSlot {ps : List Md} {es : Es} {ds : List D} {ws : List W} {ass : List (List Nat)} (q : ArgR md τ M Z ad io mm ps es ds ws ass) : ∀ {p j : Nat}, ioAt ps es p = some j → ∃ s d w, ps[p]? = some (.I s) ∧ ds[p]? = some d ∧ ws[p]? = some w ∧ ass[p]? = some (ad j) ∧ (md j).own = true ∧ (md j).sh = some s ∧ j ∈ io ∧ τ[j]? = some (some d) := by
  induction q with
  | nil => intro p j h; cases p <;> simp [ioAt] at h
  | @cons m ps e es d w ds ws as ass a r ih =>
    intro p j h
    cases p with
    | zero =>
      simp only [ioAt] at h
      split at h
      · rename_i hm
        cases m <;> first | (cases hm; done) | skip
        obtain ⟨j', h1, h2, h3, h4, h5, h6, h7⟩ := a
        subst h1
        cases h
        exact ⟨_, d, w, rfl, rfl, rfl, by rw [h4]; rfl, h2, h3, h5, h7⟩
      · cases h
    | succ p =>
      obtain ⟨s, d', w', h1, h2, h3, h4, h5⟩ := ih (p := p) (j := j) (by simpa [ioAt] using h)
      exact ⟨s, d', w', by simpa using h1, by simpa using h2, by simpa using h3, by simpa using h4, h5⟩
theorem mdL_get {ps : List Md} {p : Nat} {m : Md} (h : ps[p]? = some m) : mdL ps p = m := by unfold mdL; rw [List.getD_eq_getElem?_getD, h]; rfl
theorem mdL_none {ps : List Md} {p : Nat} (h : ps[p]? = none) : mdL ps p = .F := by unfold mdL; rw [List.getD_eq_getElem?_getD, h]; rfl
theorem mapsome_get {α : Type} {xs : List α} {i : Nat} {x : α} : (xs.map some)[i]? = some (some x) ↔ xs[i]? = some x := by
  rw [List.getElem?_map]
  cases xs[i]? <;> simp
/-- what is handed in, as the def sees it -/
theorem ArgR.env {ps : List Md} {es : Es} {ds : List D} {ws : List W} {ass : List (List Nat)} (q : ArgR md τ M Z ad io mm ps es ds ws ass) (E : EnvR md M Z ad σ τ) (nd : (ioS (ps.map Md.isI) es).Nodup) : EnvR (mdL ps) M Z (fun p => ass.getD p []) (ws.map some) (ds.map some) := by
  obtain ⟨l1, l2, l3⟩ := q.length
  have own : ∀ p, (mdL ps p).own = true → ∀ n ∈ ass.getD p [], ∃ j, ioAt ps es p = some j ∧ (md j).own = true ∧ ass.getD p [] = ad j ∧ j ∈ io := fun p hp n hn => by
    cases e : ps[p]? with
    | none => rw [mdL_none e] at hp; cases hp
    | some m =>
      rw [mdL_get e] at hp
      have hw : ∃ w, ws[p]? = some w := ⟨_, List.getElem?_eq_getElem (by rw [l1]; exact (List.getElem?_eq_some_iff.mp e).1)⟩
      obtain ⟨w, hw⟩ := hw
      obtain ⟨m', e', d, as, h1, h2, h3, h4, h5⟩ := q.get hw
      rw [e] at h1
      cases h1
      cases m <;> first | (cases hp; done) | skip
      · exact h4.elim
      · obtain ⟨j, k1, k2, k3, k4, k5, k6, k7⟩ := h4
        exact ⟨j, h5 j rfl k1, k2, by rw [List.getD_eq_getElem?_getD, h3, ← k4]; rfl, k5⟩
  have any : ∀ p n, n ∈ ass.getD p [] → ∃ j, n ∈ ad j ∧ ((∃ s, ioAt ps es p = some j ∧ ps[p]? = some (.I s)) ∨ (j ∉ io ∧ ps[p]? = some .B)) := fun p n hn => by
    rw [List.getD_eq_getElem?_getD] at hn
    cases e : ass[p]? with
    | none => rw [e] at hn; simp at hn
    | some as =>
      rw [e] at hn
      have hn : n ∈ as := hn
      obtain ⟨w, hw⟩ : ∃ w, ws[p]? = some w := ⟨_, List.getElem?_eq_getElem (by rw [l1, ← l3]; exact (List.getElem?_eq_some_iff.mp e).1)⟩
      obtain ⟨m', e', d, as', h1, h2, h3, h4, h5⟩ := q.get hw
      rw [e] at h3
      cases h3
      cases m' with
      | F => rw [h4.1] at hn; simp at hn
      | K => rw [h4.1] at hn; simp at hn
      | O s => exact h4.elim
      | B => obtain ⟨j, k1, k2, k3⟩ := h4.2 n hn; exact ⟨j, k3, .inr ⟨k1, h1⟩⟩
      | I s => obtain ⟨j, k1, k2, k3, k4, k5, k6, k7⟩ := h4; exact ⟨j, k4 ▸ hn, .inl ⟨s, h5 j rfl k1, h1⟩⟩
  refine ⟨by simp [l1, l2], fun p w hw => ?_, fun p hp => ?_, fun p hp => ?_, fun p r hp hne n hn hm => ?_, fun p hp n hn hz => ?_, fun p n hn => ?_, E.zl, fun p hp => ?_⟩
  · obtain ⟨m, e', d, as, h1, h2, h3, h4, h5⟩ := q.get (mapsome_get.mp hw)
    refine ⟨d, mapsome_get.mpr h2, ?_⟩
    rw [mdL_get h1, List.getD_eq_getElem?_getD, h3]
    cases m with
    | F => exact h4
    | K => exact h4
    | O s => exact h4.elim
    | B => exact h4.1
    | I s => obtain ⟨j, k1, k2, k3, k4, k5, k6, k7⟩ := h4; exact k6
  · rw [List.getD_eq_getElem?_getD]
    cases e : ass[p]? with
    | none => rfl
    | some as =>
      have hp' : p < ws.length := by rw [l1, ← l3]; exact (List.getElem?_eq_some_iff.mp e).1
      exact absurd (mapsome_get.mpr (List.getElem?_eq_getElem hp')) (hp _)
  · cases c : ass.getD p [] with
    | nil => exact .nil
    | cons n as =>
      obtain ⟨j, _, h2, h3, _⟩ := own p hp n (by rw [c]; exact List.mem_cons_self)
      rw [← c, h3]
      exact E.nd j h2
  · obtain ⟨j, h1, h2, h3, h4⟩ := own p hp n hn
    obtain ⟨j', k1, k2⟩ := any r n hm
    have hn' : n ∈ ad j := h3 ▸ hn
    by_cases c : j = j'
    · subst c
      rcases k2 with ⟨s, k2, _⟩ | ⟨k2, _⟩
      · exact hne (ioAt_inj nd h1 k2)
      · exact k2 h4
    · exact E.dis j j' h2 c n hn' k1
  · obtain ⟨j, h1, h2, h3, h4⟩ := own p hp n hn
    exact E.nz j h2 n (h3 ▸ hn) hz
  · obtain ⟨j, h1, _⟩ := any p n hn
    exact E.lt j n h1
  · cases e : ps[p]? with
    | none => rw [mdL_none e] at hp; cases hp
    | some m =>
      have hp' : p < ws.length := by rw [l1]; exact (List.getElem?_eq_some_iff.mp e).1
      exact ⟨_, mapsome_get.mpr (List.getElem?_eq_getElem hp')⟩
theorem wIo_ok : ∀ {ps : List Md} {es : Es} {fin σ σ' : VE}, wIo (ps.map Md.isI) es fin σ = some σ' → (ioS (ps.map Md.isI) es).Nodup → σ'.length = σ.length ∧ (∀ j, (∀ p, ioAt ps es p ≠ some j) → σ'[j]? = σ[j]?) ∧ ∀ p j, ioAt ps es p = some j → ∃ w, fin[p]? = some (some w) ∧ (j < σ.length → σ'[j]? = some (some w))
  | [], es, fin, σ, σ', h, nd => by
    simp only [List.map_nil] at h
    unfold wIo at h
    cases h
    refine ⟨rfl, fun _ _ => rfl, fun p j hp => ?_⟩
    cases es <;> cases p <;> simp [ioAt] at hp
  | m :: ps, .nil, fin, σ, σ', h, nd => by
    cases q : m.isI <;> rw [List.map_cons, q] at h <;> simp [wIo] at h
  | m :: ps, .cons e es, fin, σ, σ', h, nd => by
    simp only [List.map_cons, ioS, List.nodup_append] at nd
    have tl : ∀ (p : Nat) (w : W), fin.tail[p]? = some (some w) → fin[p + 1]? = some (some w) := fun p w h => by
      cases fin with
      | nil => simp at h
      | cons x fin => simpa using h
    cases q : m.isI with
    | false =>
      rw [List.map_cons, q] at h
      simp only [wIo] at h
      obtain ⟨h1, h2, h3⟩ := wIo_ok h nd.2.1
      refine ⟨h1, fun j hj => h2 j fun p hp => hj (p + 1) (by simpa [ioAt] using hp), fun p j hp => ?_⟩
      cases p with
      | zero => simp [ioAt, q] at hp
      | succ p =>
        obtain ⟨w, k1, k2⟩ := h3 p j (by simpa [ioAt] using hp)
        exact ⟨w, tl p w k1, k2⟩
    | true =>
      rw [List.map_cons, q] at h
      cases e with
      | var j0 =>
        simp only [wIo] at h
        split at h
        · rename_i w0 hw0
          obtain ⟨h1, h2, h3⟩ := wIo_ok h nd.2.1
          have no : ∀ p, ioAt ps es p ≠ some j0 := fun p hp => nd.2.2 j0 (by simp [q, rootE]) j0 (ioAt_mem hp) rfl
          refine ⟨by rw [h1, List.length_set], fun j hj => ?_, fun p j hp => ?_⟩
          · rw [h2 j fun p hp => hj (p + 1) (by simpa [ioAt] using hp)]
            exact List.getElem?_set_ne fun e => hj 0 (by simp [ioAt, q, e])
          · cases p with
            | zero =>
              have : j0 = j := by simpa [ioAt, q] using hp
              subst this
              exact ⟨w0, by rw [← hw0]; cases fin <;> rfl, fun hl => by rw [h2 j0 no]; exact List.getElem?_set_self hl⟩
            | succ p =>
              obtain ⟨w, k1, k2⟩ := h3 p j (by simpa [ioAt] using hp)
              exact ⟨w, tl p w k1, fun hl => k2 (by rw [List.length_set]; exact hl)⟩
        · cases h
      | _ => simp [wIo] at h
theorem maskV_get : ∀ {ps : List Md} {fin : VE} {p : Nat} {m : Md}, ps[p]? = some m → m ≠ .F → p < fin.length → (maskV ps fin)[p]? = fin[p]?
  | [], _, _, _, h, _, _ => by simp at h
  | m :: ps, [], p, _, _, _, hl => by simp at hl
  | m :: ps, x :: fin, 0, m', h, hn, _ => by
    simp at h
    subst h
    have : (m == Md.F) = false := by simpa using hn
    simp [maskV, this]
  | m :: ps, x :: fin, p + 1, m', h, hn, hl => by
    simp only [maskV, List.getElem?_cons_succ] at h ⊢
    exact maskV_get h hn (by simpa using hl)
open Classical in
/-- what the names hold behind a call -/
noncomputable def adC (ps : List Md) (es : Es) (ad adc : Ad) : Ad := fun j => if h : ∃ p, ioAt ps es p = some j then adc h.choose else ad j
theorem adC_io {ps : List Md} {es : Es} {adc : Ad} {p j : Nat} (nd : (ioS (ps.map Md.isI) es).Nodup) (h : ioAt ps es p = some j) : adC ps es ad adc j = adc p := by
  unfold adC
  have hx : ∃ p, ioAt ps es p = some j := ⟨p, h⟩
  rw [dif_pos hx, ioAt_inj nd hx.choose_spec h]
theorem adC_no {ps : List Md} {es : Es} {adc : Ad} {j : Nat} (h : ∀ p, ioAt ps es p ≠ some j) : adC ps es ad adc j = ad j := by
  unfold adC
  rw [dif_neg fun ⟨p, hp⟩ => h p hp]
/-- behind a call -/
theorem ArgR.after {ps : List Md} {es : Es} {ds : List D} {ws : List W} {ass : List (List Nat)} {adc : Ad} {fin σ' : VE} (q : ArgR md τ M Z ad io mm ps es ds ws ass) (E : EnvR md M Z ad σ τ) (nd : (ioS (ps.map Md.isI) es).Nodup) (hl : ∀ j ∈ io, j ∈ l)
    (hf : fin.length = ps.length) (EC : EnvR (mdL ps) M1 Z1 adc (maskV ps fin) (ds.map some)) (SC : Step (ownL ps) M Z (fun p => ass.getD p []) M1 Z1 adc) (hw : wIo (ps.map Md.isI) es fin σ = some σ') :
    EnvR md M1 Z1 (adC ps es ad adc) σ' τ ∧ Step (Mu md l) M Z ad M1 Z1 (adC ps es ad adc) ∧ ∀ n, ¬ (∃ i, n ∈ adc i) → (M.length ≤ n ∨ ∃ j, ownL ps j ∧ n ∈ ass.getD j []) → (∀ i, n ∉ adC ps es ad adc i) ∧ (M.length ≤ n ∨ ∃ j, Mu md l j ∧ n ∈ ad j) := by
  obtain ⟨l1, l2, l3⟩ := q.length
  obtain ⟨w1, w2, w3⟩ := wIo_ok hw nd
  -- the def's own slots are ours
  have back : ∀ n p, ownL ps p → n ∈ ass.getD p [] → ∃ j, ioAt ps es p = some j ∧ n ∈ ad j ∧ Mu md l j := fun n p hp hn => by
    cases e : ps[p]? with
    | none => unfold ownL at hp; rw [mdL_none e] at hp; cases hp
    | some m =>
      unfold ownL at hp
      rw [mdL_get e] at hp
      obtain ⟨w, hw⟩ : ∃ w, ws[p]? = some w := ⟨_, List.getElem?_eq_getElem (by rw [l1]; exact (List.getElem?_eq_some_iff.mp e).1)⟩
      obtain ⟨m', e', d, as, h1, h2, h3, h4, h5⟩ := q.get hw
      rw [e] at h1
      cases h1
      cases m <;> first | (cases hp; done) | skip
      · exact h4.elim
      · obtain ⟨j, k1, k2, k3, k4, k5, k6, k7⟩ := h4
        rw [List.getD_eq_getElem?_getD, h3] at hn
        exact ⟨j, h5 j rfl k1, k4 ▸ hn, hl j k5, k2⟩
  have far : ∀ n i, n ∈ ad i → (∀ p, ioAt ps es p ≠ some i) → ∀ p, ownL ps p → n ∉ ass.getD p [] := fun n i hi hno p hp hn => by
    obtain ⟨j, h1, h2, h3⟩ := back n p hp hn
    exact E.dis j i h3.2 (fun e => hno p (e ▸ h1)) n h2 hi
  have zk : ∀ n, Z n → M1[n]? = M[n]? ∧ Z1 n := fun n z => ⟨SC.keep n (E.zl n z) fun p hp hn => by
    obtain ⟨j, h1, h2, h3⟩ := back n p hp hn
    exact E.nz j h3.2 n h2 z, SC.zm n z⟩
  have keep : ∀ n i, n ∈ ad i → (∀ p, ioAt ps es p ≠ some i) → M1[n]? = M[n]? := fun n i hi hno => SC.keep n (E.lt i n hi) fun p hp => far n i hi hno p hp
  have pI : ∀ {p j}, ioAt ps es p = some j → (mdL ps p).own = true := fun {p j} h => by
    obtain ⟨s, d, w, h1, _⟩ := q.ioSlot h
    rw [mdL_get h1]; rfl
  have new : ∀ n p, ownL ps p → n ∈ adc p → ∀ i, (∀ p, ioAt ps es p ≠ some i) → n ∉ ad i := fun n p hp hn i hno hi => by
    rcases SC.an p hp n hn with z | ⟨r, h1, h2⟩
    · have := E.lt i n hi; omega
    · exact far n i hi hno r h1 h2
  refine ⟨⟨by rw [w1]; exact E.len, fun i w hi => ?_, fun i hi => ?_, fun i hi => ?_, fun i j hi hne n hn hm => ?_, fun i hi n hn hz => ?_, fun i n hn => ?_, EC.zl, fun i hi => ?_⟩, ⟨SC.len, fun n hn hk => ?_, SC.zm, fun n hn => ?_, fun i hi => ?_, fun i hi n hn => ?_⟩, fun n hn1 hn2 => ⟨fun i hi => ?_, ?_⟩⟩
  · by_cases c : ∃ p, ioAt ps es p = some i
    · obtain ⟨p, hp⟩ := c
      obtain ⟨s, d, w0, h1, h2, h3, h4, h5, h6, h7, h8⟩ := q.ioSlot hp
      obtain ⟨wf, k1, k2⟩ := w3 p i hp
      have hlt : i < σ.length := by rw [← w1]; exact (List.getElem?_eq_some_iff.mp hi).1
      rw [k2 hlt] at hi
      cases hi
      have hpl := (List.getElem?_eq_some_iff.mp h1).1
      obtain ⟨d', g1, g2⟩ := EC.sl p w (by rw [maskV_get h1 (by simp) (by omega)]; exact k1)
      rw [mapsome_get, h2] at g1
      cases g1
      refine ⟨d, h8, ?_⟩
      rw [adC_io nd hp, RM.of_sh h6]
      rw [mdL_get h1] at g2
      exact (RM.of_sh (m := .I s) rfl).mp g2
    · have hno : ∀ p, ioAt ps es p ≠ some i := fun p hp => c ⟨p, hp⟩
      rw [w2 i hno] at hi
      obtain ⟨d, h1, h2⟩ := E.sl i w hi
      rw [adC_no hno]
      exact ⟨d, h1, h2.step zk fun n hn => keep n i hn hno⟩
  · by_cases c : ∃ p, ioAt ps es p = some i
    · obtain ⟨p, hp⟩ := c
      obtain ⟨s, d, w0, h1, h2, h3, h4, h5, h6, h7, h8⟩ := q.ioSlot hp
      obtain ⟨wf, k1, k2⟩ := w3 p i hp
      have hlt : i < σ.length := by rw [E.len]; exact (List.getElem?_eq_some_iff.mp h8).1
      exact absurd (k2 hlt) (hi wf)
    · have hno : ∀ p, ioAt ps es p ≠ some i := fun p hp => c ⟨p, hp⟩
      rw [adC_no hno]
      exact E.no i fun w => by rw [← w2 i hno]; exact hi w
  · by_cases c : ∃ p, ioAt ps es p = some i
    · obtain ⟨p, hp⟩ := c
      rw [adC_io nd hp]
      exact EC.nd p (pI hp)
    · rw [adC_no fun p hp => c ⟨p, hp⟩]
      exact E.nd i hi
  · by_cases c : ∃ p, ioAt ps es p = some i
    · obtain ⟨p, hp⟩ := c
      rw [adC_io nd hp] at hn
      by_cases c2 : ∃ r, ioAt ps es r = some j
      · obtain ⟨r, hr⟩ := c2
        rw [adC_io nd hr] at hm
        exact EC.dis p r (pI hp) (fun e => hne (by rw [e, hr] at hp; exact (Option.some.inj hp).symm)) n hn hm
      · have hno : ∀ p, ioAt ps es p ≠ some j := fun p hp => c2 ⟨p, hp⟩
        rw [adC_no hno] at hm
        exact new n p (pI hp) hn j hno hm
    · have hno : ∀ p, ioAt ps es p ≠ some i := fun p hp => c ⟨p, hp⟩
      rw [adC_no hno] at hn
      by_cases c2 : ∃ r, ioAt ps es r = some j
      · obtain ⟨r, hr⟩ := c2
        rw [adC_io nd hr] at hm
        exact new n r (pI hr) hm i hno hn
      · rw [adC_no fun p hp => c2 ⟨p, hp⟩] at hm
        exact E.dis i j hi hne n hn hm
  · by_cases c : ∃ p, ioAt ps es p = some i
    · obtain ⟨p, hp⟩ := c
      rw [adC_io nd hp] at hn
      exact EC.nz p (pI hp) n hn hz
    · have hno : ∀ p, ioAt ps es p ≠ some i := fun p hp => c ⟨p, hp⟩
      rw [adC_no hno] at hn
      rcases SC.zn n hz with z | z | ⟨r, h1, h2⟩
      · exact E.nz i hi n hn z
      · have := E.lt i n hn; omega
      · exact far n i hn hno r h1 h2
  · by_cases c : ∃ p, ioAt ps es p = some i
    · obtain ⟨p, hp⟩ := c
      rw [adC_io nd hp] at hn
      exact EC.lt p n hn
    · rw [adC_no fun p hp => c ⟨p, hp⟩] at hn
      exact Nat.lt_of_lt_of_le (E.lt i n hn) SC.len
  · by_cases c : ∃ p, ioAt ps es p = some i
    · obtain ⟨p, hp⟩ := c
      obtain ⟨s, d, w0, h1, h2, h3, h4, h5, h6, h7, h8⟩ := q.ioSlot hp
      obtain ⟨wf, k1, k2⟩ := w3 p i hp
      exact ⟨wf, k2 (by rw [E.len]; exact (List.getElem?_eq_some_iff.mp h8).1)⟩
    · rw [w2 i fun p hp => c ⟨p, hp⟩]
      exact E.io i hi
  · refine SC.keep n hn fun p hp hm => ?_
    obtain ⟨j, h1, h2, h3⟩ := back n p hp hm
    exact hk j h3 h2
  · rcases SC.zn n hn with z | z | ⟨p, h1, h2⟩
    · exact .inl z
    · exact .inr (.inl z)
    · obtain ⟨j, _, h4, h5⟩ := back n p h1 h2
      exact .inr (.inr ⟨j, h5, h4⟩)
  · refine adC_no fun p hp => hi ?_
    obtain ⟨s, d, w0, h1, h2, h3, h4, h5, h6, h7, h8⟩ := q.ioSlot hp
    exact ⟨hl i h7, h5⟩
  · by_cases c : ∃ p, ioAt ps es p = some i
    · obtain ⟨p, hp⟩ := c
      rw [adC_io nd hp] at hn
      rcases SC.an p (pI hp) n hn with z | ⟨r, h1, h2⟩
      · exact .inl z
      · obtain ⟨j, _, h4, h5⟩ := back n r h1 h2
        exact .inr ⟨j, h5, h4⟩
    · rw [adC_no fun p hp => c ⟨p, hp⟩] at hn
      exact .inr ⟨i, hi, hn⟩
  · by_cases c : ∃ p, ioAt ps es p = some i
    · obtain ⟨p, hp⟩ := c
      rw [adC_io nd hp] at hi
      exact hn1 ⟨p, hi⟩
    · have hno : ∀ p, ioAt ps es p ≠ some i := fun p hp => c ⟨p, hp⟩
      rw [adC_no hno] at hi
      rcases hn2 with z | ⟨r, h1, h2⟩
      · have := E.lt i n hi; omega
      · exact far n i hi hno r h1 h2
  · rcases hn2 with z | ⟨r, h1, h2⟩
    · exact .inl z
    · obtain ⟨j, _, h4, h5⟩ := back n r h1 h2
      exact .inr ⟨j, h5, h4⟩
/-- a call -/
theorem Gd.call {s : Sg} {f : List D → Sto → Out D} {g : List W → FW} {es : Es} {ds : List D} {ws : List W} {ass : List (List Nat)} {sh : Sh} (F : FnOk s f g) (q : ArgR md τ M Z ad io mm s.ps es ds ws ass) (E : EnvR md M Z ad σ τ) (nd : (ioS s.io es).Nodup) (hl : ∀ j ∈ io, j ∈ l) (hs : s.rs = sh) : Gd md l τ M Z ad (f ds M) ((g ws).back s.io es σ) (OwQ md l M ad sh) := by
  have G := F M Z _ ws ds q.length.1 (q.env E nd)
  unfold FW.back
  generalize g ws = r at G
  cases r with
  | bad => trivial
  | exc x fin =>
    obtain ⟨hf, y, M1, Z1, adc, h1, h2, h3, h4⟩ := G
    simp only
    cases c : wIo s.io es fin σ with
    | none => trivial
    | some σ' =>
      obtain ⟨a1, a2, a3⟩ := q.after (l := l) E nd hl hf h2 h3 c
      exact ⟨y, M1, Z1, _, h1, a1, a2, h4⟩
  | ok w fin =>
    obtain ⟨hf, d, M1, Z1, adc, h1, h2, h3, as, h4, h5, h6⟩ := G
    simp only
    cases c : wIo s.io es fin σ with
    | none => trivial
    | some σ' =>
      obtain ⟨a1, a2, a3⟩ := q.after (l := l) E nd hl hf h2 h3 c
      refine ⟨d, M1, Z1, _, h1, a1, a2, as, hs ▸ h4, h5, fun n hn => ?_⟩
      obtain ⟨k1, k2, k3, k4⟩ := h6 n hn
      obtain ⟨b1, b2⟩ := a3 n (fun ⟨i, hi⟩ => k3 i hi) k4
      exact ⟨k1, k2, b1, b2⟩
end
end PyL

/-! V: the equations, one by one. -/
namespace PyL
open PySem
section
variable {Φ : VFns} {σ : VE}
@[simp] theorem wE_var (i : Nat) : vE Φ (.var i) σ = (match σ[i]? with
    | some (some d) => .ok d σ
    | _ => .bad) := by first | (rw [vE]; done) | (rw [vE]; rfl)
@[simp] theorem wE_con (d : D) : vE Φ (.con d) σ = R.opt d.w σ := by first | (rw [vE]; done) | (rw [vE]; rfl)
@[simp] theorem wE_glb (j : Nat) : vE Φ (.glb j) σ = R.opt Φ.con[j]? σ := by first | (rw [vE]; done) | (rw [vE]; rfl)
@[simp] theorem wE_tup (es : Es) : vE Φ (.tup es) σ = (vEs Φ es σ).bind fun ds σ' => if ds.length ≤ sizeLine then .ok (.tup ds) σ' else .bad := by first | (rw [vE]; done) | (rw [vE]; rfl)
@[simp] theorem wE_ofL (l : L) : vE Φ (.ofL l) σ = (vL Φ l σ).bind fun ds σ' => .ok (.lst ds) σ' := by first | (rw [vE]; done) | (rw [vE]; rfl)
@[simp] theorem wE_dic (t : Bool) : vE Φ (.dic t .nil .nil) σ = .ok (.dct t [] []) σ := by first | (rw [vE]; done) | (rw [vE]; rfl)
@[simp] theorem wE_op1 (p : P1) (a : E) : vE Φ (.op1 p a) σ = (vE Φ a σ).bind fun d σ' => R.opt (p.v d) σ' := by first | (rw [vE]; done) | (rw [vE]; rfl)
@[simp] theorem wE_op2 (p : P2) (a : E) (b : E) : vE Φ (.op2 p a b) σ = (vE Φ a σ).bind fun x σ1 => (vE Φ b σ1).bind fun y σ2 => R.opt (p.v x y) σ2 := by first | (rw [vE]; done) | (rw [vE]; rfl)
@[simp] theorem wE_chn (p : P2) (q : P2) (a : E) (b : E) (c : E) : vE Φ (.chn p q a b c) σ = (vE Φ a σ).bind fun x σ1 => (vE Φ b σ1).bind fun y σ2 => (R.opt (p.v x y) σ2).bind fun r σ3 =>
    match r with
    | .bl true => (vE Φ c σ3).bind fun z σ4 => R.opt (q.v y z) σ4
    | .bl false => .ok (.bl false) σ3
    | _ => .bad := by first | (rw [vE]; done) | (rw [vE]; rfl)
@[simp] theorem wE_not (a : E) : vE Φ (.not a) σ = (vE Φ a σ).bind fun d σ1 => (R.opt d.truth σ1).bind fun k σ2 => .ok (.bl (!k)) σ2 := by first | (rw [vE]; done) | (rw [vE]; rfl)
@[simp] theorem wE_and (a : E) (b : E) : vE Φ (.and a b) σ = (vE Φ a σ).bind fun x σ1 => (R.opt x.truth σ1).bind fun k σ2 => if k = true then vE Φ b σ2 else .ok x σ2 := by first | (rw [vE]; done) | (rw [vE]; rfl)
@[simp] theorem wE_or (a : E) (b : E) : vE Φ (.or a b) σ = (vE Φ a σ).bind fun x σ1 => (R.opt x.truth σ1).bind fun k σ2 => if k = true then .ok x σ2 else vE Φ b σ2 := by first | (rw [vE]; done) | (rw [vE]; rfl)
@[simp] theorem wE_ite (c : T) (a : E) (b : E) : vE Φ (.ite c a b) σ = (vT Φ c σ).bind fun k σ' => if k = true then vE Φ a σ' else vE Φ b σ' := by first | (rw [vE]; done) | (rw [vE]; rfl)
@[simp] theorem wE_ix (a : E) (b : E) : vE Φ (.ix a b) σ = (vE Φ a σ).bind fun x σ1 => (vE Φ b σ1).bind fun y σ2 => R.opt (x.ix y) σ2 := by first | (rw [vE]; done) | (rw [vE]; rfl)
@[simp] theorem wE_sl (a : E) (lo : O) (hi : O) : vE Φ (.sl a lo hi) σ = (vE Φ a σ).bind fun x σ1 => (vO Φ lo σ1).bind fun l σ2 => (vO Φ hi σ2).bind fun h σ3 => R.opt (x.sl l h) σ3 := by first | (rw [vE]; done) | (rw [vE]; rfl)
@[simp] theorem wE_rev (a : E) : vE Φ (.rev a) σ = (vE Φ a σ).bind fun x σ1 => R.opt x.rev σ1 := by first | (rw [vE]; done) | (rw [vE]; rfl)
@[simp] theorem wE_isin (a : E) (ts : List Ty) : vE Φ (.isin a ts) σ = (vE Φ a σ).bind fun x σ1 => R.opt ((x.tysIs ts).map .bl) σ1 := by first | (rw [vE]; done) | (rw [vE]; rfl)
@[simp] theorem wE_call (k : Nat) (es : Es) : vE Φ (.call k es) σ = (vEs Φ es σ).bind fun ds σ' => (R.opt (wLate (Φ.io k) es ds σ') σ').bind fun ds' σ2 => (Φ.call k ds').back (Φ.io k) es σ2 := by first | (rw [vE]; done) | (rw [vE]; rfl)
@[simp] theorem wE_bi (b : Bi) (es : Es) : vE Φ (.bi b es) σ = (vEs Φ es σ).bind fun ds σ' => R.opt (b.v ds) σ' := by first | (rw [vE]; done) | (rw [vE]; rfl)
@[simp] theorem wE_bl (b : BL) (l : L) : vE Φ (.bl b l) σ = (vL Φ l σ).bind fun ds σ' => R.opt (b.v ds) σ' := by first | (rw [vE]; done) | (rw [vE]; rfl)
@[simp] theorem wE_me_v (m : Me) (j : Nat) (es : Es) : vE Φ (.me m (.var j) es) σ = if okPl j [] σ = true then (vEs Φ es σ).bind fun ds σ' => updAt j [] (meF m ds) σ' else .bad := by first | (rw [vE]; done) | (rw [vE]; rfl)
@[simp] theorem wE_me_ix (m : Me) (j : Nat) (b : E) (es : Es) : vE Φ (.me m (.ix (.var j) b) es) σ = if okN j σ = true then (vE Φ b σ).bind fun i σ1 => if okPl j [i] σ1 = true then (vEs Φ es σ1).bind fun ds σ' => updAt j [i] (meF m ds) σ' else .bad else .bad := by first | (rw [vE]; done) | (rw [vE]; rfl)
@[simp] theorem wE_ml_ext (j : Nat) (l : L) : vE Φ (.ml .extend (.var j) l) σ = if okPl j [] σ = true then (vL Φ l σ).bind fun ds σ' => updAt j [] (mExt ds) σ' else .bad := by first | (rw [vE]; done) | (rw [vE]; rfl)
@[simp] theorem wE_ml_join (o : E) (l : L) : vE Φ (.ml .join o l) σ = (vE Φ o σ).bind fun x σ1 => match x with
    | .str s => (vL Φ l σ1).bind fun ds σ' => (match wStr ds with
      | some ts => if (ts.map (·.length)).sum + ts.length * s.length ≤ 16777216 then .ok (.str (Txt.join s ts)) σ' else .bad
      | none => .bad)
    | _ => .bad := by first | (rw [vE]; done) | (rw [vE]; rfl)
@[simp] theorem wEs_nil  : vEs Φ .nil σ = .ok [] σ := by first | (rw [vEs]; done) | (rw [vEs]; rfl)
@[simp] theorem wEs_cons (e : E) (es : Es) : vEs Φ (.cons e es) σ = (vE Φ e σ).bind fun d σ1 => (vEs Φ es σ1).bind fun ds σ2 => .ok (d :: ds) σ2 := by first | (rw [vEs]; done) | (rw [vEs]; rfl)
@[simp] theorem wO_none  : vO Φ .none σ = .ok none σ := by first | (rw [vO]; done) | (rw [vO]; rfl)
@[simp] theorem wO_some (e : E) : vO Φ (.some e) σ = (vE Φ e σ).bind fun d σ1 => match d with
    | .int i => .ok (some i) σ1
    | _ => .bad := by first | (rw [vO]; done) | (rw [vO]; rfl)
@[simp] theorem wT_tru (e : E) : vT Φ (.tru e) σ = (vE Φ e σ).bind fun d σ1 => R.opt d.truth σ1 := by first | (rw [vT]; done) | (rw [vT]; rfl)
@[simp] theorem wT_and (a : T) (b : T) : vT Φ (.and a b) σ = (vT Φ a σ).bind fun k σ1 => if k = true then vT Φ b σ1 else .ok false σ1 := by first | (rw [vT]; done) | (rw [vT]; rfl)
@[simp] theorem wT_or (a : T) (b : T) : vT Φ (.or a b) σ = (vT Φ a σ).bind fun k σ1 => if k = true then .ok true σ1 else vT Φ b σ1 := by first | (rw [vT]; done) | (rw [vT]; rfl)
@[simp] theorem wT_not (a : T) : vT Φ (.not a) σ = (vT Φ a σ).bind fun k σ1 => .ok (!k) σ1 := by first | (rw [vT]; done) | (rw [vT]; rfl)
@[simp] theorem wT_yes  : vT Φ .yes σ = .ok true σ := by first | (rw [vT]; done) | (rw [vT]; rfl)
@[simp] theorem wL_val (e : E) : vL Φ (.val e) σ = (vE Φ e σ).bind fun d σ1 => R.opt d.items σ1 := by first | (rw [vL]; done) | (rw [vL]; rfl)
@[simp] theorem wL_vlst (e : E) : vL Φ (.vlst e) σ = (vE Φ e σ).bind fun d σ1 => match d with
    | .lst xs => .ok xs σ1
    | _ => .bad := by first | (rw [vL]; done) | (rw [vL]; rfl)
@[simp] theorem wL_lst (es : Es) : vL Φ (.lst es) σ = (vEs Φ es σ).bind fun ds σ' => if ds.length ≤ sizeLine then .ok ds σ' else .bad := by first | (rw [vL]; done) | (rw [vL]; rfl)
@[simp] theorem wL_lc (elt : E) (ws : List Nat) (tg : Tg) (it : I) (c : T) : vL Φ (.lc elt ws tg it c) σ = (vI Φ it σ).bind fun xs σ1 => if xs.length < Φ.fuel then
      lcV (lcT (vE Φ elt) (vT Φ c) ws tg) xs [] σ1 else .bad := by first | (rw [vL]; done) | (rw [vL]; rfl)
@[simp] theorem wI_val (e : E) : vI Φ (.val e) σ = (vE Φ e σ).bind fun d σ1 => R.opt d.iter σ1 := by first | (rw [vI]; done) | (rw [vI]; rfl)
@[simp] theorem wI_rng1 (e : E) : vI Φ (.rng1 e) σ = (vE Φ e σ).bind fun d σ1 => match d with
    | .int j => if small62 j = true then .ok (rangeW 0 1 j.toNat) σ1 else .bad
    | _ => .bad := by first | (rw [vI]; done) | (rw [vI]; rfl)
@[simp] theorem wI_rng2 (a : E) (b : E) : vI Φ (.rng2 a b) σ = (vE Φ a σ).bind fun x σ1 => (vE Φ b σ1).bind fun y σ2 => match x, y with
    | .int i, .int j => if small62 i && small62 j then .ok (rangeW i 1 (j - i).toNat) σ2 else .bad
    | _, _ => .bad := by first | (rw [vI]; done) | (rw [vI]; rfl)
@[simp] theorem wI_rng3 (a : E) (b : E) (c : E) : vI Φ (.rng3 a b c) σ = (vE Φ a σ).bind fun x σ1 => (vE Φ b σ1).bind fun y σ2 => (vE Φ c σ2).bind fun z σ3 => match x, y, z with
    | .int i, .int j, .int k => if k ≠ 0 ∧ k.natAbs < 1073741824 ∧ Builtin.Range.small i j k = true ∧ 0 ≤ Builtin.Range.rangeSize i j k then .ok (rangeW i k (Builtin.Range.rangeSize i j k).toNat) σ3 else .bad
    | _, _, _ => .bad := by first | (rw [vI]; done) | (rw [vI]; rfl)
@[simp] theorem wI_lis (l : L) : vI Φ (.lis l) σ = (vL Φ l σ).bind fun ds σ1 => .ok ds σ1 := by first | (rw [vI]; done) | (rw [vI]; rfl)
@[simp] theorem wI_enu (e : E) : vI Φ (.enu e) σ = (vE Φ e σ).bind fun d σ1 => if noStr d = true then (R.opt d.iter σ1).bind fun xs σ2 => .ok (enumV 0 xs) σ2 else .bad := by first | (rw [vI]; done) | (rw [vI]; rfl)
@[simp] theorem wI_zip (a : E) (b : E) : vI Φ (.zip a b) σ = (vE Φ a σ).bind fun x σ1 => (vE Φ b σ1).bind fun y σ2 => if (noStr x && noStr y) = true then
      (R.opt x.iter σ2).bind fun xs σ3 => (R.opt y.iter σ3).bind fun ys σ4 => .ok (zipV xs ys) σ4 else .bad := by first | (rw [vI]; done) | (rw [vI]; rfl)
@[simp] theorem wS_nop  : vS Φ .nop σ = .nx σ := by first | (rw [vS]; done) | (rw [vS]; rfl)
@[simp] theorem wS_ex (e : E) : vS Φ (.ex e) σ = .ofR (vE Φ e σ) fun _ σ' => .nx σ' := by first | (rw [vS]; done) | (rw [vS]; rfl)
@[simp] theorem wS_as (t : Tg) (e : E) : vS Φ (.as t e) σ = .ofR (vE Φ e σ) fun d σ' => match wTg t d σ' with
    | some σ2 => .nx σ2
    | none => .bad := by first | (rw [vS]; done) | (rw [vS]; rfl)
@[simp] theorem wS_par (is : List Nat) (es : Es) : vS Φ (.par is es) σ = .ofR (vEs Φ es σ) fun ds σ' => match wMany is ds σ' with
    | some σ2 => .nx σ2
    | none => .bad := by first | (rw [vS]; done) | (rw [vS]; rfl)
@[simp] theorem wS_asub_v (j : Nat) (i : E) (e : E) : vS Φ (.asub (.var j) i e) σ = .ofR (vE Φ e σ) fun v σ1 => if okPl j [] σ1 = true then .ofR (vE Φ i σ1) fun k σ2 => .ofR (updAt j [] (mSet k v) σ2) fun _ σ3 => .nx σ3 else .bad := by first | (rw [vS]; done) | (rw [vS]; rfl)
@[simp] theorem wS_asub_ix (j : Nat) (b : E) (i : E) (e : E) : vS Φ (.asub (.ix (.var j) b) i e) σ = .ofR (vE Φ e σ) fun v σ1 => if okN j σ1 = true then .ofR (vE Φ b σ1) fun p σ2 => if okPl j [p] σ2 = true then .ofR (vE Φ i σ2) fun k σ3 => .ofR (updAt j [p] (mSet k v) σ3) fun _ σ4 => .nx σ4 else .bad else .bad := by first | (rw [vS]; done) | (rw [vS]; rfl)
@[simp] theorem wS_aug (p : P2) (i : Nat) (e : E) : vS Φ (.aug p i e) σ = (match σ[i]? with
    | some (some x) => .ofR (vE Φ e σ) fun y σ1 => .ofR (R.opt (p.iv x y) σ1) fun z σ2 => .nx (σ2.set i (some z))
    | _ => .bad) := by first | (rw [vS]; done) | (rw [vS]; rfl)
@[simp] theorem wS_rt (e : E) : vS Φ (.rt e) σ = .ofR (vE Φ e σ) fun d σ' => .rt d σ' := by first | (rw [vS]; done) | (rw [vS]; rfl)
@[simp] theorem wS_rtN  : vS Φ .rtN σ = .rt .non σ := by first | (rw [vS]; done) | (rw [vS]; rfl)
@[simp] theorem wS_ite (c : T) (a : Ss) (b : Ss) : vS Φ (.ite c a b) σ = .ofR (vT Φ c σ) fun k σ' => if k = true then vSs Φ a σ' else vSs Φ b σ' := by first | (rw [vS]; done) | (rw [vS]; rfl)
@[simp] theorem wS_wh (c : T) (b : Ss) : vS Φ (.wh c b) σ = whileV (vT Φ c) (vSs Φ b) Φ.fuel σ := by first | (rw [vS]; done) | (rw [vS]; rfl)
@[simp] theorem wS_fo (t : Tg) (it : I) (b : Ss) : vS Φ (.fo t it b) σ = .ofR (vI Φ it σ) fun xs σ' => if xs.length < Φ.fuel then forV t (vSs Φ b) xs σ' else .bad := by first | (rw [vS]; done) | (rw [vS]; rfl)
@[simp] theorem wS_br  : vS Φ .br σ = .bk σ := by first | (rw [vS]; done) | (rw [vS]; rfl)
@[simp] theorem wS_co  : vS Φ .co σ = .ct σ := by first | (rw [vS]; done) | (rw [vS]; rfl)
@[simp] theorem wS_never  : vS Φ .never σ = .bad := by first | (rw [vS]; done) | (rw [vS]; rfl)
@[simp] theorem wSs_nil  : vSs Φ .nil σ = .nx σ := by first | (rw [vSs]; done) | (rw [vSs]; rfl)
@[simp] theorem wSs_cons (s : S) (ss : Ss) : vSs Φ (.cons s ss) σ = (vS Φ s σ).andThen fun σ' => vSs Φ ss σ' := by first | (rw [vSs]; done) | (rw [vSs]; rfl)
end
end PyL

/-! V: a checked expression does in the store what it does over values. -/
namespace PyL
open PySem
structure FOk (G : CG) (Φ : Fns) (Ψ : VFns) : Prop where
  call : ∀ k, FnOk (G.sg k) (Φ.call k) (Ψ.call k)
  con : ∀ (j : Nat) (w : W), Ψ.con[j]? = some w → ∃ d, Φ.con[j]? = some d ∧ ∀ M Z, FZ M Z d w
  fuel : Ψ.fuel = Φ.fuel
  io : ∀ k, Ψ.io k = G.io k
mutual
theorem D.w_fz {M : Sto} {Z : Zs} : ∀ {d : D} {w : W}, d.w = some w → FZ M Z d w
  | .non, _, h => by cases h; exact .non
  | .bl b, _, h => by cases h; exact .bl b
  | .int i, _, h => by cases h; exact .int i
  | .str s, _, h => by cases h; exact .str s
  | .tup xs, w, h => by
    simp only [D.w] at h
    cases q : D.wL xs with
    | none => rw [q] at h; cases h
    | some ws => rw [q] at h; cases h; exact .tup (D.wL_fz q)
  | .ref _, _, h => by cases h
  | .fn _, _, h => by cases h
  | .kl _, _, h => by cases h
theorem D.wL_fz {M : Sto} {Z : Zs} : ∀ {ds : List D} {ws : List W}, D.wL ds = some ws → FZs M Z ds ws
  | [], _, h => by cases h; exact .nil
  | d :: ds, ws, h => by
    simp only [D.wL] at h
    cases q : d.w with
    | none => rw [q] at h; cases h
    | some w =>
      cases q2 : D.wL ds with
      | none => rw [q, q2] at h; cases h
      | some ws => rw [q, q2] at h; cases h; exact .cons (D.w_fz q) (D.wL_fz q2)
end
section
variable {G : CG} {Φ : Fns} {Ψ : VFns} {τ : En} {M M1 : Sto} {Z Z1 : Zs} {ad ad1 : Ad} {σ : VE} {md : Nat → Md} {l l1 l2 : List Nat}
theorem Gd.bindE {α β γ δ : Type} {o : Out α} {r : R β} {k : α → Sto → Out γ} {k' : β → VE → R δ} {Q1 : QT α β} {Q : QT γ δ} (A : Gd md l1 τ M Z ad o r Q1) (hl : ∀ j ∈ l1, j ∈ l)
    (B : ∀ a b M' Z' ad' σ', r = .ok b σ' → EnvR md M' Z' ad' σ' τ → Step (Mu md l1) M Z ad M' Z' ad' → Q1 M' Z' ad' a b → Gd md l τ M' Z' ad' (k a M') (k' b σ') Q) : Gd md l τ M Z ad (o.bind k) (r.bind k') Q := by
  cases r with
  | bad => rw [R.bind_bad]; trivial
  | exc x σ' =>
    obtain ⟨y, M', Z', ad', h1, h2, h3, h4⟩ := A
    rw [h1, R.bind_exc, Out.bind_exc]
    exact ⟨y, M', Z', ad', rfl, h2, h3.mono (Mu.mono hl), h4⟩
  | ok b σ' =>
    obtain ⟨a, M', Z', ad', h1, h2, h3, h4⟩ := A
    rw [h1, R.bind_ok, Out.bind_ok]
    have G := B a b M' Z' ad' σ' rfl h2 h3 h4
    exact G.since (h3.mono (Mu.mono hl)) (fun _ h => h) fun _ _ _ _ _ _ _ _ q => q
def ArgQ (md : Nat → Md) (τ : En) (io mm : List Nat) (ps : List Md) (es : Es) : QT (List D) (List W) := fun M Z ad ds ws => ArgE md τ M Z ad io mm ps es ds ws
theorem Gd.okE {α : Type} {a b : α} (E : EnvR md M Z ad σ τ) (h : a = b) : Gd md l τ M Z ad (.ok a M) (.ok b σ) EqQ := .ok E h
theorem opt_opt {α β : Type} {o : Option α} {f : α → Out β} {r : Out β} {g : α → VE → R β} : True := trivial
theorem RdQ.el {rs : List Nat} {d : D} {w : W} (q : RdQ rs M Z ad d w) : El M Z d w := by
  obtain ⟨as, h, _⟩ := q
  exact h.toEl
theorem mem2 {j : Nat} {a b : List Nat} : j ∈ a ++ b ↔ j ∈ a ∨ j ∈ b := List.mem_append
theorem vAdd_l {x y z : W} {ws : List W} (e : vAdd x y = some z) (h : x = .lst ws ∨ y = .lst ws) : ∃ us, z = .lst us := by
  cases x <;> cases y <;> simp [vAdd] at e h
  obtain ⟨_, rfl⟩ := e
  exact ⟨_, rfl⟩
theorem vMul_l {x y z : W} {ws : List W} (e : vMul x y = some z) (h : x = .lst ws) : ∃ us, z = .lst us := by
  cases x <;> cases y <;> simp [vMul] at e h
  obtain ⟨_, rfl⟩ := e
  exact ⟨_, rfl⟩
theorem bind_ok_inv {α β : Type} {o : R α} {k : α → VE → R β} {b : β} {σ' : VE} (h : o.bind k = .ok b σ') : ∃ a σ1, o = .ok a σ1 ∧ k a σ1 = .ok b σ' := by
  cases o with
  | ok a σ1 => exact ⟨a, σ1, rfl, by rw [R.bind_ok] at h; exact h⟩
  | exc x σ1 => rw [R.bind_exc] at h; cases h
  | bad => rw [R.bind_bad] at h; cases h
theorem opt_inv {α : Type} {o : Option α} {b : α} {σ σ' : VE} (h : R.opt o σ = .ok b σ') : o = some b ∧ σ' = σ := by
  cases o with
  | none => rw [R.opt_none] at h; cases h
  | some a => rw [R.opt_some] at h; cases h; exact ⟨rfl, rfl⟩
theorem vSl_l {x z : W} {ws : List W} {lo hi : Option Int} (e : x.sl lo hi = some z) (h : x = .lst ws) : ∃ us, z = .lst us := by
  subst h
  cases e
  exact ⟨_, rfl⟩
theorem vRev_l {x z : W} (e : x.rev = some z) : ∃ us, z = .lst us := by
  cases x <;> try (cases e; done)
  cases e
  exact ⟨_, rfl⟩
/-- what is surely a list -/
theorem oSure_ok : ∀ (n : Nat) (e : E), oSure G n e = true → ∀ {σ : VE} {w : W} {σ' : VE}, vE Ψ e σ = .ok w σ' → ∃ ws, w = .lst ws
  | 0, _, h, _, _, _, _ => by simp [oSure] at h
  | n + 1, e, h, σ, w, σ', hv => by
    cases e <;> try (simp [oSure] at h; done)
    · rw [wE_ofL] at hv
      obtain ⟨a, σ1, _, h2⟩ := bind_ok_inv hv
      cases h2
      exact ⟨_, rfl⟩
    · rename_i p a b
      cases p <;> try (simp [oSure] at h; done)
      simp only [oSure, Bool.or_eq_true] at h
      rw [wE_op2] at hv
      obtain ⟨x, σ1, h1, h2⟩ := bind_ok_inv hv
      obtain ⟨y, σ2, h3, h4⟩ := bind_ok_inv h2
      rcases h with h | h
      · obtain ⟨ws, q⟩ := oSure_ok n a h h1
        exact vAdd_l (opt_inv h4).1 (.inl q)
      · obtain ⟨ws, q⟩ := oSure_ok n b h h3
        exact vAdd_l (opt_inv h4).1 (.inr q)
    · rename_i a lo hi
      simp only [oSure] at h
      rw [wE_sl] at hv
      obtain ⟨x, σ1, h1, h2⟩ := bind_ok_inv hv
      obtain ⟨y, σ2, h3, h4⟩ := bind_ok_inv h2
      obtain ⟨z, σ3, h5, h6⟩ := bind_ok_inv h4
      obtain ⟨ws, q⟩ := oSure_ok n a h h1
      exact vSl_l (opt_inv h6).1 q
    · rename_i a
      rw [wE_rev] at hv
      obtain ⟨x, σ1, h1, h2⟩ := bind_ok_inv hv
      exact vRev_l (opt_inv h2).1
theorem varL_ok {e : E} (h : varL G e = true) {w : W} {σ' : VE} (E : EnvR G.md M Z ad σ τ) (hv : vE Ψ e σ = .ok w σ') : ∃ ws, w = .lst ws := by
  cases e <;> try (simp [varL] at h; done)
  rename_i j
  simp only [varL] at h
  rw [wE_var] at hv
  cases q : σ[j]? with
  | none => rw [q] at hv; cases hv
  | some o =>
    cases o with
    | none => rw [q] at hv; cases hv
    | some w0 =>
      rw [q] at hv
      cases hv
      obtain ⟨d, _, r⟩ := E.sl j _ q
      cases hs : (G.md j).sh with
      | none => rw [hs] at h; simp at h
      | some s =>
        rw [hs] at h
        cases s <;> try (simp at h; done)
        obtain ⟨k, ds, ws, ass, _, rfl, _⟩ := (RM.of_sh hs).mp r
        exact ⟨ws, rfl⟩
end
end PyL

/-! V: a checked expression does in the store what it does over values: case by case. -/
namespace PyL
open PySem
section
variable (G : CG) (Φ : Fns) (Ψ : VFns) (τ : En)
def GE (e : E) (s : Sh) : Prop := ∀ (M : Sto) (Z : Zs) (ad : Ad) (σ : VE), EnvR G.md M Z ad σ τ → Gd G.md (muE G.io e) τ M Z ad (denE Φ e τ M) (vE Ψ e σ) (OwQ G.md (muE G.io e) M ad s)
def GR (e : E) (rs : List Nat) : Prop := ∀ (M : Sto) (Z : Zs) (ad : Ad) (σ : VE), EnvR G.md M Z ad σ τ → Gd G.md (muE G.io e) τ M Z ad (denE Φ e τ M) (vE Ψ e σ) (RdQ rs)
def GEs (e : Es) (s : Sh) : Prop := ∀ (M : Sto) (Z : Zs) (ad : Ad) (σ : VE), EnvR G.md M Z ad σ τ → Gd G.md (muEs G.io e) τ M Z ad (denEs Φ e τ M) (vEs Ψ e σ) (OwsQ G.md (muEs G.io e) M ad s)
def GO (e : O) : Prop := ∀ (M : Sto) (Z : Zs) (ad : Ad) (σ : VE), EnvR G.md M Z ad σ τ → Gd G.md (muO G.io e) τ M Z ad (denO Φ e τ M) (vO Ψ e σ) EqQ
def GT (e : T) : Prop := ∀ (M : Sto) (Z : Zs) (ad : Ad) (σ : VE), EnvR G.md M Z ad σ τ → Gd G.md (muT G.io e) τ M Z ad (denT Φ e τ M) (vT Ψ e σ) EqQ
def GL (e : L) (s : Sh) : Prop := ∀ (M : Sto) (Z : Zs) (ad : Ad) (σ : VE), EnvR G.md M Z ad σ τ → Gd G.md (muL G.io e) τ M Z ad (denL Φ e τ M) (vL Ψ e σ) (OwsQ G.md (muL G.io e) M ad s)
def GI (e : I) (rs : List Nat) : Prop := ∀ (M : Sto) (Z : Zs) (ad : Ad) (σ : VE), EnvR G.md M Z ad σ τ → Gd G.md (muI G.io e) τ M Z ad (denI Φ e τ M) (vI Ψ e σ) (ItQ rs)
def GA (io mm : List Nat) (ps : List Md) (es : Es) : Prop := ∀ (M : Sto) (Z : Zs) (ad : Ad) (σ : VE), EnvR G.md M Z ad σ τ → Gd G.md (muEs G.io es) τ M Z ad (denEs Φ es τ M) (vEs Ψ es σ) (ArgQ G.md τ io mm ps es)
def SureE (a : E) : Prop := ∀ (M : Sto) (Z : Zs) (ad : Ad) (σ : VE) (w : W) (σ' : VE), EnvR G.md M Z ad σ τ → vE Ψ a σ = .ok w σ' → ∃ ws, w = .lst ws
end
section
variable {G : CG} {Φ : Fns} {Ψ : VFns} {τ : En} {M M1 : Sto} {Z Z1 : Zs} {ad ad1 : Ad} {σ : VE} {l l1 l2 : List Nat}
theorem go_own {md : Nat → Md} : ∀ j, Mu md l j → (md j).own = true := fun _ h => h.2
theorem ge_var {i : Nat} (hm : G.md i = .F) : GE G Φ Ψ τ (.var i) .fr := fun M Z ad σ E => by
  rw [dE_var, wE_var]
  cases q : σ[i]? with
  | none => trivial
  | some o =>
    cases o with
    | none => trivial
    | some w =>
      obtain ⟨d, h1, h2⟩ := E.sl i w q
      rw [h1]
      rw [hm] at h2
      exact .ok E (OwQ.fr.mpr ((RM.of_sh (m := .F) rfl).mp h2).2)
theorem ge_con (d : D) : GE G Φ Ψ τ (.con d) .fr := fun M Z ad σ E => by
  rw [dE_con, wE_con]
  exact .opt' fun w h => .ok E (OwQ.fr.mpr (D.w_fz h))
theorem ge_glb (F : FOk G Φ Ψ) (j : Nat) : GE G Φ Ψ τ (.glb j) .fr := fun M Z ad σ E => by
  rw [dE_glb, wE_glb]
  refine .opt' fun w h => ?_
  obtain ⟨d, h1, h2⟩ := F.con j w h
  rw [h1]
  exact .ok E (OwQ.fr.mpr (h2 _ _))
theorem ge_tup {es : Es} (h : GEs G Φ Ψ τ es .fr) : GE G Φ Ψ τ (.tup es) .fr := fun M Z ad σ E => by
  rw [dE_tup, wE_tup]
  refine (h M Z ad σ E).bind (by simp [muE]) fun ds ws M1 Z1 ad1 σ1 E S q => ?_
  have q := OwsQ.fr.mp q
  rw [q.length]
  by_cases c : ws.length ≤ sizeLine
  · rw [if_pos c, if_pos c]; exact .ok E (OwQ.fr.mpr (.tup q))
  · rw [if_neg c, if_neg c]; trivial
theorem ge_ofL_fr {l : L} (h : GL G Φ Ψ τ l .fr) : GE G Φ Ψ τ (.ofL l) .fr := fun M Z ad σ E => by
  rw [dE_ofL, wE_ofL]
  refine (h M Z ad σ E).bind (by simp [muE]) fun ds ws M1 Z1 ad1 σ1 E S q => ?_
  exact (Gd.mkFro E (OwsQ.fr.mp q)).mono (by simp [muE]) fun _ _ _ _ _ _ _ _ q => q.back S
theorem ge_ofL_ls {l : L} {t : Sh} (h : GL G Φ Ψ τ l t) : GE G Φ Ψ τ (.ofL l) (.ls t) := fun M Z ad σ E => by
  rw [dE_ofL, wE_ofL]
  refine (h M Z ad σ E).bind (by simp [muE]) fun ds ws M1 Z1 ad1 σ1 E S q => ?_
  exact Gd.mkList E S q
theorem ge_dic (t : Bool) : GE G Φ Ψ τ (.dic t .nil .nil) .fr := fun M Z ad σ E => by
  rw [dE_dic, wE_dic]
  refine ⟨_, _, _, ad, rfl, E.pushZ _, .pushZ _, OwQ.fr.mpr (.dct (kvs := []) (.inr rfl) (by simp) .nil .nil)⟩
theorem ge_op1 {p : P1} {a : E} (h : GE G Φ Ψ τ a .fr) : GE G Φ Ψ τ (.op1 p a) .fr := fun M Z ad σ E => by
  rw [dE_op1, wE_op1]
  refine (h M Z ad σ E).bind (by simp [muE]) fun d w M1 Z1 ad1 σ1 E S q => ?_
  refine .opt' fun z hz => ?_
  exact (Gd.res1 E (p1_eq (OwQ.fr.mp q) hz)).mono (by simp [muE]) fun _ _ _ _ _ _ _ _ q => q.back S
theorem ge_op2 {p : P2} {a b : E} {rs us : List Nat} {s : Sh} (ha : GR G Φ Ψ τ a rs) (hb : GR G Φ Ψ τ b us) (ho : offB rs (muE G.io b) = true) (hs : s = .fr ∨ (s = .ls .fr ∧ ((p = .add ∧ (SureE G Ψ τ a ∨ SureE G Ψ τ b)) ∨ (p = .mul ∧ SureE G Ψ τ a)))) : GE G Φ Ψ τ (.op2 p a b) s := fun M Z ad σ E => by
  rw [dE_op2, wE_op2]
  refine (ha M Z ad σ E).bindE (by simp +contextual [muE]) fun x w M1 Z1 ad1 σ1 e1 E1 S1 q1 => ?_
  refine (hb M1 Z1 ad1 σ1 E1).bindE (by simp +contextual [muE]) fun y u M2 Z2 ad2 σ2 e2 E2 S2 q2 => ?_
  refine .opt' fun z hz => ?_
  have q1 := q1.go E1 S2 ho
  have hs' : s = .fr ∨ (s = .ls .fr ∧ ∃ ws, z = .lst ws) := by
    rcases hs with h | ⟨h, hs⟩
    · exact .inl h
    · refine .inr ⟨h, ?_⟩
      rcases hs with ⟨rfl, hs | hs⟩ | ⟨rfl, hs⟩
      · obtain ⟨ws, k⟩ := hs _ _ _ _ _ _ E e1
        exact vAdd_l hz (.inl k)
      · obtain ⟨ws, k⟩ := hs _ _ _ _ _ _ E1 e2
        exact vAdd_l hz (.inr k)
      · obtain ⟨ws, k⟩ := hs _ _ _ _ _ _ E e1
        exact vMul_l hz k
  exact (Gd.res (l := muE G.io (.op2 p a b)) E2 (p2_eq q1.el q2.el hz) hs').mono (fun _ h => h) fun _ _ _ _ _ _ _ _ q => (q.back (S2.mono (Mu.mono (by simp +contextual [muE])))).back (S1.mono (Mu.mono (by simp +contextual [muE])))
theorem ge_chn {p q : P2} {a b c : E} (ha : GE G Φ Ψ τ a .fr) (hb : GE G Φ Ψ τ b .fr) (hc : GE G Φ Ψ τ c .fr) : GE G Φ Ψ τ (.chn p q a b c) .fr := fun M Z ad σ E => by
  rw [dE_chn, wE_chn]
  refine (ha M Z ad σ E).bind (by simp +contextual [muE]) fun x w M1 Z1 ad1 σ1 E1 S1 q1 => ?_
  refine (hb M1 Z1 ad1 σ1 E1).bind (by simp +contextual [muE]) fun y u M2 Z2 ad2 σ2 E2 S2 q2 => ?_
  have q1 := (OwQ.fr.mp q1).go E1 S2 go_own
  have q2 := OwQ.fr.mp q2
  refine .opt fun z hz => ?_
  rcases p2_eq q1.el q2.el hz with ⟨e, he, hf, hn⟩ | ⟨ds, ws, he, rfl, r⟩
  · rw [he, Out.bind_ok]
    cases z with
    | bl k =>
      rw [hf.bl']
      cases k with
      | false => exact .ok E2 (OwQ.fr.mpr (.bl false))
      | true =>
        refine (hc M2 Z2 ad2 σ2 E2).bind (by simp +contextual [muE]) fun z v M3 Z3 ad3 σ3 E3 S3 q3 => ?_
        refine .opt' fun z hz => ?_
        have q2 := q2.go E2 S3 go_own
        exact (Gd.res (l := muE G.io (.chn p q a b c)) E3 (p2_eq q2.el (OwQ.fr.mp q3).el hz) (.inl rfl)).mono (fun _ h => h) fun _ _ _ _ _ _ _ _ q => OwQ.fr.mpr (OwQ.fr.mp q)
    | _ => trivial
  · trivial
theorem ge_not {a : E} {rs : List Nat} (h : GR G Φ Ψ τ a rs) : GE G Φ Ψ τ (.not a) .fr := fun M Z ad σ E => by
  rw [dE_not, wE_not]
  have e : ((vE Ψ a σ).bind fun d σ1 => R.opt d.truth σ1).bind (fun k σ2 => R.ok (W.bl (!k)) σ2) = (vE Ψ a σ).bind fun d σ1 => (R.opt d.truth σ1).bind fun k σ2 => .ok (.bl (!k)) σ2 := by
    cases vE Ψ a σ with
    | ok w σ1 => simp only [R.bind_ok]
    | exc x σ1 => simp only [R.bind_exc]
    | bad => simp only [R.bind_bad]
  rw [← e]
  refine Gd.bind (l1 := muE G.io a) (Q1 := EqQ) ?_ (by simp [muE]) ?_
  · refine (h M Z ad σ E).bind (fun _ h => h) fun d w M1 Z1 ad1 σ1 E S q => ?_
    refine .opt' fun k hk => ?_
    rw [q.el.truthEq hk]
    exact .ok E rfl
  · intro b b' M1 Z1 ad1 σ1 E S q
    cases q
    exact .ok E (OwQ.fr.mpr (.bl _))
theorem ge_and {a b : E} (ha : GE G Φ Ψ τ a .fr) (hb : GE G Φ Ψ τ b .fr) : GE G Φ Ψ τ (.and a b) .fr := fun M Z ad σ E => by
  rw [dE_and, wE_and]
  refine (ha M Z ad σ E).bind (by simp +contextual [muE]) fun x w M1 Z1 ad1 σ1 E1 S1 q1 => ?_
  have q1 := OwQ.fr.mp q1
  refine .opt fun k hk => ?_
  rw [q1.el.truthEq hk]
  cases k with
  | false => exact .ok E1 (OwQ.fr.mpr q1)
  | true => exact (hb M1 Z1 ad1 σ1 E1).mono (by simp +contextual [muE]) fun _ _ _ _ _ _ _ _ q => OwQ.fr.mpr (OwQ.fr.mp q)
theorem ge_or {a b : E} (ha : GE G Φ Ψ τ a .fr) (hb : GE G Φ Ψ τ b .fr) : GE G Φ Ψ τ (.or a b) .fr := fun M Z ad σ E => by
  rw [dE_or, wE_or]
  refine (ha M Z ad σ E).bind (by simp +contextual [muE]) fun x w M1 Z1 ad1 σ1 E1 S1 q1 => ?_
  have q1 := OwQ.fr.mp q1
  refine .opt fun k hk => ?_
  rw [q1.el.truthEq hk]
  cases k with
  | true => exact .ok E1 (OwQ.fr.mpr q1)
  | false => exact (hb M1 Z1 ad1 σ1 E1).mono (by simp +contextual [muE]) fun _ _ _ _ _ _ _ _ q => OwQ.fr.mpr (OwQ.fr.mp q)
theorem ge_ite {c : T} {a b : E} {s : Sh} (hc : GT G Φ Ψ τ c) (ha : GE G Φ Ψ τ a s) (hb : GE G Φ Ψ τ b s) : GE G Φ Ψ τ (.ite c a b) s := fun M Z ad σ E => by
  rw [dE_ite, wE_ite]
  refine (hc M Z ad σ E).bind (by simp +contextual [muE]) fun x w M1 Z1 ad1 σ1 E1 S1 q1 => ?_
  cases q1
  have S1' := S1.mono (Mu.mono (l := muE G.io (.ite c a b)) (by simp +contextual [muE]))
  by_cases k : x = true
  · rw [if_pos k, if_pos k]
    exact (ha M1 Z1 ad1 σ1 E1).mono (by simp +contextual [muE]) fun _ _ _ _ _ _ _ _ q => (q.mono (by simp +contextual [muE])).back S1'
  · rw [if_neg k, if_neg k]
    exact (hb M1 Z1 ad1 σ1 E1).mono (by simp +contextual [muE]) fun _ _ _ _ _ _ _ _ q => (q.mono (by simp +contextual [muE])).back S1'
theorem ge_ix {a b : E} {rs : List Nat} (ha : GR G Φ Ψ τ a rs) (hb : GE G Φ Ψ τ b .fr) (ho : offB rs (muE G.io b) = true) : GE G Φ Ψ τ (.ix a b) .fr := fun M Z ad σ E => by
  rw [dE_ix, wE_ix]
  refine (ha M Z ad σ E).bind (by simp +contextual [muE]) fun x w M1 Z1 ad1 σ1 E1 S1 q1 => ?_
  refine (hb M1 Z1 ad1 σ1 E1).bind (by simp +contextual [muE]) fun y u M2 Z2 ad2 σ2 E2 S2 q2 => ?_
  refine .opt' fun z hz => ?_
  have q1 := q1.go E1 S2 ho
  exact (Gd.res1 (l := muE G.io (.ix a b)) E2 (ix_eq q1.el (OwQ.fr.mp q2).el hz)).mono (fun _ h => h) fun _ _ _ _ _ _ _ _ q => OwQ.fr.mpr (OwQ.fr.mp q)
theorem ge_sl {a : E} {lo hi : O} {rs : List Nat} {s : Sh} (ha : GR G Φ Ψ τ a rs) (hlo : GO G Φ Ψ τ lo) (hhi : GO G Φ Ψ τ hi) (ho : offB rs (muO G.io lo ++ muO G.io hi) = true) (hs : s = .fr ∨ (s = .ls .fr ∧ SureE G Ψ τ a)) : GE G Φ Ψ τ (.sl a lo hi) s := fun M Z ad σ E => by
  rw [dE_sl, wE_sl]
  refine (ha M Z ad σ E).bindE (by simp +contextual [muE]) fun x w M1 Z1 ad1 σ1 e1 E1 S1 q1 => ?_
  refine (hlo M1 Z1 ad1 σ1 E1).bind (by simp +contextual [muE]) fun y u M2 Z2 ad2 σ2 E2 S2 q2 => ?_
  refine (hhi M2 Z2 ad2 σ2 E2).bind (by simp +contextual [muE]) fun y2 u2 M3 Z3 ad3 σ3 E3 S3 q3 => ?_
  cases q2
  cases q3
  refine .opt' fun z hz => ?_
  have ho' := offB_iff.mp ho
  have q1 := (q1.go E1 S2 (offB_iff.mpr fun j hj hm => ho' j hj (List.mem_append_left _ hm))).go E2 S3 (offB_iff.mpr fun j hj hm => ho' j hj (List.mem_append_right _ hm))
  have hs' : s = .fr ∨ (s = .ls .fr ∧ ∃ ws, z = .lst ws) := hs.imp id fun ⟨h, hs⟩ => ⟨h, by
    obtain ⟨ws, k⟩ := hs _ _ _ _ _ _ E e1
    exact vSl_l hz k⟩
  have st : ∀ {M Z ad M' Z' ad' l}, Step (Mu G.md l) M Z ad M' Z' ad' → (∀ j ∈ l, j ∈ muE G.io (.sl a lo hi)) → Step (Mu G.md (muE G.io (.sl a lo hi))) M Z ad M' Z' ad' := fun S h => S.mono (Mu.mono h)
  exact (Gd.res (l := muE G.io (.sl a lo hi)) E3 (sl_eq q1.el hz) hs').mono (fun _ h => h) fun _ _ _ _ _ _ _ _ q => q.back ((st S1 (by simp +contextual [muE])).trans ((st S2 (by simp +contextual [muE])).trans (st S3 (by simp +contextual [muE]))))
theorem ge_slK {j : Nat} (hm : G.md j = .K) : GE G Φ Ψ τ (.sl (.var j) .none (.some (.con (.int 63)))) .fr := fun M Z ad σ E => by
  rw [dE_sl, wE_sl, dE_var, wE_var]
  cases q : σ[j]? with
  | none => trivial
  | some o =>
    cases o with
    | none => trivial
    | some w =>
      obtain ⟨d, h1, h2⟩ := E.sl j w q
      rw [h1]
      rw [hm] at h2
      obtain ⟨h0, ns, rfl, h2⟩ := h2
      simp only [Out.bind_ok, R.bind_ok, dO_none, dO_some, wO_none, wO_some, dE_con, wE_con, D.w, R.opt_some]
      have fz : ∀ (M : Sto) (Z : Zs) (ns : List Int), FZs M Z (ns.map D.int) (ns.map W.int) := fun M Z ns => by
        induction ns with
        | nil => exact .nil
        | cons i ns ih => exact .cons (.int i) ih
      refine .opt' fun z hz => ?_
      cases hz
      have out : slD M d none (some 63) = .ok (.ref M.length) (M ++ [.lst (cutD (ns.map .int) none (some 63))]) := by
        rcases h2 with rfl | ⟨n, rfl, hz, h3 | h3⟩
        · rfl
        · have : listAt M n = some (ns.map .int) := by unfold listAt; rw [h3]
          simp only [slD, this]
        · have : listAt M n = some (ns.map .int) := by unfold listAt; rw [h3]
          simp only [slD, this]
      rw [out]
      exact Gd.mkFro E ((fz M Z ns).cut none (some 63))
theorem ge_rev {a : E} {rs : List Nat} {s : Sh} (ha : GR G Φ Ψ τ a rs) (hs : s = .fr ∨ s = .ls .fr) : GE G Φ Ψ τ (.rev a) s := fun M Z ad σ E => by
  rw [dE_rev, wE_rev]
  refine (ha M Z ad σ E).bind (by simp +contextual [muE]) fun x w M1 Z1 ad1 σ1 E1 S1 q1 => ?_
  refine .opt' fun z hz => ?_
  exact (Gd.res (l := muE G.io (.rev a)) E1 (rev_eq q1.el hz) (hs.imp id fun h => ⟨h, vRev_l hz⟩)).mono (fun _ h => h) fun _ _ _ _ _ _ _ _ q => q.back (S1.mono (Mu.mono (by simp +contextual [muE])))
theorem ge_isin {a : E} {ts : List Ty} {rs : List Nat} (ha : GR G Φ Ψ τ a rs) : GE G Φ Ψ τ (.isin a ts) .fr := fun M Z ad σ E => by
  rw [dE_isin, wE_isin]
  refine (ha M Z ad σ E).bind (by simp +contextual [muE]) fun x w M1 Z1 ad1 σ1 E1 S1 q1 => ?_
  refine .opt' fun z hz => ?_
  cases q : w.tysIs ts with
  | none => rw [q] at hz; cases hz
  | some k =>
    rw [q] at hz
    cases hz
    unfold dIsin
    rw [q1.el.tysEq q]
    exact .ok E1 (OwQ.fr.mpr (.bl _))
theorem ge_call (F : FOk G Φ Ψ) {k : Nat} {es : Es} {s : Sh} (hs : s = .fr ∨ (G.sg k).ret = .O s) (ha : GA G Φ Ψ τ (ioS (G.io k) es) (muEs G.io es) (G.sg k).ps es) (nd : (ioS (G.io k) es).Nodup) : GE G Φ Ψ τ (.call k es) s := fun M Z ad σ E => by
  rw [dE_call, wE_call]
  refine (ha M Z ad σ E).bind (by simp +contextual [muE]) fun ds ws M1 Z1 ad1 σ1 E1 S1 q => ?_
  rw [F.io k]
  refine .opt fun ws' hw => ?_
  obtain ⟨ass, q⟩ := ArgE.late q E1 hw
  have S1' := S1.mono (Mu.mono (l := muE G.io (.call k es)) (by simp +contextual [muE]))
  have C := Gd.call (l := muE G.io (.call k es)) (sh := (G.sg k).rs) (F.call k) q E1 nd (by simp +contextual [muE]) rfl
  rcases hs with rfl | hs
  · exact C.freeze.mono (fun _ h => h) fun _ _ _ _ _ _ _ _ q => q.back S1'
  · have : (G.sg k).rs = s := by unfold Sg.rs; rw [hs]
    rw [this] at C
    exact C.mono (fun _ h => h) fun _ _ _ _ _ _ _ _ q => q.back S1'
theorem ge_bi {b : Bi} {es : Es} (h : GEs G Φ Ψ τ es .fr) : GE G Φ Ψ τ (.bi b es) .fr := fun M Z ad σ E => by
  rw [dE_bi, wE_bi]
  refine (h M Z ad σ E).bind (by simp +contextual [muE]) fun x w M1 Z1 ad1 σ1 E1 S1 q1 => ?_
  refine .opt' fun z hz => ?_
  exact (Gd.res1 (l := muE G.io (.bi b es)) E1 (bi_eq (OwsQ.fr.mp q1) hz)).mono (fun _ h => h) fun _ _ _ _ _ _ _ _ q => OwQ.fr.mpr (OwQ.fr.mp q)
theorem ge_bi1 {b : Bi} {a : E} {rs : List Nat} (h : GR G Φ Ψ τ a rs) : GE G Φ Ψ τ (.bi b (.cons a .nil)) .fr := fun M Z ad σ E => by
  rw [dE_bi, wE_bi, dEs_cons, wEs_cons]
  have e1 : ((denE Φ a τ M).bind fun d M1 => (denEs Φ .nil τ M1).bind fun ds M2 => Out.ok (d :: ds) M2).bind (fun ds M' => b.den ds M') = (denE Φ a τ M).bind fun d M1 => b.den [d] M1 := by
    cases denE Φ a τ M <;> simp
  have e2 : ((vE Ψ a σ).bind fun d M1 => (vEs Ψ .nil M1).bind fun ds M2 => R.ok (d :: ds) M2).bind (fun ds σ' => R.opt (b.v ds) σ') = (vE Ψ a σ).bind fun d σ1 => R.opt (b.v [d]) σ1 := by
    cases vE Ψ a σ <;> simp
  rw [e1, e2]
  refine (h M Z ad σ E).bind (by simp +contextual [muE, muEs]) fun x w M1 Z1 ad1 σ1 E1 S1 q1 => ?_
  refine .opt' fun z hz => ?_
  exact (Gd.res1 (l := muE G.io (.bi b (.cons a .nil))) E1 (bi1_eq q1.el hz)).mono (fun _ h => h) fun _ _ _ _ _ _ _ _ q => OwQ.fr.mpr (OwQ.fr.mp q)
theorem ge_bl {b : BL} {l : L} {s : Sh} (h : GL G Φ Ψ τ l .fr) (hs : s = .fr ∨ (s = .ls .fr ∧ b = .list)) : GE G Φ Ψ τ (.bl b l) s := fun M Z ad σ E => by
  rw [dE_bl, wE_bl]
  refine (h M Z ad σ E).bind (by simp +contextual [muE]) fun x w M1 Z1 ad1 σ1 E1 S1 q1 => ?_
  refine .opt' fun z hz => ?_
  exact (Gd.res (l := muE G.io (.bl b l)) E1 (bl_eq (OwsQ.fr.mp q1) hz) (hs.imp id fun ⟨h, k⟩ => ⟨h, by subst k; cases hz; exact ⟨_, rfl⟩⟩)).mono (fun _ h => h) fun _ _ _ _ _ _ _ _ q => q.back (S1.mono (Mu.mono (by simp +contextual [muE])))
theorem gr_of {e : E} (h : GE G Φ Ψ τ e .fr) : GR G Φ Ψ τ e [] := fun M Z ad σ E =>
  (h M Z ad σ E).mono (fun _ h => h) fun _ _ _ _ _ _ _ _ q => RdQ.of_fr (OwQ.fr.mp q)
theorem gr_up {e : E} {rs us : List Nat} (h : GR G Φ Ψ τ e rs) (hr : ∀ j ∈ rs, j ∈ us) : GR G Φ Ψ τ e us := fun M Z ad σ E =>
  (h M Z ad σ E).mono (fun _ h => h) fun _ _ _ _ _ _ _ _ ⟨as, q1, q2⟩ => ⟨as, q1, fun n hn => by obtain ⟨j, h1, h2⟩ := q2 n hn; exact ⟨j, hr j h1, h2⟩⟩
/-- a shape that may be read -/
theorem RV.read {s : Sh} {as : List Nat} {d : D} {w : W} (h : shR s = true) (r : RV M Z s as d w) : RV M Z .el as d w := by
  cases s with
  | fr => exact .inl r
  | el => exact r
  | ls t =>
    cases t <;> try (simp [shR] at h; done)
    obtain ⟨n, ds, ws, ass, rfl, rfl, hm, ha, al⟩ := r
    obtain ⟨r, hf⟩ := al.toFRs
    exact .inr ⟨n, ds, ws, by rw [ha, hf], rfl, rfl, hm, r⟩
theorem gr_var {j : Nat} {s : Sh} (hs : (G.md j).sh = some s) (hr : shR s = true) : GR G Φ Ψ τ (.var j) (if G.md j == .F then [] else [j]) := fun M Z ad σ E => by
  rw [dE_var, wE_var]
  cases q : σ[j]? with
  | none => trivial
  | some o =>
    cases o with
    | none => trivial
    | some w =>
      obtain ⟨d, h1, h2⟩ := E.sl j w q
      rw [h1]
      have r := (RM.of_sh hs).mp h2
      refine .ok E ⟨ad j, r.read hr, fun n hn => ?_⟩
      by_cases c : G.md j = .F
      · rw [c] at hs
        cases hs
        rw [r.1] at hn; simp at hn
      · rw [if_neg (by simpa using c)]
        exact ⟨j, by simp, hn⟩
/-- one of what a name holds -/
theorem gr_ix {j : Nat} {b : E} {s : Sh} {rs : List Nat} (hs : (G.md j).sh = some s) (hb : GE G Φ Ψ τ b .fr) (hm : muE G.io b = []) (h : (rs = [] ∧ shR s = true) ∨ (s = .ls (.ls .fr) ∧ rs = [j])) : GR G Φ Ψ τ (.ix (.var j) b) rs := fun M Z ad σ E => by
  rcases h with ⟨rfl, hr⟩ | ⟨rfl, rfl⟩
  · exact gr_of (ge_ix (gr_var hs hr) hb (by rw [hm]; exact offB_iff.mpr fun _ _ h => by simp at h)) M Z ad σ E
  · rw [dE_ix, wE_ix, dE_var, wE_var]
    cases q : σ[j]? with
    | none => trivial
    | some o =>
      cases o with
      | none => trivial
      | some w =>
        obtain ⟨d, h1, h2⟩ := E.sl j w q
        rw [h1]
        simp only [Out.bind_ok, R.bind_ok]
        have r := (RM.of_sh hs).mp h2
        refine (hb M Z ad σ E).bind (by simp +contextual [muE]) fun y u M1 Z1 ad1 σ1 E1 S1 q1 => ?_
        rw [hm] at S1
        have q1 := OwQ.fr.mp q1
        refine .opt' fun z hz => ?_
        cases u <;> try (cases hz; done)
        rename_i i _
        rw [q1.int']
        have no : ∀ k, ¬ Mu G.md [] k := fun k z => by have := z.1; simp at this
        have r := r.step (fun n z => E.zkeep S1 go_own n z) fun n hn => S1.keep n (E.lt j n hn) fun k hk => (no k hk).elim
        obtain ⟨n, ds, ws, ass, rfl, rfl, hm', ha, al⟩ := r
        have hz : L2.atI ws i = some z := hz
        unfold L2.atI at hz
        cases qk : L2.ixN ws.length i with
        | none => rw [qk] at hz; cases hz
        | some k =>
          rw [qk] at hz
          obtain ⟨a, dk, g1, g2, g3⟩ := al.get hz
          have e : ixD M1 (.ref n) (.int i) = .ok dk M1 := by
            have : L2.atI ds i = some dk := by unfold L2.atI; rw [al.length.2, qk]; exact g2
            simp only [ixD, items, listAt_eq hm', this]
          rw [e]
          refine .ok E1 ⟨a, g3.read rfl, fun x hx => ⟨j, by simp, ?_⟩⟩
          rw [S1.sm j (no j), ha]
          exact List.mem_cons_of_mem _ (List.mem_flatten.mpr ⟨a, List.mem_of_getElem? g1, hx⟩)
/-! ### many, slices, tests -/
theorem ges_nil {s : Sh} : GEs G Φ Ψ τ .nil s := fun M Z ad σ E => by
  rw [dEs_nil, wEs_nil]
  exact .ok E .nil
theorem ges_cons {e : E} {es : Es} {s : Sh} (h : GE G Φ Ψ τ e s) (hs : GEs G Φ Ψ τ es s) : GEs G Φ Ψ τ (.cons e es) s := fun M Z ad σ E => by
  rw [dEs_cons, wEs_cons]
  refine (h M Z ad σ E).bind (by simp +contextual [muEs]) fun d w M1 Z1 ad1 σ1 E1 S1 q1 => ?_
  refine (hs M1 Z1 ad1 σ1 E1).bind (by simp +contextual [muEs]) fun ds ws M2 Z2 ad2 σ2 E2 S2 q2 => ?_
  have up : ∀ j, j ∈ muE G.io e → j ∈ muEs G.io (.cons e es) := by simp +contextual [muEs]
  have up2 : ∀ j, j ∈ muEs G.io es → j ∈ muEs G.io (.cons e es) := by simp +contextual [muEs]
  exact .ok E2 (OwsQ.cons (q1.mono up) E1 (S1.mono (Mu.mono up)) (S2.mono (Mu.mono up2)) (q2.mono up2))
theorem go_none : GO G Φ Ψ τ .none := fun M Z ad σ E => by rw [dO_none, wO_none]; exact .ok E rfl
theorem go_some {e : E} (h : GE G Φ Ψ τ e .fr) : GO G Φ Ψ τ (.some e) := fun M Z ad σ E => by
  rw [dO_some, wO_some]
  refine (h M Z ad σ E).bind (by simp +contextual [muO]) fun d w M1 Z1 ad1 σ1 E1 S1 q1 => ?_
  cases w <;> try trivial
  rw [(OwQ.fr.mp q1).int']
  exact .ok E1 rfl
theorem gt_tru {e : E} {rs : List Nat} (h : GR G Φ Ψ τ e rs) : GT G Φ Ψ τ (.tru e) := fun M Z ad σ E => by
  rw [dT_tru, wT_tru]
  refine (h M Z ad σ E).bind (by simp +contextual [muT]) fun d w M1 Z1 ad1 σ1 E1 S1 q1 => ?_
  refine .opt' fun k hk => ?_
  rw [q1.el.truthEq hk]
  exact .ok E1 rfl
theorem gt_and {a b : T} (ha : GT G Φ Ψ τ a) (hb : GT G Φ Ψ τ b) : GT G Φ Ψ τ (.and a b) := fun M Z ad σ E => by
  rw [dT_and, wT_and]
  refine (ha M Z ad σ E).bind (by simp +contextual [muT]) fun d w M1 Z1 ad1 σ1 E1 S1 q1 => ?_
  cases q1
  by_cases k : d = true
  · rw [if_pos k, if_pos k]; exact (hb M1 Z1 ad1 σ1 E1).mono (by simp +contextual [muT]) fun _ _ _ _ _ _ _ _ q => q
  · rw [if_neg k, if_neg k]; exact .ok E1 rfl
theorem gt_or {a b : T} (ha : GT G Φ Ψ τ a) (hb : GT G Φ Ψ τ b) : GT G Φ Ψ τ (.or a b) := fun M Z ad σ E => by
  rw [dT_or, wT_or]
  refine (ha M Z ad σ E).bind (by simp +contextual [muT]) fun d w M1 Z1 ad1 σ1 E1 S1 q1 => ?_
  cases q1
  by_cases k : d = true
  · rw [if_pos k, if_pos k]; exact .ok E1 rfl
  · rw [if_neg k, if_neg k]; exact (hb M1 Z1 ad1 σ1 E1).mono (by simp +contextual [muT]) fun _ _ _ _ _ _ _ _ q => q
theorem gt_not {a : T} (ha : GT G Φ Ψ τ a) : GT G Φ Ψ τ (.not a) := fun M Z ad σ E => by
  rw [dT_not, wT_not]
  refine (ha M Z ad σ E).bind (by simp +contextual [muT]) fun d w M1 Z1 ad1 σ1 E1 S1 q1 => ?_
  cases q1
  exact .ok E1 rfl
theorem gt_yes : GT G Φ Ψ τ .yes := fun M Z ad σ E => by rw [dT_yes, wT_yes]; exact .ok E rfl
end
end PyL

/-! V: lists, loops over them, places written: case by case. -/
namespace PyL
open PySem
section
variable {G : CG} {Φ : Fns} {Ψ : VFns} {τ : En} {M M0 M1 : Sto} {Z Z0 Z1 : Zs} {ad ad0 ad1 : Ad} {σ : VE} {l l1 l2 : List Nat} {md : Nat → Md}
/-! ### slots set -/
theorem EnvR.setF {i : Nat} {d : D} {w : W} (E : EnvR md M Z ad σ τ) (hm : md i = .F) (h : FZ M Z d w) : EnvR md M Z ad (σ.set i (some w)) (τ.set i (some d)) := by
  have ai : ad i = [] := by
    by_cases c : ∃ w, σ[i]? = some (some w)
    · obtain ⟨w, hw⟩ := c
      obtain ⟨d, h1, h2⟩ := E.sl i w hw
      rw [hm] at h2
      exact ((RM.of_sh (m := .F) rfl).mp h2).1
    · exact E.no i fun w hw => c ⟨w, hw⟩
  refine ⟨by rw [List.length_set, List.length_set]; exact E.len, fun k v hv => ?_, fun k hk => ?_, E.nd, E.dis, E.nz, E.lt, E.zl, fun k hk => ?_⟩
  · by_cases c : i = k
    · subst c
      have hl : i < σ.length := by have := (List.getElem?_eq_some_iff.mp hv).1; simpa using this
      rw [List.getElem?_set_self hl] at hv
      cases hv
      refine ⟨d, List.getElem?_set_self (by rw [← E.len]; exact hl), ?_⟩
      rw [hm, ai]
      exact (RM.of_sh (m := .F) rfl).mpr ⟨rfl, h⟩
    · rw [List.getElem?_set_ne c] at hv
      obtain ⟨d', h1, h2⟩ := E.sl k v hv
      exact ⟨d', by rw [List.getElem?_set_ne c]; exact h1, h2⟩
  · by_cases c : i = k
    · subst c; exact ai
    · exact E.no k fun w => by have := hk w; rw [List.getElem?_set_ne c] at this; exact this
  · by_cases c : i = k
    · subst c; rw [hm] at hk; cases hk
    · obtain ⟨w, hw⟩ := E.io k hk
      exact ⟨w, by rw [List.getElem?_set_ne c]; exact hw⟩
theorem EnvR.wipe {i : Nat} (E : EnvR md M Z ad σ τ) (hm : md i = .F) : EnvR md M Z ad (σ.set i none) (τ.set i none) := by
  have ai : ad i = [] := by
    by_cases c : ∃ w, σ[i]? = some (some w)
    · obtain ⟨w, hw⟩ := c
      obtain ⟨d, h1, h2⟩ := E.sl i w hw
      rw [hm] at h2
      exact ((RM.of_sh (m := .F) rfl).mp h2).1
    · exact E.no i fun w hw => c ⟨w, hw⟩
  refine ⟨by rw [List.length_set, List.length_set]; exact E.len, fun k v hv => ?_, fun k hk => ?_, E.nd, E.dis, E.nz, E.lt, E.zl, fun k hk => ?_⟩
  · by_cases c : i = k
    · subst c
      have hl : i < σ.length := by have := (List.getElem?_eq_some_iff.mp hv).1; simpa using this
      rw [List.getElem?_set_self hl] at hv
      cases hv
    · rw [List.getElem?_set_ne c] at hv
      obtain ⟨d', h1, h2⟩ := E.sl k v hv
      exact ⟨d', by rw [List.getElem?_set_ne c]; exact h1, h2⟩
  · by_cases c : i = k
    · subst c; exact ai
    · exact E.no k fun w => by have := hk w; rw [List.getElem?_set_ne c] at this; exact this
  · by_cases c : i = k
    · subst c; rw [hm] at hk; cases hk
    · obtain ⟨w, hw⟩ := E.io k hk
      exact ⟨w, by rw [List.getElem?_set_ne c]; exact hw⟩
theorem setMany_okW : ∀ {is : List Nat} {ds : List D} {ws : List W} {σ σ' : VE} {τ : En}, FZs M Z ds ws → wMany is ws σ = some σ' → EnvR md M Z ad σ τ → (∀ i ∈ is, md i = .F) → ∃ τ', setMany is ds τ = some τ' ∧ EnvR md M Z ad σ' τ' ∧ ∀ i, i ∉ is → τ'[i]? = τ[i]?
  | [], _, _, σ, σ', τ, .nil, h, E, _ => by cases h; exact ⟨τ, rfl, E, fun _ _ => rfl⟩
  | [], _, _, σ, σ', τ, .cons _ _, h, E, _ => by cases h
  | i :: is, _, _, σ, σ', τ, .nil, h, E, _ => by cases h
  | i :: is, _, _, σ, σ', τ, .cons (d := d) a r, h, E, hm => by
    obtain ⟨τ', h1, h2, h3⟩ := setMany_okW (τ := τ.set i (some d)) r h (E.setF (hm i List.mem_cons_self) a) fun k hk => hm k (List.mem_cons_of_mem _ hk)
    exact ⟨τ', h1, h2, fun k hk => by
      rw [h3 k fun z => hk (List.mem_cons_of_mem _ z)]
      exact List.getElem?_set_ne fun e : i = k => hk (by rw [← e]; exact List.mem_cons_self)⟩
theorem setTg_okW {tg : Tg} {d : D} {w : W} {σ' : VE} (h : FZ M Z d w) (hs : wTg tg w σ = some σ') (E : EnvR md M Z ad σ τ) (hm : ∀ i ∈ tgSlots tg, md i = .F) : ∃ τ', setTg tg d τ = some τ' ∧ EnvR md M Z ad σ' τ' ∧ ∀ i, i ∉ tgSlots tg → τ'[i]? = τ[i]? := by
  cases tg with
  | name i =>
    cases hs
    exact ⟨_, rfl, E.setF (hm i (by simp [tgSlots])) h, fun k hk => List.getElem?_set_ne fun e => hk (by simp [tgSlots, e])⟩
  | tup is =>
    cases w <;> try (cases hs; done)
    obtain ⟨ds, rfl, r⟩ := h.tup'
    exact setMany_okW r hs E hm
theorem wipe_ok : ∀ {is : List Nat} {σ : VE} {τ : En}, EnvR md M Z ad σ τ → (∀ i ∈ is, md i = .F) → EnvR md M Z ad (wWipe σ is) (wipeD τ is) ∧ ∀ i, i ∉ is → (wipeD τ is)[i]? = τ[i]?
  | [], σ, τ, E, _ => ⟨E, fun _ _ => rfl⟩
  | i :: is, σ, τ, E, hm => by
    obtain ⟨h1, h2⟩ := wipe_ok E fun k hk => hm k (List.mem_cons_of_mem _ hk)
    exact ⟨h1.wipe (hm i List.mem_cons_self), fun k hk => by
      rw [← h2 k fun z => hk (List.mem_cons_of_mem _ z)]
      exact List.getElem?_set_ne fun e : i = k => hk (by rw [← e]; exact List.mem_cons_self)⟩
theorem wBack_len : ∀ (is : List Nat) {σ0 σ : VE}, (wBack σ0 is σ).length = σ.length
  | [], _, _ => rfl
  | i :: is, σ0, σ => by rw [wBack, List.length_set, wBack_len is]
theorem wBack_out : ∀ {is : List Nat} {σ0 σ : VE} {i : Nat}, i ∉ is → (wBack σ0 is σ)[i]? = σ[i]?
  | [], _, _, _, _ => rfl
  | k :: is, σ0, σ, i, h => by rw [wBack, List.getElem?_set_ne (fun e : k = i => h (by rw [← e]; exact List.mem_cons_self)), wBack_out fun z => h (List.mem_cons_of_mem _ z)]
theorem wBack_in : ∀ {is : List Nat} {σ0 σ : VE} {i : Nat}, i ∈ is → i < σ.length → (wBack σ0 is σ)[i]? = some (σ0[i]?.join)
  | k :: is, σ0, σ, i, h, hl => by
    rw [wBack]
    by_cases c : k = i
    · subst c; exact List.getElem?_set_self (by rw [wBack_len]; exact hl)
    · rw [List.getElem?_set_ne c]
      rcases List.mem_cons.mp h with e | h
      · exact absurd e.symm c
      · exact wBack_in h hl
/-- the slots of a comprehension's own names are put back -/
theorem EnvR.back {is : List Nat} {σ3 : VE} {τ' : En} (E : EnvR md M Z ad σ τ) (E3 : EnvR md M1 Z1 ad1 σ3 τ') (S : Step (Mu md l) M Z ad M1 Z1 ad1) (hm : ∀ i ∈ is, md i = .F) (ht : ∀ i, i ∉ is → τ'[i]? = τ[i]?) (hl : τ'.length = τ.length) : EnvR md M1 Z1 ad1 (wBack σ is σ3) τ := by
  have af : ∀ i ∈ is, ad1 i = [] := fun i hi => by
    by_cases c : ∃ w, σ3[i]? = some (some w)
    · obtain ⟨w, hw⟩ := c
      obtain ⟨d, h1, h2⟩ := E3.sl i w hw
      rw [hm i hi] at h2
      exact ((RM.of_sh (m := .F) rfl).mp h2).1
    · exact E3.no i fun w hw => c ⟨w, hw⟩
  refine ⟨by rw [wBack_len, E3.len, hl], fun i w hw => ?_, fun i hi => ?_, E3.nd, E3.dis, E3.nz, E3.lt, E3.zl, fun i hi => ?_⟩
  · by_cases c : i ∈ is
    · have hlt : i < σ3.length := by have := (List.getElem?_eq_some_iff.mp hw).1; rw [wBack_len] at this; exact this
      rw [wBack_in c hlt] at hw
      have hw : σ[i]?.join = some w := Option.some.inj hw
      have hw' : σ[i]? = some (some w) := by
        cases q : σ[i]? with
        | none => rw [q] at hw; cases hw
        | some o => rw [q] at hw; exact congrArg some hw
      obtain ⟨d, h1, h2⟩ := E.sl i w hw'
      rw [hm i c] at h2 ⊢
      rw [af i c]
      exact ⟨d, h1, (RM.of_sh (m := .F) rfl).mpr ⟨rfl, ((RM.of_sh (m := .F) rfl).mp h2).2.go E S go_own⟩⟩
    · rw [wBack_out c] at hw
      obtain ⟨d, h1, h2⟩ := E3.sl i w hw
      exact ⟨d, by rw [← ht i c]; exact h1, h2⟩
  · by_cases c : i ∈ is
    · exact af i c
    · exact E3.no i fun w => by have := hi w; rw [wBack_out c] at this; exact this
  · by_cases c : i ∈ is
    · rw [hm i c] at hi; cases hi
    · obtain ⟨w, hw⟩ := E3.io i hi
      exact ⟨w, by rw [wBack_out c]; exact hw⟩
theorem setManyLen : ∀ {is : List Nat} {ds : List D} {τ τ' : En}, setMany is ds τ = some τ' → τ'.length = τ.length
  | [], [], _, _, h => by cases h; rfl
  | [], _ :: _, _, _, h => by cases h
  | _ :: _, [], _, _, h => by cases h
  | i :: is, d :: ds, τ, τ', h => by
    have := setManyLen (τ := τ.set i (some d)) h
    rw [this, List.length_set]
theorem setTgLen {tg : Tg} {d : D} {τ τ' : En} (h : setTg tg d τ = some τ') : τ'.length = τ.length := by
  cases tg with
  | name i => cases h; rw [List.length_set]
  | tup is =>
    cases d <;> try (cases h; done)
    exact setManyLen h
theorem wipeDLen : ∀ (is : List Nat) {τ : En}, (wipeD τ is).length = τ.length
  | [], _ => rfl
  | i :: is, τ => by rw [wipeD, List.length_set, wipeDLen is]
/-! ### lists -/
theorem gl_val {e : E} {rs : List Nat} (h : GR G Φ Ψ τ e rs) : GL G Φ Ψ τ (.val e) .fr := fun M Z ad σ E => by
  rw [dL_val, wL_val]
  refine (h M Z ad σ E).bind (by simp [muL]) fun d w M1 Z1 ad1 σ1 E S q => ?_
  refine .opt' fun ws hz => ?_
  obtain ⟨ds, h1, r⟩ := q.el.itemsEq hz
  rw [h1]
  exact .ok E (OwsQ.fr.mpr r)
theorem gl_vlst {e : E} {rs : List Nat} (h : GR G Φ Ψ τ e rs) : GL G Φ Ψ τ (.vlst e) .fr := fun M Z ad σ E => by
  rw [dL_vlst, wL_vlst]
  refine (h M Z ad σ E).bind (by simp [muL]) fun d w M1 Z1 ad1 σ1 E S q => ?_
  cases w <;> try trivial
  obtain ⟨n, ds, rfl, m, r⟩ := q.el.lst'
  simp only [lstAt_eq m]
  exact .ok E (OwsQ.fr.mpr r)
theorem gl_lst {es : Es} {s : Sh} (h : GEs G Φ Ψ τ es s) : GL G Φ Ψ τ (.lst es) s := fun M Z ad σ E => by
  rw [dL_lst, wL_lst]
  refine (h M Z ad σ E).bind (by simp [muL]) fun ds ws M1 Z1 ad1 σ1 E S q => ?_
  have hl : ds.length = ws.length := by obtain ⟨ass, r, _⟩ := q; exact r.length.2
  rw [hl]
  by_cases c : ws.length ≤ sizeLine
  · rw [if_pos c, if_pos c]; exact .ok E q
  · rw [if_neg c, if_neg c]; trivial
theorem gl_lc (F : FOk G Φ Ψ) {elt : E} {ws : List Nat} {tg : Tg} {it : I} {c : T} {s : Sh} {rs : List Nat} (hi : GI G Φ Ψ τ it rs) (he : ∀ τ, GE G Φ Ψ τ elt s) (hc : ∀ τ, GT G Φ Ψ τ c) (hw : ∀ i ∈ ws, G.md i = .F) (ht : ∀ i ∈ tgSlots tg, i ∈ ws) (ho : offB rs (muE G.io elt ++ muT G.io c) = true) : GL G Φ Ψ τ (.lc elt ws tg it c) s := fun M Z ad σ E => by
  rw [dL_lc, wL_lc]
  refine (hi M Z ad σ E).bind (by simp +contextual [muL]) fun J xs M1 Z1 ad1 σ1 E1 S1 q1 => ?_
  rw [F.fuel]
  by_cases cf : xs.length < Φ.fuel
  · rw [if_pos cf]
    have R := Gd.lc (md := G.md) (l := muE G.io elt ++ muT G.io c) (τ := τ) (J := J) (xs := xs) (rs := rs) (F := lcStep Φ elt ws tg c τ) (f := lcT (vE Ψ elt) (vT Ψ c) ws tg) (s := s) (M0 := M1) (ad0 := ad1) (Z0 := Z1) ho
      (fun M Z ad σ x w E h => by
        unfold lcStep lcT
        cases hq : wTg tg w (wWipe σ ws) with
        | none => trivial
        | some σ' =>
          obtain ⟨Ew, tw⟩ := wipe_ok E hw
          obtain ⟨τ', h1, E', h3⟩ := setTg_okW h hq Ew fun i hi => hw i (ht i hi)
          rw [h1]
          have hl : τ'.length = τ.length := by rw [setTgLen h1, wipeDLen]
          have off : ∀ i, i ∉ ws → τ'[i]? = τ[i]? := fun i hi => by rw [h3 i fun z => hi (ht i z), tw i hi]
          simp only
          have C := hc τ' M Z ad σ' E'
          generalize denT Φ c τ' M = o at C
          generalize vT Ψ c σ' = r at C
          cases r with
          | bad => trivial
          | exc x σ2 => trivial
          | ok k σ2 =>
            obtain ⟨_, M2, Z2, ad2, rfl, E2, S2, q2⟩ := C
            cases q2
            rw [Out.bind_ok]
            simp only
            have S2' := S2.mono (Mu.mono (l := muE G.io elt ++ muT G.io c) (fun j h => List.mem_append_right _ h))
            by_cases kk : k = true
            · rw [if_pos kk, if_pos kk]
              have D2 := he τ' M2 Z2 ad2 σ2 E2
              generalize denE Φ elt τ' M2 = o at D2
              generalize vE Ψ elt σ2 = r at D2
              cases r with
              | bad => trivial
              | exc x σ3 => trivial
              | ok w3 σ3 =>
                obtain ⟨d3, M3, Z3, ad3, rfl, E3, S3, q3⟩ := D2
                rw [Out.bind_ok]
                have S3' := S3.mono (Mu.mono (l := muE G.io elt ++ muT G.io c) (fun j h => List.mem_append_left _ h))
                exact ⟨_, M3, Z3, ad3, rfl, E.back E3 (S2'.trans S3') hw off hl, S2'.trans S3', .inr ⟨_, _, rfl, rfl, (q3.mono (fun j h => List.mem_append_left _ h)).back S2'⟩⟩
            · rw [if_neg kk, if_neg kk]
              exact ⟨_, M2, Z2, ad2, rfl, E.back E2 S2' hw off hl, S2', .inl ⟨rfl, rfl⟩⟩)
      xs Φ.fuel 0 [] [] M1 Z1 ad1 σ1 rfl cf E1 .refl q1 .nil
    exact R.mono (by simp +contextual [muL]) fun _ _ _ _ _ _ _ _ q => (q.mono (by simp +contextual [muL])).back (S1.mono (Mu.mono (by simp +contextual [muL])))
  · rw [if_neg cf]; trivial
end
end PyL

/-! V: what is gone through, arguments, places written: case by case; all of it. -/
namespace PyL
open PySem
section
variable {G : CG} {Φ : Fns} {Ψ : VFns} {τ : En} {M M0 M1 : Sto} {Z Z0 Z1 : Zs} {ad ad0 ad1 : Ad} {σ : VE} {l l1 l2 : List Nat} {md : Nat → Md}
theorem FZs.range (lo c : Int) (n : Nat) : FZs M Z (rangeL lo c n) (rangeW lo c n) := by
  unfold rangeL rangeW
  induction (List.range n) with
  | nil => exact .nil
  | cons i is ih => exact .cons (.int _) ih
theorem gi_val {e : E} {rs : List Nat} (h : GR G Φ Ψ τ e rs) : GI G Φ Ψ τ (.val e) rs := fun M Z ad σ E => by
  rw [dI_val, wI_val]
  refine (h M Z ad σ E).bind (by simp [muI]) fun d w M1 Z1 ad1 σ1 E S q => ?_
  refine .opt' fun ws hz => ?_
  obtain ⟨J, h1, r⟩ := iter_eq q hz
  rw [h1]
  exact .ok E r
theorem gi_rng1 {e : E} (h : GE G Φ Ψ τ e .fr) : GI G Φ Ψ τ (.rng1 e) [] := fun M Z ad σ E => by
  rw [dI_rng1, wI_rng1]
  refine (h M Z ad σ E).bind (by simp [muI]) fun d w M1 Z1 ad1 σ1 E S q => ?_
  cases w <;> try trivial
  rw [(OwQ.fr.mp q).int']
  unfold rng1K
  simp only
  split
  · exact .ok E (.snap (.range _ _ _))
  · trivial
theorem gi_rng2 {a b : E} (ha : GE G Φ Ψ τ a .fr) (hb : GE G Φ Ψ τ b .fr) : GI G Φ Ψ τ (.rng2 a b) [] := fun M Z ad σ E => by
  rw [dI_rng2, wI_rng2]
  refine (ha M Z ad σ E).bind (by simp +contextual [muI]) fun d w M1 Z1 ad1 σ1 E1 S1 q1 => ?_
  refine (hb M1 Z1 ad1 σ1 E1).bind (by simp +contextual [muI]) fun d2 w2 M2 Z2 ad2 σ2 E2 S2 q2 => ?_
  cases w <;> cases w2 <;> try trivial
  rw [(OwQ.fr.mp q1).int', (OwQ.fr.mp q2).int']
  unfold rng2K
  simp only
  split
  · exact .ok E2 (.snap (.range _ _ _))
  · trivial
theorem gi_rng3 {a b c : E} (ha : GE G Φ Ψ τ a .fr) (hb : GE G Φ Ψ τ b .fr) (hc : GE G Φ Ψ τ c .fr) : GI G Φ Ψ τ (.rng3 a b c) [] := fun M Z ad σ E => by
  rw [show denI Φ (.rng3 a b c) τ M = (denE Φ a τ M).bind fun x M1 => (denE Φ b τ M1).bind fun y M2 => (denE Φ c τ M2).bind fun z M3 => match x, y, z with
    | .int i, .int j, .int k => (match rng3 i j k with
      | some xs => .ok (.snap xs) M3
      | none => .bad)
    | _, _, _ => .bad by first | (rw [denI]; done) | (rw [denI]; rfl), wI_rng3]
  refine (ha M Z ad σ E).bind (by simp +contextual [muI]) fun d w M1 Z1 ad1 σ1 E1 S1 q1 => ?_
  refine (hb M1 Z1 ad1 σ1 E1).bind (by simp +contextual [muI]) fun d2 w2 M2 Z2 ad2 σ2 E2 S2 q2 => ?_
  refine (hc M2 Z2 ad2 σ2 E2).bind (by simp +contextual [muI]) fun d3 w3 M3 Z3 ad3 σ3 E3 S3 q3 => ?_
  cases w <;> try trivial
  cases w2 <;> try trivial
  cases w3 <;> try trivial
  rw [(OwQ.fr.mp q1).int', (OwQ.fr.mp q2).int', (OwQ.fr.mp q3).int']
  rename_i x y z
  by_cases cc : z ≠ 0 ∧ z.natAbs < 1073741824 ∧ Builtin.Range.small x y z = true ∧ 0 ≤ Builtin.Range.rangeSize x y z
  · have e : rng3 x y z = some (rangeL x z (Builtin.Range.rangeSize x y z).toNat) := by unfold rng3; rw [if_pos cc]
    simp only [e]
    rw [if_pos cc]
    exact .ok E3 (.snap (.range _ _ _))
  · simp only
    rw [if_neg cc]; trivial
theorem gi_lis {l : L} (h : GL G Φ Ψ τ l .fr) : GI G Φ Ψ τ (.lis l) [] := fun M Z ad σ E => by
  rw [dI_lis, wI_lis]
  refine (h M Z ad σ E).bind (by simp [muI]) fun d w M1 Z1 ad1 σ1 E S q => ?_
  exact .ok E (.snap (OwsQ.fr.mp q))
theorem noStr_of {d : D} {w : W} (h : El M Z d w) (hn : noStr w = true) : ∀ z, d ≠ .str z := by
  rintro z rfl
  cases h with
  | «at» h _ => cases h; cases hn
theorem gi_enu {e : E} {rs : List Nat} (h : GR G Φ Ψ τ e rs) : GI G Φ Ψ τ (.enu e) rs := fun M Z ad σ E => by
  rw [show denI Φ (.enu e) τ M = (denE Φ e τ M).bind fun d M1 => match d, itOf M1 d with
    | .str _, _ => .bad
    | _, some J => .ok (.enu J) M1
    | _, none => .bad by first | (rw [denI]; done) | (rw [denI]; rfl), wI_enu]
  refine (h M Z ad σ E).bind (by simp [muI]) fun d w M1 Z1 ad1 σ1 E S q => ?_
  by_cases c : noStr w = true
  · rw [if_pos c]
    refine .opt fun ws hz => ?_
    obtain ⟨J, h1, r⟩ := iter_eq q hz
    rw [h1]
    have hs := noStr_of q.el c
    cases d <;> first | exact absurd rfl (hs _) | exact .ok E (.enu r)
  · rw [if_neg c]; trivial
theorem gi_zip {a b : E} {rs us : List Nat} (ha : GR G Φ Ψ τ a rs) (hb : GR G Φ Ψ τ b us) (ho : offB rs (muE G.io b) = true) : GI G Φ Ψ τ (.zip a b) (rs ++ us) := fun M Z ad σ E => by
  rw [show denI Φ (.zip a b) τ M = (denE Φ a τ M).bind fun x M1 => (denE Φ b τ M1).bind fun y M2 => match x, y, itOf M2 x, itOf M2 y with
    | .str _, _, _, _ => .bad
    | _, .str _, _, _ => .bad
    | _, _, some J, some J' => .ok (.zip J J') M2
    | _, _, _, _ => .bad by first | (rw [denI]; done) | (rw [denI]; rfl), wI_zip]
  refine (ha M Z ad σ E).bind (by simp +contextual [muI]) fun d w M1 Z1 ad1 σ1 E1 S1 q1 => ?_
  refine (hb M1 Z1 ad1 σ1 E1).bind (by simp +contextual [muI]) fun d2 w2 M2 Z2 ad2 σ2 E2 S2 q2 => ?_
  have q1 := q1.go E1 S2 ho
  by_cases c : (noStr w && noStr w2) = true
  · rw [if_pos c]
    obtain ⟨c1, c2⟩ := Bool.and_eq_true _ _ ▸ c
    refine .opt fun ws hz => ?_
    refine .opt fun vs hz2 => ?_
    obtain ⟨J, h1, r⟩ := iter_eq q1 hz
    obtain ⟨J', h2, r2⟩ := iter_eq q2 hz2
    rw [h1, h2]
    have hs := noStr_of q1.el c1
    have hs2 := noStr_of q2.el c2
    have fin : ItW M2 Z2 ad2 (rs ++ us) (.zip J J') (zipV ws vs) := .zip (r.up fun j h => List.mem_append_left _ h) (r2.up fun j h => List.mem_append_right _ h)
    cases d <;> first | exact absurd rfl (hs _) | skip
    all_goals cases d2 <;> first | exact absurd rfl (hs2 _) | exact .ok E2 fin
  · rw [if_neg c]; trivial
/-! ### arguments -/
theorem ga_nil {io mm : List Nat} : GA G Φ Ψ τ io mm [] .nil := fun M Z ad σ E => by
  rw [dEs_nil, wEs_nil]
  exact .ok E .nil
def GA1 (G : CG) (Φ : Fns) (Ψ : VFns) (τ : En) (io mm : List Nat) (m : Md) (e : E) : Prop := ∀ (M : Sto) (Z : Zs) (ad : Ad) (σ : VE), EnvR G.md M Z ad σ τ → Gd G.md (muE G.io e) τ M Z ad (denE Φ e τ M) (vE Ψ e σ) (fun M Z ad d w => ArgE1 G.md τ M Z ad io mm m e d w)
theorem ga_cons {io mm : List Nat} {m : Md} {ps : List Md} {e : E} {es : Es} (h : GA1 G Φ Ψ τ io mm m e) (hs : GA G Φ Ψ τ io mm ps es) (hm : ∀ j ∈ muEs G.io es, j ∈ mm) : GA G Φ Ψ τ io mm (m :: ps) (.cons e es) := fun M Z ad σ E => by
  rw [dEs_cons, wEs_cons]
  refine (h M Z ad σ E).bind (by simp +contextual [muEs]) fun d w M1 Z1 ad1 σ1 E1 S1 q1 => ?_
  refine (hs M1 Z1 ad1 σ1 E1).bind (by simp +contextual [muEs]) fun ds ws M2 Z2 ad2 σ2 E2 S2 q2 => ?_
  exact .ok E2 (.cons (q1.go E1 S2 hm) q2)
theorem ga_F {io mm : List Nat} {e : E} (h : GE G Φ Ψ τ e .fr) : GA1 G Φ Ψ τ io mm .F e := fun M Z ad σ E =>
  (h M Z ad σ E).mono (fun _ h => h) fun _ _ _ _ _ _ _ _ q => OwQ.fr.mp q
theorem ga_B {io mm : List Nat} {e : E} {rs : List Nat} (h : GR G Φ Ψ τ e rs) (ho : offB rs (io ++ mm) = true) : GA1 G Φ Ψ τ io mm .B e := fun M Z ad σ E =>
  (h M Z ad σ E).mono (fun _ h => h) fun _ _ _ _ _ _ _ _ ⟨as, q1, q2⟩ => ⟨as, q1, fun n hn => by
    obtain ⟨j, h1, h2⟩ := q2 n hn
    have := offB_iff.mp ho j h1
    exact ⟨j, fun z => this (List.mem_append_left _ z), fun z => this (List.mem_append_right _ z), h2⟩⟩
theorem ga_I {io mm : List Nat} {j : Nat} {s : Sh} (h : G.md j = .O s ∨ G.md j = .I s) (hj : j ∈ io) : GA1 G Φ Ψ τ io mm (.I s) (.var j) := fun M Z ad σ E => by
  have ho : (G.md j).own = true := by rcases h with h | h <;> rw [h] <;> rfl
  have hs : (G.md j).sh = some s := by rcases h with h | h <;> rw [h] <;> rfl
  rw [dE_var, wE_var]
  cases q : σ[j]? with
  | none => trivial
  | some o =>
    cases o with
    | none => trivial
    | some w =>
      obtain ⟨d, h1, h2⟩ := E.sl j w q
      rw [h1]
      exact .ok E ⟨j, rfl, ho, hs, hj, h1⟩
theorem ga_K {io mm : List Nat} {j : Nat} (h : G.md j = .K) : GA1 G Φ Ψ τ io mm .K (.var j) := fun M Z ad σ E => by
  rw [dE_var, wE_var]
  cases q : σ[j]? with
  | none => trivial
  | some o =>
    cases o with
    | none => trivial
    | some w =>
      obtain ⟨d, h1, h2⟩ := E.sl j w q
      rw [h1]
      rw [h] at h2
      exact .ok E h2.2
/-! ### places written -/
section
variable {j n : Nat} {is : List W} {t : Sh} {ds : List D} {ws : List W} {ass : List (List Nat)}
theorem Plc.stay {o : MO} (P : Plc md l τ M0 Z0 ad0 M Z ad σ j n is t ds ws ass) (E : EnvR md M Z ad σ τ) (ho : (md j).own = true) : All3 (RV (M.set n o) Z t) ass ds ws :=
  P.al.mono fun a ha d w r => r.step (fun x z => ⟨List.getElem?_set_ne fun e : n = x => E.nz j ho n P.hn (by rw [e]; exact z), z⟩) fun x hx => List.getElem?_set_ne fun e : n = x => (P.inn x (List.mem_flatten.mpr ⟨a, ha, hx⟩)).2 e.symm
theorem RV.off {s : Sh} {as : List Nat} {d : D} {w : W} {o : MO} (r : RV M Z s as d w) (hz : ¬ Z n) (h : n ∉ as) : RV (M.set n o) Z s as d w :=
  r.step (fun x z => ⟨List.getElem?_set_ne fun e : n = x => hz (by rw [e]; exact z), z⟩) fun x hx => List.getElem?_set_ne fun e : n = x => h (by rw [e]; exact hx)
theorem plc_app {d : D} {w : W} (P : Plc md l τ M0 Z0 ad0 M Z ad σ j n is t ds ws ass) (E : EnvR md M Z ad σ τ) (ho : (md j).own = true) (q : OwQ md l M0 ad0 t M Z ad d w) : Gd md l τ M0 Z0 ad0 (mAppend (.ref n) [d] M) (updAt j is (mApp w) σ) (OwQ md l M0 ad0 .fr) := by
  have hl := P.al.length.2
  by_cases c : ws.length < sizeLine
  · obtain ⟨as, q1, q2, q3⟩ := q
    have nas : n ∉ as := fun h => (q3 n h).2.2.1 j P.hn
    have P' := P.stay (o := .lst (ds ++ [d])) E ho
    obtain ⟨ad', σ', h1, h2, h3, _, _⟩ := P.put (mApp w) (ds ++ [d]) (ws ++ [w]) .non (ass ++ [as]) (by simp only [mApp]; rw [if_pos c]) (P'.append (.cons (q1.off (E.nz j ho n P.hn) nas) .nil)) (by
      rw [List.flatten_append, List.flatten_singleton]
      exact List.nodup_append.mpr ⟨P.nd, q2, fun x hx y hy e => (q3 y hy).2.2.1 j (e ▸ (P.inn x hx).1)⟩) (fun x hx => by
      rw [List.flatten_append, List.flatten_singleton] at hx
      exact (List.mem_append.mp hx).imp id fun h => q3 x h)
    rw [h1]
    refine ⟨.non, _, Z, ad', ?_, h2, h3, OwQ.fr.mpr .non⟩
    simp only [mAppend, lstAt_eq P.at']
    rw [if_pos (by omega)]
  · rw [P.no (mApp w) (by simp only [mApp]; rw [if_neg c])]; trivial
theorem All3.fr_app {as : List (List Nat)} {ds es : List D} {ws us : List W} (h : All3 (RV M Z .fr) as ds ws) (r : FZs M Z es us) : All3 (RV M Z .fr) (as ++ es.map fun _ => []) (ds ++ es) (ws ++ us) := h.append (.fr r)
theorem plc_ext {es : List D} {us : List W} (P : Plc md l τ M0 Z0 ad0 M Z ad σ j n is .fr ds ws ass) (E : EnvR md M Z ad σ τ) (ho : (md j).own = true) (q : FZs M Z es us) : Gd md l τ M0 Z0 ad0 (lExtend (.ref n) es M) (updAt j is (mExt us) σ) (OwQ md l M0 ad0 .fr) := by
  have hl := P.al.length.2
  have hl2 := q.length
  by_cases c : ws.length + us.length ≤ sizeLine
  · have P' := P.stay (o := .lst (ds ++ es)) E ho
    have q' : FZs (M.set n (.lst (ds ++ es))) Z es us := q.step (fun x z => List.getElem?_set_ne fun e : n = x => E.nz j ho n P.hn (by rw [e]; exact z)) fun _ z => z
    obtain ⟨ad', σ', h1, h2, h3, _, _⟩ := P.put (mExt us) (ds ++ es) (ws ++ us) .non (ass ++ es.map fun _ => []) (by simp only [mExt]; rw [if_pos c]) (P'.fr_app q') (by
      rw [List.flatten_append, flat_nil, List.append_nil]; exact P.nd) (fun x hx => by
      rw [List.flatten_append, flat_nil, List.append_nil] at hx; exact .inl hx)
    rw [h1]
    refine ⟨.non, _, Z, ad', ?_, h2, h3, OwQ.fr.mpr .non⟩
    simp only [lExtend, lstAt_eq P.at']
    rw [if_pos (by omega)]
  · rw [P.no (mExt us) (by simp only [mExt]; rw [if_neg c])]; trivial
theorem All3.dropLast {P : List Nat → D → W → Prop} : ∀ {as : List (List Nat)} {ds : List D} {ws : List W}, All3 P as ds ws → All3 P as.dropLast ds.dropLast ws.dropLast
  | _, _, _, .nil => .nil
  | _, _, _, .cons a .nil => .nil
  | _, _, _, .cons a (.cons b r) => .cons a (All3.dropLast (.cons b r))
theorem flat_drop : ∀ {as : List (List Nat)} {a : List Nat}, as[as.length - 1]? = some a → as.flatten = as.dropLast.flatten ++ a
  | [], a, h => by simp at h
  | [b], a, h => by simp at h; subst h; simp
  | b :: c :: as, a, h => by
    have : (c :: as)[(c :: as).length - 1]? = some a := by simpa using h
    rw [List.flatten_cons, flat_drop this, List.dropLast_cons₂, List.flatten_cons, List.append_assoc]
theorem plc_pop (P : Plc md l τ M0 Z0 ad0 M Z ad σ j n is t ds ws ass) (E : EnvR md M Z ad σ τ) (S : Step (Mu md l) M0 Z0 ad0 M Z ad) (hj : Mu md l j) : Gd md l τ M0 Z0 ad0 (mPop (.ref n) [] M) (updAt j is mPp σ) (OwQ md l M0 ad0 t) := by
  have hl := P.al.length
  cases c : ws[ws.length - 1]? with
  | none => rw [P.no mPp (by simp only [mPp, c])]; trivial
  | some w =>
    obtain ⟨a, d, g1, g2, g3⟩ := P.al.get c
    have P' := P.stay (o := .lst ds.dropLast) E hj.2
    have ef := flat_drop (a := a) (by rw [hl.1]; exact g1)
    have nd := P.nd
    rw [ef, List.nodup_append] at nd
    obtain ⟨ad', σ', h1, h2, h3, h4, _⟩ := P.put mPp ds.dropLast ws.dropLast w ass.dropLast (by simp only [mPp, c]) P'.dropLast nd.1 (fun x hx => .inl (by rw [ef]; exact List.mem_append_left _ hx))
    rw [h1]
    have ain : ∀ x ∈ a, x ∈ ass.flatten := fun x hx => by rw [ef]; exact List.mem_append_right _ hx
    refine ⟨d, _, Z, ad', ?_, h2, h3, a, g3.off (E.nz j hj.2 n P.hn) (fun h => (P.inn n (ain n h)).2 rfl), nd.2.1, fun x hx => ?_⟩
    · simp only [mPop, lstAt_eq P.at']
      rw [hl.2, g2]
    · have hx' := P.inn x (ain x hx)
      refine ⟨E.nz j hj.2 x hx'.1, by rw [List.length_set]; exact E.lt j x hx'.1, h4 x (ain x hx) fun h => nd.2.2 x h x hx rfl, ?_⟩
      exact S.an j hj x hx'.1
theorem plc_set {d : D} {w : W} {i : D} {iw : W} (P : Plc md l τ M0 Z0 ad0 M Z ad σ j n is t ds ws ass) (E : EnvR md M Z ad σ τ) (S : Step (Mu md l) M0 Z0 ad0 M Z ad) (hj : Mu md l j) (hi : FZ M Z i iw) (q : OwQ md l M0 ad0 t M Z ad d w) :
    updAt j is (mSet iw w) σ = .bad ∨ ∃ M' ad' σ', updAt j is (mSet iw w) σ = .ok .non σ' ∧ setIx M (.ref n) i d = some M' ∧ EnvR md M' Z ad' σ' τ ∧ Step (Mu md l) M0 Z0 ad0 M' Z ad' := by
  have hl := P.al.length
  cases iw with
  | int k =>
    cases c : L2.ixN ws.length k with
    | none => left; exact P.no _ (by simp only [mSet, c])
    | some m =>
      right
      rw [hi.int']
      obtain ⟨as, q1, q2, q3⟩ := q
      have nas : n ∉ as := fun h => (q3 n h).2.2.1 j P.hn
      have mlt : m < ws.length := by
        unfold L2.ixN at c
        split at c
        · split at c
          · cases c; omega
          · cases c
        · split at c
          · cases c; omega
          · cases c
      have lens : ass.length = ws.length := hl.1
      obtain ⟨a, ha⟩ : ∃ a, ass[m]? = some a := ⟨_, List.getElem?_eq_getElem (by omega)⟩
      obtain ⟨d0, hd0⟩ : ∃ d, ds[m]? = some d := ⟨_, List.getElem?_eq_getElem (by omega)⟩
      have P' := P.stay (o := .lst (ds.set m d)) E hj.2
      have S3 : ∀ {M' : Sto} {as' : List (List Nat)} {ds' : List D} {ws' : List W}, All3 (RV M' Z t) as' ds' ws' → ∀ (m : Nat), RV M' Z t as d w → All3 (RV M' Z t) (as'.set m as) (ds'.set m d) (ws'.set m w) := by
        intro M' as' ds' ws' h
        induction h with
        | nil => intro m _; exact .nil
        | cons p r ih =>
          intro m hr
          cases m with
          | zero => exact .cons hr r
          | succ m => exact .cons p (ih m hr)
      obtain ⟨ad', σ', h1, h2, h3, _, _⟩ := P.put (mSet (.int k) w) (ds.set m d) (ws.set m w) .non (ass.set m as) (by simp only [mSet, c]) (S3 P' m (q1.off (E.nz j hj.2 n P.hn) nas))
        (nodup_set1 ha P.nd q2 fun x hx => .inr fun h => (q3 x hx).2.2.1 j (P.inn x h).1) (fun x hx => by
          obtain ⟨b, hb, hx⟩ := List.mem_flatten.mp hx
          rcases List.mem_or_eq_of_mem_set hb with hb | hb
          · exact .inl (List.mem_flatten.mpr ⟨b, hb, hx⟩)
          · exact .inr (q3 x (by rw [← hb]; exact hx)))
      refine ⟨_, ad', σ', h1, ?_, h2, h3⟩
      simp only [setIx, P.at']
      rw [hl.2, c]
  | _ => left; exact P.no _ (by simp only [mSet])
end
theorem Out.bind_assoc {α β γ : Type} (o : Out α) (f : α → Sto → Out β) (g : β → Sto → Out γ) : (o.bind f).bind g = o.bind fun a M => (f a M).bind g := by
  cases o with
  | ok a M => rw [Out.bind_ok, Out.bind_ok]
  | exc x M => rw [Out.bind_exc, Out.bind_exc, Out.bind_exc]
  | bad => rw [Out.bind_bad, Out.bind_bad, Out.bind_bad]
theorem R.bind_assoc {α β γ : Type} (o : R α) (f : α → VE → R β) (g : β → VE → R γ) : (o.bind f).bind g = o.bind fun a M => (f a M).bind g := by
  cases o with
  | ok a M => rw [R.bind_ok, R.bind_ok]
  | exc x M => rw [R.bind_exc, R.bind_exc, R.bind_exc]
  | bad => rw [R.bind_bad, R.bind_bad, R.bind_bad]
theorem isLst_eq {n : Nat} {ds : List D} (h : M[n]? = some (.lst ds)) : isLst M (.ref n) = true := by
  show (lstAt M n).isSome = true
  rw [lstAt_eq h]; rfl
theorem okPl0 {j : Nat} {t : Sh} (h : okPl j [] σ = true) (E : EnvR md M Z ad σ τ) (S : Step (Mu md l) M0 Z0 ad0 M Z ad) (hj : Mu md l j) (hs : (md j).sh = some (.ls t)) : ∃ n ds ws ass, τ[j]? = some (some (.ref n)) ∧ M[n]? = some (.lst ds) ∧ Plc md l τ M0 Z0 ad0 M Z ad σ j n [] t ds ws ass := by
  unfold okPl at h
  cases q : σ[j]? with
  | none => rw [q] at h; cases h
  | some o =>
    cases o with
    | none => rw [q] at h; cases h
    | some w =>
      obtain ⟨n, ds, ws, ass, h1, _, P⟩ := plc0 E S hj q hs
      exact ⟨n, ds, ws, ass, h1, P.at', P⟩
theorem okPl1 {j : Nat} {iw : W} {t : Sh} (h : okPl j [iw] σ = true) (E : EnvR md M Z ad σ τ) (S : Step (Mu md l) M0 Z0 ad0 M Z ad) (hj : Mu md l j) (hs : (md j).sh = some (.ls (.ls t))) : ∃ m n di ds ws ass, iw = .int di ∧ τ[j]? = some (some (.ref m)) ∧ m ∈ ad j ∧ ixD M (.ref m) (.int di) = .ok (.ref n) M ∧ M[n]? = some (.lst ds) ∧ Plc md l τ M0 Z0 ad0 M Z ad σ j n [iw] t ds ws ass := by
  unfold okPl at h
  cases q : σ[j]? with
  | none => rw [q] at h; cases h
  | some o =>
    cases o with
    | none => rw [q] at h; cases h
    | some w =>
      rw [q] at h
      have hm : ∀ m, τ[j]? = some (some (.ref m)) → m ∈ ad j := fun m hm => by
        obtain ⟨d, h1, h2⟩ := E.sl j w q
        obtain ⟨n, ds, ws, ass, rfl, _, _, ha, _⟩ := (RM.of_sh hs).mp h2
        rw [hm] at h1
        cases h1
        rw [ha]; exact List.mem_cons_self
      rcases plc1 (iw := iw) E S hj q hs with hb | ⟨m, n, di, ds, ws, ass, h1, h2, h3, P⟩
      · exfalso
        simp only at h
        split at h
        · rename_i xs
          split at h
          · rename_i ys hy
            have := hb (fun x => some (x, .non))
            unfold updAt at this
            rw [q] at this
            simp only [List.reverse_singleton] at this
            cases iw <;> try (cases hy; done)
            rename_i i
            have hy : L2.atI xs i = some (.lst ys) := hy
            unfold L2.atI at hy
            cases qk : L2.ixN xs.length i with
            | none => rw [qk] at hy; cases hy
            | some k =>
              rw [qk] at hy
              have hy : xs[k]? = some (.lst ys) := hy
              simp only [W.upd, qk, hy] at this
              cases this
          · cases h
        · cases h
      · exact ⟨m, n, di, ds, ws, ass, h1, h2, hm m h2, h3, P.at', P⟩
theorem plc0_next {j n : Nat} {ds : List D} {t : Sh} (E : EnvR md M Z ad σ τ) (S : Step (Mu md l) M0 Z0 ad0 M Z ad) (hj : Mu md l j) (hs : (md j).sh = some (.ls t)) (ht : τ[j]? = some (some (.ref n))) : (∀ f, updAt j [] f σ = .bad) ∨ ∃ ds ws ass, Plc md l τ M0 Z0 ad0 M Z ad σ j n [] t ds ws ass := by
  cases q : σ[j]? with
  | none => left; intro f; unfold updAt; rw [q]
  | some o =>
    cases o with
    | none => left; intro f; unfold updAt; rw [q]
    | some w =>
      obtain ⟨n', ds', ws', ass', k1, _, P⟩ := plc0 E S hj q hs
      rw [ht] at k1
      cases k1
      exact .inr ⟨ds', ws', ass', P⟩
theorem ge_app {j : Nat} {e : E} {t : Sh} (ho : (G.md j).own = true) (hs : (G.md j).sh = some (.ls t)) (he : GE G Φ Ψ τ e t) : GE G Φ Ψ τ (.me .append (.var j) (.cons e .nil)) .fr := fun M Z ad σ E => by
  rw [dE_me, wE_me_v, dE_var]
  have hj : Mu G.md (muE G.io (.me .append (.var j) (.cons e .nil))) j := ⟨by simp [muE, rootE], ho⟩
  by_cases c : okPl j [] σ = true
  · rw [if_pos c]
    obtain ⟨n, ds, ws, ass, h1, h2, _⟩ := okPl0 (l := muE G.io (.me .append (.var j) (.cons e .nil))) c E .refl hj hs
    rw [h1]
    simp only [Out.bind_ok, ok_append, isLst_eq h2, if_true, dEs_cons, wEs_cons, Out.bind_assoc, R.bind_assoc, dEs_nil, wEs_nil, R.bind_ok]
    refine (he M Z ad σ E).bind0 (by simp +contextual [muE, muEs]) fun d w M1 Z1 ad1 σ1 E1 S1 q1 => ?_
    have S1 := S1.mono (Mu.mono (l := muE G.io (.me .append (.var j) (.cons e .nil))) (by simp +contextual [muE, muEs]))
    rcases plc0_next (n := n) (ds := ds) E1 S1 hj hs h1 with hb | ⟨ds', ws', ass', P⟩
    · rw [hb]; trivial
    · exact plc_app P E1 ho (q1.mono (by simp +contextual [muE, muEs]))
  · rw [if_neg c]; trivial
theorem ge_pop {j : Nat} {t s : Sh} (ho : (G.md j).own = true) (hs : (G.md j).sh = some (.ls t)) (h : s = .fr ∨ s = t) : GE G Φ Ψ τ (.me .pop (.var j) .nil) s := fun M Z ad σ E => by
  rw [dE_me, wE_me_v, dE_var]
  have hj : Mu G.md (muE G.io (.me .pop (.var j) .nil)) j := ⟨by simp [muE, rootE], ho⟩
  by_cases c : okPl j [] σ = true
  · rw [if_pos c]
    obtain ⟨n, ds, ws, ass, h1, h2, P⟩ := okPl0 c E .refl hj hs
    rw [h1]
    simp only [Out.bind_ok, ok_pop, isLst_eq h2, if_true, dEs_nil, wEs_nil, R.bind_ok]
    have := plc_pop P E .refl hj
    rcases h with rfl | rfl
    · exact this.freeze
    · exact this
  · rw [if_neg c]; trivial
theorem ge_app1 {j : Nat} {b e : E} {t : Sh} (ho : (G.md j).own = true) (hs : (G.md j).sh = some (.ls (.ls t))) (hb : GE G Φ Ψ τ b .fr) (hmu : muE G.io b = []) (he : GE G Φ Ψ τ e t) (hoff : offB [j] (muE G.io e) = true) : GE G Φ Ψ τ (.me .append (.ix (.var j) b) (.cons e .nil)) .fr := fun M Z ad σ E => by
  rw [dE_me, wE_me_ix, dE_ix, dE_var]
  have hj : Mu G.md (muE G.io (.me .append (.ix (.var j) b) (.cons e .nil))) j := ⟨by simp [muE, rootE], ho⟩
  by_cases c0 : okN j σ = true
  · rw [if_pos c0]
    obtain ⟨w0, hw0⟩ : ∃ w, σ[j]? = some (some w) := by
      unfold okN at c0
      split at c0
      · exact ⟨_, by assumption⟩
      · cases c0
    obtain ⟨d0, h1, _⟩ := E.sl j w0 hw0
    rw [h1]
    simp only [Out.bind_ok, Out.bind_assoc]
    refine (hb M Z ad σ E).bind0 (by simp +contextual [muE]) fun y i M1 Z1 ad1 σ1 E1 S1 q1 => ?_
    have S1 := S1.mono (Mu.mono (l := muE G.io (.me .append (.ix (.var j) b) (.cons e .nil))) (by simp +contextual [muE]))
    by_cases c : okPl j [i] σ1 = true
    · rw [if_pos c]
      obtain ⟨m, n, di, ds, ws, ass, rfl, h2, h3, h4, h5, _⟩ := okPl1 c E1 S1 hj hs
      rw [h1] at h2
      cases h2
      rw [(OwQ.fr.mp q1).int', h4]
      simp only [Out.bind_ok, ok_append, isLst_eq h5, if_true, dEs_cons, wEs_cons, Out.bind_assoc, R.bind_assoc, dEs_nil, wEs_nil, R.bind_ok]
      refine Gd.since (M1 := M1) (Z1 := Z1) (ad1 := ad1) (Q := OwQ G.md (muE G.io (.me .append (.ix (.var j) b) (.cons e .nil))) M1 ad1 .fr) ?_ S1 (fun _ h => h) fun _ _ _ _ _ _ _ _ q => q.back S1
      refine (he M1 Z1 ad1 σ1 E1).bind0 (by simp +contextual [muE, muEs]) fun d w M2 Z2 ad2 σ2 E2 S2 q2 => ?_
      have hne : ¬ Mu G.md (muE G.io e) j := fun z => offB_iff.mp hoff j (by simp) z.1
      have hk : M2[m]? = M1[m]? := S2.keep m (E1.lt j m h3) fun k hk hm => E1.dis k j hk.2 (fun e => hne (e ▸ hk)) m hm h3
      have S2 := S2.mono (Mu.mono (l := muE G.io (.me .append (.ix (.var j) b) (.cons e .nil))) (by simp +contextual [muE, muEs]))
      cases q : σ2[j]? with
      | none => unfold updAt; rw [q]; trivial
      | some o =>
        cases o with
        | none => unfold updAt; rw [q]; trivial
        | some w2 =>
          rcases plc1 (iw := .int di) E2 S2 hj q hs with hb | ⟨m', n', di', ds', ws', ass', hi, k1, k2, P⟩
          · rw [hb]; trivial
          · cases hi
            rw [h1] at k1
            cases k1
            have : n' = n := by
              have e : ixD M2 (.ref m) (.int di) = .ok (.ref n) M2 := by
                simp only [ixD, items, listAt] at h4 ⊢
                rw [hk]
                split at h4
                · rename_i xs hx
                  split at h4
                  · rename_i d hd
                    have := (Out.ok.inj h4).1
                    subst this
                    simp only [hx, hd]
                  · cases h4
                · cases h4
              rw [e] at k2
              exact (D.ref.inj (Out.ok.inj k2).1).symm
            subst this
            exact plc_app P E2 ho (q2.mono (by simp +contextual [muE, muEs]))
    · rw [if_neg c]; trivial
  · rw [if_neg c0]; trivial
theorem ge_pop1 {j : Nat} {b : E} {t s : Sh} (ho : (G.md j).own = true) (hs : (G.md j).sh = some (.ls (.ls t))) (hb : GE G Φ Ψ τ b .fr) (h : s = .fr ∨ s = t) : GE G Φ Ψ τ (.me .pop (.ix (.var j) b) .nil) s := fun M Z ad σ E => by
  rw [dE_me, wE_me_ix, dE_ix, dE_var]
  have hj : Mu G.md (muE G.io (.me .pop (.ix (.var j) b) .nil)) j := ⟨by simp [muE, rootE], ho⟩
  by_cases c0 : okN j σ = true
  · rw [if_pos c0]
    obtain ⟨w0, hw0⟩ : ∃ w, σ[j]? = some (some w) := by
      unfold okN at c0
      split at c0
      · exact ⟨_, by assumption⟩
      · cases c0
    obtain ⟨d0, h1, _⟩ := E.sl j w0 hw0
    rw [h1]
    simp only [Out.bind_ok, Out.bind_assoc]
    refine (hb M Z ad σ E).bind0 (by simp +contextual [muE]) fun y i M1 Z1 ad1 σ1 E1 S1 q1 => ?_
    have S1 := S1.mono (Mu.mono (l := muE G.io (.me .pop (.ix (.var j) b) .nil)) (by simp +contextual [muE]))
    by_cases c : okPl j [i] σ1 = true
    · rw [if_pos c]
      obtain ⟨m, n, di, ds, ws, ass, rfl, h2, h3, h4, h5, P⟩ := okPl1 c E1 S1 hj hs
      rw [h1] at h2
      cases h2
      rw [(OwQ.fr.mp q1).int', h4]
      simp only [Out.bind_ok, ok_pop, isLst_eq h5, if_true, dEs_nil, wEs_nil, R.bind_ok]
      have := plc_pop P E1 S1 hj
      rcases h with rfl | rfl
      · exact this.freeze
      · exact this
    · rw [if_neg c]; trivial
  · rw [if_neg c0]; trivial
theorem ge_ext {j : Nat} {l : L} (ho : (G.md j).own = true) (hs : (G.md j).sh = some (.ls .fr)) (hl : GL G Φ Ψ τ l .fr) : GE G Φ Ψ τ (.ml .extend (.var j) l) .fr := fun M Z ad σ E => by
  rw [dE_ml, wE_ml_ext, dE_var]
  have hj : Mu G.md (muE G.io (.ml .extend (.var j) l)) j := ⟨by simp [muE, rootE], ho⟩
  by_cases c : okPl j [] σ = true
  · rw [if_pos c]
    obtain ⟨n, ds, ws, ass, h1, h2, _⟩ := okPl0 (l := muE G.io (.ml .extend (.var j) l)) c E .refl hj hs
    rw [h1]
    simp only [Out.bind_ok, ok_extend, isLst_eq h2, if_true]
    refine (hl M Z ad σ E).bind0 (by simp +contextual [muE]) fun d w M1 Z1 ad1 σ1 E1 S1 q1 => ?_
    have S1 := S1.mono (Mu.mono (l := muE G.io (.ml .extend (.var j) l)) (by simp +contextual [muE]))
    rcases plc0_next (n := n) (ds := ds) E1 S1 hj hs h1 with hb | ⟨ds', ws', ass', P⟩
    · rw [hb]; trivial
    · exact plc_ext P E1 ho (OwsQ.fr.mp q1)
  · rw [if_neg c]; trivial
theorem ge_join {o : E} {l : L} (ho : GE G Φ Ψ τ o .fr) (hl : GL G Φ Ψ τ l .fr) : GE G Φ Ψ τ (.ml .join o l) .fr := fun M Z ad σ E => by
  rw [dE_ml, wE_ml_join]
  refine (ho M Z ad σ E).bind (by simp +contextual [muE]) fun d w M1 Z1 ad1 σ1 E1 S1 q1 => ?_
  have q1 := OwQ.fr.mp q1
  cases w with
  | str z =>
    rw [q1.str']
    simp only [ok_join, if_true]
    refine (hl M1 Z1 ad1 σ1 E1).bind (by simp +contextual [muE]) fun ds ws M2 Z2 ad2 σ2 E2 S2 q2 => ?_
    cases c : wStr ws with
    | none => trivial
    | some ts =>
      have e : ML.den .join (.str z) ds M2 = lJoin (.str z) ds M2 := rfl
      rw [e]
      simp only [lJoin, wStr_eq (OwsQ.fr.mp q2) c]
      split
      · exact .ok E2 (OwQ.fr.mpr (.str _))
      · trivial
  | _ => trivial
end
end PyL

set_option maxHeartbeats 1000000
/-! V: every checked expression. -/
namespace PyL
open PySem
section
variable {G : CG} {Φ : Fns} {Ψ : VFns}
theorem md_beq {a b : Md} : (a == b) = true ↔ a = b := by simp
theorem orB {a b : Bool} : (a || b) = true ↔ a = true ∨ b = true := by simp
theorem isSome_ex {α : Type} {o : Option α} (h : o.isSome = true) : ∃ a, o = some a := Option.isSome_iff_exists.mp h
theorem isEmpty_nil {α : Type} {l : List α} (h : l.isEmpty = true) : l = [] := by cases l; rfl; cases h
theorem sure_of {n : Nat} {a : E} {τ : En} (h : oSure G n a = true) : SureE G Ψ τ a := fun M Z ad σ w σ' _ hv => oSure_ok n a h hv
theorem varL_of {a : E} {τ : En} (h : varL G a = true) : SureE G Ψ τ a := fun M Z ad σ w σ' E hv => varL_ok h E hv
mutual
theorem oE_ok (F : FOk G Φ Ψ) : ∀ (n : Nat) (e : E) (s : Sh), oE G n e s = true → ∀ τ, GE G Φ Ψ τ e s
  | 0, _, _, h => by simp [oE] at h
  | n + 1, .var i, s, h => fun τ => by
    simp only [oE, Bool.and_eq_true, beq_iff_eq] at h
    obtain ⟨rfl, h⟩ := h
    exact ge_var h
  | n + 1, .con d, s, h => fun τ => by
    simp only [oE, beq_iff_eq] at h
    subst h; exact ge_con d
  | n + 1, .glb d, s, h => fun τ => by
    simp only [oE, beq_iff_eq] at h
    subst h; exact ge_glb F d
  | n + 1, .tup es, s, h => fun τ => by
    simp only [oE, Bool.and_eq_true, beq_iff_eq] at h
    obtain ⟨rfl, h⟩ := h
    exact ge_tup (oEs_ok F n es .fr h τ)
  | n + 1, .ofL l, s, h => fun τ => by
    simp only [oE] at h
    cases s with
    | fr => exact ge_ofL_fr (oL_ok F n l .fr h τ)
    | ls t => exact ge_ofL_ls (oL_ok F n l t h τ)
    | el => cases h
  | n + 1, .dic t a b, s, h => fun τ => by
    cases a with
    | nil =>
      cases b with
      | nil => simp only [oE, beq_iff_eq] at h; subst h; exact ge_dic t
      | cons _ _ => simp [oE] at h
    | cons _ _ => cases b <;> simp [oE] at h
  | n + 1, .op1 p a, s, h => fun τ => by
    simp only [oE, Bool.and_eq_true, beq_iff_eq] at h
    obtain ⟨rfl, h⟩ := h
    exact ge_op1 (oE_ok F n a .fr h τ)
  | n + 1, .op2 p a b, s, h => fun τ => by
    simp only [oE] at h
    cases ha : oR G n a with
    | none => rw [ha] at h; cases h
    | some rs =>
      cases hb : oR G n b with
      | none => rw [ha, hb] at h; cases h
      | some us =>
        rw [ha, hb] at h
        simp only [Bool.and_eq_true, Bool.or_eq_true, beq_iff_eq] at h
        obtain ⟨h1, h2⟩ := h
        refine ge_op2 (oR_ok F n a rs ha τ) (oR_ok F n b us hb τ) h1 (h2.imp id fun ⟨h3, h4⟩ => ⟨h3, ?_⟩)
        rcases h4 with ⟨rfl, h4⟩ | ⟨rfl, h4⟩
        · refine .inl ⟨rfl, ?_⟩
          rcases h4 with ((h4 | h4) | h4) | h4
          · exact .inl (sure_of h4)
          · exact .inr (sure_of h4)
          · exact .inl (varL_of h4)
          · exact .inr (varL_of h4)
        · exact .inr ⟨rfl, h4.elim sure_of varL_of⟩
  | n + 1, .chn p q a b c, s, h => fun τ => by
    simp only [oE, Bool.and_eq_true, beq_iff_eq] at h
    obtain ⟨⟨⟨rfl, h1⟩, h2⟩, h3⟩ := h
    exact ge_chn (oE_ok F n a .fr h1 τ) (oE_ok F n b .fr h2 τ) (oE_ok F n c .fr h3 τ)
  | n + 1, .not a, s, h => fun τ => by
    simp only [oE, Bool.and_eq_true, beq_iff_eq] at h
    obtain ⟨rfl, h1⟩ := h
    obtain ⟨rs, h1⟩ := isSome_ex h1
    exact ge_not (oR_ok F n a rs h1 τ)
  | n + 1, .and a b, s, h => fun τ => by
    simp only [oE, Bool.and_eq_true, beq_iff_eq] at h
    obtain ⟨⟨rfl, h1⟩, h2⟩ := h
    exact ge_and (oE_ok F n a .fr h1 τ) (oE_ok F n b .fr h2 τ)
  | n + 1, .or a b, s, h => fun τ => by
    simp only [oE, Bool.and_eq_true, beq_iff_eq] at h
    obtain ⟨⟨rfl, h1⟩, h2⟩ := h
    exact ge_or (oE_ok F n a .fr h1 τ) (oE_ok F n b .fr h2 τ)
  | n + 1, .ite c a b, s, h => fun τ => by
    simp only [oE, Bool.and_eq_true] at h
    obtain ⟨⟨h0, h1⟩, h2⟩ := h
    exact ge_ite (oT_ok F n c h0 τ) (oE_ok F n a s h1 τ) (oE_ok F n b s h2 τ)
  | n + 1, .ix a b, s, h => fun τ => by
    simp only [oE, Bool.and_eq_true, beq_iff_eq] at h
    obtain ⟨⟨rfl, h1⟩, h2⟩ := h
    cases ha : oR G n a with
    | none => rw [ha] at h2; cases h2
    | some rs => rw [ha] at h2; exact ge_ix (oR_ok F n a rs ha τ) (oE_ok F n b .fr h1 τ) h2
  | n + 1, .sl a lo hi, s, h => fun τ => by
    simp only [oE, Bool.and_eq_true, Bool.or_eq_true, beq_iff_eq] at h
    obtain ⟨⟨⟨h1, h2⟩, h3⟩, h4⟩ := h
    cases ha : oR G n a with
    | some rs =>
      rw [ha] at h4
      exact ge_sl (oR_ok F n a rs ha τ) (oO_ok F n lo h2 τ) (oO_ok F n hi h3 τ) h4 (h1.imp id fun ⟨h, k⟩ => ⟨h, k.elim sure_of varL_of⟩)
    | none =>
      rw [ha] at h4
      cases a <;> try (cases h4; done)
      rename_i j
      simp only [Bool.and_eq_true, beq_iff_eq] at h4
      obtain ⟨⟨rfl, h4⟩, h5⟩ := h4
      cases lo <;> try (cases h5; done)
      cases hi <;> try (cases h5; done)
      rename_i e
      cases e <;> try (cases h5; done)
      rename_i d
      cases d <;> try (cases h5; done)
      simp only [beq_iff_eq] at h5
      subst h5
      exact ge_slK h4
  | n + 1, .rev a, s, h => fun τ => by
    simp only [oE, Bool.and_eq_true, Bool.or_eq_true, beq_iff_eq] at h
    obtain ⟨h0, h1⟩ := h
    obtain ⟨rs, h1⟩ := isSome_ex h1
    exact ge_rev (oR_ok F n a rs h1 τ) h0
  | n + 1, .isin a ts, s, h => fun τ => by
    simp only [oE, Bool.and_eq_true, beq_iff_eq] at h
    obtain ⟨rfl, h1⟩ := h
    obtain ⟨rs, h1⟩ := isSome_ex h1
    exact ge_isin (oR_ok F n a rs h1 τ)
  | n + 1, .call k es, s, h => fun τ => by
    simp only [oE, Bool.and_eq_true, Bool.or_eq_true, beq_iff_eq, decide_eq_true_eq] at h
    obtain ⟨⟨⟨h1, h2⟩, h3⟩, h4⟩ := h
    exact ge_call F h1 (oA_ok F n (G.sg k).ps es (ioS (G.io k) es ++ muEs G.io es) h3 τ (ioS (G.io k) es) (muEs G.io es) rfl (fun j h => h) (fun j h => h)) h4
  | n + 1, .bi b es, s, h => fun τ => by
    simp only [oE, Bool.and_eq_true, Bool.or_eq_true, beq_iff_eq] at h
    obtain ⟨rfl, h1⟩ := h
    rcases h1 with h1 | h1
    · exact ge_bi (oEs_ok F n es .fr h1 τ)
    · match es, h1 with
      | .cons a .nil, h1 =>
        obtain ⟨rs, h1⟩ := isSome_ex h1
        exact ge_bi1 (oR_ok F n a rs h1 τ)
  | n + 1, .bl b l, s, h => fun τ => by
    simp only [oE, Bool.and_eq_true, Bool.or_eq_true, beq_iff_eq] at h
    obtain ⟨h0, h1⟩ := h
    exact ge_bl (oL_ok F n l .fr h1 τ) h0
  | n + 1, .me m o es, s, h => fun τ => by
    simp only [oE] at h
    cases hp : oP G n o with
    | none => rw [hp] at h; cases h
    | some jt =>
      obtain ⟨j, t⟩ := jt
      rw [hp] at h
      cases t <;> try (cases h; done)
      rename_i t
      simp only [Bool.and_eq_true] at h
      obtain ⟨ho, h⟩ := h
      have P := oP_ok F n o j (.ls t) hp
      rcases P with ⟨rfl, hs⟩ | ⟨b, rfl, hb, hmu, hs⟩
      · cases m <;> try (cases h; done)
        · match es, h with
          | .cons e .nil, h =>
            simp only [Bool.and_eq_true, beq_iff_eq] at h
            obtain ⟨⟨⟨rfl, h1⟩, h2⟩, h3⟩ := h
            exact ge_app ho hs (oE_ok F n e t h1 τ)
        · match es, h with
          | .nil, h =>
            simp only [Bool.and_eq_true, Bool.or_eq_true, beq_iff_eq] at h
            exact ge_pop ho hs h.1.1
      · cases m <;> try (cases h; done)
        · match es, h with
          | .cons e .nil, h =>
            simp only [Bool.and_eq_true, beq_iff_eq] at h
            obtain ⟨⟨⟨rfl, h1⟩, h2⟩, h3⟩ := h
            exact ge_app1 ho hs (hb τ) hmu (oE_ok F n e t h1 τ) h2
        · match es, h with
          | .nil, h =>
            simp only [Bool.and_eq_true, Bool.or_eq_true, beq_iff_eq] at h
            exact ge_pop1 ho hs (hb τ) h.1.1
  | n + 1, .ml m o l, s, h => fun τ => by
    simp only [oE, Bool.and_eq_true, beq_iff_eq] at h
    obtain ⟨rfl, h⟩ := h
    cases m with
    | extend =>
      simp only [Bool.and_eq_true] at h
      obtain ⟨⟨h1, h2⟩, h3⟩ := h
      cases o <;> try (cases h1; done)
      rename_i j
      simp only [Bool.or_eq_true, beq_iff_eq] at h1
      exact ge_ext (by rcases h1 with h | h <;> rw [h] <;> rfl) (by rcases h1 with h | h <;> rw [h] <;> rfl) (oL_ok F n l .fr h2 τ)
    | join =>
      simp only [Bool.and_eq_true] at h
      exact ge_join (oE_ok F n o .fr h.1.1 τ) (oL_ok F n l .fr h.1.2 τ)
theorem oP_ok (F : FOk G Φ Ψ) : ∀ (n : Nat) (e : E) (j : Nat) (s : Sh), oP G n e = some (j, s) → (e = .var j ∧ (G.md j).sh = some s) ∨ ∃ b, e = .ix (.var j) b ∧ (∀ τ, GE G Φ Ψ τ b .fr) ∧ muE G.io b = [] ∧ (G.md j).sh = some (.ls s)
  | 0, _, _, _, h => by simp [oP] at h
  | n + 1, .var k, j, s, h => by
    simp only [oP] at h
    split at h
    · left
      cases hq : (G.md k).sh with
      | none => rw [hq] at h; cases h
      | some t => rw [hq] at h; cases h; exact ⟨rfl, hq⟩
    · cases h
  | n + 1, .ix (.var k) b, j, s, h => by
    simp only [oP] at h
    split at h
    · rename_i hc
      simp only [Bool.and_eq_true] at hc
      cases hq : (G.md k).sh with
      | none => rw [hq] at h; cases h
      | some t =>
        rw [hq] at h
        cases t <;> try (cases h; done)
        cases h
        exact .inr ⟨b, rfl, oE_ok F n b .fr hc.1.2, isEmpty_nil hc.2, hq⟩
    · cases h
theorem oR_ok (F : FOk G Φ Ψ) : ∀ (n : Nat) (e : E) (rs : List Nat), oR G n e = some rs → ∀ τ, GR G Φ Ψ τ e rs
  | 0, _, _, h => by simp [oR] at h
  | n + 1, e, rs, h => fun τ => by
    have gen : (if oE G n e .fr then some [] else none) = some rs → GR G Φ Ψ τ e rs := fun h => by
      by_cases c : oE G n e .fr = true
      · rw [if_pos c] at h; cases h; exact gr_of (oE_ok F n e .fr c τ)
      · rw [if_neg c] at h; cases h
    have ixc : ∀ a b, e = .ix a b → GR G Φ Ψ τ e rs := fun a b he => by
      subst he
      cases a with
      | var j =>
        simp only [oR] at h
        by_cases c : (oE G n b .fr && (muE G.io b).isEmpty) = true
        · rw [if_pos c] at h
          simp only [Bool.and_eq_true] at c
          have hb := oE_ok F n b .fr c.1 τ
          have hm := isEmpty_nil c.2
          cases hs : (G.md j).sh with
          | none => rw [hs] at h; cases h
          | some t =>
            rw [hs] at h
            cases t with
            | fr => cases h; exact gr_ix hs hb hm (.inl ⟨rfl, rfl⟩)
            | el => cases h; exact gr_ix hs hb hm (.inl ⟨rfl, rfl⟩)
            | ls t =>
              cases t with
              | fr => cases h; exact gr_ix hs hb hm (.inl ⟨rfl, rfl⟩)
              | el => cases h
              | ls t =>
                cases t with
                | fr => cases h; exact gr_ix hs hb hm (.inr ⟨rfl, rfl⟩)
                | _ => cases h
        · rw [if_neg c] at h; exact gen h
      | _ => exact gen (by simpa only [oR] using h)
    cases e with
    | var j =>
      simp only [oR] at h
      cases hs : (G.md j).sh with
      | none => rw [hs] at h; cases h
      | some t =>
        rw [hs] at h
        simp only at h
        by_cases c : shR t = true
        · rw [if_pos c] at h
          cases h
          exact gr_var hs c
        · rw [if_neg c] at h; cases h
    | ix a b => exact ixc a b rfl
    | _ => exact gen (by simpa only [oR] using h)
theorem oEs_ok (F : FOk G Φ Ψ) : ∀ (n : Nat) (e : Es) (s : Sh), oEs G n e s = true → ∀ τ, GEs G Φ Ψ τ e s
  | 0, _, _, h => by simp [oEs] at h
  | n + 1, .nil, s, h => fun τ => ges_nil
  | n + 1, .cons e es, s, h => fun τ => by
    simp only [oEs, Bool.and_eq_true] at h
    exact ges_cons (oE_ok F n e s h.1 τ) (oEs_ok F n es s h.2 τ)
theorem oO_ok (F : FOk G Φ Ψ) : ∀ (n : Nat) (e : O), oO G n e = true → ∀ τ, GO G Φ Ψ τ e
  | 0, _, h => by simp [oO] at h
  | n + 1, .none, h => fun τ => go_none
  | n + 1, .some e, h => fun τ => go_some (oE_ok F n e .fr (by simpa only [oO] using h) τ)
theorem oT_ok (F : FOk G Φ Ψ) : ∀ (n : Nat) (e : T), oT G n e = true → ∀ τ, GT G Φ Ψ τ e
  | 0, _, h => by simp [oT] at h
  | n + 1, .tru e, h => fun τ => by
    simp only [oT] at h
    obtain ⟨rs, h1⟩ := isSome_ex h
    exact gt_tru (oR_ok F n e rs h1 τ)
  | n + 1, .and a b, h => fun τ => by
    simp only [oT, Bool.and_eq_true] at h
    exact gt_and (oT_ok F n a h.1 τ) (oT_ok F n b h.2 τ)
  | n + 1, .or a b, h => fun τ => by
    simp only [oT, Bool.and_eq_true] at h
    exact gt_or (oT_ok F n a h.1 τ) (oT_ok F n b h.2 τ)
  | n + 1, .not a, h => fun τ => by
    simp only [oT] at h
    exact gt_not (oT_ok F n a h τ)
  | n + 1, .yes, h => fun τ => gt_yes
theorem oL_ok (F : FOk G Φ Ψ) : ∀ (n : Nat) (e : L) (s : Sh), oL G n e s = true → ∀ τ, GL G Φ Ψ τ e s
  | 0, _, _, h => by simp [oL] at h
  | n + 1, .val e, s, h => fun τ => by
    simp only [oL, Bool.and_eq_true, beq_iff_eq] at h
    obtain ⟨rfl, h⟩ := h
    obtain ⟨rs, h1⟩ := isSome_ex h
    exact gl_val (oR_ok F n e rs h1 τ)
  | n + 1, .vlst e, s, h => fun τ => by
    simp only [oL, Bool.and_eq_true, beq_iff_eq] at h
    obtain ⟨rfl, h⟩ := h
    obtain ⟨rs, h1⟩ := isSome_ex h
    exact gl_vlst (oR_ok F n e rs h1 τ)
  | n + 1, .lst es, s, h => fun τ => by
    simp only [oL, Bool.and_eq_true] at h
    exact gl_lst (oEs_ok F n es s h.1 τ)
  | n + 1, .lc elt ws tg it c, s, h => fun τ => by
    simp only [oL, Bool.and_eq_true] at h
    obtain ⟨⟨⟨⟨⟨h0, h1⟩, h2⟩, h3⟩, h4⟩, h5⟩ := h
    cases hi : oI G n it with
    | none => rw [hi] at h5; cases h5
    | some rs =>
      rw [hi] at h5
      exact gl_lc F (oI_ok F n it rs hi τ) (oE_ok F n elt s h1) (oT_ok F n c h2) (fun i hi => by simpa using List.all_eq_true.mp h3 i hi) (fun i hi => by simpa using List.all_eq_true.mp h4 i hi) h5
theorem oI_ok (F : FOk G Φ Ψ) : ∀ (n : Nat) (e : I) (rs : List Nat), oI G n e = some rs → ∀ τ, GI G Φ Ψ τ e rs
  | 0, _, _, h => by simp [oI] at h
  | n + 1, .val e, rs, h => fun τ => gi_val (oR_ok F n e rs (by simpa only [oI] using h) τ)
  | n + 1, .rng1 e, rs, h => fun τ => by
    simp only [oI] at h
    split at h
    · cases h; exact gi_rng1 (oE_ok F n e .fr (by assumption) τ)
    · cases h
  | n + 1, .rng2 a b, rs, h => fun τ => by
    simp only [oI] at h
    split at h
    · rename_i c
      simp only [Bool.and_eq_true] at c
      cases h; exact gi_rng2 (oE_ok F n a .fr c.1 τ) (oE_ok F n b .fr c.2 τ)
    · cases h
  | n + 1, .rng3 a b c, rs, h => fun τ => by
    simp only [oI] at h
    split at h
    · rename_i k
      simp only [Bool.and_eq_true] at k
      cases h; exact gi_rng3 (oE_ok F n a .fr k.1.1 τ) (oE_ok F n b .fr k.1.2 τ) (oE_ok F n c .fr k.2 τ)
    · cases h
  | n + 1, .lis l, rs, h => fun τ => by
    simp only [oI] at h
    split at h
    · cases h; exact gi_lis (oL_ok F n l .fr (by assumption) τ)
    · cases h
  | n + 1, .enu e, rs, h => fun τ => gi_enu (oR_ok F n e rs (by simpa only [oI] using h) τ)
  | n + 1, .zip a b, rs, h => fun τ => by
    simp only [oI] at h
    cases ha : oR G n a with
    | none => rw [ha] at h; cases h
    | some us =>
      cases hb : oR G n b with
      | none => rw [ha, hb] at h; cases h
      | some vs =>
        rw [ha, hb] at h
        simp only at h
        split at h
        · cases h; exact gi_zip (oR_ok F n a us ha τ) (oR_ok F n b vs hb τ) (by assumption)
        · cases h
theorem oA_ok (F : FOk G Φ Ψ) : ∀ (n : Nat) (ps : List Md) (es : Es) (ms : List Nat), oA G n ps es ms = true → ∀ τ (io mm : List Nat), ms = io ++ mm → (∀ j ∈ ioS (ps.map Md.isI) es, j ∈ io) → (∀ j ∈ muEs G.io es, j ∈ mm) → GA G Φ Ψ τ io mm ps es
  | 0, _, _, _, h => by simp [oA] at h
  | n + 1, [], .nil, ms, h => fun τ io mm _ _ _ => ga_nil
  | n + 1, [], .cons _ _, ms, h => by simp [oA] at h
  | n + 1, m :: ps, .nil, ms, h => by simp [oA] at h
  | n + 1, m :: ps, .cons e es, ms, h => fun τ io mm hms hio hmm => by
    simp only [oA, Bool.and_eq_true] at h
    obtain ⟨h1, h2⟩ := h
    have T := oA_ok F n ps es ms h2 τ io mm hms (fun j hj => hio j (by simp only [List.map_cons, ioS]; exact List.mem_append_right _ hj)) (fun j hj => hmm j (by simp only [muEs]; exact List.mem_append_right _ hj))
    refine ga_cons ?_ T (fun j hj => hmm j (by simp only [muEs]; exact List.mem_append_right _ hj))
    cases m with
    | F => exact ga_F (oE_ok F n e .fr h1 τ)
    | B =>
      simp only at h1
      cases hr : oR G n e with
      | none => rw [hr] at h1; cases h1
      | some rs => rw [hr] at h1; exact ga_B (oR_ok F n e rs hr τ) (by rw [← hms]; exact h1)
    | I s =>
      simp only at h1
      cases e <;> try (cases h1; done)
      simp only [Bool.or_eq_true, beq_iff_eq] at h1
      exact ga_I h1 (hio _ (by simp [ioS, Md.isI, rootE]))
    | K =>
      simp only at h1
      cases e <;> try (cases h1; done)
      simp only [beq_iff_eq] at h1
      exact ga_K h1
    | O s => cases h1
end
end
end PyL

set_option maxHeartbeats 1000000
/-! V: the check of statements; what a statement has to show. -/
namespace PyL
open PySem
section
variable (io : Nat → List Bool)
mutual
def muS : S → List Nat
  | .nop => []
  | .ex e => muE io e
  | .as t e => tgSlots t ++ muE io e
  | .par is es => is ++ muEs io es
  | .asub a i e => rootE a ++ (muE io a ++ (muE io i ++ muE io e))
  | .aug _ i e => i :: muE io e
  | .rt e => muE io e
  | .rtN => []
  | .ite c a b => muT io c ++ (muSs a ++ muSs b)
  | .wh c b => muT io c ++ muSs b
  | .fo t it b => tgSlots t ++ (muI io it ++ muSs b)
  | .br => []
  | .co => []
  | .never => []
def muSs : Ss → List Nat
  | .nil => []
  | .cons s ss => muS s ++ muSs ss
end
end
/-- at a return: what names held alone goes free -/
def mdR (md : Nat → Md) : Nat → Md := fun i => match md i with
  | .O _ => .F
  | m => m
def plainE : E → Bool
  | .var _ => true
  | _ => false
def plainEs : Es → Bool
  | .nil => true
  | .cons e es => (match e with
    | .var _ => true
    | .con _ => true
    | _ => false) && plainEs es
/-- nothing within that may raise -/
def quiet : E → Bool
  | .var _ => true
  | .tup es => plainEs es
  | _ => false
def oPar (G : CG) (n : Nat) : List Nat → Es → Bool
  | [], .nil => true
  | i :: is, .cons e es => (match G.md i with
    | .F => oE G n e .fr
    | .O s => oE G n e s && s != .el
    | _ => false) && oPar G n is es
  | _, _ => false
section
variable (G : CG) (ret : Md)
mutual
def oS (n : Nat) : S → Bool
  | .nop => true
  | .ex e => oE G n e .fr
  | .as (.name i) e => (match G.md i with
    | .F => oE G n e .fr
    | .O s => oE G n e s && s != .el
    | _ => false)
  | .as (.tup is) e => is.all (fun i => G.md i == .F) && oE G n e .fr
  | .par is es => decide is.Nodup && oPar G n is es
  | .asub a i e => (match oP G n a with
    | some (j, .ls t) => (G.md j).own && t != .el && oE G n e t && oE G n i .fr && (muE G.io i).isEmpty
    | _ => false)
  | .aug _ i e => G.md i == .F && oE G n e .fr
  | .rt e => (match ret with
    | .F => oE G n e .fr || (quiet e && oE ⟨mdR G.md, G.sg⟩ n e .fr)
    | .O s => s != .el && s != .fr && (oE G n e s || (match e with
      | .var j => G.md j == .O s
      | _ => false))
    | _ => false)
  | .rtN => ret == .F
  | .ite c a b => oT G n c && oSs n a && oSs n b
  | .wh c b => oT G n c && oSs n b
  | .fo t it b => (tgSlots t).all (fun i => G.md i == .F) && oSs n b && (match oI G n it with
    | some rs => offB rs (muSs G.io b) && offB rs (tgSlots t)
    | none => false)
  | .br => true
  | .co => true
  | .never => true
def oSs (n : Nat) : Ss → Bool
  | .nil => true
  | .cons s ss => oS n s && oSs n ss
end
end
/-- what is handed in keeps its place -/
def Keep (md : Nat → Md) (τ τ' : En) : Prop := τ'.length = τ.length ∧ ∀ i, md i ≠ .F → (∀ s, md i ≠ .O s) → τ'[i]? = τ[i]?
def maskS (md : Nat → Md) (σ : VE) : VE := σ.mapIdx fun i o => match md i with
  | .F => none
  | .O _ => none
  | _ => o
def ownP (md : Nat → Md) : Nat → Prop := fun j => (md j).own = true
def Md.rs (m : Md) : Sh := match m with
  | .O t => t
  | _ => .fr
def GdS (md : Nat → Md) (ret : Md) (l : List Nat) (M : Sto) (Z : Zs) (ad : Ad) (τ : En) (o : SO) (r : SW) : Prop :=
  match r with
  | .nx σ' => ∃ τ' M' Z' ad', o = .nx τ' M' ∧ EnvR md M' Z' ad' σ' τ' ∧ Step (Mu md l) M Z ad M' Z' ad' ∧ Keep md τ τ'
  | .bk σ' => ∃ τ' M' Z' ad', o = .bk τ' M' ∧ EnvR md M' Z' ad' σ' τ' ∧ Step (Mu md l) M Z ad M' Z' ad' ∧ Keep md τ τ'
  | .ct σ' => ∃ τ' M' Z' ad', o = .ct τ' M' ∧ EnvR md M' Z' ad' σ' τ' ∧ Step (Mu md l) M Z ad M' Z' ad' ∧ Keep md τ τ'
  | .exc x σ' => ∃ y τ' M' Z' ad', o = .exc y τ' M' ∧ EnvR md M' Z' ad' σ' τ' ∧ Step (Mu md l) M Z ad M' Z' ad' ∧ Keep md τ τ' ∧ XR M' Z' y x
  | .rt w σ' => ∃ d τ' M' Z' ad', o = .rt d M' ∧ EnvR md M' Z' ad' (maskS md σ') τ' ∧ Step (ownP md) M Z ad M' Z' ad' ∧ Keep md τ τ' ∧ ∃ as, RV M' Z' ret.rs as d w ∧ as.Nodup ∧ ∀ n ∈ as, ¬ Z' n ∧ n < M'.length ∧ (∀ i, n ∉ ad' i) ∧ (M.length ≤ n ∨ ∃ j, ownP md j ∧ n ∈ ad j)
  | .bad => True
section
variable {md : Nat → Md} {ret : Md} {l l1 l2 : List Nat} {τ τ1 : En} {σ : VE} {M M1 : Sto} {Z Z1 : Zs} {ad ad1 : Ad}
theorem Keep.refl : Keep md τ τ := ⟨rfl, fun _ _ _ => rfl⟩
theorem Keep.trans {τ2 : En} (a : Keep md τ τ1) (b : Keep md τ1 τ2) : Keep md τ τ2 := ⟨b.1.trans a.1, fun i h1 h2 => (b.2 i h1 h2).trans (a.2 i h1 h2)⟩
theorem Step.own (S : Step (Mu md l) M Z ad M1 Z1 ad1) : Step (ownP md) M Z ad M1 Z1 ad1 := S.mono fun _ h => h.2
/-- from a later state to an earlier one -/
theorem GdS.since {o : SO} {r : SW} (A : GdS md ret l1 M1 Z1 ad1 τ1 o r) (S : Step (Mu md l) M Z ad M1 Z1 ad1) (K : Keep md τ τ1) (hl : ∀ j ∈ l1, j ∈ l) : GdS md ret l M Z ad τ o r := by
  cases r with
  | bad => trivial
  | nx σ' =>
    obtain ⟨τ', M', Z', ad', h1, h2, h3, h4⟩ := A
    exact ⟨τ', M', Z', ad', h1, h2, S.trans (h3.mono (Mu.mono hl)), K.trans h4⟩
  | bk σ' =>
    obtain ⟨τ', M', Z', ad', h1, h2, h3, h4⟩ := A
    exact ⟨τ', M', Z', ad', h1, h2, S.trans (h3.mono (Mu.mono hl)), K.trans h4⟩
  | ct σ' =>
    obtain ⟨τ', M', Z', ad', h1, h2, h3, h4⟩ := A
    exact ⟨τ', M', Z', ad', h1, h2, S.trans (h3.mono (Mu.mono hl)), K.trans h4⟩
  | exc x σ' =>
    obtain ⟨y, τ', M', Z', ad', h1, h2, h3, h4, h5⟩ := A
    exact ⟨y, τ', M', Z', ad', h1, h2, S.trans (h3.mono (Mu.mono hl)), K.trans h4, h5⟩
  | rt w σ' =>
    obtain ⟨d, τ', M', Z', ad', h1, h2, h3, h4, as, h5, h6, h7⟩ := A
    refine ⟨d, τ', M', Z', ad', h1, h2, S.own.trans h3, K.trans h4, as, h5, h6, fun n hn => ?_⟩
    obtain ⟨k1, k2, k3, k4⟩ := h7 n hn
    refine ⟨k1, k2, k3, ?_⟩
    rcases k4 with z | ⟨j, z1, z2⟩
    · exact .inl (Nat.le_trans S.len z)
    · exact S.own.an j z1 n z2
theorem GdS.mono {o : SO} {r : SW} (A : GdS md ret l1 M Z ad τ o r) (hl : ∀ j ∈ l1, j ∈ l) : GdS md ret l M Z ad τ o r := A.since .refl .refl hl
theorem GdS.nx (E : EnvR md M Z ad σ τ) : GdS md ret l M Z ad τ (.nx τ M) (.nx σ) := ⟨τ, M, Z, ad, rfl, E, .refl, .refl⟩
/-- an expression, then what is done with it -/
theorem GdS.ofR {α β : Type} {o : Out α} {r : R β} {k : α → Sto → SO} {k' : β → VE → SW} {Q : QT α β} (A : Gd md l1 τ M Z ad o r Q) (hl : ∀ j ∈ l1, j ∈ l)
    (B : ∀ a b M' Z' ad' σ', EnvR md M' Z' ad' σ' τ → Step (Mu md l1) M Z ad M' Z' ad' → Q M' Z' ad' a b → GdS md ret l M' Z' ad' τ (k a M') (k' b σ')) : GdS md ret l M Z ad τ (SO.ofOut o τ k) (SW.ofR r k') := by
  cases r with
  | bad => rw [SW.ofR_bad]; trivial
  | exc x σ' =>
    obtain ⟨y, M', Z', ad', h1, h2, h3, h4⟩ := A
    rw [h1, SW.ofR_exc, SO.ofOut_exc]
    exact ⟨y, τ, M', Z', ad', rfl, h2, h3.mono (Mu.mono hl), .refl, h4⟩
  | ok b σ' =>
    obtain ⟨a, M', Z', ad', h1, h2, h3, h4⟩ := A
    rw [h1, SW.ofR_ok, SO.ofOut_ok]
    exact (B a b M' Z' ad' σ' h2 h3 h4).since (h3.mono (Mu.mono hl)) .refl fun _ h => h
/-- the same, seen from the start -/
theorem GdS.ofR0 {α β : Type} {o : Out α} {r : R β} {k : α → Sto → SO} {k' : β → VE → SW} {Q : QT α β} (A : Gd md l1 τ M Z ad o r Q) (hl : ∀ j ∈ l1, j ∈ l)
    (B : ∀ a b M' Z' ad' σ', EnvR md M' Z' ad' σ' τ → Step (Mu md l1) M Z ad M' Z' ad' → Q M' Z' ad' a b → GdS md ret l M Z ad τ (k a M') (k' b σ')) : GdS md ret l M Z ad τ (SO.ofOut o τ k) (SW.ofR r k') := by
  cases r with
  | bad => rw [SW.ofR_bad]; trivial
  | exc x σ' =>
    obtain ⟨y, M', Z', ad', h1, h2, h3, h4⟩ := A
    rw [h1, SW.ofR_exc, SO.ofOut_exc]
    exact ⟨y, τ, M', Z', ad', rfl, h2, h3.mono (Mu.mono hl), .refl, h4⟩
  | ok b σ' =>
    obtain ⟨a, M', Z', ad', h1, h2, h3, h4⟩ := A
    rw [h1, SW.ofR_ok, SO.ofOut_ok]
    exact B a b M' Z' ad' σ' h2 h3 h4
theorem GdS.opt {β : Type} {o : SO} {v : Option β} {f : β → VE → SW} (h : ∀ b, v = some b → GdS md ret l M Z ad τ o (f b σ)) : GdS md ret l M Z ad τ o (SW.ofR (R.opt v σ) f) := by
  cases v with
  | none => rw [R.opt_none, SW.ofR_bad]; trivial
  | some b => rw [R.opt_some, SW.ofR_ok]; exact h b rfl
theorem GdS.andThen {o : SO} {r : SW} {k : En → Sto → SO} {k' : VE → SW} (A : GdS md ret l1 M Z ad τ o r) (hl : ∀ j ∈ l1, j ∈ l)
    (B : ∀ τ' M' Z' ad' σ', EnvR md M' Z' ad' σ' τ' → GdS md ret l M' Z' ad' τ' (k τ' M') (k' σ')) : GdS md ret l M Z ad τ (o.andThen k) (r.andThen k') := by
  cases r with
  | bad => trivial
  | nx σ' =>
    obtain ⟨τ', M', Z', ad', rfl, h2, h3, h4⟩ := A
    rw [SW.andThen_nx, SO.andThen_nx]
    exact (B τ' M' Z' ad' σ' h2).since (h3.mono (Mu.mono hl)) h4 fun _ h => h
  | bk σ' =>
    obtain ⟨τ', M', Z', ad', rfl, h2, h3, h4⟩ := A
    exact ⟨τ', M', Z', ad', rfl, h2, h3.mono (Mu.mono hl), h4⟩
  | ct σ' =>
    obtain ⟨τ', M', Z', ad', rfl, h2, h3, h4⟩ := A
    exact ⟨τ', M', Z', ad', rfl, h2, h3.mono (Mu.mono hl), h4⟩
  | exc x σ' =>
    obtain ⟨y, τ', M', Z', ad', rfl, h2, h3, h4, h5⟩ := A
    exact ⟨y, τ', M', Z', ad', rfl, h2, h3.mono (Mu.mono hl), h4, h5⟩
  | rt w σ' =>
    obtain ⟨d, τ', M', Z', ad', rfl, h⟩ := A
    exact ⟨d, τ', M', Z', ad', rfl, h⟩
end
section
variable {G : CG} {Φ : Fns} {Ψ : VFns} {ret : Md}
def SSt (G : CG) (Φ : Fns) (Ψ : VFns) (ret : Md) (s : S) : Prop := ∀ (M : Sto) (Z : Zs) (ad : Ad) (σ : VE) (τ : En), EnvR G.md M Z ad σ τ → GdS G.md ret (muS G.io s) M Z ad τ (denS Φ s τ M) (vS Ψ s σ)
def SSs (G : CG) (Φ : Fns) (Ψ : VFns) (ret : Md) (s : Ss) : Prop := ∀ (M : Sto) (Z : Zs) (ad : Ad) (σ : VE) (τ : En), EnvR G.md M Z ad σ τ → GdS G.md ret (muSs G.io s) M Z ad τ (denSs Φ s τ M) (vSs Ψ s σ)
theorem ss_nil : SSs G Φ Ψ ret .nil := fun M Z ad σ τ E => by rw [dSs_nil, wSs_nil]; exact .nx E
theorem ss_cons {s : S} {ss : Ss} (h : SSt G Φ Ψ ret s) (hs : SSs G Φ Ψ ret ss) : SSs G Φ Ψ ret (.cons s ss) := fun M Z ad σ τ E => by
  rw [dSs_cons, wSs_cons]
  exact (h M Z ad σ τ E).andThen (by simp +contextual [muSs]) fun τ' M' Z' ad' σ' E' => (hs M' Z' ad' σ' τ' E').mono (by simp +contextual [muSs])
theorem st_nop : SSt G Φ Ψ ret .nop := fun M Z ad σ τ E => by rw [dS_nop, wS_nop]; exact .nx E
theorem st_br : SSt G Φ Ψ ret .br := fun M Z ad σ τ E => by rw [dS_br, wS_br]; exact ⟨τ, M, Z, ad, rfl, E, .refl, .refl⟩
theorem st_co : SSt G Φ Ψ ret .co := fun M Z ad σ τ E => by rw [dS_co, wS_co]; exact ⟨τ, M, Z, ad, rfl, E, .refl, .refl⟩
theorem st_never : SSt G Φ Ψ ret .never := fun M Z ad σ τ E => by rw [wS_never]; trivial
theorem st_ex {e : E} {s : Sh} (h : ∀ τ, GE G Φ Ψ τ e s) : SSt G Φ Ψ ret (.ex e) := fun M Z ad σ τ E => by
  rw [dS_ex, wS_ex]
  exact GdS.ofR (h τ M Z ad σ E) (by simp [muS]) fun a b M' Z' ad' σ' E' S q => .nx E'
theorem st_ite {c : T} {a b : Ss} (hc : ∀ τ, GT G Φ Ψ τ c) (ha : SSs G Φ Ψ ret a) (hb : SSs G Φ Ψ ret b) : SSt G Φ Ψ ret (.ite c a b) := fun M Z ad σ τ E => by
  rw [dS_ite, wS_ite]
  refine GdS.ofR (hc τ M Z ad σ E) (by simp +contextual [muS]) fun k k' M' Z' ad' σ' E' S q => ?_
  cases q
  by_cases c : k = true
  · rw [if_pos c, if_pos c]; exact (ha _ _ _ _ _ E').mono (by simp +contextual [muS])
  · rw [if_neg c, if_neg c]; exact (hb _ _ _ _ _ E').mono (by simp +contextual [muS])
theorem while_ok {l : List Nat} {c : En → Sto → Out Bool} {c' : VE → R Bool} {b : En → Sto → SO} {b' : VE → SW} (hc : ∀ M Z ad σ τ, EnvR G.md M Z ad σ τ → Gd G.md l τ M Z ad (c τ M) (c' σ) EqQ) (hb : ∀ M Z ad σ τ, EnvR G.md M Z ad σ τ → GdS G.md ret l M Z ad τ (b τ M) (b' σ)) :
    ∀ (n : Nat) (M : Sto) (Z : Zs) (ad : Ad) (σ : VE) (τ : En), EnvR G.md M Z ad σ τ → GdS G.md ret l M Z ad τ (whileGo c b n τ M) (whileV c' b' n σ)
  | 0, M, Z, ad, σ, τ, E => trivial
  | n + 1, M, Z, ad, σ, τ, E => by
    rw [whileGo, whileV]
    have C := hc M Z ad σ τ E
    generalize c' σ = r at C
    generalize c τ M = o at C
    cases r with
    | bad => trivial
    | exc x σ1 =>
      obtain ⟨y, M1, Z1, ad1, rfl, h2, h3, h4⟩ := C
      exact ⟨y, τ, M1, Z1, ad1, rfl, h2, h3, .refl, h4⟩
    | ok k σ1 =>
      obtain ⟨k', M1, Z1, ad1, rfl, E1, S1, q⟩ := C
      cases q
      cases k with
      | false => exact ⟨τ, M1, Z1, ad1, rfl, E1, S1, .refl⟩
      | true =>
        simp only
        have B := hb M1 Z1 ad1 σ1 τ E1
        generalize b' σ1 = r at B
        generalize b τ M1 = o at B
        cases r with
        | bad => trivial
        | nx σ2 =>
          obtain ⟨τ2, M2, Z2, ad2, rfl, E2, S2, K2⟩ := B
          exact (while_ok hc hb n M2 Z2 ad2 σ2 τ2 E2).since (S1.trans S2) K2 fun _ h => h
        | ct σ2 =>
          obtain ⟨τ2, M2, Z2, ad2, rfl, E2, S2, K2⟩ := B
          exact (while_ok hc hb n M2 Z2 ad2 σ2 τ2 E2).since (S1.trans S2) K2 fun _ h => h
        | bk σ2 =>
          obtain ⟨τ2, M2, Z2, ad2, rfl, E2, S2, K2⟩ := B
          exact ⟨τ2, M2, Z2, ad2, rfl, E2, S1.trans S2, K2⟩
        | exc x σ2 =>
          have B' := GdS.since B S1 .refl fun _ h => h
          obtain ⟨y, τ2, M2, Z2, ad2, rfl, h⟩ := B'
          exact ⟨y, τ2, M2, Z2, ad2, rfl, h⟩
        | rt w σ2 =>
          have B' := GdS.since B S1 .refl fun _ h => h
          obtain ⟨y, τ2, M2, Z2, ad2, rfl, h⟩ := B'
          exact ⟨y, τ2, M2, Z2, ad2, rfl, h⟩
theorem st_wh (F : FOk G Φ Ψ) {c : T} {b : Ss} (hc : ∀ τ, GT G Φ Ψ τ c) (hb : SSs G Φ Ψ ret b) : SSt G Φ Ψ ret (.wh c b) := fun M Z ad σ τ E => by
  rw [dS_wh, wS_wh, F.fuel]
  exact while_ok (fun M Z ad σ τ E => (hc τ M Z ad σ E).mono (by simp +contextual [muS]) fun _ _ _ _ _ _ _ _ q => q) (fun M Z ad σ τ E => (hb M Z ad σ τ E).mono (by simp +contextual [muS])) _ M Z ad σ τ E
theorem keep_F {md : Nat → Md} {is : List Nat} {τ τ' : En} (hl : τ'.length = τ.length) (h : ∀ i, i ∉ is → τ'[i]? = τ[i]?) (hm : ∀ i ∈ is, md i = .F ∨ ∃ s, md i = .O s) : Keep md τ τ' := ⟨hl, fun i h1 h2 => by
  by_cases c : i ∈ is
  · rcases hm i c with z | ⟨s, z⟩
    · exact absurd z h1
    · exact absurd z (h2 s)
  · exact h i c⟩
theorem for_ok {l : List Nat} {tg : Tg} {J : It} {xs : List W} {rs : List Nat} {b : En → Sto → SO} {b' : VE → SW} (hm : ∀ i ∈ tgSlots tg, G.md i = .F) (ho : offB rs l = true) (hb : ∀ M Z ad σ τ, EnvR G.md M Z ad σ τ → GdS G.md ret l M Z ad τ (b τ M) (b' σ)) :
    ∀ (rest : List W) (n i : Nat) (M : Sto) (Z : Zs) (ad : Ad) (σ : VE) (τ : En), xs.drop i = rest → rest.length < n → EnvR G.md M Z ad σ τ → ItW M Z ad rs J xs → GdS G.md ret l M Z ad τ (forGo J tg b n i τ M) (forV tg b' rest σ)
  | [], n, i, M, Z, ad, σ, τ, hd, hn, E, hj => by
    obtain ⟨m, rfl⟩ : ∃ m, n = m + 1 := ⟨n - 1, by simp at hn; omega⟩
    rw [forGo, forV]
    have : xs[i]? = none := by
      rw [List.getElem?_eq_none_iff]; have := congrArg List.length hd; simp at this; omega
    rcases hj.next i with ⟨h1, h2⟩ | ⟨w, d, h1, _⟩
    · rw [h2]; exact .nx E
    · rw [this] at h1; cases h1
  | w :: rest, n, i, M, Z, ad, σ, τ, hd, hn, E, hj => by
    obtain ⟨m, rfl⟩ : ∃ m, n = m + 1 := ⟨n - 1, by simp at hn; omega⟩
    rw [forGo, forV]
    have hw : xs[i]? = some w := by
      have := congrArg (fun l => l[0]?) hd
      simpa using this
    have hd' : xs.drop (i + 1) = rest := by
      rw [← List.drop_drop, hd]; rfl
    rcases hj.next i with ⟨h1, _⟩ | ⟨w', d, h1, h2, h3⟩
    · rw [hw] at h1; cases h1
    · rw [hw] at h1
      cases h1
      rw [h2]
      simp only
      cases ht : wTg tg w σ with
      | none => trivial
      | some σ1 =>
        obtain ⟨τ1, g1, E1, g3⟩ := setTg_okW h3 ht E hm
        have K1 : Keep G.md τ τ1 := keep_F (setTgLen g1) g3 fun i hi => .inl (hm i hi)
        rw [g1]
        simp only
        have B := hb M Z ad σ1 τ1 E1
        generalize b' σ1 = r at B
        generalize b τ1 M = o at B
        cases r with
        | bad => trivial
        | nx σ2 =>
          obtain ⟨τ2, M2, Z2, ad2, rfl, E2, S2, K2⟩ := B
          exact (for_ok hm ho hb rest m (i + 1) M2 Z2 ad2 σ2 τ2 hd' (by simp at hn; omega) E2 (hj.go E S2 ho)).since S2 (K1.trans K2) fun _ h => h
        | ct σ2 =>
          obtain ⟨τ2, M2, Z2, ad2, rfl, E2, S2, K2⟩ := B
          exact (for_ok hm ho hb rest m (i + 1) M2 Z2 ad2 σ2 τ2 hd' (by simp at hn; omega) E2 (hj.go E S2 ho)).since S2 (K1.trans K2) fun _ h => h
        | bk σ2 =>
          obtain ⟨τ2, M2, Z2, ad2, rfl, E2, S2, K2⟩ := B
          exact ⟨τ2, M2, Z2, ad2, rfl, E2, S2, K1.trans K2⟩
        | exc x σ2 =>
          have B' := GdS.since B .refl K1 fun _ h => h
          obtain ⟨y, τ2, M2, Z2, ad2, rfl, h⟩ := B'
          exact ⟨y, τ2, M2, Z2, ad2, rfl, h⟩
        | rt w σ2 =>
          have B' := GdS.since B .refl K1 fun _ h => h
          obtain ⟨y, τ2, M2, Z2, ad2, rfl, h⟩ := B'
          exact ⟨y, τ2, M2, Z2, ad2, rfl, h⟩
theorem st_fo (F : FOk G Φ Ψ) {t : Tg} {it : I} {b : Ss} {rs : List Nat} (hm : ∀ i ∈ tgSlots t, G.md i = .F) (hi : ∀ τ, GI G Φ Ψ τ it rs) (ho : offB rs (muSs G.io b) = true) (hb : SSs G Φ Ψ ret b) : SSt G Φ Ψ ret (.fo t it b) := fun M Z ad σ τ E => by
  rw [dS_fo, wS_fo, F.fuel]
  refine GdS.ofR (hi τ M Z ad σ E) (by simp +contextual [muS]) fun J xs M1 Z1 ad1 σ1 E1 S1 q => ?_
  by_cases c : xs.length < Φ.fuel
  · rw [if_pos c]
    exact (for_ok hm ho (fun M Z ad σ τ E => hb M Z ad σ τ E) xs Φ.fuel 0 M1 Z1 ad1 σ1 τ rfl c E1 q).mono (by simp +contextual [muS])
  · rw [if_neg c]; trivial
end
end PyL

set_option maxHeartbeats 1000000
/-! V: names set, places set, returns. -/
namespace PyL
open PySem
section
variable {md : Nat → Md} {ret : Md} {l l1 l2 : List Nat} {τ τ1 : En} {σ : VE} {M M0 M1 : Sto} {Z Z0 Z1 : Zs} {ad ad0 ad1 : Ad}
/-- a name takes what is fresh -/
theorem EnvR.setO {i : Nat} {s : Sh} {as : List Nat} {d : D} {w : W} (E : EnvR md M Z ad σ τ) (hi : i < σ.length) (ho : (md i).own = true) (hs : (md i).sh = some s) (r : RV M Z s as d w) (nd : as.Nodup) (h : ∀ n ∈ as, ¬ Z n ∧ n < M.length ∧ ∀ k, n ∉ ad k) : EnvR md M Z (upA ad i as) (σ.set i (some w)) (τ.set i (some d)) := by
  refine ⟨by rw [List.length_set, List.length_set]; exact E.len, fun k v hv => ?_, fun k hk => ?_, fun k hk => ?_, fun k j hk hne x hx => ?_, fun k hk x hx => ?_, fun k x hx => ?_, E.zl, fun k hk => ?_⟩
  · by_cases c : k = i
    · subst c
      rw [List.getElem?_set_self hi] at hv
      cases hv
      exact ⟨d, List.getElem?_set_self (by rw [← E.len]; exact hi), by rw [upA_same]; exact (RM.of_sh hs).mpr r⟩
    · rw [List.getElem?_set_ne (Ne.symm c)] at hv
      obtain ⟨d', h1, h2⟩ := E.sl k v hv
      rw [upA_ne c]
      exact ⟨d', by rw [List.getElem?_set_ne (Ne.symm c)]; exact h1, h2⟩
  · by_cases c : k = i
    · subst c; exact absurd (List.getElem?_set_self hi) (hk w)
    · rw [upA_ne c]; exact E.no k fun w => by have := hk w; rw [List.getElem?_set_ne (Ne.symm c)] at this; exact this
  · by_cases c : k = i
    · subst c; rw [upA_same]; exact nd
    · rw [upA_ne c]; exact E.nd k hk
  · by_cases c : k = i
    · subst c
      rw [upA_same] at hx
      rw [upA_ne (Ne.symm hne)]
      exact (h x hx).2.2 j
    · rw [upA_ne c] at hx
      by_cases c2 : j = i
      · subst c2; rw [upA_same]; exact fun hm => (h x hm).2.2 k hx
      · rw [upA_ne c2]; exact E.dis k j hk hne x hx
  · by_cases c : k = i
    · subst c; rw [upA_same] at hx; exact (h x hx).1
    · rw [upA_ne c] at hx; exact E.nz k hk x hx
  · by_cases c : k = i
    · subst c; rw [upA_same] at hx; exact (h x hx).2.1
    · rw [upA_ne c] at hx; exact E.lt k x hx
  · by_cases c : k = i
    · subst c; exact ⟨w, List.getElem?_set_self hi⟩
    · obtain ⟨v, hv⟩ := E.io k hk
      exact ⟨v, by rw [List.getElem?_set_ne (Ne.symm c)]; exact hv⟩
theorem Step.setO {i : Nat} {as : List Nat} (S : Step (Mu md l) M0 Z0 ad0 M Z ad) (hi : Mu md l i) (h : ∀ n ∈ as, M0.length ≤ n ∨ ∃ j, Mu md l j ∧ n ∈ ad0 j) : Step (Mu md l) M0 Z0 ad0 M Z (upA ad i as) :=
  ⟨S.len, S.keep, S.zm, S.zn, fun k hk => by rw [upA_ne fun e : k = i => hk (by rw [e]; exact hi)]; exact S.sm k hk, fun k hk n hn => by
    by_cases c : k = i
    · subst c; rw [upA_same] at hn; exact h n hn
    · rw [upA_ne c] at hn; exact S.an k hk n hn⟩
/-- values for names: fresh, or nobody's -/
inductive Par3 (md : Nat → Md) (M : Sto) (Z : Zs) : List Nat → List (List Nat) → List D → List W → Prop
  | nil : Par3 md M Z [] [] [] []
  | cons {i : Nat} {is : List Nat} {as : List Nat} {ass : List (List Nat)} {d : D} {ds : List D} {w : W} {ws : List W} : ((md i = .F ∧ RV M Z .fr as d w) ∨ ∃ s, md i = .O s ∧ RV M Z s as d w) → Par3 md M Z is ass ds ws → Par3 md M Z (i :: is) (as :: ass) (d :: ds) (w :: ws)
def ParQ (md : Nat → Md) (l : List Nat) (M0 : Sto) (ad0 : Ad) (is : List Nat) : QT (List D) (List W) := fun M Z ad ds ws =>
  ∃ ass, Par3 md M Z is ass ds ws ∧ ass.flatten.Nodup ∧ ∀ n ∈ ass.flatten, ¬ Z n ∧ n < M.length ∧ (∀ i, n ∉ ad i) ∧ (M0.length ≤ n ∨ ∃ j, Mu md l j ∧ n ∈ ad0 j)
theorem Par3.step {is : List Nat} {ass : List (List Nat)} {ds : List D} {ws : List W} (r : Par3 md M Z is ass ds ws) (hz : ∀ n, Z n → M1[n]? = M[n]? ∧ Z1 n) (h : ∀ n ∈ ass.flatten, M1[n]? = M[n]?) : Par3 md M1 Z1 is ass ds ws := by
  induction r with
  | nil => exact .nil
  | cons p r ih =>
    refine .cons ?_ (ih fun n hn => h n (by rw [List.flatten_cons]; exact List.mem_append_right _ hn))
    have hh := fun n hn => h n (by rw [List.flatten_cons]; exact List.mem_append_left _ hn)
    exact p.imp (fun ⟨a, b⟩ => ⟨a, b.step hz hh⟩) fun ⟨s, a, b⟩ => ⟨s, a, b.step hz hh⟩
theorem ParQ.cons {i : Nat} {is : List Nat} {s : Sh} {d : D} {w : W} {ds : List D} {ws : List W} (hm : (md i = .F ∧ s = .fr) ∨ md i = .O s) (q : OwQ md l M0 ad0 s M Z ad d w) (E : EnvR md M Z ad σ τ) (S0 : Step (Mu md l) M0 Z0 ad0 M Z ad) (S : Step (Mu md l) M Z ad M1 Z1 ad1) (q2 : ParQ md l M ad is M1 Z1 ad1 ds ws) : ParQ md l M0 ad0 (i :: is) M1 Z1 ad1 (d :: ds) (w :: ws) := by
  obtain ⟨as', a1', a2', a3'⟩ := q
  obtain ⟨bs', r1', r2', r3'⟩ := q2
  have a1 := a1'.step (fun n z => E.zkeep S go_own n z) fun n hn => S.keep n (a3' n hn).2.1 fun j _ => (a3' n hn).2.2.1 j
  refine ⟨as' :: bs', .cons (hm.imp (fun ⟨h, e⟩ => ⟨h, e ▸ a1⟩) fun h => ⟨s, h, a1⟩) r1', ?_, ?_⟩
  · rw [List.flatten_cons]
    refine List.nodup_append.mpr ⟨a2', r2', fun x hx y hy e => ?_⟩
    subst e
    obtain ⟨_, h2, h3, _⟩ := a3' x hx
    rcases (r3' x hy).2.2.2 with z | ⟨j, _, z⟩
    · omega
    · exact h3 j z
  · intro n hn
    rw [List.flatten_cons] at hn
    rcases List.mem_append.mp hn with hn | hn
    · obtain ⟨h1, h2, h3, h4⟩ := a3' n hn
      refine ⟨fun z => ?_, Nat.lt_of_lt_of_le h2 S.len, fun i hi => ?_, h4⟩
      · rcases S.zn n z with z | z | ⟨j, _, z⟩
        · exact h1 z
        · omega
        · exact h3 j z
      · by_cases c : Mu md l i
        · rcases S.an i c n hi with z | ⟨j, _, z⟩
          · omega
          · exact h3 j z
        · rw [S.sm i c] at hi; exact h3 i hi
    · obtain ⟨h1, h2, h3, h4⟩ := r3' n hn
      refine ⟨h1, h2, h3, ?_⟩
      rcases h4 with h4 | ⟨j, h4, h5⟩
      · exact .inl (Nat.le_trans S0.len h4)
      · exact S0.an j h4 n h5
theorem ParQ.mono {is : List Nat} {d : List D} {w : List W} (q : ParQ md l1 M0 ad0 is M Z ad d w) (hl : ∀ j ∈ l1, j ∈ l) : ParQ md l M0 ad0 is M Z ad d w := by
  obtain ⟨as, q1, q2, q3⟩ := q
  refine ⟨as, q1, q2, fun n hn => ?_⟩
  obtain ⟨h1, h2, h3, h4⟩ := q3 n hn
  refine ⟨h1, h2, h3, ?_⟩
  rcases h4 with h4 | ⟨j, h4, h5⟩
  · exact .inl h4
  · exact .inr ⟨j, Mu.mono hl j h4, h5⟩
/-- all names set -/
theorem par_set : ∀ {is : List Nat} {ass : List (List Nat)} {ds : List D} {ws : List W} {σ σ' : VE} {τ : En} {ad : Ad}, Par3 md M Z is ass ds ws → ass.flatten.Nodup → (∀ n ∈ ass.flatten, ¬ Z n ∧ n < M.length ∧ (∀ i, n ∉ ad i) ∧ (M0.length ≤ n ∨ ∃ j, Mu md l j ∧ n ∈ ad0 j)) → (∀ i ∈ is, i ∈ l) → EnvR md M Z ad σ τ → Step (Mu md l) M0 Z0 ad0 M Z ad → wMany is ws σ = some σ' →
    ∃ τ' ad', setMany is ds τ = some τ' ∧ EnvR md M Z ad' σ' τ' ∧ Step (Mu md l) M0 Z0 ad0 M Z ad' ∧ (∀ i, i ∉ is → τ'[i]? = τ[i]?)
  | _, _, _, _, σ, σ', τ, ad, .nil, nd, h, hl, E, S, hw => by cases hw; exact ⟨τ, ad, rfl, E, S, fun _ _ => rfl⟩
  | _, _, _, _, σ, σ', τ, ad, .cons (i := i) (is := is) (as := as) (ass := ass) (d := d) (ds := ds) (w := w) p r, nd, h, hl, E, S, hw => by
    rw [List.flatten_cons] at nd h
    obtain ⟨n1, n2, n3⟩ := List.nodup_append.mp nd
    have hw : wMany is _ (σ.set i (some w)) = some σ' := hw
    have fin : ∀ ad2, EnvR md M Z ad2 (σ.set i (some w)) (τ.set i (some d)) → Step (Mu md l) M0 Z0 ad0 M Z ad2 → (∀ n ∈ ass.flatten, ∀ k, n ∉ ad2 k) → ∃ τ' ad', setMany (i :: is) (d :: ds) τ = some τ' ∧ EnvR md M Z ad' σ' τ' ∧ Step (Mu md l) M0 Z0 ad0 M Z ad' ∧ (∀ k, k ∉ i :: is → τ'[k]? = τ[k]?) := fun ad2 E2 S2 hn => by
      obtain ⟨τ', ad', k1, k2, k3, k4⟩ := par_set r n2 (fun n hn' => by
        obtain ⟨z1, z2, _, z4⟩ := h n (List.mem_append_right _ hn')
        exact ⟨z1, z2, hn n hn', z4⟩) (fun k hk => hl k (List.mem_cons_of_mem _ hk)) E2 S2 hw
      exact ⟨τ', ad', k1, k2, k3, fun k hk => by
        rw [k4 k fun z => hk (List.mem_cons_of_mem _ z)]
        exact List.getElem?_set_ne fun e : i = k => hk (by rw [← e]; exact List.mem_cons_self)⟩
    rcases p with ⟨hm, rv⟩ | ⟨s, hm, rv⟩
    · exact fin ad (E.setF hm rv.2) S fun n hn k => (h n (List.mem_append_right _ hn)).2.2.1 k
    · have ho : (md i).own = true := by rw [hm]; rfl
      have hs : (md i).sh = some s := by rw [hm]; rfl
      by_cases hi : i < σ.length
      · refine fin (upA ad i as) (E.setO hi ho hs rv n1 fun n hn => ?_) (S.setO ⟨hl i List.mem_cons_self, ho⟩ fun n hn => (h n (List.mem_append_left _ hn)).2.2.2) fun n hn k => ?_
        · obtain ⟨z1, z2, z3, _⟩ := h n (List.mem_append_left _ hn)
          exact ⟨z1, z2, z3⟩
        · by_cases c : k = i
          · subst c; rw [upA_same]; exact fun hm => n3 n hm n hn rfl
          · rw [upA_ne c]; exact (h n (List.mem_append_right _ hn)).2.2.1 k
      · have e1 : σ.set i (some w) = σ := List.set_eq_of_length_le (by omega)
        have e2 : τ.set i (some d) = τ := List.set_eq_of_length_le (by rw [← E.len]; omega)
        exact fin ad (by rw [e1, e2]; exact E) S fun n hn k => (h n (List.mem_append_right _ hn)).2.2.1 k
end
section
variable {G : CG} {Φ : Fns} {Ψ : VFns} {ret : Md}
theorem oPar_ok (F : FOk G Φ Ψ) {n : Nat} {τ : En} : ∀ {is : List Nat} {es : Es}, oPar G n is es = true → ∀ (M : Sto) (Z : Zs) (ad : Ad) (σ : VE), EnvR G.md M Z ad σ τ → Gd G.md (muEs G.io es) τ M Z ad (denEs Φ es τ M) (vEs Ψ es σ) (ParQ G.md (muEs G.io es) M ad is)
  | [], .nil, h, M, Z, ad, σ, E => by
    rw [dEs_nil, wEs_nil]
    exact .ok E ⟨[], .nil, by simp, by simp⟩
  | [], .cons _ _, h, _, _, _, _, _ => by simp [oPar] at h
  | i :: is, .nil, h, _, _, _, _, _ => by simp [oPar] at h
  | i :: is, .cons e es, h, M, Z, ad, σ, E => by
    simp only [oPar, Bool.and_eq_true] at h
    obtain ⟨h1, h2⟩ := h
    have H : ∃ s, ((G.md i = .F ∧ s = .fr) ∨ G.md i = .O s) ∧ oE G n e s = true := by
      cases hm : G.md i with
      | F => rw [hm] at h1; exact ⟨.fr, .inl ⟨rfl, rfl⟩, h1⟩
      | O s => rw [hm] at h1; simp only [Bool.and_eq_true] at h1; exact ⟨s, .inr rfl, h1.1⟩
      | _ => rw [hm] at h1; cases h1
    obtain ⟨s, hm, h1⟩ := H
    rw [dEs_cons, wEs_cons]
    refine (oE_ok F n e s h1 τ M Z ad σ E).bind (by simp +contextual [muEs]) fun d w M1 Z1 ad1 σ1 E1 S1 q1 => ?_
    refine (oPar_ok F h2 M1 Z1 ad1 σ1 E1).bind (by simp +contextual [muEs]) fun ds ws M2 Z2 ad2 σ2 E2 S2 q2 => ?_
    have up : ∀ j, j ∈ muE G.io e → j ∈ muEs G.io (.cons e es) := by simp +contextual [muEs]
    have up2 : ∀ j, j ∈ muEs G.io es → j ∈ muEs G.io (.cons e es) := by simp +contextual [muEs]
    exact .ok E2 (ParQ.cons hm (q1.mono up) E1 (S1.mono (Mu.mono up)) (S2.mono (Mu.mono up2)) (q2.mono up2))
theorem oPar_md {n : Nat} : ∀ {is : List Nat} {es : Es}, oPar G n is es = true → ∀ i ∈ is, G.md i = .F ∨ ∃ s, G.md i = .O s
  | [], _, _, i, hi => by simp at hi
  | k :: is, .nil, h, _, _ => by simp [oPar] at h
  | k :: is, .cons e es, h, i, hi => by
    simp only [oPar, Bool.and_eq_true] at h
    rcases List.mem_cons.mp hi with rfl | hi
    · cases hm : G.md i with
      | F => exact .inl rfl
      | O s => exact .inr ⟨s, rfl⟩
      | _ => rw [hm] at h; cases h.1
    · exact oPar_md h.2 i hi
theorem setManyLen' {is : List Nat} {ds : List D} {τ τ' : En} (h : setMany is ds τ = some τ') : τ'.length = τ.length := setManyLen h
theorem st_par (F : FOk G Φ Ψ) {n : Nat} {is : List Nat} {es : Es} (h : oPar G n is es = true) : SSt G Φ Ψ ret (.par is es) := fun M Z ad σ τ E => by
  rw [dS_par, wS_par]
  refine GdS.ofR0 (oPar_ok F h M Z ad σ E) (by simp +contextual [muS]) fun ds ws M1 Z1 ad1 σ1 E1 S1 q => ?_
  cases hw : wMany is ws σ1 with
  | none => trivial
  | some σ2 =>
    have up : ∀ j ∈ muEs G.io es, j ∈ muS G.io (.par is es) := by simp +contextual [muS]
    obtain ⟨ass, r, nd, hh⟩ := q.mono up
    obtain ⟨τ', ad', k1, k2, k3, k4⟩ := par_set r nd hh (by simp +contextual [muS]) E1 (S1.mono (Mu.mono up)) hw
    rw [k1]
    exact ⟨τ', M1, Z1, ad', rfl, k2, k3, keep_F (setManyLen k1) k4 (oPar_md h)⟩
theorem st_as (F : FOk G Φ Ψ) {n : Nat} {i : Nat} {e : E} (h : oPar G n [i] (.cons e .nil) = true) : SSt G Φ Ψ ret (.as (.name i) e) := fun M Z ad σ τ E => by
  have e1 : denS Φ (.as (.name i) e) τ M = denS Φ (.par [i] (.cons e .nil)) τ M := by
    rw [dS_as, dS_par, dEs_cons]
    cases denE Φ e τ M with
    | ok d M1 => simp only [SO.ofOut_ok, Out.bind_ok, dEs_nil]; rfl
    | exc x M1 => rw [Out.bind_exc, SO.ofOut_exc, SO.ofOut_exc]
    | bad => rw [Out.bind_bad, SO.ofOut_bad, SO.ofOut_bad]
  have e2 : vS Ψ (.as (.name i) e) σ = vS Ψ (.par [i] (.cons e .nil)) σ := by
    rw [wS_as, wS_par, wEs_cons]
    cases vE Ψ e σ with
    | ok d M1 => simp only [SW.ofR_ok, R.bind_ok, wEs_nil]; rfl
    | exc x M1 => rw [R.bind_exc, SW.ofR_exc, SW.ofR_exc]
    | bad => rw [R.bind_bad, SW.ofR_bad, SW.ofR_bad]
  rw [e1, e2]
  exact (st_par (ret := ret) F h M Z ad σ τ E).mono (by simp +contextual [muS, muEs, tgSlots])
theorem st_asT {e : E} {is : List Nat} (hm : ∀ i ∈ is, G.md i = .F) (h : ∀ τ, GE G Φ Ψ τ e .fr) : SSt G Φ Ψ ret (.as (.tup is) e) := fun M Z ad σ τ E => by
  rw [dS_as, wS_as]
  refine GdS.ofR (h τ M Z ad σ E) (by simp +contextual [muS]) fun d w M1 Z1 ad1 σ1 E1 S1 q => ?_
  cases hw : wTg (.tup is) w σ1 with
  | none => trivial
  | some σ2 =>
    obtain ⟨τ', k1, k2, k3⟩ := setTg_okW (OwQ.fr.mp q) hw E1 hm
    rw [k1]
    exact ⟨τ', M1, Z1, ad1, rfl, k2, .refl, keep_F (setTgLen k1) k3 fun i hi => .inl (hm i hi)⟩
theorem iv_eq {p : P2} {x y z : W} {a b : D} {M : Sto} {Z : Zs} (ha : FZ M Z a x) (hb : FZ M Z b y) (h : p.iv x y = some z) : ∃ d, p.iden a b M = .ok d M ∧ FZ M Z d z := by
  cases p <;> try (cases h; done)
  · cases x <;> cases y <;> try (cases h; done)
    · cases h; rw [ha.int', hb.int']; exact ⟨_, rfl, .int _⟩
    · simp only [P2.iv] at h
      split at h
      · cases h; rw [ha.str', hb.str']; exact ⟨_, by simp only [P2.iden, iAdd]; rw [if_pos (by assumption)], .str _⟩
      · cases h
  · cases x <;> cases y <;> try (cases h; done)
    cases h; rw [ha.int', hb.int']; exact ⟨_, rfl, .int _⟩
theorem st_aug {p : P2} {i : Nat} {e : E} (hm : G.md i = .F) (h : ∀ τ, GE G Φ Ψ τ e .fr) : SSt G Φ Ψ ret (.aug p i e) := fun M Z ad σ τ E => by
  rw [dS_aug, wS_aug]
  cases q : σ[i]? with
  | none => trivial
  | some o =>
    cases o with
    | none => trivial
    | some x =>
      obtain ⟨d, h1, h2⟩ := E.sl i x q
      rw [h1]
      rw [hm] at h2
      have fx := ((RM.of_sh (m := .F) rfl).mp h2).2
      refine GdS.ofR (h τ M Z ad σ E) (by simp +contextual [muS]) fun y w M1 Z1 ad1 σ1 E1 S1 q1 => ?_
      have fx := fx.go E S1 go_own
      refine GdS.opt fun z hz => ?_
      obtain ⟨d', k1, k2⟩ := iv_eq fx (OwQ.fr.mp q1) hz
      rw [k1, SO.ofOut_ok]
      exact ⟨_, M1, Z1, ad1, rfl, E1.setF hm k2, .refl, keep_F (is := [i]) (by rw [List.length_set]) (fun k hk => List.getElem?_set_ne fun e : i = k => hk (by rw [e]; simp)) fun k hk => .inl (by rw [List.mem_singleton.mp hk]; exact hm)⟩
theorem st_asub_v {j : Nat} {i e : E} {t : Sh} (ho : (G.md j).own = true) (hs : (G.md j).sh = some (.ls t)) (he : ∀ τ, GE G Φ Ψ τ e t) (hi : ∀ τ, GE G Φ Ψ τ i .fr) (hmu : muE G.io i = []) : SSt G Φ Ψ ret (.asub (.var j) i e) := fun M Z ad σ τ E => by
  rw [dS_asub, wS_asub_v]
  have hj : Mu G.md (muS G.io (.asub (.var j) i e)) j := ⟨by simp [muS, rootE], ho⟩
  refine GdS.ofR0 (he τ M Z ad σ E) (by simp +contextual [muS]) fun d w M1 Z1 ad1 σ1 E1 S1 q1 => ?_
  have up : ∀ k ∈ muE G.io e, k ∈ muS G.io (.asub (.var j) i e) := by simp +contextual [muS]
  have S1' := S1.mono (Mu.mono up)
  have q1 := q1.mono up
  by_cases c : okPl j [] σ1 = true
  · rw [if_pos c]
    obtain ⟨n, ds, ws, ass, h1, h2, _⟩ := okPl0 c E1 S1' hj hs
    rw [dE_var, h1, SO.ofOut_ok]
    have I := hi τ M1 Z1 ad1 σ1 E1
    generalize vE Ψ i σ1 = r at I
    generalize denE Φ i τ M1 = o at I
    cases r with
    | bad => rw [SW.ofR_bad]; trivial
    | exc x σ2 =>
      obtain ⟨y, M2, Z2, ad2, rfl, E2, S2, q2⟩ := I
      rw [SW.ofR_exc, SO.ofOut_exc]
      exact ⟨y, τ, M2, Z2, ad2, rfl, E2, S1'.trans (S2.mono (Mu.mono (by rw [hmu]; simp))), .refl, q2⟩
    | ok k σ2 =>
      obtain ⟨ki, M2, Z2, ad2, rfl, E2, S2, q2⟩ := I
      rw [SW.ofR_ok, SO.ofOut_ok]
      have S2' := S1'.trans (S2.mono (Mu.mono (l := muS G.io (.asub (.var j) i e)) (by rw [hmu]; simp)))
      have q1 := q1.go E1 S2
      rcases plc0_next (ds := ds) E2 S2' hj hs h1 with hb | ⟨ds', ws', ass', P⟩
      · rw [hb, SW.ofR_bad]; trivial
      · rcases plc_set P E2 S2' hj (OwQ.fr.mp q2) q1 with hb | ⟨M', ad', σ', g1, g2, g3, g4⟩
        · rw [hb, SW.ofR_bad]; trivial
        · rw [g1, SW.ofR_ok, g2]
          exact ⟨τ, M', Z2, ad', rfl, g3, g4, .refl⟩
  · rw [if_neg c]; trivial
end
end PyL

set_option maxHeartbeats 1000000
/-! V: returns; every checked statement. -/
namespace PyL
open PySem
def adm (md : Nat → Md) (ad : Ad) : Ad := fun i => match md i with
  | .F => []
  | .O _ => []
  | _ => ad i
theorem maskS_get {md : Nat → Md} {σ : VE} {i : Nat} {w : W} : (maskS md σ)[i]? = some (some w) ↔ σ[i]? = some (some w) ∧ md i ≠ .F ∧ ∀ s, md i ≠ .O s := by
  unfold maskS
  rw [List.getElem?_mapIdx]
  cases σ[i]? with
  | none => simp
  | some o => cases h : md i <;> simp [h]
theorem maskS_len {md : Nat → Md} {σ : VE} : (maskS md σ).length = σ.length := by unfold maskS; simp
section
variable {md md1 : Nat → Md} {ret : Md} {l l1 l2 : List Nat} {τ τ1 : En} {σ σ' : VE} {M M0 M' M1 : Sto} {Z Z0 Z' Z1 : Zs} {ad ad0 ad' ad1 : Ad}
theorem adm_sub {i n : Nat} (h : n ∈ adm md ad i) : n ∈ ad i := by
  unfold adm at h
  cases hm : md i <;> rw [hm] at h <;> first | exact h | simp at h
theorem EnvR.mask (E : EnvR md1 M Z ad σ τ) (hm : ∀ i, md i ≠ .F → (∀ s, md i ≠ .O s) → md1 i = md i) : EnvR md M Z (adm md ad) (maskS md σ) τ := by
  have ad_eq : ∀ i, md i ≠ .F → (∀ s, md i ≠ .O s) → adm md ad i = ad i := fun i h1 h2 => by
    unfold adm; cases q : md i with
    | F => exact absurd q h1
    | O s => exact absurd q (h2 s)
    | _ => rfl
  have mem : ∀ i n, n ∈ adm md ad i → md i ≠ .F ∧ (∀ s, md i ≠ .O s) ∧ n ∈ ad i := fun i n h => by
    unfold adm at h
    cases q : md i <;> rw [q] at h <;> first | (simp at h; done) | exact ⟨by simp, by simp, h⟩
  refine ⟨by rw [maskS_len]; exact E.len, fun i w hw => ?_, fun i hi => ?_, fun i hi => ?_, fun i j hi hne n hn hk => ?_, fun i hi n hn => ?_, fun i n hn => E.lt i n (adm_sub hn), E.zl, fun i hi => ?_⟩
  · obtain ⟨h1, h2, h3⟩ := maskS_get.mp hw
    obtain ⟨d, k1, k2⟩ := E.sl i w h1
    rw [ad_eq i h2 h3, ← hm i h2 h3]
    exact ⟨d, k1, k2⟩
  · cases q : adm md ad i with
    | nil => rfl
    | cons n as =>
      obtain ⟨h1, h2, h3⟩ := mem i n (by rw [q]; exact List.mem_cons_self)
      have := E.no i fun w hw => hi w (maskS_get.mpr ⟨hw, h1, h2⟩)
      rw [this] at h3; simp at h3
  · cases q : adm md ad i with
    | nil => exact .nil
    | cons n as =>
      obtain ⟨h1, h2, h3⟩ := mem i n (by rw [q]; exact List.mem_cons_self)
      rw [← q, ad_eq i h1 h2]
      exact E.nd i (by rw [hm i h1 h2]; exact hi)
  · obtain ⟨h1, h2, h3⟩ := mem i n hn
    exact E.dis i j (by rw [hm i h1 h2]; exact hi) hne n h3 (adm_sub hk)
  · obtain ⟨h1, h2, h3⟩ := mem i n hn
    exact E.nz i (by rw [hm i h1 h2]; exact hi) n h3
  · have h1 : md i ≠ .F := fun e => by rw [e] at hi; cases hi
    have h2 : ∀ s, md i ≠ .O s := fun s e => by rw [e] at hi; cases hi
    obtain ⟨w, hw⟩ := E.io i (by rw [hm i h1 h2]; exact hi)
    exact ⟨w, maskS_get.mpr ⟨hw, h1, h2⟩⟩
theorem EnvR.adF (E : EnvR md M Z ad σ τ) {i : Nat} (h : md i = .F) : ad i = [] := by
  by_cases c : ∃ w, σ[i]? = some (some w)
  · obtain ⟨w, hw⟩ := c
    obtain ⟨d, h1, h2⟩ := E.sl i w hw
    rw [h] at h2
    exact ((RM.of_sh (m := .F) rfl).mp h2).1
  · exact E.no i fun w hw => c ⟨w, hw⟩
theorem Step.mask (S : Step (ownP md) M0 Z0 ad0 M Z ad) (h : ∀ i, md i = .F → ad0 i = []) : Step (ownP md) M0 Z0 ad0 M Z (adm md ad) :=
  ⟨S.len, S.keep, S.zm, S.zn, fun i hi => by
    cases q : md i with
    | F => unfold adm; rw [q]; exact (h i q).symm
    | O s => exact absurd (show (md i).own = true by rw [q]; rfl) hi
    | _ => have := S.sm i hi; unfold adm; rw [q]; exact this, fun i hi n hn => S.an i hi n (adm_sub hn)⟩
/-- what is left behind a return -/
theorem GdS.back {d : D} {w : W} {as : List Nat} (E0 : EnvR md M Z ad σ τ) (E : EnvR md1 M' Z' ad' σ' τ) (hm : ∀ i, md i ≠ .F → (∀ s, md i ≠ .O s) → md1 i = md i) (S : Step (ownP md) M Z ad M' Z' ad') (r : RV M' Z' ret.rs as d w) (nd : as.Nodup)
    (h : ∀ n ∈ as, ¬ Z' n ∧ n < M'.length ∧ (∀ i, n ∉ adm md ad' i) ∧ (M.length ≤ n ∨ ∃ j, ownP md j ∧ n ∈ ad j)) : GdS md ret l M Z ad τ (.rt d M') (.rt w σ') :=
  ⟨d, τ, M', Z', adm md ad', rfl, E.mask hm, S.mask fun i hi => E0.adF hi, .refl, as, r, nd, h⟩
def Zr (md : Nat → Md) (Z : Zs) (ad : Ad) : Zs := fun n => Z n ∨ ∃ i s, md i = .O s ∧ n ∈ ad i
def adr (md : Nat → Md) (ad : Ad) : Ad := fun i => match md i with
  | .O _ => []
  | _ => ad i
theorem adr_sub {i n : Nat} (h : n ∈ adr md ad i) : n ∈ ad i ∧ ∀ s, md i ≠ .O s := by
  unfold adr at h
  cases hm : md i <;> rw [hm] at h <;> first | exact ⟨h, by simp⟩ | simp at h
theorem mdR_O {i : Nat} {s : Sh} (h : md i = .O s) : mdR md i = .F := by unfold mdR; rw [h]
theorem mdR_ne {i : Nat} (h : ∀ s, md i ≠ .O s) : mdR md i = md i := by
  unfold mdR; cases q : md i with
  | O s => exact absurd q (h s)
  | _ => rfl
/-- all that names held alone goes free -/
theorem EnvR.let (E : EnvR md M Z ad σ τ) : EnvR (mdR md) M (Zr md Z ad) (adr md ad) σ τ := by
  have own : ∀ i, (mdR md i).own = true → (md i).own = true ∧ ∀ s, md i ≠ .O s := fun i h => by
    cases q : md i with
    | O s => rw [mdR_O q] at h; cases h
    | _ => unfold mdR at h; rw [q] at h; exact ⟨h, by simp⟩
  refine ⟨E.len, fun i w hw => ?_, fun i hi => ?_, fun i hi => ?_, fun i j hi hne n hn hk => ?_, fun i hi n hn hz => ?_, fun i n hn => E.lt i n (adr_sub hn).1, fun n hn => ?_, fun i hi => ?_⟩
  · obtain ⟨d, h1, h2⟩ := E.sl i w hw
    refine ⟨d, h1, ?_⟩
    cases q : md i with
    | O s =>
      rw [mdR_O q]
      have e : adr md ad i = [] := by unfold adr; rw [q]
      rw [e]
      rw [q] at h2
      exact (RM.of_sh (m := .F) rfl).mpr ⟨rfl, ((RM.of_sh (m := .O s) rfl).mp h2).freeze (fun n h => .inl h) fun n h => .inr ⟨i, s, q, h⟩⟩
    | _ =>
      have e : adr md ad i = ad i := by unfold adr; rw [q]
      rw [mdR_ne (by rw [q]; simp), e]
      exact h2.step (fun n z => ⟨rfl, .inl z⟩) fun _ _ => rfl
  · cases q : adr md ad i with
    | nil => rfl
    | cons n as =>
      have := (adr_sub (md := md) (ad := ad) (i := i) (n := n) (by rw [q]; exact List.mem_cons_self)).1
      rw [E.no i hi] at this; simp at this
  · obtain ⟨h1, h2⟩ := own i hi
    have e : adr md ad i = ad i := by unfold adr; cases q : md i with
      | O s => exact absurd q (h2 s)
      | _ => rfl
    rw [e]; exact E.nd i h1
  · exact E.dis i j (own i hi).1 hne n (adr_sub hn).1 (adr_sub hk).1
  · obtain ⟨h1, h2⟩ := own i hi
    have hn := (adr_sub hn).1
    rcases hz with hz | ⟨k, s, h3, h4⟩
    · exact E.nz i h1 n hn hz
    · exact E.dis i k h1 (fun e => h2 s (by rw [e]; exact h3)) n hn h4
  · rcases hn with hn | ⟨k, s, h3, h4⟩
    · exact E.zl n hn
    · exact E.lt k n h4
  · exact E.io i (by cases q : md i with
      | O s => rw [mdR_O q] at hi; cases hi
      | _ => unfold mdR at hi; rw [q] at hi; exact hi)
theorem Step.let (E : EnvR md M Z ad σ τ) : Step (ownP md) M Z ad M (Zr md Z ad) (adr md ad) :=
  ⟨Nat.le_refl _, fun _ _ _ => rfl, fun n h => .inl h, fun n h => by
    rcases h with h | ⟨i, s, h1, h2⟩
    · exact .inl h
    · exact .inr (.inr ⟨i, by show (md i).own = true; rw [h1]; rfl, h2⟩), fun i hi => by
    unfold adr; cases q : md i with
    | O s => exact absurd (show (md i).own = true by rw [q]; rfl) hi
    | _ => rfl, fun i hi n hn => .inr ⟨i, hi, (adr_sub hn).1⟩⟩
end
section
variable {G : CG} {Φ : Fns} {Ψ : VFns} {ret : Md}
theorem plainEs_quiet : ∀ {es : Es}, plainEs es = true → ∀ {σ : VE} {x : XW} {σ' : VE}, vEs Ψ es σ ≠ .exc x σ'
  | .nil, _, σ, x, σ' => by rw [wEs_nil]; simp
  | .cons e es, h, σ, x, σ' => by
    simp only [plainEs, Bool.and_eq_true] at h
    obtain ⟨h1, h2⟩ := h
    rw [wEs_cons]
    have hv : ∀ x σ', vE Ψ e σ ≠ .exc x σ' := fun x σ' => by
      cases e <;> try (cases h1; done)
      · rename_i k
        rw [wE_var]; cases σ[k]? with
        | none => simp
        | some o => cases o <;> simp
      · rename_i dd
        rw [wE_con]; cases D.w dd <;> simp
    cases q : vE Ψ e σ with
    | bad => simp
    | exc y σ1 => exact absurd q (hv y σ1)
    | ok d σ1 =>
      rw [R.bind_ok]
      cases q2 : vEs Ψ es σ1 with
      | bad => simp
      | exc y σ2 => exact absurd q2 (plainEs_quiet h2)
      | ok ds σ2 => simp
theorem quiet_ok {e : E} (h : quiet e = true) {σ : VE} {x : XW} {σ' : VE} : vE Ψ e σ ≠ .exc x σ' := by
  cases e <;> try (cases h; done)
  · rename_i k
    rw [wE_var]; cases σ[k]? with
    | none => simp
    | some o => cases o <;> simp
  · rename_i es
    rw [wE_tup]
    cases q : vEs Ψ es σ with
    | bad => simp
    | exc y σ1 => exact absurd q (plainEs_quiet h)
    | ok ds σ1 => rw [R.bind_ok]; split <;> simp
theorem st_rt {e : E} (h : ∀ τ, GE G Φ Ψ τ e ret.rs) : SSt G Φ Ψ ret (.rt e) := fun M Z ad σ τ E => by
  rw [dS_rt, wS_rt]
  refine GdS.ofR0 (h τ M Z ad σ E) (by simp +contextual [muS]) fun d w M1 Z1 ad1 σ1 E1 S1 q => ?_
  obtain ⟨as, q1, q2, q3⟩ := q
  exact GdS.back E E1 (fun _ _ _ => rfl) S1.own q1 q2 fun n hn => by
    obtain ⟨k1, k2, k3, k4⟩ := q3 n hn
    exact ⟨k1, k2, fun i hi => k3 i (adm_sub hi), k4.imp id fun ⟨j, h1, h2⟩ => ⟨j, h1.2, h2⟩⟩
theorem st_rtR {e : E} (hq : quiet e = true) (hr : ret = .F) (h : ∀ τ, GE ⟨mdR G.md, G.sg⟩ Φ Ψ τ e .fr) : SSt G Φ Ψ ret (.rt e) := fun M Z ad σ τ E => by
  rw [dS_rt, wS_rt]
  have C := h τ M _ _ σ E.let
  cases r : vE Ψ e σ with
  | bad => rw [SW.ofR_bad]; trivial
  | exc x σ' => exact absurd r (quiet_ok hq)
  | ok w σ1 =>
    rw [r] at C
    obtain ⟨d, M1, Z1, ad1, h1, E1, S1, q⟩ := C
    rw [h1, SW.ofR_ok, SO.ofOut_ok]
    subst hr
    refine GdS.back E E1 (fun i h1 h2 => mdR_ne h2) ((Step.let E).trans (S1.mono fun j hj => ?_)) (as := []) ⟨rfl, OwQ.fr.mp q⟩ .nil (by simp)
    have := hj.2
    show (G.md j).own = true
    cases q : G.md j with
    | O s => rfl
    | _ => rw [show (CG.md ⟨mdR G.md, G.sg⟩) j = mdR G.md j from rfl, mdR_ne (by rw [q]; simp), q] at this; exact this
theorem st_rtV {j : Nat} {s : Sh} (hm : G.md j = .O s) (hr : ret = .O s) : SSt G Φ Ψ ret (.rt (.var j)) := fun M Z ad σ τ E => by
  rw [dS_rt, wS_rt, dE_var, wE_var]
  cases q : σ[j]? with
  | none => trivial
  | some o =>
    cases o with
    | none => trivial
    | some w =>
      obtain ⟨d, h1, h2⟩ := E.sl j w q
      rw [h1]
      simp only [SW.ofR_ok, SO.ofOut_ok]
      have ho : (G.md j).own = true := by rw [hm]; rfl
      subst hr
      rw [hm] at h2
      refine GdS.back E E (fun _ _ _ => rfl) .refl ((RM.of_sh (m := .O s) rfl).mp h2) (E.nd j ho) fun n hn => ⟨E.nz j ho n hn, E.lt j n hn, fun i hi => ?_, .inr ⟨j, ho, hn⟩⟩
      by_cases c : i = j
      · subst c; unfold adm at hi; rw [hm] at hi; simp at hi
      · exact E.dis j i ho (Ne.symm c) n hn (adm_sub hi)
theorem st_rtN (hr : ret = .F) : SSt G Φ Ψ ret .rtN := fun M Z ad σ τ E => by
  rw [dS_rtN, wS_rtN]
  subst hr
  exact GdS.back E E (fun _ _ _ => rfl) .refl (as := []) ⟨rfl, .non⟩ .nil (by simp)
theorem st_asub_ix {j : Nat} {b i e : E} {t : Sh} (ho : (G.md j).own = true) (hs : (G.md j).sh = some (.ls (.ls t))) (hb : ∀ τ, GE G Φ Ψ τ b .fr) (hmb : muE G.io b = []) (he : ∀ τ, GE G Φ Ψ τ e t) (hi : ∀ τ, GE G Φ Ψ τ i .fr) (hmu : muE G.io i = []) : SSt G Φ Ψ ret (.asub (.ix (.var j) b) i e) := fun M Z ad σ τ E => by
  rw [dS_asub, wS_asub_ix]
  have hj : Mu G.md (muS G.io (.asub (.ix (.var j) b) i e)) j := ⟨by simp [muS, rootE], ho⟩
  refine GdS.ofR0 (he τ M Z ad σ E) (by simp +contextual [muS]) fun d w M1 Z1 ad1 σ1 E1 S1 q1 => ?_
  have up : ∀ k ∈ muE G.io e, k ∈ muS G.io (.asub (.ix (.var j) b) i e) := by simp +contextual [muS]
  have S1' := S1.mono (Mu.mono up)
  have q1 := q1.mono up
  by_cases c0 : okN j σ1 = true
  · rw [if_pos c0]
    obtain ⟨w0, hw0⟩ : ∃ w, σ1[j]? = some (some w) := by
      unfold okN at c0
      split at c0
      · exact ⟨_, by assumption⟩
      · cases c0
    obtain ⟨d0, h1, _⟩ := E1.sl j w0 hw0
    rw [dE_ix, dE_var, h1]
    simp only [Out.bind_ok]
    have B := hb τ M1 Z1 ad1 σ1 E1
    generalize vE Ψ b σ1 = r at B
    generalize denE Φ b τ M1 = o at B
    cases r with
    | bad => rw [SW.ofR_bad]; trivial
    | exc x σ2 =>
      obtain ⟨y, M2, Z2, ad2, rfl, E2, S2, q2⟩ := B
      rw [SW.ofR_exc, Out.bind_exc, SO.ofOut_exc]
      exact ⟨y, τ, M2, Z2, ad2, rfl, E2, S1'.trans (S2.mono (Mu.mono (by rw [hmb]; simp))), .refl, q2⟩
    | ok p σ2 =>
      obtain ⟨pi, M2, Z2, ad2, rfl, E2, S2, q2⟩ := B
      rw [SW.ofR_ok, Out.bind_ok]
      have S2' := S1'.trans (S2.mono (Mu.mono (l := muS G.io (.asub (.ix (.var j) b) i e)) (by rw [hmb]; simp)))
      have q1 := q1.go E1 S2
      by_cases c : okPl j [p] σ2 = true
      · rw [if_pos c]
        obtain ⟨m, n, di, ds, ws, ass, rfl, h2, h3, h4, h5, _⟩ := okPl1 c E2 S2' hj hs
        rw [h1] at h2
        cases h2
        rw [(OwQ.fr.mp q2).int', h4, SO.ofOut_ok]
        have I := hi τ M2 Z2 ad2 σ2 E2
        generalize vE Ψ i σ2 = r at I
        generalize denE Φ i τ M2 = o at I
        cases r with
        | bad => rw [SW.ofR_bad]; trivial
        | exc x σ3 =>
          obtain ⟨y, M3, Z3, ad3, rfl, E3, S3, q3⟩ := I
          rw [SW.ofR_exc, SO.ofOut_exc]
          exact ⟨y, τ, M3, Z3, ad3, rfl, E3, S2'.trans (S3.mono (Mu.mono (by rw [hmu]; simp))), .refl, q3⟩
        | ok k σ3 =>
          obtain ⟨ki, M3, Z3, ad3, rfl, E3, S3, q3⟩ := I
          rw [SW.ofR_ok, SO.ofOut_ok]
          have hne : ¬ Mu G.md (muE G.io i) j := fun z => by have := z.1; rw [hmu] at this; simp at this
          have hk : M3[m]? = M2[m]? := S3.keep m (E2.lt j m h3) fun k hk hm => E2.dis k j hk.2 (fun e => hne (e ▸ hk)) m hm h3
          have S3' := S2'.trans (S3.mono (Mu.mono (l := muS G.io (.asub (.ix (.var j) b) i e)) (by rw [hmu]; simp)))
          have q1 := q1.go E2 S3
          cases q : σ3[j]? with
          | none => unfold updAt; rw [q, SW.ofR_bad]; trivial
          | some o =>
            cases o with
            | none => unfold updAt; rw [q, SW.ofR_bad]; trivial
            | some w2 =>
              rcases plc1 (iw := .int di) E3 S3' hj q hs with hb | ⟨m', n', di', ds', ws', ass', hi, k1, k2, P⟩
              · rw [hb, SW.ofR_bad]; trivial
              · cases hi
                rw [h1] at k1
                cases k1
                have : n' = n := by
                  have e : ixD M3 (.ref m) (.int di) = .ok (.ref n) M3 := by
                    simp only [ixD, items, listAt] at h4 ⊢
                    rw [hk]
                    split at h4
                    · rename_i xs hx
                      split at h4
                      · rename_i d hd
                        have := (Out.ok.inj h4).1
                        subst this
                        simp only [hx, hd]
                      · cases h4
                    · cases h4
                  rw [e] at k2
                  exact (D.ref.inj (Out.ok.inj k2).1).symm
                subst this
                rcases plc_set P E3 S3' hj (OwQ.fr.mp q3) q1 with hb | ⟨M', ad', σ', g1, g2, g3, g4⟩
                · rw [hb, SW.ofR_bad]; trivial
                · rw [g1, SW.ofR_ok, g2]
                  exact ⟨τ, M', Z3, ad', rfl, g3, g4, .refl⟩
      · rw [if_neg c]; trivial
  · rw [if_neg c0]; trivial
mutual
theorem oS_ok (F : FOk G Φ Ψ) (n : Nat) : ∀ (s : S), oS G ret n s = true → SSt G Φ Ψ ret s
  | .nop, h => st_nop
  | .br, h => st_br
  | .co, h => st_co
  | .never, h => st_never
  | .ex e, h => st_ex (oE_ok F n e .fr (by simpa only [oS] using h))
  | .as (.name i) e, h => by
    refine st_as (n := n) F ?_
    simp only [oS] at h
    simp only [oPar, Bool.and_true]
    exact h
  | .as (.tup is) e, h => by
    simp only [oS, Bool.and_eq_true] at h
    exact st_asT (fun i hi => by simpa using List.all_eq_true.mp h.1 i hi) (oE_ok F n e .fr h.2)
  | .par is es, h => by
    simp only [oS, Bool.and_eq_true] at h
    exact st_par F h.2
  | .asub a i e, h => by
    simp only [oS] at h
    cases hp : oP G n a with
    | none => rw [hp] at h; cases h
    | some jt =>
      obtain ⟨j, t⟩ := jt
      rw [hp] at h
      cases t <;> try (cases h; done)
      rename_i t
      simp only [Bool.and_eq_true] at h
      obtain ⟨⟨⟨⟨ho, _⟩, h1⟩, h2⟩, h3⟩ := h
      rcases oP_ok F n a j (.ls t) hp with ⟨rfl, hs⟩ | ⟨b, rfl, hb, hmu, hs⟩
      · exact st_asub_v ho hs (oE_ok F n e t h1) (oE_ok F n i .fr h2) (isEmpty_nil h3)
      · exact st_asub_ix ho hs hb hmu (oE_ok F n e t h1) (oE_ok F n i .fr h2) (isEmpty_nil h3)
  | .aug p i e, h => by
    simp only [oS, Bool.and_eq_true, beq_iff_eq] at h
    exact st_aug h.1 (oE_ok F n e .fr h.2)
  | .rt e, h => by
    simp only [oS] at h
    cases hr : ret with
    | F =>
      rw [hr] at h
      simp only [Bool.or_eq_true, Bool.and_eq_true] at h
      rcases h with h | ⟨h1, h2⟩
      · exact st_rt (oE_ok F n e .fr h)
      · exact st_rtR h1 rfl (oE_ok (G := ⟨mdR G.md, G.sg⟩) ⟨F.call, F.con, F.fuel, F.io⟩ n e .fr h2)
    | O s =>
      rw [hr] at h
      simp only [Bool.or_eq_true, Bool.and_eq_true] at h
      obtain ⟨_, h⟩ := h
      rcases h with h | h
      · exact st_rt (oE_ok F n e s h)
      · cases e <;> try (cases h; done)
        simp only [beq_iff_eq] at h
        exact st_rtV h rfl
    | _ => rw [hr] at h; cases h
  | .rtN, h => by
    simp only [oS, beq_iff_eq] at h
    exact st_rtN h
  | .ite c a b, h => by
    simp only [oS, Bool.and_eq_true] at h
    exact st_ite (oT_ok F n c h.1.1) (oSs_ok F n a h.1.2) (oSs_ok F n b h.2)
  | .wh c b, h => by
    simp only [oS, Bool.and_eq_true] at h
    exact st_wh F (oT_ok F n c h.1) (oSs_ok F n b h.2)
  | .fo t it b, h => by
    simp only [oS, Bool.and_eq_true] at h
    obtain ⟨⟨h1, h2⟩, h3⟩ := h
    cases hi : oI G n it with
    | none => rw [hi] at h3; cases h3
    | some rs =>
      rw [hi] at h3
      simp only [Bool.and_eq_true] at h3
      exact st_fo F (fun i hi => by simpa using List.all_eq_true.mp h1 i hi) (oI_ok F n it rs hi) h3.1 (oSs_ok F n b h2)
theorem oSs_ok (F : FOk G Φ Ψ) (n : Nat) : ∀ (s : Ss), oSs G ret n s = true → SSs G Φ Ψ ret s
  | .nil, h => ss_nil
  | .cons s ss, h => by
    simp only [oSs, Bool.and_eq_true] at h
    exact ss_cons (oS_ok F n s h.1) (oSs_ok F n ss h.2)
end
end
end PyL

set_option maxHeartbeats 1000000
/-! V: defs; the table of them. -/
namespace PyL
open PySem
/-- a def's modes -/
structure Fm where
  ps : List Md
  lo : List Md
  ret : Md
  deriving Inhabited
def Fm.sg (m : Fm) : Sg := ⟨m.ps, m.ret⟩
def Fm.md (m : Fm) : Nat → Md := mdL (m.ps ++ m.lo)
def isP : Md → Bool
  | .O _ => false
  | _ => true
def isLo : Md → Bool
  | .O _ => true
  | .F => true
  | _ => false
def okRet : Md → Bool
  | .F => true
  | .O s => s != .el && s != .fr
  | _ => false
/-- the last statement is a return -/
def endsB : Ss → Bool
  | .nil => false
  | .cons s ss => (match ss with
    | .nil => (match s with
      | .rt _ => true
      | _ => false)
    | _ => endsB ss)
theorem endsB_ok {Ψ : VFns} : ∀ {b : Ss}, endsB b = true → ∀ {σ σ' : VE}, vSs Ψ b σ ≠ .nx σ'
  | .nil, h, _, _ => by simp [endsB] at h
  | .cons s .nil, h, σ, σ' => by
    cases s <;> try (simp [endsB] at h; done)
    rw [wSs_cons, wS_rt]
    rename_i e
    cases vE Ψ e σ <;> simp
  | .cons s (.cons s2 ss), h, σ, σ' => by
    have h : endsB (.cons s2 ss) = true := h
    rw [wSs_cons]
    cases q : vS Ψ s σ with
    | nx σ1 => rw [SW.andThen_nx]; exact endsB_ok h
    | rt w σ1 => simp
    | bk σ1 => simp
    | ct σ1 => simp
    | exc x σ1 => simp
    | bad => simp
/-- a def is well held -/
def okF (sg : Nat → Sg) (n : Nat) (r : FR) (m : Fm) : Bool :=
  m.ps.length == r.np && (m.ps.length + m.lo.length == r.ns) && m.ps.all isP && m.lo.all isLo && (okRet m.ret && (m.ret == .F || endsB r.body)) && oSs ⟨m.md, sg⟩ m.ret n r.body
theorem mdL_app {a b : List Md} {i : Nat} (h : i < a.length) : mdL (a ++ b) i = mdL a i := by
  unfold mdL
  rw [List.getD_eq_getElem?_getD, List.getD_eq_getElem?_getD, List.getElem?_append_left h]
theorem mdL_app2 {a b : List Md} {i : Nat} (h : ¬ i < a.length) (hb : b.all isLo = true) : mdL (a ++ b) i = .F ∨ ∃ s, mdL (a ++ b) i = .O s := by
  unfold mdL
  rw [List.getD_eq_getElem?_getD, List.getElem?_append_right (by omega)]
  cases q : b[i - a.length]? with
  | none => exact .inl rfl
  | some m =>
    have := List.all_eq_true.mp hb m (List.mem_of_getElem? q)
    cases m <;> try (cases this; done)
    · exact .inl rfl
    · exact .inr ⟨_, rfl⟩
theorem maskV_len : ∀ {ps : List Md} {fin : VE}, ps.length = fin.length → (maskV ps fin).length = fin.length
  | [], [], _ => rfl
  | [], _ :: _, h => by simp at h
  | _ :: _, [], h => by simp at h
  | m :: ps, x :: fin, h => by
    simp only [maskV, List.length_cons] at h ⊢
    rw [maskV_len (by omega)]
theorem maskV_some : ∀ {ps : List Md} {fin : VE} {i : Nat} {w : W}, (maskV ps fin)[i]? = some (some w) → fin[i]? = some (some w) ∧ ∃ m, ps[i]? = some m ∧ m ≠ .F
  | [], fin, i, w, h => by cases fin <;> simp [maskV] at h
  | m :: ps, [], i, w, h => by simp [maskV] at h
  | m :: ps, x :: fin, 0, w, h => by
    simp only [maskV, List.getElem?_cons_zero, Option.some.injEq] at h
    by_cases c : m = .F
    · subst c; simp at h
    · rw [if_neg (by simpa using c)] at h
      exact ⟨by simp [h], m, rfl, c⟩
  | m :: ps, x :: fin, i + 1, w, h => by
    simp only [maskV, List.getElem?_cons_succ] at h ⊢
    exact maskV_some h
section
variable {sg : Nat → Sg} {Φ : Fns} {Ψ : VFns} {r : FR} {m : Fm}
/-- behind a def: what was handed in -/
theorem EnvR.cut {M M' : Sto} {Z Z' : Zs} {ad ad' : Ad} {ds : List D} {ws : List W} {σ' : VE} {τ' : En} {k : Nat} (hp : m.ps.all isP = true) (hlo : m.lo.all isLo = true) (E0 : EnvR (mdL m.ps) M Z ad (ws.map some) (ds.map some)) (hw : ws.length = m.ps.length)
    (E : EnvR m.md M' Z' ad' (maskS m.md σ') τ') (hk : Keep m.md (ds.map some ++ List.replicate k none) τ') : (σ'.take m.ps.length).length = m.ps.length ∧ EnvR (mdL m.ps) M' Z' ad' (maskV m.ps (σ'.take m.ps.length)) (ds.map some) := by
  have hd : ds.length = ws.length := by have := E0.len; simpa using this.symm
  have hl : σ'.length = m.ps.length + k := by
    have h1 := E.len
    rw [maskS_len, hk.1] at h1
    simp only [List.length_append, List.length_map, List.length_replicate] at h1
    omega
  have ht : (σ'.take m.ps.length).length = m.ps.length := by rw [List.length_take]; omega
  have inn : ∀ i, i < m.ps.length → m.md i = mdL m.ps i := fun i hi => mdL_app hi
  have nO : ∀ i s, mdL m.ps i ≠ .O s := fun i s e => by
    cases q : m.ps[i]? with
    | none => rw [mdL_none q] at e; cases e
    | some x =>
      rw [mdL_get q] at e
      have := List.all_eq_true.mp hp x (List.mem_of_getElem? q)
      rw [e] at this; cases this
  have out : ∀ i, ¬ i < m.ps.length → ad' i = [] := fun i hi => E.no i fun w hw => by
    obtain ⟨_, h1, h2⟩ := maskS_get.mp hw
    rcases mdL_app2 (b := m.lo) hi hlo with z | ⟨s, z⟩
    · exact h1 z
    · exact h2 s z
  refine ⟨ht, ⟨by rw [maskV_len (by rw [ht]), ht, List.length_map]; omega, fun i w hw => ?_, fun i hi => ?_, fun i hi => ?_, fun i j hi hne n hn => ?_, fun i hi => ?_, E.lt, E.zl, fun i hi => ?_⟩⟩
  · obtain ⟨h1, x, h2, h3⟩ := maskV_some hw
    have hi : i < m.ps.length := (List.getElem?_eq_some_iff.mp h2).1
    rw [List.getElem?_take, if_pos hi] at h1
    have nf : m.md i ≠ .F := by rw [inn i hi, mdL_get h2]; exact h3
    have no : ∀ s, m.md i ≠ .O s := fun s => by rw [inn i hi]; exact nO i s
    obtain ⟨d, k1, k2⟩ := E.sl i w (maskS_get.mpr ⟨h1, nf, no⟩)
    rw [hk.2 i nf no, List.getElem?_append_left (by rw [List.length_map]; omega)] at k1
    rw [inn i hi] at k2
    exact ⟨d, k1, k2⟩
  · by_cases c : i < m.ps.length
    · refine E.no i fun w hw => ?_
      obtain ⟨h1, h2, h3⟩ := maskS_get.mp hw
      obtain ⟨x, hx⟩ : ∃ x, m.ps[i]? = some x := ⟨_, List.getElem?_eq_getElem c⟩
      refine hi w ?_
      rw [maskV_get hx (fun e => h2 (by rw [inn i c, mdL_get hx, e])) (by rw [ht]; exact c), List.getElem?_take, if_pos c]
      exact h1
    · exact out i c
  · by_cases c : i < m.ps.length
    · exact E.nd i (by rw [inn i c]; exact hi)
    · rw [out i c]; exact .nil
  · by_cases c : i < m.ps.length
    · exact E.dis i j (by rw [inn i c]; exact hi) hne n hn
    · rw [out i c] at hn; simp at hn
  · by_cases c : i < m.ps.length
    · exact E.nz i (by rw [inn i c]; exact hi)
    · rw [out i c]; simp
  · cases q : m.ps[i]? with
    | none => rw [mdL_none q] at hi; cases hi
    | some x =>
      have c : i < m.ps.length := (List.getElem?_eq_some_iff.mp q).1
      obtain ⟨w, hw⟩ := E.io i (by rw [inn i c]; exact hi)
      obtain ⟨h1, h2, h3⟩ := maskS_get.mp hw
      refine ⟨w, ?_⟩
      rw [maskV_get q (fun e => h2 (by rw [inn i c, mdL_get q, e])) (by rw [ht]; exact c), List.getElem?_take, if_pos c]
      exact h1
/-- a def's call -/
theorem fr_ok {n : Nat} (F : FOk ⟨m.md, sg⟩ Φ Ψ) (h : okF sg n r m = true) : FnOk m.sg (runFR Φ r) (runV Ψ r) := by
  simp only [okF, Bool.and_eq_true, beq_iff_eq] at h
  obtain ⟨⟨⟨⟨⟨h1, h2⟩, hp⟩, hlo⟩, hret⟩, hbody⟩ := h
  intro M Z ad ws ds hw E0
  have hw : ws.length = m.ps.length := hw
  have E0 : EnvR (mdL m.ps) M Z ad (ws.map some) (ds.map some) := E0
  have hd : ds.length = ws.length := by have := E0.len; simpa using this.symm
  have inn : ∀ i, i < m.ps.length → m.md i = mdL m.ps i := fun i hi => mdL_app hi
  have ad0 : ∀ i, ¬ i < m.ps.length → ad i = [] := fun i hi => E0.no i fun w hw' => by
    have := (List.getElem?_eq_some_iff.mp hw').1
    rw [List.length_map] at this
    omega
  -- the start
  have E : EnvR m.md M Z ad (ws.map some ++ List.replicate (r.ns - r.np) none) (ds.map some ++ List.replicate (r.ns - r.np) none) := by
    refine ⟨by simp [hd], fun i w hi => ?_, fun i hi => ?_, fun i hi => ?_, fun i j hi hne n hn => ?_, fun i hi => ?_, E0.lt, E0.zl, fun i hi => ?_⟩
    · by_cases c : i < ws.length
      · rw [List.getElem?_append_left (by rw [List.length_map]; exact c)] at hi
        obtain ⟨d, k1, k2⟩ := E0.sl i w hi
        refine ⟨d, by rw [List.getElem?_append_left (by rw [List.length_map]; omega)]; exact k1, ?_⟩
        rw [inn i (by omega)]; exact k2
      · rw [List.getElem?_append_right (by rw [List.length_map]; omega), List.getElem?_replicate] at hi
        split at hi <;> cases hi
    · by_cases c : i < ws.length
      · exact E0.no i fun w hw' => hi w (by rw [List.getElem?_append_left (by rw [List.length_map]; exact c)]; exact hw')
      · exact ad0 i (by omega)
    · by_cases c : i < m.ps.length
      · exact E0.nd i (by rw [← inn i c]; exact hi)
      · rw [ad0 i c]; exact .nil
    · by_cases c : i < m.ps.length
      · exact E0.dis i j (by rw [← inn i c]; exact hi) hne n hn
      · rw [ad0 i c] at hn; simp at hn
    · by_cases c : i < m.ps.length
      · exact E0.nz i (by rw [← inn i c]; exact hi)
      · rw [ad0 i c]; simp
    · by_cases c : i < m.ps.length
      · obtain ⟨w, hw'⟩ := E0.io i (by rw [← inn i c]; exact hi)
        exact ⟨w, by rw [List.getElem?_append_left (by rw [List.length_map]; omega)]; exact hw'⟩
      · rcases mdL_app2 (b := m.lo) c hlo with z | ⟨s, z⟩
        · rw [show m.md i = mdL (m.ps ++ m.lo) i from rfl, z] at hi; cases hi
        · rw [show m.md i = mdL (m.ps ++ m.lo) i from rfl, z] at hi; cases hi
  have toOwn : ∀ {M' : Sto} {Z' : Zs} {ad' : Ad}, Step (ownP m.md) M Z ad M' Z' ad' → (∀ i, ¬ i < m.ps.length → ad' i = []) → Step (ownL m.ps) M Z ad M' Z' ad' := fun S ho => by
    have up : ∀ j n, ownP m.md j → n ∈ ad j → ownL m.ps j := fun j n h hn => by
      by_cases c : j < m.ps.length
      · unfold ownL; rw [← inn j c]; exact h
      · rw [ad0 j c] at hn; simp at hn
    refine ⟨S.len, fun n hn hk => S.keep n hn fun j hj hm => hk j (up j n hj hm) hm, S.zm, fun n hn => ?_, fun i hi => ?_, fun i hi n hn => ?_⟩
    · rcases S.zn n hn with z | z | ⟨j, z1, z2⟩
      · exact .inl z
      · exact .inr (.inl z)
      · exact .inr (.inr ⟨j, up j n z1 z2, z2⟩)
    · by_cases c : i < m.ps.length
      · exact S.sm i fun z => hi (by unfold ownL; rw [← inn i c]; exact z)
      · rw [ho i c, ad0 i c]
    · by_cases c : i < m.ps.length
      · rcases S.an i (by unfold ownP; rw [inn i c]; exact hi) n hn with z | ⟨j, z1, z2⟩
        · exact .inl z
        · exact .inr ⟨j, up j n z1 z2, z2⟩
      · rw [ho i c] at hn; simp at hn
  have outs : ∀ {M' : Sto} {Z' : Zs} {ad' : Ad} {σ' : VE} {τ' : En}, EnvR m.md M' Z' ad' (maskS m.md σ') τ' → ∀ i, ¬ i < m.ps.length → ad' i = [] := fun {M' Z' ad' σ' τ'} E i hi => E.no i fun w hw => by
    obtain ⟨_, h1, h2⟩ := maskS_get.mp hw
    rcases mdL_app2 (b := m.lo) hi hlo with z | ⟨s, z⟩
    · exact h1 z
    · exact h2 s z
  have Q : ∀ σ', vSs Ψ r.body (ws.map some ++ List.replicate (r.ns - r.np) none) = .nx σ' → m.ret = .F := fun σ' hq => by
    have := hret.2
    simp only [Bool.or_eq_true, beq_iff_eq] at this
    rcases this with z | z
    · exact z
    · exact absurd hq (endsB_ok z)
  have B := oSs_ok (G := ⟨m.md, sg⟩) (ret := m.ret) F n r.body hbody M Z ad _ _ E
  have ea : ws.length = r.np := by omega
  have eb : ds.length = r.np := by omega
  unfold runV runFR
  rw [if_pos ea, if_pos eb]
  have rsh : m.sg.rs = m.ret.rs := by
    unfold Sg.rs Fm.sg Md.rs
    cases m.ret <;> rfl
  generalize vSs Ψ r.body (ws.map some ++ List.replicate (r.ns - r.np) none) = rr at B Q
  generalize denSs Φ r.body (ds.map some ++ List.replicate (r.ns - r.np) none) M = oo at B
  cases rr with
  | bad => trivial
  | bk σ' => trivial
  | ct σ' => trivial
  | nx σ' =>
    obtain ⟨τ', M', Z', ad', rfl, E', S', K'⟩ := B
    have Em := E'.mask (md := m.md) fun _ _ _ => rfl
    have Sm := S'.own.mask fun i hi => E.adF hi
    obtain ⟨c1, c2⟩ := EnvR.cut hp hlo E0 hw Em K'
    have : endV r.np (.nx σ') = .ok .non (σ'.take m.ps.length) := by rw [h1]; rfl
    rw [this]
    exact ⟨c1, _, M', Z', _, rfl, c2, toOwn Sm (outs Em), by
      rw [FreshR, rsh]
      rw [Q σ' rfl]
      exact ⟨[], ⟨rfl, .non⟩, .nil, by simp⟩⟩
  | exc x σ' =>
    obtain ⟨y, τ', M', Z', ad', rfl, E', S', K', X⟩ := B
    have Em := E'.mask (md := m.md) fun _ _ _ => rfl
    have Sm := S'.own.mask fun i hi => E.adF hi
    obtain ⟨c1, c2⟩ := EnvR.cut hp hlo E0 hw Em K'
    have : endV r.np (.exc x σ') = .exc x (σ'.take m.ps.length) := by rw [h1]; rfl
    rw [this]
    exact ⟨c1, _, M', Z', _, rfl, c2, toOwn Sm (outs Em), X⟩
  | rt w σ' =>
    obtain ⟨d, τ', M', Z', ad', rfl, E', S', K', as, r1, r2, r3⟩ := B
    obtain ⟨c1, c2⟩ := EnvR.cut hp hlo E0 hw E' K'
    have : endV r.np (.rt w σ') = .ok w (σ'.take m.ps.length) := by rw [h1]; rfl
    rw [this]
    refine ⟨c1, _, M', Z', _, rfl, c2, toOwn S' (outs E'), as, by rw [rsh]; exact r1, r2, fun n hn => ?_⟩
    obtain ⟨k1, k2, k3, k4⟩ := r3 n hn
    refine ⟨k1, k2, k3, k4.imp id fun ⟨j, z1, z2⟩ => ⟨j, ?_, z2⟩⟩
    by_cases c : j < m.ps.length
    · show (mdL m.ps j).own = true
      rw [← inn j c]; exact z1
    · rw [ad0 j c] at z2; simp at z2
end
/-! ### the table -/
/-- calls over values; some defs are told otherwise -/
def callO (fs : List FR) (ov : Nat → Option (Nat → List W → FW)) (io : Nat → List Bool) (con : List W) (fuel : Nat) : Nat → Nat → List W → FW
  | 0, _, _ => .bad
  | n + 1, k, args => match ov k with
    | some f => f n args
    | none => match fs[k]? with
      | some r => runV ⟨callO fs ov io con fuel n, con, fuel, io⟩ r args
      | none => .bad
def sgOf (ms : List Fm) (k : Nat) : Sg := (ms.getD k ⟨[], [], .F⟩).sg
def ioOf (ms : List Fm) (k : Nat) : List Bool := (sgOf ms k).io
def okTab (ms : List Fm) (n : Nat) : List FR → List Bool → List Fm → Bool
  | r :: fs, b :: bs, m :: ts => (b || okF (sgOf ms) n r m) && okTab ms n fs bs ts
  | [], [], [] => true
  | _, _, _ => false
theorem okTab_get {ms : List Fm} {n : Nat} : ∀ {fs : List FR} {bs : List Bool} {ts : List Fm}, okTab ms n fs bs ts = true → ∀ {k : Nat} {r : FR}, fs[k]? = some r → bs[k]? = some false → ∃ m, ts[k]? = some m ∧ okF (sgOf ms) n r m = true
  | r :: fs, b :: bs, m :: ts, h, 0, r', h1, h2 => by
    simp only [okTab, Bool.and_eq_true] at h
    simp at h1 h2
    subst h1 h2
    exact ⟨m, rfl, by simpa using h.1⟩
  | r :: fs, b :: bs, m :: ts, h, k + 1, r', h1, h2 => by
    simp only [okTab, Bool.and_eq_true] at h
    obtain ⟨m', h3, h4⟩ := okTab_get h.2 (k := k) (by simpa using h1) (by simpa using h2)
    exact ⟨m', by simpa using h3, h4⟩
  | [], [], [], _, k, r', h1, _ => by simp at h1
theorem okTab_len {ms : List Fm} {n : Nat} : ∀ {fs : List FR} {bs : List Bool} {ts : List Fm}, okTab ms n fs bs ts = true → bs.length = fs.length
  | r :: fs, b :: bs, m :: ts, h => by
    simp only [okTab, Bool.and_eq_true] at h
    simp [okTab_len h.2]
  | [], [], [], _ => rfl
structure TabOk (fs : List FR) (ms : List Fm) (ov : Nat → Option (Nat → List W → FW)) (con : List D) (conW : List W) (fuel ck : Nat) (bs : List Bool) : Prop where
  tab : okTab ms ck fs bs ms = true
  bs : ∀ k : Nat, ov k = none → bs[k]? ≠ some true
  cn : ∀ (j : Nat) (w : W), conW[j]? = some w → ∃ d, con[j]? = some d ∧ ∀ M Z, FZ M Z d w
  ov : ∀ k f, ov k = some f → ∀ n, FnOk (sgOf ms k) (callN fs con fuel (n + 1) k) (f n)
theorem tab_ok {fs : List FR} {ms : List Fm} {ov : Nat → Option (Nat → List W → FW)} {con : List D} {conW : List W} {fuel ck : Nat} {bs : List Bool} (T : TabOk fs ms ov con conW fuel ck bs) : ∀ n k, FnOk (sgOf ms k) (callN fs con fuel n k) (callO fs ov (ioOf ms) conW fuel n k)
  | 0, k => fun M Z ad ws ds _ _ => trivial
  | n + 1, k => by
    have ih := tab_ok T n
    cases q : ov k with
    | some f =>
      have := T.ov k f q n
      have e : callO fs ov (ioOf ms) conW fuel (n + 1) k = f n := by funext args; simp only [callO, q]
      rw [e]; exact this
    | none =>
      cases qr : fs[k]? with
      | none =>
        have e : callO fs ov (ioOf ms) conW fuel (n + 1) k = fun _ => .bad := by funext args; simp only [callO, q, qr]
        rw [e]; exact fun M Z ad ws ds _ _ => trivial
      | some r =>
        have hb : bs[k]? = some false := by
          have hl := okTab_len T.tab
          have hk := (List.getElem?_eq_some_iff.mp qr).1
          obtain ⟨b, hb⟩ : ∃ b, bs[k]? = some b := ⟨_, List.getElem?_eq_getElem (by omega)⟩
          cases b with
          | false => exact hb
          | true => exact absurd hb (T.bs k q)
        obtain ⟨m, h1, h2⟩ := okTab_get T.tab qr hb
        have e1 : callO fs ov (ioOf ms) conW fuel (n + 1) k = runV ⟨callO fs ov (ioOf ms) conW fuel n, conW, fuel, ioOf ms⟩ r := by funext args; simp only [callO, q, qr]
        have e2 : callN fs con fuel (n + 1) k = runFR ⟨callN fs con fuel n, con, fuel⟩ r := by funext args M; simp only [callN, qr]
        have e3 : sgOf ms k = m.sg := by unfold sgOf; rw [List.getD_eq_getElem?_getD, h1]; rfl
        rw [e1, e2, e3]
        exact fr_ok (sg := sgOf ms) ⟨ih, T.cn, rfl, fun k => rfl⟩ h2


theorem law_of {fs : List FR} {ms : List Fm} {ov : Nat → Option (Nat → List W → FW)} {con : List D} {conW : List W} {fuel ck : Nat} {bs : List Bool} (T : TabOk fs ms ov con conW fuel ck bs) {n k : Nat} {lo : List Md} (hk : ms[k]? = some ⟨[.K], lo, .F⟩)
    (h : ∀ ns : List Int, ns.length ≤ 63 → ∃ ps, callO fs ov (ioOf ms) conW fuel n k [.lst (ns.map .int)] = .ok (.bl true) ps) : ∀ (ns : List Int) (d : D) (M : Sto), ns.length ≤ 63 → IsScr ns d M → ∃ M', callN fs con fuel n k [d] M = .ok (.bl true) M' := fun ns d M hl hs => by
  have e3 : sgOf ms k = ⟨[.K], .F⟩ := by unfold sgOf; rw [List.getD_eq_getElem?_getD, hk]; rfl
  have F := tab_ok T n k
  rw [e3] at F
  obtain ⟨ps, h⟩ := h ns hl
  have go : ∀ (Z : Zs), KR M Z d (.lst (ns.map .int)) → (∀ n, Z n → n < M.length) → ∃ M', callN fs con fuel n k [d] M = .ok (.bl true) M' := fun Z hk hz => by
    have := F M Z (fun _ => []) [.lst (ns.map .int)] [d] rfl ⟨rfl, fun i w hw => by
      cases i with
      | zero => simp at hw; subst hw; exact ⟨d, rfl, rfl, hk⟩
      | succ i => simp at hw, fun _ _ => rfl, fun _ _ => .nil, fun i j _ _ n hn => by simp at hn, fun i _ n hn => by simp at hn, fun i n hn => by simp at hn, hz, fun i hi => by
      cases i with
      | zero => exact ⟨_, rfl⟩
      | succ i => cases hi⟩
    rw [h] at this
    obtain ⟨_, d', M', Z', ad', h1, _, _, as, r, _⟩ := this
    have : d' = .bl true := by
      have r : RV M' Z' .fr as d' (.bl true) := r
      exact r.2.bl'
    subst this
    exact ⟨M', h1⟩
  rcases hs with ⟨rfl, rfl⟩ | ⟨rfl, rfl⟩ | ⟨rfl, rfl⟩
  · exact go (fun n => n = 0) ⟨ns, rfl, .inr ⟨0, rfl, rfl, .inl rfl⟩⟩ fun n h => by subst h; simp
  · exact go (fun n => n = 0) ⟨ns, rfl, .inr ⟨0, rfl, rfl, .inr rfl⟩⟩ fun n h => by subst h; simp
  · exact go (fun _ => False) ⟨ns, rfl, .inl rfl⟩ fun n h => h.elim
end PyL

/-! V: reckoning over values. -/
namespace PyL
open PySem
/-! ### calls -/
@[simp] theorem wIo_nil (es : Es) (ps σ : VE) : wIo [] es ps σ = some σ := by rw [wIo]
@[simp] theorem wIo_f (bs : List Bool) (e : E) (es : Es) (ps σ : VE) : wIo (false :: bs) (.cons e es) ps σ = wIo bs es ps.tail σ := by rw [wIo]
@[simp] theorem wIo_t (bs : List Bool) (j : Nat) (es : Es) (w : W) (ps σ : VE) : wIo (true :: bs) (.cons (.var j) es) (some w :: ps) σ = wIo bs es ps (σ.set j (some w)) := by rw [wIo]; rfl
@[simp] theorem wLate_nil (σ : VE) : wLate [] .nil [] σ = some [] := rfl
@[simp] theorem wLate_f (bs : List Bool) (e : E) (es : Es) (d : W) (ds : List W) (σ : VE) : wLate (false :: bs) (.cons e es) (d :: ds) σ = (wLate bs es ds σ).map (d :: ·) := by rw [wLate]
@[simp] theorem wLate_t (bs : List Bool) (j : Nat) (es : Es) (d : W) (ds : List W) (σ : VE) : wLate (true :: bs) (.cons (.var j) es) (d :: ds) σ = match σ[j]? with
    | some (some w) => (wLate bs es ds σ).map (w :: ·)
    | _ => none := by rw [wLate]; all_goals rfl
@[simp] theorem back_ok (w : W) (ps : VE) (bs : List Bool) (es : Es) (σ : VE) : (FW.ok w ps).back bs es σ = match wIo bs es ps σ with
    | some σ' => .ok w σ'
    | none => .bad := rfl
@[simp] theorem back_exc (w : XW) (ps : VE) (bs : List Bool) (es : Es) (σ : VE) : (FW.exc w ps).back bs es σ = match wIo bs es ps σ with
    | some σ' => .exc w σ'
    | none => .bad := rfl
@[simp] theorem endV_nx (np : Nat) (σ : VE) : endV np (.nx σ) = .ok .non (σ.take np) := rfl
@[simp] theorem endV_rt (np : Nat) (d : W) (σ : VE) : endV np (.rt d σ) = .ok d (σ.take np) := rfl
@[simp] theorem endV_exc (np : Nat) (x : XW) (σ : VE) : endV np (.exc x σ) = .exc x (σ.take np) := rfl
theorem callO_eq {fs : List FR} {ov : Nat → Option (Nat → List W → FW)} {io : Nat → List Bool} {con : List W} {fuel n k : Nat} {args : List W} {r : FR} (ho : ov k = none) (h : fs[k]? = some r) (ha : args.length = r.np) :
    callO fs ov io con fuel (n + 1) k args = endV r.np (vSs ⟨callO fs ov io con fuel n, con, fuel, io⟩ r.body (args.map some ++ List.replicate (r.ns - r.np) none)) := by
  simp only [callO, ho, h, runV, if_pos ha]
/-- ends well with this -/
def Gives (o : FW) (v : W) : Prop := ∃ ps, o = .ok v ps
@[simp] theorem gives_ok (w v : W) (ps : VE) : Gives (.ok w ps) v ↔ w = v := ⟨fun ⟨_, h⟩ => (FW.ok.inj h).1, fun h => ⟨ps, by rw [h]⟩⟩
@[simp] theorem gives_exc (x : XW) (v : W) (ps : VE) : Gives (.exc x ps) v ↔ False := by
  constructor
  · rintro ⟨_, h⟩; cases h
  · exact False.elim
@[simp] theorem gives_bad (v : W) : Gives .bad v ↔ False := by
  constructor
  · rintro ⟨_, h⟩; cases h
  · exact False.elim
@[simp] theorem Dw_non : D.w .non = some .non := rfl
@[simp] theorem Dw_bl (b : Bool) : D.w (.bl b) = some (.bl b) := rfl
@[simp] theorem Dw_int (i : Int) : D.w (.int i) = some (.int i) := rfl
@[simp] theorem Dw_str (z : Str) : D.w (.str z) = some (.str z) := rfl
@[simp] theorem Dw_tup (xs : List D) : D.w (.tup xs) = (D.wL xs).map .tup := by rw [D.w]
@[simp] theorem DwL_nil : D.wL [] = some [] := rfl
@[simp] theorem DwL_cons (x : D) (xs : List D) : D.wL (x :: xs) = match x.w, D.wL xs with
    | some w, some ws => some (w :: ws)
    | _, _ => none := by rw [D.wL]; all_goals rfl
/-! ### slots -/
@[simp] theorem wTg_name (i : Nat) (d : W) (σ : VE) : wTg (.name i) d σ = some (σ.set i (some d)) := rfl
@[simp] theorem wTg_tup (is : List Nat) (ds : List W) (σ : VE) : wTg (.tup is) (.tup ds) σ = wMany is ds σ := rfl
@[simp] theorem wMany_nil (σ : VE) : wMany [] [] σ = some σ := rfl
@[simp] theorem wMany_cons (i : Nat) (is : List Nat) (d : W) (ds : List W) (σ : VE) : wMany (i :: is) (d :: ds) σ = wMany is ds (σ.set i (some d)) := rfl
@[simp] theorem wWipe_nil (σ : VE) : wWipe σ [] = σ := rfl
@[simp] theorem wWipe_cons (σ : VE) (i : Nat) (is : List Nat) : wWipe σ (i :: is) = (wWipe σ is).set i none := rfl
@[simp] theorem wBack_nil (σ0 σ : VE) : wBack σ0 [] σ = σ := rfl
@[simp] theorem wBack_cons (σ0 σ : VE) (i : Nat) (is : List Nat) : wBack σ0 (i :: is) σ = (wBack σ0 is σ).set i (σ0[i]?.join) := rfl
/-! ### primitives -/
@[simp] theorem v_neg (i : Int) : P1.v .neg (.int i) = some (.int (-i)) := rfl
@[simp] theorem v_add_int (i j : Int) : P2.v .add (.int i) (.int j) = some (.int (i + j)) := rfl
@[simp] theorem v_sub_int (i j : Int) : P2.v .sub (.int i) (.int j) = some (.int (i - j)) := rfl
theorem v_add_str {x y : Str} (h : x.length + y.length ≤ sizeLine) : P2.v .add (.str x) (.str y) = some (.str (x ++ y)) := by simp only [P2.v, vAdd]; rw [if_pos h]
theorem v_add_tup {x y : List W} (h : x.length + y.length ≤ sizeLine) : P2.v .add (.tup x) (.tup y) = some (.tup (x ++ y)) := by simp only [P2.v, vAdd]; rw [if_pos h]
theorem v_add_lst {x y : List W} (h : x.length + y.length ≤ sizeLine) : P2.v .add (.lst x) (.lst y) = some (.lst (x ++ y)) := by simp only [P2.v, vAdd]; rw [if_pos h]
theorem v_mul_l {i j : Int} (h : i.natAbs < 2 ^ 64) : P2.v .mul (.int i) (.int j) = some (.int (i * j)) := by simp only [P2.v, vMul]; rw [if_pos (.inl h)]
theorem v_mul_r {i j : Int} (h : j.natAbs < 2 ^ 64) : P2.v .mul (.int i) (.int j) = some (.int (i * j)) := by simp only [P2.v, vMul]; rw [if_pos (.inr h)]
theorem v_mul_tup {x : List W} {j : Int} (h : -(2 ^ 60) < j ∧ j ≤ 1000 ∧ x.length ≤ 1000) : P2.v .mul (.tup x) (.int j) = some (.tup (List.replicate j.toNat x).flatten) := by simp only [P2.v, vMul]; rw [if_pos h]
theorem v_mul_lst {x : List W} {j : Int} (h : -(2 ^ 60) < j ∧ j < 2 ^ 60 ∧ x.length * j.toNat ≤ sizeLine) : P2.v .mul (.lst x) (.int j) = some (.lst (List.replicate j.toNat x).flatten) := by simp only [P2.v, vMul]; rw [if_pos h]
theorem v_div {i j : Int} (h : j ≠ 0) (h2 : j.natAbs < 1073741824) : P2.v .fdiv (.int i) (.int j) = some (.int (i.fdiv j)) := by simp only [P2.v, vDiv]; rw [if_pos ⟨h, h2⟩]
theorem v_mod {i j : Int} (h : j ≠ 0) : P2.v .mod (.int i) (.int j) = some (.int (i.fmod j)) := by simp only [P2.v, vMod]; rw [if_pos h]
theorem v_pow {i j : Int} (h : 0 ≤ j) (h1 : j ≤ 1000000) (h2 : i.natAbs < 2 ^ 64) : P2.v .pow (.int i) (.int j) = some (.int (i ^ j.toNat)) := by simp only [P2.v, vPow]; rw [if_pos ⟨h, h1, h2⟩]
@[simp] theorem v_lt (i j : Int) : P2.v .lt (.int i) (.int j) = some (.bl (decide (i < j))) := rfl
@[simp] theorem v_le (i j : Int) : P2.v .le (.int i) (.int j) = some (.bl (decide (i ≤ j))) := rfl
@[simp] theorem v_gt (i j : Int) : P2.v .gt (.int i) (.int j) = some (.bl (decide (j < i))) := rfl
@[simp] theorem v_ge (i j : Int) : P2.v .ge (.int i) (.int j) = some (.bl (decide (j ≤ i))) := rfl
@[simp] theorem iv_add (i j : Int) : P2.iv .add (.int i) (.int j) = some (.int (i + j)) := rfl
@[simp] theorem iv_sub (i j : Int) : P2.iv .sub (.int i) (.int j) = some (.int (i - j)) := rfl
@[simp] theorem v_eq_int (i j : Int) : P2.v .eq (.int i) (.int j) = some (.bl (decide (i = j))) := by
  have := den_eq_int (M := []) i j
  have h : P2.den .eq (.int i) (.int j) [] = .ok (.bl (PyData.eqv (.int i) (.int j))) [] := rfl
  rw [h] at this
  have := D.bl.inj (Out.ok.inj this).1
  show some (W.bl (PyData.eqv (.int i) (.int j))) = _
  rw [this]
@[simp] theorem v_ne_int (i j : Int) : P2.v .ne (.int i) (.int j) = some (.bl (!decide (i = j))) := by
  have := v_eq_int i j
  have h : P2.v .eq (.int i) (.int j) = some (.bl (PyData.eqv (.int i) (.int j))) := rfl
  rw [h] at this
  have := W.bl.inj (Option.some.inj this)
  show some (W.bl (!PyData.eqv (.int i) (.int j))) = _
  rw [this]
theorem v_eq_str {x y : Str} (hx : PyData.strOk x = true) (hy : PyData.strOk y = true) : P2.v .eq (.str x) (.str y) = some (.bl (decide (x = y))) := by
  have := den_eq_str (M := []) hx hy
  have o : ordOk [] (.str x) (.str y) = true := ord_str hx hy
  have h : P2.den .eq (.str x) (.str y) [] = .ok (.bl (PyData.eqv (.str x) (.str y))) [] := by
    show dEq _ _ _ = _
    unfold dEq; rw [if_pos o]; rfl
  rw [h] at this
  have := D.bl.inj (Out.ok.inj this).1
  have o' : W.ord (.str x) (.str y) = true := o
  simp only [P2.v, vEq]
  rw [if_pos o']
  show some (W.bl (PyData.eqv (.str x) (.str y))) = _
  rw [this]
theorem v_ne_str {x y : Str} (hx : PyData.strOk x = true) (hy : PyData.strOk y = true) : P2.v .ne (.str x) (.str y) = some (.bl (!decide (x = y))) := by
  have := v_eq_str hx hy
  have o' : W.ord (.str x) (.str y) = true := ord_str (M := []) hx hy
  simp only [P2.v, vEq] at this
  rw [if_pos o'] at this
  have := W.bl.inj (Option.some.inj this)
  simp only [P2.v, vNe]
  rw [if_pos o', this]
@[simp] theorem v_is_non_non : P2.v .is .non .non = some (.bl true) := rfl
@[simp] theorem v_is_lst_non (x : List W) : P2.v .is (.lst x) .non = some (.bl false) := rfl
@[simp] theorem v_is_tup_non (x : List W) : P2.v .is (.tup x) .non = some (.bl false) := rfl
@[simp] theorem v_is_int_non (x : Int) : P2.v .is (.int x) .non = some (.bl false) := rfl
@[simp] theorem v_is_str_non (x : Str) : P2.v .is (.str x) .non = some (.bl false) := rfl
@[simp] theorem v_is_bl_non (x : Bool) : P2.v .is (.bl x) .non = some (.bl false) := rfl
@[simp] theorem v_isnot_non_non : P2.v .isnot .non .non = some (.bl false) := rfl
@[simp] theorem v_isnot_lst_non (x : List W) : P2.v .isnot (.lst x) .non = some (.bl true) := rfl
@[simp] theorem v_isnot_tup_non (x : List W) : P2.v .isnot (.tup x) .non = some (.bl true) := rfl
@[simp] theorem v_isnot_int_non (x : Int) : P2.v .isnot (.int x) .non = some (.bl true) := rfl
@[simp] theorem v_isnot_str_non (x : Str) : P2.v .isnot (.str x) .non = some (.bl true) := rfl
@[simp] theorem v_isnot_bl_non (x : Bool) : P2.v .isnot (.bl x) .non = some (.bl true) := rfl
@[simp] theorem v_is_bl (a b : Bool) : P2.v .is (.bl a) (.bl b) = some (.bl (a == b)) := by cases a <;> cases b <;> rfl
@[simp] theorem v_isnot_bl (a b : Bool) : P2.v .isnot (.bl a) (.bl b) = some (.bl (!(a == b))) := by cases a <;> cases b <;> rfl
@[simp] theorem v_is_non_bl (b : Bool) : P2.v .is .non (.bl b) = some (.bl false) := rfl
@[simp] theorem v_isnot_non_bl (b : Bool) : P2.v .isnot .non (.bl b) = some (.bl true) := rfl
theorem v_isin_sub (x y : Str) : P2.v .isin (.str x) (.str y) = some (.bl (!(Builtin.Str.occurrences y x 0 y.length 1).isEmpty)) := by
  show vIn false _ _ = _
  unfold vIn W.isin
  simp
theorem v_notin_sub (x y : Str) : P2.v .notin (.str x) (.str y) = some (.bl (Builtin.Str.occurrences y x 0 y.length 1).isEmpty) := by
  show vIn true _ _ = _
  unfold vIn W.isin
  simp
theorem eqv_strB (x y : Str) : PyData.eqv (.str x) (.str y) = decide (x = y) := by
  by_cases hx : PyData.strOk x = true
  · by_cases hy : PyData.strOk y = true
    · have := v_eq_str hx hy
      have o' : W.ord (.str x) (.str y) = true := ord_str (M := []) hx hy
      simp only [P2.v, vEq] at this
      rw [if_pos o'] at this
      exact W.bl.inj (Option.some.inj this)
    · rw [PyData.eqv]; exact beqD x y
  · rw [PyData.eqv]; exact beqD x y
/-- one of written texts -/
theorem v_isin_strs (z : Str) (zs : List Str) : P2.v .isin (.str z) (.tup (zs.map W.str)) = some (.bl (zs.any (· == z))) := by
  show vIn false _ _ = _
  unfold vIn W.isin
  have h1 : (zs.map W.str).all W.flat = true := by
    rw [List.all_eq_true]; intro x hx; obtain ⟨y, _, rfl⟩ := List.mem_map.mp hx; rfl
  have h2 : ((zs.map W.str).any fun x => PyData.eqv x.data (W.str z).data) = zs.any (· == z) := by
    rw [List.any_map]
    congr 1
  simp only [W.items, W.flat, h1, Bool.and_self, if_true, h2, Option.map_some]
  try simp
/-! ### lengths, items -/
@[simp] theorem len_lst' (xs : List W) : W.len (.lst xs) = some xs.length := rfl
@[simp] theorem len_tup' (xs : List W) : W.len (.tup xs) = some xs.length := rfl
theorem len_str' {z : Str} (h : z.length ≤ sizeLine) : W.len (.str z) = some z.length := by simp only [W.len]; rw [if_pos h]
@[simp] theorem bi_len (w : W) : Bi.v .len [w] = w.len.map fun n => .int (n : Nat) := rfl
@[simp] theorem bi_int (i : Int) : Bi.v .int [.int i] = some (.int i) := rfl
@[simp] theorem bi_int_b (b : Bool) : Bi.v .int [.bl b] = some (.int (if b then 1 else 0)) := rfl
@[simp] theorem bi_abs (i : Int) : Bi.v .abs [.int i] = some (.int (if i < 0 then -i else i)) := rfl
@[simp] theorem bi_max (i j : Int) : Bi.v .max2 [.int i, .int j] = some (.int (if j > i then j else i)) := rfl
@[simp] theorem bi_min (i j : Int) : Bi.v .min2 [.int i, .int j] = some (.int (if j < i then j else i)) := rfl
@[simp] theorem bi_repr_b (b : Bool) : Bi.v .repr [.bl b] = some (.str (if b then "True" else "False")) := rfl
@[simp] theorem blv_tuple (xs : List W) : BL.v .tuple xs = some (.tup xs) := rfl
@[simp] theorem blv_list (xs : List W) : BL.v .list xs = some (.lst xs) := rfl
@[simp] theorem blv_len (xs : List W) : BL.v .len xs = some (.int xs.length) := rfl
theorem wBl_map {α : Type} (f : α → Bool) (xs : List α) : wBl (xs.map (W.bl ∘ f)) = some (xs.map f) := by
  induction xs with
  | nil => rfl
  | cons x xs ih => simp [wBl, ih]
theorem blv_all {α : Type} (f : α → Bool) (xs : List α) : BL.v .all (xs.map (W.bl ∘ f)) = some (.bl (xs.all f)) := by
  simp only [BL.v, wBl_map, Option.map_some, List.all_map]
  rfl
theorem blv_all' (bs : List Bool) : BL.v .all (bs.map W.bl) = some (.bl (bs.all id)) := by
  have := wBl_map (fun b : Bool => b) bs
  simp only [Function.comp_def, List.map_id'] at this
  simp only [BL.v, this, Option.map_some]
@[simp] theorem items_tup' (xs : List W) : W.items (.tup xs) = some xs := rfl
@[simp] theorem items_lst' (xs : List W) : W.items (.lst xs) = some xs := rfl
@[simp] theorem iter_tup' (xs : List W) : W.iter (.tup xs) = some xs := rfl
@[simp] theorem iter_lst' (xs : List W) : W.iter (.lst xs) = some xs := rfl
@[simp] theorem iter_str' (z : Str) : W.iter (.str z) = some (z.cps.toList.map fun c => .str ⟨#[c]⟩) := rfl
@[simp] theorem truth_non' : W.truth .non = some false := rfl
@[simp] theorem truth_bl' (b : Bool) : W.truth (.bl b) = some b := rfl
@[simp] theorem truth_int' (i : Int) : W.truth (.int i) = some (i != 0) := rfl
@[simp] theorem truth_tup' (xs : List W) : W.truth (.tup xs) = some (!xs.isEmpty) := rfl
@[simp] theorem truth_lst' (xs : List W) : W.truth (.lst xs) = some (!xs.isEmpty) := rfl
@[simp] theorem rev_lst' (xs : List W) : W.rev (.lst xs) = some (.lst xs.reverse) := rfl
@[simp] theorem sl_lst' (xs : List W) (lo hi : Option Int) : W.sl (.lst xs) lo hi = some (.lst (cutW xs lo hi)) := rfl
@[simp] theorem sl_tup' (xs : List W) (lo hi : Option Int) : W.sl (.tup xs) lo hi = some (.tup (cutW xs lo hi)) := rfl
theorem cutW_from (xs : List W) (k : Nat) : cutW xs (some (k : Int)) none = xs.drop k := by
  unfold cutW
  rw [HT.sIx_nat, HT.sIx_none]
  by_cases h : k ≤ xs.length
  · rw [Nat.min_eq_left h, List.take_of_length_le (by simp)]
  · rw [Nat.min_eq_right (by omega), List.drop_eq_nil_of_le (Nat.le_refl _), List.drop_eq_nil_of_le (by omega)]; simp
theorem cutW_to (xs : List W) (k : Nat) : cutW xs none (some (k : Int)) = xs.take k := by
  unfold cutW
  rw [HT.sIx_nat, HT.sIx_none, Nat.sub_zero, List.drop_zero]
  by_cases h : k ≤ xs.length
  · rw [Nat.min_eq_left h]
  · rw [Nat.min_eq_right (by omega), List.take_of_length_le (Nat.le_refl _), List.take_of_length_le (by omega)]
theorem cutW_mid (xs : List W) (a b : Nat) : cutW xs (some (a : Int)) (some (b : Int)) = (xs.take b).drop a := by
  unfold cutW
  rw [HT.sIx_nat, HT.sIx_nat, List.drop_take]
  by_cases h : b ≤ xs.length
  · rw [Nat.min_eq_left h]
    by_cases h2 : a ≤ xs.length
    · rw [Nat.min_eq_left h2]
    · rw [Nat.min_eq_right (by omega), List.drop_eq_nil_of_le (Nat.le_refl _), List.drop_eq_nil_of_le (show xs.length ≤ a by omega)]; simp
  · rw [Nat.min_eq_right (show xs.length ≤ b by omega)]
    by_cases h2 : a ≤ xs.length
    · rw [Nat.min_eq_left h2, List.take_of_length_le (by simp), List.take_of_length_le (by simp; omega)]
    · rw [Nat.min_eq_right (by omega), List.drop_eq_nil_of_le (Nat.le_refl _), List.drop_eq_nil_of_le (show xs.length ≤ a by omega)]; simp
@[simp] theorem ix_tup' (xs : List W) (i : Int) : W.ix (.tup xs) (.int i) = L2.atI xs i := rfl
@[simp] theorem ix_lst' (xs : List W) (i : Int) : W.ix (.lst xs) (.int i) = L2.atI xs i := rfl
theorem ix_str' {z : Str} (h : z.length ≤ sizeLine) (i : Int) : W.ix (.str z) (.int i) = (L2.atI z.cps.toList i).map fun c => .str ⟨#[c]⟩ := by
  simp only [W.ix]; rw [if_pos h]
theorem atI_cast {α : Type} (xs : List α) (i : Nat) : L2.atI xs (i : Int) = xs[i]? := by
  unfold L2.atI L2.ixN
  rw [if_pos (by omega)]
  by_cases h : i < xs.length
  · rw [if_pos (by omega)]; simp
  · rw [if_neg (by omega)]; simp; omega
@[simp] theorem atI_0 {α : Type} (xs : List α) : L2.atI xs 0 = xs[0]? := atI_cast xs 0
@[simp] theorem atI_1 {α : Type} (xs : List α) : L2.atI xs 1 = xs[1]? := atI_cast xs 1
@[simp] theorem atI_lit {α : Type} (xs : List α) (n : Nat) : L2.atI xs (no_index (OfNat.ofNat (n + 2)) : Int) = xs[n + 2]? := atI_cast xs (n + 2)
@[simp] theorem atI_castS {α : Type} (xs : List α) (i : Nat) : L2.atI xs (i : Int) = xs[i]? := atI_cast xs i
@[simp] theorem atI_m1 {α : Type} (xs : List α) : L2.atI xs (-1) = xs.getLast? := by
  unfold L2.atI L2.ixN
  rw [if_neg (by decide)]
  cases h : xs with
  | nil => simp
  | cons x ys =>
    rw [if_pos (by simp; omega), List.getLast?_eq_getElem?]
    have : ((-1 : Int) + ((x :: ys).length : Nat)).toNat = (x :: ys).length - 1 := by simp; omega
    rw [this]; rfl
theorem ixN_cast {n i : Nat} (h : i < n) : L2.ixN n (i : Int) = some i := by
  unfold L2.ixN
  rw [if_pos (by omega), if_pos (by omega)]
  simp
/-! ### places -/
@[simp] theorem tyIs_int (i : Int) (t : Ty) : W.tyIs (.int i) t = some (t == .int) := rfl
theorem tysIs_1 {w : W} {t : Ty} : w.tysIs [t] = w.tyIs t := by
  unfold W.tysIs
  cases h : w.tyIs t with
  | none => rfl
  | some b => cases b <;> rfl
@[simp] theorem tysIs_one {w : W} {t : Ty} : w.tysIs [t] = w.tyIs t := tysIs_1
@[simp] theorem ty_non (t : Ty) : W.tyIs .non t = some (t == .none) := rfl
@[simp] theorem ty_bl (b : Bool) (t : Ty) : W.tyIs (.bl b) t = some (t == .bool || t == .int) := rfl
@[simp] theorem ty_str (z : Str) (t : Ty) : W.tyIs (.str z) t = some (t == .str) := rfl
@[simp] theorem ty_tup (xs : List W) (t : Ty) : W.tyIs (.tup xs) t = some (t == .tuple) := rfl
@[simp] theorem ty_lst (xs : List W) (t : Ty) : W.tyIs (.lst xs) t = some (t == .list) := rfl
@[simp] theorem ty_dct (b : Bool) (ks vs : List W) (t : Ty) : W.tyIs (.dct b ks vs) t = some (t == .dict) := rfl
@[simp] theorem ty_ins (c : Nat) (ns : List Str) (vs : List W) (t : Ty) : W.tyIs (.ins c ns vs) t = some (t == .own c) := rfl
theorem upd_app {xs : List W} {d : W} (h : xs.length < sizeLine) : mApp d (.lst xs) = some (.lst (xs ++ [d]), .non) := by simp only [mApp]; rw [if_pos h]
theorem upd_ext {xs ys : List W} (h : xs.length + ys.length ≤ sizeLine) : mExt ys (.lst xs) = some (.lst (xs ++ ys), .non) := by simp only [mExt]; rw [if_pos h]
@[simp] theorem upd_pop (xs : List W) (d : W) : mPp (.lst (xs ++ [d])) = some (.lst xs, d) := by simp [mPp]
@[simp] theorem meF_app (d : W) : meF .append [d] = mApp d := rfl
@[simp] theorem meF_pop : meF .pop [] = mPp := rfl
theorem upd_set {xs : List W} {i : Nat} {v : W} (h : i < xs.length) : mSet (.int (i : Int)) v (.lst xs) = some (.lst (xs.set i v), .non) := by simp only [mSet, ixN_cast h]
theorem upd_set0 {x : W} {xs : List W} {v : W} : mSet (.int 0) v (.lst (x :: xs)) = some (.lst (v :: xs), .non) := upd_set (i := 0) (by simp)
theorem upd_set1 {x y : W} {xs : List W} {v : W} : mSet (.int 1) v (.lst (x :: y :: xs)) = some (.lst (x :: v :: xs), .non) := upd_set (i := 1) (by simp)
theorem upd_set2 {x y z : W} {xs : List W} {v : W} : mSet (.int 2) v (.lst (x :: y :: z :: xs)) = some (.lst (x :: y :: v :: xs), .non) := upd_set (i := 2) (by simp)
theorem upd_set3 {x y z u : W} {xs : List W} {v : W} : mSet (.int 3) v (.lst (x :: y :: z :: u :: xs)) = some (.lst (x :: y :: z :: v :: xs), .non) := upd_set (i := 3) (by simp)
theorem upd_set4 {x y z u t : W} {xs : List W} {v : W} : mSet (.int 4) v (.lst (x :: y :: z :: u :: t :: xs)) = some (.lst (x :: y :: z :: u :: v :: xs), .non) := upd_set (i := 4) (by simp)
theorem updAt_nil (j : Nat) (f : W → Option (W × W)) (σ : VE) : updAt j [] f σ = match σ[j]? with
  | some (some w) => (match f w with
    | some (w', r) => .ok r (σ.set j (some w'))
    | none => .bad)
  | _ => .bad := by
  unfold updAt
  cases σ[j]? with
  | none => rfl
  | some o => cases o with
    | none => rfl
    | some w => simp only [List.reverse_nil, W.upd]; all_goals rfl
theorem rangeW_len (lo c : Int) (n : Nat) : (rangeW lo c n).length = n := by simp [rangeW]
@[simp] theorem enumV_nil (i : Nat) : enumV i [] = [] := rfl
theorem enumV_len : ∀ (i : Nat) (xs : List W), (enumV i xs).length = xs.length
  | _, [] => rfl
  | i, x :: xs => by rw [enumV, List.length_cons, List.length_cons, enumV_len]
/-! ### loops -/
theorem lcV_map {f : W → VE → R (Option W)} (g : W → W) {σ : VE} : ∀ {xs acc : List W}, acc.length + xs.length ≤ sizeLine → (∀ x ∈ xs, f x σ = .ok (some (g x)) σ) → lcV f xs acc σ = .ok (acc ++ xs.map g) σ
  | [], acc, _, _ => by simp [lcV]
  | x :: xs, acc, hl, h => by
    simp only [List.length_cons] at hl
    rw [lcV, h x List.mem_cons_self]
    simp only
    rw [if_pos (by omega), lcV_map g (xs := xs) (by simp; omega) fun y hy => h y (List.mem_cons_of_mem _ hy)]
    simp
theorem lcV_filter {f : W → VE → R (Option W)} (p : W → Bool) (g : W → W) {σ : VE} : ∀ {xs acc : List W}, acc.length + xs.length ≤ sizeLine → (∀ x ∈ xs, f x σ = .ok (if p x then some (g x) else none) σ) → lcV f xs acc σ = .ok (acc ++ (xs.filter p).map g) σ
  | [], acc, _, _ => by simp [lcV]
  | x :: xs, acc, hl, h => by
    simp only [List.length_cons] at hl
    rw [lcV, h x List.mem_cons_self]
    cases hp : p x with
    | true =>
      simp only [if_true]
      rw [if_pos (by omega), lcV_filter p g (xs := xs) (by simp; omega) fun y hy => h y (List.mem_cons_of_mem _ hy)]
      simp [hp]
    | false =>
      simp only [Bool.false_eq_true, if_false]
      rw [lcV_filter p g (xs := xs) (by omega) fun y hy => h y (List.mem_cons_of_mem _ hy)]
      simp [hp]
/-- a comprehension whose turns change something -/
theorem lcV_inv {f : W → VE → R (Option W)} (P : List W → List W → VE → Prop) {xs : List W} (hl : xs.length ≤ sizeLine) {σ : VE} (h0 : P [] [] σ)
    (step : ∀ pre x suf acc σ, xs = pre ++ x :: suf → P pre acc σ → acc.length ≤ pre.length → ∃ o σ', f x σ = .ok o σ' ∧ P (pre ++ [x]) (acc ++ o.toList) σ') : ∃ acc σ', lcV f xs [] σ = .ok acc σ' ∧ P xs acc σ' := by
  have : ∀ (suf pre acc : List W) (σ : VE), xs = pre ++ suf → P pre acc σ → acc.length ≤ pre.length → ∃ acc' σ', lcV f suf acc σ = .ok acc' σ' ∧ P xs acc' σ' := fun suf => by
    induction suf with
    | nil => intro pre acc σ e h _; exact ⟨acc, σ, by rw [lcV], by rw [e, List.append_nil]; exact h⟩
    | cons x suf ih =>
      intro pre acc σ e h hle
      obtain ⟨o, σ', h1, h2⟩ := step pre x suf acc σ e h hle
      have hx := congrArg List.length e
      simp at hx
      rw [lcV, h1]
      cases o with
      | none =>
        exact ih (pre ++ [x]) acc σ' (by simp [e]) (by simpa using h2) (by simp; omega)
      | some y =>
        simp only
        rw [if_pos (by omega)]
        exact ih (pre ++ [x]) (acc ++ [y]) σ' (by simp [e]) (by simpa using h2) (by simp; omega)
  exact this xs [] [] σ rfl h0 (Nat.le_refl _)
/-- a for whose body goes on to its next turn, or out -/
theorem forV_inv {tg : Tg} {b : VE → SW} (P : List W → VE → Prop) (R : SW → Prop) {xs : List W} {σ : VE} (h0 : P [] σ) (hend : ∀ σ, P xs σ → R (.nx σ))
    (step : ∀ pre x suf σ, xs = pre ++ x :: suf → P pre σ → ∃ σ1, wTg tg x σ = some σ1 ∧ ((∃ σ', (b σ1 = .nx σ' ∨ b σ1 = .ct σ') ∧ P (pre ++ [x]) σ') ∨ (∃ σ', b σ1 = .bk σ' ∧ R (.nx σ')) ∨ ((∃ w σ', b σ1 = .rt w σ') ∧ R (b σ1)) ∨ (∃ w σ', b σ1 = .exc w σ') ∧ R (b σ1))) : R (forV tg b xs σ) := by
  have : ∀ (suf pre : List W) (σ : VE), xs = pre ++ suf → P pre σ → R (forV tg b suf σ) := fun suf => by
    induction suf with
    | nil => intro pre σ e h; rw [forV]; exact hend σ (by rw [e, List.append_nil]; exact h)
    | cons x suf ih =>
      intro pre σ e h
      obtain ⟨σ1, h1, h2⟩ := step pre x suf σ e h
      rw [forV, h1]
      simp only
      rcases h2 with ⟨σ', h2 | h2, h3⟩ | ⟨σ', h2, h3⟩ | ⟨⟨w, σ', h2⟩, h3⟩ | ⟨⟨w, σ', h2⟩, h3⟩
      · rw [h2]; exact ih (pre ++ [x]) σ' (by simp [e]) h3
      · rw [h2]; exact ih (pre ++ [x]) σ' (by simp [e]) h3
      · rw [h2]; exact h3
      · rw [h2] at h3 ⊢; exact h3
      · rw [h2] at h3 ⊢; exact h3
  exact this xs [] σ rfl h0
/-- a for whose every turn ends well -/
theorem forV_nx {tg : Tg} {b : VE → SW} (P : List W → VE → Prop) {xs : List W} {σ : VE} (h0 : P [] σ)
    (step : ∀ pre x suf σ, xs = pre ++ x :: suf → P pre σ → ∃ σ1 σ', wTg tg x σ = some σ1 ∧ (b σ1 = .nx σ' ∨ b σ1 = .ct σ') ∧ P (pre ++ [x]) σ') : ∃ σ', forV tg b xs σ = .nx σ' ∧ P xs σ' :=
  forV_inv (R := fun o => ∃ σ', o = .nx σ' ∧ P xs σ') P h0 (fun σ h => ⟨σ, rfl, h⟩) fun pre x suf σ e h => by
    obtain ⟨σ1, σ', h1, h2, h3⟩ := step pre x suf σ e h
    exact ⟨σ1, h1, .inl ⟨σ', h2, h3⟩⟩
/-- a while, by a number that falls -/
theorem whileV_inv {c : VE → R Bool} {b : VE → SW} (P : Nat → VE → Prop) (R : SW → Prop)
    (step : ∀ m σ, P m σ → (∃ σ1, c σ = .ok false σ1 ∧ R (.nx σ1)) ∨ ∃ σ1, c σ = .ok true σ1 ∧ ((∃ σ' m', (b σ1 = .nx σ' ∨ b σ1 = .ct σ') ∧ m' < m ∧ P m' σ') ∨ (∃ σ', b σ1 = .bk σ' ∧ R (.nx σ')) ∨ ((∃ w σ', b σ1 = .rt w σ') ∧ R (b σ1)) ∨ (∃ w σ', b σ1 = .exc w σ') ∧ R (b σ1))) :
    ∀ (m fuel : Nat) (σ : VE), m < fuel → P m σ → R (whileV c b fuel σ) := fun m => by
  induction m using Nat.strongRecOn with
  | ind m ih =>
    intro fuel σ hf h
    obtain ⟨f, rfl⟩ : ∃ f, fuel = f + 1 := ⟨fuel - 1, by omega⟩
    rw [whileV]
    rcases step m σ h with ⟨σ1, h1, h2⟩ | ⟨σ1, h1, h2⟩
    · rw [h1]; exact h2
    · rw [h1]
      simp only
      rcases h2 with ⟨σ', m', h2 | h2, h3, h4⟩ | ⟨σ', h2, h3⟩ | ⟨⟨w, σ', h2⟩, h3⟩ | ⟨⟨w, σ', h2⟩, h3⟩
      · rw [h2]; exact ih m' h3 f σ' (by omega) h4
      · rw [h2]; exact ih m' h3 f σ' (by omega) h4
      · rw [h2]; exact h3
      · rw [h2] at h3 ⊢; exact h3
      · rw [h2] at h3 ⊢; exact h3
@[simp] theorem szl (n : Nat) (h : n ≤ 1000000) : ((n : Nat) ≤ sizeLine) = True := by rw [sizeLine_eq]; simp; omega
/-- a while whose test changes nothing -/
theorem whileV_P {c : VE → R Bool} {b : VE → SW} (P : Nat → VE → Prop) (R : SW → Prop)
    (step : ∀ m σ, P m σ → (c σ = .ok false σ ∧ R (.nx σ)) ∨ (c σ = .ok true σ ∧ ((∃ σ' m', b σ = .nx σ' ∧ m' < m ∧ P m' σ') ∨ ∃ w σ', b σ = .rt w σ' ∧ R (.rt w σ')))) (m fuel : Nat) (σ : VE) (hf : m < fuel) (h : P m σ) : R (whileV c b fuel σ) :=
  whileV_inv P R (fun m σ h => by
    rcases step m σ h with ⟨h1, h2⟩ | ⟨h1, ⟨σ', m', h2, h3, h4⟩ | ⟨w, σ', h2, h3⟩⟩
    · exact .inl ⟨σ, h1, h2⟩
    · exact .inr ⟨σ, h1, .inl ⟨σ', m', .inl h2, h3, h4⟩⟩
    · exact .inr ⟨σ, h1, .inr (.inr (.inl ⟨⟨w, σ', h2⟩, by rw [h2]; exact h3⟩))⟩) m fuel σ hf h
/-- a for over a row, or left by a return -/
theorem forV_P {tg : Tg} {b : VE → SW} (P : List W → VE → Prop) (R : SW → Prop) {xs : List W} {σ : VE} (h0 : P [] σ) (hend : ∀ σ, P xs σ → R (.nx σ))
    (step : ∀ pre x suf σ, xs = pre ++ x :: suf → P pre σ → ∃ σ1, wTg tg x σ = some σ1 ∧ ((∃ σ', (b σ1 = .nx σ' ∨ b σ1 = .ct σ') ∧ P (pre ++ [x]) σ') ∨ ∃ w σ', b σ1 = .rt w σ' ∧ R (.rt w σ'))) : R (forV tg b xs σ) :=
  forV_inv P R h0 hend fun pre x suf σ e h => by
    obtain ⟨σ1, h1, h2 | ⟨w, σ', h2, h3⟩⟩ := step pre x suf σ e h
    · exact ⟨σ1, h1, .inl h2⟩
    · exact ⟨σ1, h1, .inr (.inr (.inl ⟨⟨w, σ', h2⟩, by rw [h2]; exact h3⟩))⟩
/-- values that stand for the written ones -/
theorem cn_of {con : List D} {conW : List W} (h : con.map D.w = conW.map some) : ∀ (j : Nat) (w : W), conW[j]? = some w → ∃ d, con[j]? = some d ∧ ∀ M Z, FZ M Z d w := fun j w hw => by
  have : (con.map D.w)[j]? = some (some w) := by rw [h, List.getElem?_map, hw]; rfl
  rw [List.getElem?_map] at this
  cases q : con[j]? with
  | none => rw [q] at this; cases this
  | some d => rw [q] at this; exact ⟨d, rfl, fun M Z => D.w_fz (Option.some.inj this)⟩
end PyL

/-! _law_levels over the store: a list of lists, one of them by two names. -/
namespace K00
open PySem PyL
abbrev Stk := List (Str × Nat)
def popz : Stk → Stk
  | (k, 0) :: s => popz s
  | s => s
def decT : Stk → Stk
  | (k, n) :: s => (k, n - 1) :: s
  | [] => []
def topK : Stk → Str
  | (k, _) :: _ => k
  | [] => ""
def lvl : List (Str × Nat) → Stk → List (Nat × Str)
  | [], _ => []
  | g :: s, st => (st.length, topK st) :: lvl s (popz (g :: decT st))
theorem popz_zero (k : Str) (s : Stk) : popz ((k, 0) :: s) = popz s := by rw [popz]
theorem popz_succ (k : Str) (n : Nat) (s : Stk) : popz ((k, n + 1) :: s) = (k, n + 1) :: s := by rw [popz]; simp
theorem popz_last {c : Str} {q : Nat} : ∀ {st : Stk}, st.getLast? = some (c, q + 1) → (popz st).getLast? = some (c, q + 1)
  | [], h => by cases h
  | (k, 0) :: [], h => by simp at h
  | (k, 0) :: p :: st, h => by
    rw [popz_zero]
    exact popz_last (st := p :: st) (by rw [List.getLast?_cons_cons] at h; exact h)
  | (k, n + 1) :: st, h => by rw [popz_succ]; exact h
theorem popz_norm : ∀ st : Stk, popz (popz st) = popz st
  | [] => rfl
  | (k, 0) :: st => by rw [popz_zero, popz_norm st]
  | (k, n + 1) :: st => by rw [popz_succ, popz_succ]
theorem popz_pos : ∀ {st : Stk} {k : Str} {m : Nat} {s : Stk}, popz st = (k, m) :: s → 1 ≤ m
  | [], _, _, _, h => by cases h
  | (k, 0) :: st, _, _, _, h => by rw [popz_zero] at h; exact popz_pos h
  | (k, n + 1) :: st, _, _, _, h => by rw [popz_succ] at h; cases h; omega
theorem popz_len : ∀ st : Stk, (popz st).length ≤ st.length
  | [] => Nat.le_refl _
  | (k, 0) :: st => by rw [popz_zero]; have := popz_len st; simp; omega
  | (k, n + 1) :: st => by rw [popz_succ]; exact Nat.le_refl _
theorem okLeaf : PyData.strOk ("leaf" : Str) = true := by decide +kernel
/-- a sign, as it stands in the store -/
def SgD (g : D) (p : Str × Nat) : Prop := ∃ x, g = .tup [.str p.1, x] ∧ PyData.strOk p.1 = true ∧ ((p.1 = "leaf" ∧ p.2 = 0) ∨ (p.1 ≠ "leaf" ∧ x = .int (p.2 : Int)))
/-- the stack in the store: its refs, the top first -/
inductive Stk' (M : Sto) : List Nat → Stk → Prop
  | nil : Stk' M [] []
  | cons {r : Nat} {k : Str} {n : Nat} {rs : List Nat} {st : Stk} : M[r]? = some (.lst [.str k, .int (n : Int)]) → Stk' M rs st → Stk' M (r :: rs) ((k, n) :: st)
theorem Stk'.fr {M M' : Sto} {wr : Nat → Prop} (f : Fr wr M M') : ∀ {rs : List Nat} {st : Stk}, Stk' M rs st → (∀ r ∈ rs, ¬ wr r) → Stk' M' rs st
  | _, _, .nil, _ => .nil
  | _, _, .cons h t, hr => .cons (f.get h (hr _ List.mem_cons_self)) (Stk'.fr f t fun r h => hr r (List.mem_cons_of_mem _ h))
theorem Stk'.len {M : Sto} : ∀ {rs : List Nat} {st : Stk}, Stk' M rs st → rs.length = st.length
  | _, _, .nil => rfl
  | _, _, .cons _ t => by rw [List.length_cons, List.length_cons, t.len]
theorem Stk'.lt {M : Sto} : ∀ {rs : List Nat} {st : Stk}, Stk' M rs st → ∀ r ∈ rs, r < M.length
  | _, _, .nil, r, h => by simp at h
  | _, _, .cons h t, r, hr => by
    rcases List.mem_cons.mp hr with rfl | hr
    · exact (List.getElem?_eq_some_iff.mp h).1
    · exact t.lt r hr
def refs (rs : List Nat) : List D := (rs.map D.ref).reverse
def lvD (p : Nat × Str) : D := .tup [.int (p.1 : Int), .str p.2]
def sLv : S := b__law_levels.tl.hd
/-- the while: done things go -/
theorem popz_eq {n : Nat} {M : Sto} {w f : Nat} {rs : List Nat} {st : Stk} {d0 d1 d2 d5 : Option D} (hw : M[w]? = some (.lst (refs rs))) (hs : Stk' M rs st) (hn : w ∉ rs) (hp : popz st ≠ []) (hz : rs.length ≤ 90000) :
    ∃ rs' M', denS (Φ n) sLv.body.tl.tl.tl.tl.hd [d0, d1, d2, some (.ref w), some (.ref f), d5] M = .nx [d0, d1, d2, some (.ref w), some (.ref f), d5] M' ∧ M'[w]? = some (.lst (refs rs')) ∧ Stk' M' rs' (popz st) ∧ (∀ r ∈ rs', r ∈ rs) ∧ (rs.Nodup → rs'.Nodup) ∧ Fr (fun k => k = w) M M' := by
  have W := whileGo_inv (c := denT (Φ n) sLv.body.tl.tl.tl.tl.hd.test) (b := denSs (Φ n) sLv.body.tl.tl.tl.tl.hd.body) (fuel := fuel) (m := rs.length) (σ := [d0, d1, d2, some (.ref w), some (.ref f), d5]) (M := M)
    (fun m σ M' => ∃ (rs' : List Nat) (st' : Stk), m = rs'.length ∧ σ = [d0, d1, d2, some (.ref w), some (.ref f), d5] ∧ M'[w]? = some (.lst (refs rs')) ∧ Stk' M' rs' st' ∧ popz st' = popz st ∧ (∀ r ∈ rs', r ∈ rs) ∧ (rs.Nodup → rs'.Nodup) ∧ Fr (fun k => k = w) M M')
    (fun o => ∃ rs' M', o = .nx [d0, d1, d2, some (.ref w), some (.ref f), d5] M' ∧ M'[w]? = some (.lst (refs rs')) ∧ Stk' M' rs' (popz st) ∧ (∀ r ∈ rs', r ∈ rs) ∧ (rs.Nodup → rs'.Nodup) ∧ Fr (fun k => k = w) M M')
    (by unfold fuel; omega)
    ⟨rs, st, rfl, rfl, hw, hs, rfl, fun r h => h, fun h => h, .refl⟩
    (fun m σ M' ⟨rs', st', h1, h2, h3, h4, h5, h6, h7, h8⟩ => by
      subst h2
      cases h4 with
      | nil => exact absurd (show popz st = [] by rw [← h5]; rfl) hp
      | @cons r k q rs2 st2 hr ht =>
        have e1 : refs (r :: rs2) = refs rs2 ++ [.ref r] := by simp [refs]
        rw [e1] at h3
        have x1 : ixD M' (.ref w) (.int (-1)) = .ok (.ref r) M' := ix_refN (i := 1) h3 (by omega) (by simp) (by simp)
        have x2 := ix_ref1 hr
        cases q with
        | zero =>
          right
          have hp' := pop_ok h3
          have il := isLst_of h3
          have wl := (List.getElem?_eq_some_iff.mp h3).1
          have hnw : ∀ r ∈ rs2, ¬ r = w := fun r hr e => hn (by rw [← e]; exact h6 r (List.mem_cons_of_mem _ hr))
          refine ⟨M', ?_, .inl ⟨_, M'.set w (.lst (refs rs2)), rs2.length, .inl ?_, by rw [h1]; simp, rs2, st2, rfl, rfl, List.getElem?_set_self wl, ht.fr (Fr.set (wr := fun k => k = w) (fun _ => rfl) rfl) hnw, by rw [← h5, popz_zero], fun r hr => h6 r (List.mem_cons_of_mem _ hr), fun hh => (List.nodup_cons.mp (h7 hh)).2, h8.trans (.set (fun _ => rfl) rfl)⟩⟩
          · simp [sLv, b__law_levels, Ss.hd, Ss.tl, S.body, S.test, x1, x2]
          · simp [sLv, b__law_levels, Ss.hd, Ss.tl, S.body, S.test, il, hp']
        | succ q =>
          left
          have hq : ¬ ((q : Int) + 1 = 0) := by omega
          refine ⟨M', ?_, r :: rs2, M', rfl, by rw [e1]; exact h3, ?_, h6, h7, h8⟩
          · simp [sLv, b__law_levels, Ss.hd, Ss.tl, S.body, S.test, x1, x2, hq]
          · rw [← h5, popz_succ]
            exact .cons hr ht)
  obtain ⟨rs', M', e, r1, r2, r3, r4, r5⟩ := W
  exact ⟨rs', M', by rw [show sLv.body.tl.tl.tl.tl.hd = .wh sLv.body.tl.tl.tl.tl.hd.test sLv.body.tl.tl.tl.tl.hd.body from rfl, dS_wh]; exact e, r1, r2, r3, r4, r5⟩
/-- one sign's turn in _law_levels -/
theorem level_turn {n : Nat} {M : Sto} {w f : Nat} {rs : List Nat} {st : Stk} {acc : List (Nat × Str)} {g : D} {p : Str × Nat} {c : Str} {q : Nat} {d0 d1 d5 : Option D} (hg : SgD g p) (hw : M[w]? = some (.lst (refs rs))) (hf : M[f]? = some (.lst (acc.map lvD))) (hs : Stk' M rs st) (hwf : w ≠ f) (hn : w ∉ rs) (hn2 : f ∉ rs) (hnd : rs.Nodup) (hne : st ≠ []) (hpos : ∀ k m s, st = (k, m) :: s → 1 ≤ m) (hlast : (decT st).getLast? = some (c, q + 1)) (hz : rs.length ≤ 80000) (hz2 : acc.length ≤ 80000) :
    ∃ rs' M' d5', denSs (Φ n) sLv.body [d0, d1, some g, some (.ref w), some (.ref f), d5] M = .nx [d0, d1, some g, some (.ref w), some (.ref f), d5'] M' ∧ M'[w]? = some (.lst (refs rs')) ∧ M'[f]? = some (.lst ((acc ++ [(st.length, topK st)]).map lvD)) ∧ Stk' M' rs' (popz (p :: decT st)) ∧ (∀ r ∈ rs', r ∈ rs ∨ M.length ≤ r) ∧ rs'.Nodup ∧ Fr (fun k => k = w ∨ k = f ∨ k ∈ rs) M M' := by
  obtain ⟨gk, gn⟩ := p
  obtain ⟨gx, rfl, e2, e3⟩ := hg
  simp only at e2 e3
  cases hs with
  | nil => exact absurd rfl hne
  | @cons r k m rs2 st2 hr ht =>
    have ee : refs (r :: rs2) = refs rs2 ++ [.ref r] := by simp [refs]
    have hll := (Stk'.cons hr ht).len
    obtain ⟨m, rfl⟩ : ∃ j, m = j + 1 := ⟨m - 1, by have := hpos _ _ _ rfl; omega⟩
    rw [ee] at hw
    have hwr : w ≠ r := fun e => hn (by rw [e]; exact List.mem_cons_self)
    have hfr : f ≠ r := fun e => hn2 (by rw [e]; exact List.mem_cons_self)
    have hwl := (List.getElem?_eq_some_iff.mp hw).1
    have hfl := (List.getElem?_eq_some_iff.mp hf).1
    have hrl := (List.getElem?_eq_some_iff.mp hr).1
    obtain ⟨hr2, hnd2⟩ := List.nodup_cons.mp hnd
    -- found
    have x1 : ixD M (.ref w) (.int (-1)) = .ok (.ref r) M := ix_refN (i := 1) hw (by omega) (by simp) (by simp)
    have x2 := ix_ref0 hr
    have lw := len_ref hw
    have hlw : ((refs rs2 ++ [D.ref r]).length : Int) = (((k, m + 1) :: st2).length : Int) := by
      simp [refs]
      have := ht.len
      omega
    rw [hlw] at lw
    have a1 := append_ok (d := lvD (((k, m + 1) :: st2).length, k)) hf (by rw [List.length_map, sizeLine_eq]; omega)
    have if1 := isLst_of hf
    have fr1 : Fr (fun i => i = w ∨ i = f ∨ i ∈ r :: rs2) M (M.set f (.lst (acc.map lvD ++ [lvD (((k, m + 1) :: st2).length, k)]))) := .set (fun _ => .inr (.inl rfl)) rfl
    have w1 : (M.set f (.lst (acc.map lvD ++ [lvD (((k, m + 1) :: st2).length, k)])))[w]? = some (.lst (refs rs2 ++ [.ref r])) := by rw [List.getElem?_set_ne hwf.symm]; exact hw
    have f1 : (M.set f (.lst (acc.map lvD ++ [lvD (((k, m + 1) :: st2).length, k)])))[f]? = some (.lst (acc.map lvD ++ [lvD (((k, m + 1) :: st2).length, k)])) := List.getElem?_set_self hfl
    have r1 : (M.set f (.lst (acc.map lvD ++ [lvD (((k, m + 1) :: st2).length, k)])))[r]? = some (.lst [.str k, .int ((m + 1 : Nat) : Int)]) := by rw [List.getElem?_set_ne hfr]; exact hr
    have t1 : Stk' (M.set f (.lst (acc.map lvD ++ [lvD (((k, m + 1) :: st2).length, k)]))) rs2 st2 := ht.fr (Fr.set (wr := fun i => i = f) (fun _ => rfl) rfl) fun i hi e => hn2 (by rw [← e]; exact List.mem_cons_of_mem _ hi)
    have l1 : (M.set f (.lst (acc.map lvD ++ [lvD (((k, m + 1) :: st2).length, k)]))).length = M.length := by simp
    generalize M.set f (.lst (acc.map lvD ++ [lvD (((k, m + 1) :: st2).length, k)])) = M1 at a1 fr1 w1 f1 r1 t1 l1
    -- top
    have x3 : ixD M1 (.ref w) (.int (-1)) = .ok (.ref r) M1 := ix_refN (i := 1) w1 (by omega) (by simp) (by simp)
    have x4 := ix_ref1 r1
    have e4 : ∀ v, setIx M1 (.ref r) (.int 1) v = some (M1.set r (.lst [.str k, v])) := fun v => setIx1 r1
    have mm : (((m + 1 : Nat) : Int) - 1) = (m : Int) := by omega
    have fr2 : Fr (fun i => i = w ∨ i = f ∨ i ∈ r :: rs2) M (M1.set r (.lst [.str k, .int (m : Int)])) := fr1.trans (.set (fun _ => .inr (.inr List.mem_cons_self)) rfl)
    have w2 : (M1.set r (.lst [.str k, .int (m : Int)]))[w]? = some (.lst (refs rs2 ++ [.ref r])) := by rw [List.getElem?_set_ne hwr.symm]; exact w1
    have f2 : (M1.set r (.lst [.str k, .int (m : Int)]))[f]? = some (.lst (acc.map lvD ++ [lvD (((k, m + 1) :: st2).length, k)])) := by rw [List.getElem?_set_ne hfr.symm]; exact f1
    have r2 : (M1.set r (.lst [.str k, .int (m : Int)]))[r]? = some (.lst [.str k, .int (m : Int)]) := List.getElem?_set_self (by omega)
    have t2 : Stk' (M1.set r (.lst [.str k, .int (m : Int)])) rs2 st2 := t1.fr (Fr.set (wr := fun i => i = r) (fun _ => rfl) rfl) fun i hi e => hr2 (e ▸ hi)
    have l2 : (M1.set r (.lst [.str k, .int (m : Int)])).length = M.length := by rw [List.length_set]; exact l1
    generalize hM2 : M1.set r (.lst [.str k, .int (m : Int)]) = M2 at fr2 w2 f2 r2 t2 l2
    -- the new thing
    have fr3 : Fr (fun i => i = w ∨ i = f ∨ i ∈ r :: rs2) M (M2 ++ [MO.lst [.str gk, .int (gn : Int)]]) := fr2.trans (.push _)
    have w3 : (M2 ++ [MO.lst [.str gk, .int (gn : Int)]])[w]? = some (.lst (refs rs2 ++ [.ref r])) := by rw [List.getElem?_append_left (by omega)]; exact w2
    have f3 : (M2 ++ [MO.lst [.str gk, .int (gn : Int)]])[f]? = some (.lst (acc.map lvD ++ [lvD (((k, m + 1) :: st2).length, k)])) := by rw [List.getElem?_append_left (by omega)]; exact f2
    have t3 : Stk' (M2 ++ [MO.lst [.str gk, .int (gn : Int)]]) (M2.length :: r :: rs2) ((gk, gn) :: (k, m) :: st2) :=
      .cons (push_get _ _) (.cons (by rw [List.getElem?_append_left (by omega)]; exact r2) (t2.fr (Fr.push (wr := Non) _) fun _ _ => id))
    have a4 := append_ok (d := .ref M2.length) w3 (by simp [refs]; rw [sizeLine_eq]; simp at hz; omega)
    have iw := isLst_of w2
    have iw0 := isLst_of w1
    have l3 : (M2 ++ [MO.lst [.str gk, .int (gn : Int)]]).length = M.length + 1 := by simp [l2]
    generalize hM3 : M2 ++ [MO.lst [.str gk, .int (gn : Int)]] = M3 at fr3 w3 f3 t3 a4 l3
    have hw3 := (List.getElem?_eq_some_iff.mp w3).1
    have er : refs rs2 ++ [D.ref r] ++ [.ref M2.length] = refs (M2.length :: r :: rs2) := by simp [refs]
    rw [er] at a4
    have fr4 : Fr (fun i => i = w ∨ i = f ∨ i ∈ r :: rs2) M (M3.set w (.lst (refs (M2.length :: r :: rs2)))) := fr3.trans (.set (fun _ => .inl rfl) rfl)
    have w4 : (M3.set w (.lst (refs (M2.length :: r :: rs2))))[w]? = some (.lst (refs (M2.length :: r :: rs2))) := List.getElem?_set_self hw3
    have f4 : (M3.set w (.lst (refs (M2.length :: r :: rs2))))[f]? = some (.lst (acc.map lvD ++ [lvD (((k, m + 1) :: st2).length, k)])) := by rw [List.getElem?_set_ne hwf]; exact f3
    have hnw : w ∉ M2.length :: r :: rs2 := by
      intro z
      rcases List.mem_cons.mp z with z | z
      · omega
      · exact hn z
    have t4 : Stk' (M3.set w (.lst (refs (M2.length :: r :: rs2)))) (M2.length :: r :: rs2) ((gk, gn) :: (k, m) :: st2) := t3.fr (Fr.set (wr := fun i => i = w) (fun _ => rfl) rfl) fun i hi e => hnw (e ▸ hi)
    generalize M3.set w (.lst (refs (M2.length :: r :: rs2))) = M4 at a4 fr4 w4 f4 t4
    have pl : popz ((gk, gn) :: (k, m) :: st2) ≠ [] := fun z => by
      have h0 : ((gk, gn) :: (k, m) :: st2).getLast? = some (c, q + 1) := by rw [List.getLast?_cons_cons]; exact hlast
      have := popz_last h0
      rw [z] at this
      cases this
    obtain ⟨rs', M5, e5, w5, t5, s5, n5, fr5⟩ := popz_eq (n := n) (f := f) (d0 := d0) (d1 := d1) (d2 := some (.tup [.str gk, gx])) (d5 := some (.ref r)) w4 t4 hnw pl (by simp at hz ⊢; omega)
    have f5 : M5[f]? = some (.lst (acc.map lvD ++ [lvD (((k, m + 1) :: st2).length, k)])) := fr5.get f4 fun z => hwf z.symm
    refine ⟨rs', M5, some (.ref r), ?_, w5, by rw [f5, List.map_append]; rfl, t5, fun i hi => ?_, n5 (List.nodup_cons.mpr ⟨fun z => ?_, hnd⟩), fr4.trans (fr5.mono fun i _ z => .inl z)⟩
    · rw [show sLv.body = .cons sLv.body.hd (.cons sLv.body.tl.hd (.cons sLv.body.tl.tl.hd (.cons sLv.body.tl.tl.tl.hd (.cons sLv.body.tl.tl.tl.tl.hd .nil)))) from rfl]
      have q1 : denS (Φ n) sLv.body.hd [d0, d1, some (.tup [.str gk, gx]), some (.ref w), some (.ref f), d5] M = .nx [d0, d1, some (.tup [.str gk, gx]), some (.ref w), some (.ref f), d5] M1 := by
        simp [lvD] at a1 lw
        simp [sLv, b__law_levels, Ss.hd, Ss.tl, S.body, if1, lw, x1, x2, a1]
      have q2 : denS (Φ n) sLv.body.tl.hd [d0, d1, some (.tup [.str gk, gx]), some (.ref w), some (.ref f), d5] M1 = .nx [d0, d1, some (.tup [.str gk, gx]), some (.ref w), some (.ref f), some (.ref r)] M1 := by
        simp [sLv, b__law_levels, Ss.hd, Ss.tl, S.body, x3]
      have q3 : denS (Φ n) sLv.body.tl.tl.hd [d0, d1, some (.tup [.str gk, gx]), some (.ref w), some (.ref f), some (.ref r)] M1 = .nx [d0, d1, some (.tup [.str gk, gx]), some (.ref w), some (.ref f), some (.ref r)] M2 := by
        have x4' : ixD M1 (.ref r) (.int 1) = .ok (.int ((m : Int) + 1)) M1 := x4
        simp [sLv, b__law_levels, Ss.hd, Ss.tl, S.body, x4', e4, hM2]
      have q4 : denS (Φ n) sLv.body.tl.tl.tl.hd [d0, d1, some (.tup [.str gk, gx]), some (.ref w), some (.ref f), some (.ref r)] M2 = .nx [d0, d1, some (.tup [.str gk, gx]), some (.ref w), some (.ref f), some (.ref r)] M4 := by
        rcases e3 with ⟨rfl, h0⟩ | ⟨hne, hgx⟩
        · have eq1 : ∀ M, P2.den .eq (.str "leaf") (.str "leaf") M = .ok (.bl true) M := fun M => by rw [den_eq_str okLeaf okLeaf]; simp
          subst h0
          have hM3' : M2 ++ [MO.lst [.str "leaf", .int 0]] = M3 := hM3
          simp [sLv, b__law_levels, Ss.hd, Ss.tl, S.body, eq1, iw, hM3', a4]
        · have eq1 : ∀ M, P2.den .eq (.str gk) (.str "leaf") M = .ok (.bl false) M := fun M => by rw [den_eq_str e2 okLeaf]; simp [hne]
          subst hgx
          simp [sLv, b__law_levels, Ss.hd, Ss.tl, S.body, eq1, iw, hM3, a4]
      simp only [dSs_cons, dSs_nil, q1, q2, q3, q4, e5, SO.andThen_nx]
    · rcases List.mem_cons.mp (s5 i hi) with h | h
      · right; omega
      · exact .inl h
    · have := (Stk'.cons hr ht).lt _ z
      omega

theorem Fr_trans' {wr wr2 : Nat → Prop} {M M1 M2 : Sto} (a : Fr wr M M1) (b : Fr wr2 M1 M2) (h : ∀ k, k < M.length → wr2 k → wr k) : Fr wr M M2 :=
  ⟨Nat.le_trans a.len b.len, fun i hi hm => by rw [b.keep i (Nat.lt_of_lt_of_le hi a.len) fun z => hm (h i hi z), a.keep i hi hm], fun i o e p => by
    obtain ⟨o', h', p'⟩ := a.kd i o e p
    exact b.kd i o' h' p'⟩
theorem lvl_len : ∀ (s : List (Str × Nat)) (st : Stk), (lvl s st).length = s.length
  | [], _ => rfl
  | g :: s, st => by
    show (lvl s _).length + 1 = s.length + 1
    rw [lvl_len s]
inductive SgDs : List D → List (Str × Nat) → Prop
  | nil : SgDs [] []
  | cons {g : D} {p : Str × Nat} {gs : List D} {ps : List (Str × Nat)} : SgD g p → SgDs gs ps → SgDs (g :: gs) (p :: ps)
theorem SgDs.split : ∀ {a : List D} {x : D} {s : List D} {ps : List (Str × Nat)}, SgDs (a ++ x :: s) ps → ∃ pa p pt, ps = pa ++ p :: pt ∧ SgD x p ∧ pa.length = a.length
  | [], _, _, _, .cons h _ => ⟨[], _, _, rfl, h, rfl⟩
  | _ :: a, _, _, _, .cons _ r => by
    obtain ⟨pa, p, pt, h1, h2, h3⟩ := SgDs.split (a := a) r
    exact ⟨_ :: pa, p, pt, by rw [h1]; rfl, h2, by simp [h3]⟩
theorem SgDs.length : ∀ {gs : List D} {ps : List (Str × Nat)}, SgDs gs ps → gs.length = ps.length
  | _, _, .nil => rfl
  | _, _, .cons _ r => by simp [r.length]
/-- where each sign of a row stands: how deep, in what -/
theorem levels_eq {n k : Nat} {M : Sto} {gs : List D} {ps : List (Str × Nat)} {out : Str} (hk : M[k]? = some (.lst gs)) (ho : SgDs gs ps) (hl : gs.length ≤ 20000) :
    ∃ F M', run (n + 1) 13 [.ref k, .str out] M = .ok (.ref F) M' ∧ M'[F]? = some (.lst ((lvl ps [(out, ps.length + 1)]).map lvD)) ∧ M.length ≤ F ∧ Fr Non M M' := by
  rw [r__law_levels]
  have hpl := ho.length
  have hkl := (List.getElem?_eq_some_iff.mp hk).1
  have lk := len_ref hk
  -- the three lists
  have h1 : (M ++ [MO.lst [.str out, .int ((gs.length : Int) + 1)]]).length = M.length + 1 := by simp
  have h2 : (M ++ [MO.lst [.str out, .int ((gs.length : Int) + 1)]] ++ [MO.lst [.ref M.length]]).length = M.length + 2 := by simp
  have g0 : (M ++ [MO.lst [.str out, .int ((gs.length : Int) + 1)]] ++ [MO.lst [.ref M.length]] ++ [MO.lst []])[M.length]? = some (.lst [.str out, .int ((gs.length + 1 : Nat) : Int)]) := by
    rw [List.getElem?_append_left (by omega), List.getElem?_append_left (by omega)]
    exact push_get _ _
  have g1 : (M ++ [MO.lst [.str out, .int ((gs.length : Int) + 1)]] ++ [MO.lst [.ref M.length]] ++ [MO.lst []])[M.length + 1]? = some (.lst (refs [M.length])) := by
    rw [List.getElem?_append_left (by omega)]
    have := push_get (M ++ [MO.lst [.str out, .int ((gs.length : Int) + 1)]]) (MO.lst [.ref M.length])
    rw [h1] at this
    exact this
  have g2 : (M ++ [MO.lst [.str out, .int ((gs.length : Int) + 1)]] ++ [MO.lst [.ref M.length]] ++ [MO.lst []])[M.length + 2]? = some (.lst []) := by
    have := push_get (M ++ [MO.lst [.str out, .int ((gs.length : Int) + 1)]] ++ [MO.lst [.ref M.length]]) (MO.lst [])
    rw [h2] at this
    exact this
  have F0 : Fr Non M (M ++ [MO.lst [.str out, .int ((gs.length : Int) + 1)]] ++ [MO.lst [.ref M.length]] ++ [MO.lst []]) := (Fr.push _).trans ((Fr.push _).trans (.push _))
  have s1 : denS (Φ n) b__law_levels.hd [some (.ref k), some (.str out), none, none, none, none] M = .nx [some (.ref k), some (.str out), none, some (.ref (M.length + 1)), some (.ref (M.length + 2)), none] (M ++ [MO.lst [.str out, .int ((gs.length : Int) + 1)]] ++ [MO.lst [.ref M.length]] ++ [MO.lst []]) := by
    simp [b__law_levels, Ss.hd, lk, -List.append_assoc]
  generalize M ++ [MO.lst [.str out, .int ((gs.length : Int) + 1)]] ++ [MO.lst [.ref M.length]] ++ [MO.lst []] = M1 at g0 g1 g2 F0 s1
  have W := forGo_live (b := denSs (Φ n) sLv.body) (xs := gs) (fuel := fuel) (k := k) (tg := .name 2) (σ := [some (.ref k), some (.str out), none, some (.ref (M.length + 1)), some (.ref (M.length + 2)), none]) (M := M1)
    (fun pre σ M' => ∃ (d2 d5 : Option D) (rs : List Nat) (st : Stk) (acc : List (Nat × Str)) (q : Nat), σ = [some (.ref k), some (.str out), d2, some (.ref (M.length + 1)), some (.ref (M.length + 2)), d5] ∧
      M'[M.length + 1]? = some (.lst (refs rs)) ∧ M'[M.length + 2]? = some (.lst (acc.map lvD)) ∧ Stk' M' rs st ∧ M.length + 1 ∉ rs ∧ M.length + 2 ∉ rs ∧ rs.Nodup ∧ (∀ r ∈ rs, M.length ≤ r) ∧ popz st = st ∧ st.getLast? = some (out, q + 1) ∧ q + pre.length ≥ gs.length ∧ st.length ≤ pre.length + 1 ∧ acc.length = pre.length ∧ (∀ pa suf, ps = pa ++ suf → pa.length = pre.length → lvl ps [(out, ps.length + 1)] = acc ++ lvl suf st) ∧ Fr Non M M')
    (fun o => ∃ (d2 d5 : Option D) (M' : Sto), o = .nx [some (.ref k), some (.str out), d2, some (.ref (M.length + 1)), some (.ref (M.length + 2)), d5] M' ∧ M'[M.length + 2]? = some (.lst ((lvl ps [(out, ps.length + 1)]).map lvD)) ∧ Fr Non M M')
    (by unfold fuel; omega)
    ⟨none, none, [M.length], [(out, gs.length + 1)], [], gs.length, rfl, g1, g2, .cons g0 .nil, by simp, by simp, by simp, by simp, popz_succ _ _ _, rfl, by simp, by simp, rfl, fun pa suf e hpa => by
      have : pa = [] := by simpa using hpa
      subst this
      rw [List.nil_append] at e
      rw [← e, hpl]; rfl, F0⟩
    (fun pre σ M' ⟨_, _, _, _, _, _, _, _, _, _, _, _, _, _, _, _, _, _, _, _, hF⟩ => listAt_is (hF.get hk (by simp)))
    (fun σ M' ⟨d2, d5, rs, st, acc, q, h1, h2, h3, _, _, _, _, _, _, _, _, _, _, hlv, hF⟩ => ⟨d2, d5, M', by rw [h1], by
      rw [hlv ps [] (by simp) (by omega)]
      show _ = some (MO.lst ((acc ++ []).map lvD)); rw [List.append_nil]; exact h3, hF⟩)
    (fun pre x suf σ M' e ⟨d2, d5, rs, st, acc, q, h1, h2, h3, h4, h5, h6, h7, h8, h9, h10, h11, h12, h13, h14, hF⟩ => by
      subst h1
      obtain ⟨pa, p, pt, hp1, hp2, hp3⟩ := SgDs.split (a := pre) (x := x) (s := suf) (by rw [← e]; exact ho)
      have hlen := congrArg List.length e
      simp at hlen
      obtain ⟨q', rfl⟩ : ∃ q', q = q' + 1 := ⟨q - 1, by omega⟩
      have hne : st ≠ [] := by rintro rfl; cases h10
      have hpos : ∀ k m s, st = (k, m) :: s → 1 ≤ m := fun k m s hs => popz_pos (by rw [h9]; exact hs)
      have hsl := h4.len
      have hlast : (decT st).getLast? = some (out, q' + 1) ∨ (decT st).getLast? = some (out, q' + 1 + 1) := by
        match st, h10 with
        | [(a, b)], h10 => simp at h10; left; simp [decT, h10]
        | (a, b) :: y :: st, h10 => right; rw [List.getLast?_cons_cons] at h10; simp only [decT]; rw [List.getLast?_cons_cons]; exact h10
      obtain ⟨q2, hq2, hq3⟩ : ∃ q2, (decT st).getLast? = some (out, q2 + 1) ∧ q' ≤ q2 := by
        rcases hlast with h | h
        · exact ⟨q', h, Nat.le_refl _⟩
        · exact ⟨q' + 1, h, by omega⟩
      obtain ⟨rs', M2, d5', k1, k2, k3, k4, k5, k6, k7⟩ := level_turn (n := n) (d0 := some (.ref k)) (d1 := some (.str out)) (d5 := d5) hp2 h2 h3 h4 (by omega) h5 h6 h7 hne hpos hq2 (by omega) (by omega)
      refine ⟨_, rfl, .inl ⟨_, M2, .inl k1, some x, d5', rs', popz (p :: decT st), acc ++ [(st.length, topK st)], q2, rfl, k2, k3, k4, ?_, ?_, k6, ?_, popz_norm _, ?_, by simp; omega, ?_, by simp; omega, ?_, ?_⟩⟩
      · intro hm
        rcases k5 _ hm with z | z
        · exact h5 z
        · have := (List.getElem?_eq_some_iff.mp h2).1; omega
      · intro hm
        rcases k5 _ hm with z | z
        · exact h6 z
        · have := (List.getElem?_eq_some_iff.mp h3).1; omega
      · intro r hr
        rcases k5 r hr with z | z
        · exact h8 r z
        · have := (List.getElem?_eq_some_iff.mp h2).1; omega
      · refine popz_last ?_
        have : decT st ≠ [] := by cases st with
          | nil => exact absurd rfl hne
          | cons a s => simp [decT]
        match hd : decT st, this with
        | a :: s, _ => rw [List.getLast?_cons_cons, ← hd]; exact hq2
      · have h1 := popz_len (p :: decT st)
        have h2 : (decT st).length = st.length := by cases st <;> rfl
        simp at h1 ⊢
        omega
      · intro pa' suf' e' hpa'
        have h0 := h14 pa (p :: pt) hp1 (by omega)
        have : pa' = pa ++ [p] ∧ suf' = pt := by
          have e2 : pa' ++ suf' = (pa ++ [p]) ++ pt := by rw [← e', hp1]; simp
          exact List.append_inj e2 (by simp at hpa' ⊢; omega)
        rw [h0, this.2]
        show acc ++ ((st.length, topK st) :: lvl pt (popz (p :: decT st))) = _
        simp
      · exact Fr_trans' hF k7 fun i hi z => by
          rcases z with z | z | z
          · omega
          · omega
          · have := h8 i z; omega)
  obtain ⟨d2, d5, M', e, r1, r2⟩ := W
  refine ⟨M.length + 2, M', ?_, r1, by omega, r2⟩
  have hit : itOf M1 (.ref k) = some (.live k) := itOf_ref (F0.get hk (by simp))
  rw [show b__law_levels = .cons b__law_levels.hd (.cons (.fo (.name 2) (.val (.var 0)) sLv.body) b__law_levels.tl.tl) from rfl, dSs_cons, s1]
  simp [hit, e]
  simp [b__law_levels, Ss.tl]
end K00

/-! V: defs that are shown over the store. -/
namespace PyL
open PySem
theorem mask_eq : ∀ {ps : List Md} {ws : List W}, (∀ m ∈ ps, ∀ s, m ≠ .O s) → ps.length = ws.length → maskV ps (ws.map some) = maskS (mdL ps) (ws.map some) := fun {ps ws} hp hl => by
  apply List.ext_getElem?
  intro i
  unfold maskS
  rw [List.getElem?_mapIdx]
  cases q : ps[i]? with
  | none =>
    have h1 : ws[i]? = none := by rw [List.getElem?_eq_none_iff] at q ⊢; omega
    have h2 : (maskV ps (ws.map some))[i]? = none := by
      rw [List.getElem?_eq_none_iff, maskV_len (by simpa using hl)]
      rw [List.getElem?_eq_none_iff] at q; simp; omega
    rw [h2, List.getElem?_map, h1]; rfl
  | some m =>
    rw [mdL_get q]
    have hi : i < ps.length := (List.getElem?_eq_some_iff.mp q).1
    obtain ⟨w, hw⟩ : ∃ w, ws[i]? = some w := ⟨_, List.getElem?_eq_getElem (by omega)⟩
    by_cases c : m = .F
    · subst c
      have key : ∀ (ps : List Md) (fin : VE) (i : Nat) (x : Option W), ps[i]? = some .F → fin[i]? = some x → (maskV ps fin)[i]? = some none := fun ps => by
        induction ps with
        | nil => intro fin i x h; simp at h
        | cons m ps ih =>
          intro fin i x h1 h2
          cases fin with
          | nil => simp at h2
          | cons y fin =>
            cases i with
            | zero => simp at h1; subst h1; simp [maskV]
            | succ i => simp only [maskV, List.getElem?_cons_succ] at h1 h2 ⊢; exact ih fin i x h1 h2
      rw [key ps (ws.map some) i (some w) q (by rw [List.getElem?_map, hw]; rfl), List.getElem?_map, hw]; rfl
    · rw [maskV_get q c (by rw [List.length_map]; omega), List.getElem?_map, hw]
      cases m with
      | F => exact absurd rfl c
      | O s => exact absurd rfl (hp _ (List.mem_of_getElem? q) s)
      | _ => rfl
/-- a def that only makes new things -/
theorem FnOk.pure {s : Sg} {f : List D → Sto → Out D} {g : List W → FW} (hp : ∀ m ∈ s.ps, ∀ t, m ≠ .O t) (hr : s.rs = .fr)
    (h : ∀ (M : Sto) (Z : Zs) (ad : Ad) (ws : List W) (ds : List D), ws.length = s.ps.length → EnvR (mdL s.ps) M Z ad (ws.map some) (ds.map some) →
      g ws = .bad ∨ ∃ w d M' Z', g ws = .ok w (ws.map some) ∧ f ds M = .ok d M' ∧ M.length ≤ M'.length ∧ (∀ i, i < M.length → M'[i]? = M[i]?) ∧ (∀ n, Z n → Z' n) ∧ (∀ n, Z' n → Z n ∨ (M.length ≤ n ∧ n < M'.length)) ∧ FZ M' Z' d w) : FnOk s f g := fun M Z ad ws ds hw E => by
  rcases h M Z ad ws ds hw E with h | ⟨w, d, M', Z', h1, h2, h3, h4, h5, h6, h7⟩
  · rw [h]; trivial
  · rw [h1]
    have Em := E.mask (md := mdL s.ps) fun _ _ _ => rfl
    have S0 : Step (ownP (mdL s.ps)) M Z ad M' Z' ad := ⟨h3, fun n hn _ => h4 n hn, h5, fun n hn => (h6 n hn).imp id fun z => .inl z.1, fun _ _ => rfl, fun i hi n hn => .inr ⟨i, hi, hn⟩⟩
    have Sm : Step (ownL s.ps) M Z ad M' Z' (adm (mdL s.ps) ad) := S0.mask fun i hi => E.adF hi
    refine ⟨by rw [List.length_map]; exact hw, d, M', Z', _, h2, ?_, Sm, [], by rw [hr]; exact ⟨rfl, h7⟩, .nil, by simp⟩
    rw [mask_eq hp hw.symm]
    exact Em.keep h3 (fun n hn _ => h4 n hn) h5 fun n hn => by
      rcases h6 n hn with z | z
      · exact ⟨Nat.lt_of_lt_of_le (E.zl n z) h3, .inl z⟩
      · exact ⟨z.2, .inr fun i _ hm => by have := E.lt i n (adm_sub hm); omega⟩
end PyL

namespace K00
open PySem PyL
def sgW : W → Option (Str × Nat)
  | .tup [.str k, x] => if PyData.strOk k = true then (if k = "leaf" then some (k, 0) else match x with
    | .int n => if 0 ≤ n then some (k, n.toNat) else none
    | _ => none) else none
  | _ => none
def sgsW : List W → Option (List (Str × Nat))
  | [] => some []
  | g :: gs => match sgW g, sgsW gs with
    | some p, some ps => some (p :: ps)
    | _, _ => none
def lvW (p : Nat × Str) : W := .tup [.int (p.1 : Int), .str p.2]
def levW (n : Nat) : List W → FW
  | [.lst gs, .str out] => (match sgsW gs with
    | some ps => if gs.length ≤ 20000 then .ok (.lst ((lvl ps [(out, ps.length + 1)]).map lvW)) [some (.lst gs), some (.str out)] else .bad
    | none => .bad)
  | _ => .bad
def ov : Nat → Option (Nat → List W → FW) := fun k => if k = 13 then some levW else none
theorem sgW_ok {M : Sto} {Z : Zs} {d : D} {w : W} {p : Str × Nat} (h : FZ M Z d w) (e : sgW w = some p) : SgD d p := by
  unfold sgW at e
  split at e
  · rename_i k x
    obtain ⟨ds, rfl, r⟩ := h.tup'
    cases r with
    | cons a r =>
      cases r with
      | cons b r =>
        cases r
        have := a.str'
        subst this
        split at e
        · rename_i ok
          split at e
          · rename_i hk
            cases e
            exact ⟨_, rfl, ok, .inl ⟨hk, rfl⟩⟩
          · rename_i hk
            split at e
            · rename_i n
              split at e
              · cases e
                have := b.int'
                subst this
                exact ⟨_, rfl, ok, .inr ⟨hk, by simp; omega⟩⟩
              · cases e
            · cases e
        · cases e
  · cases e
theorem sgsW_ok {M : Sto} {Z : Zs} : ∀ {ds : List D} {ws : List W} {ps : List (Str × Nat)}, FZs M Z ds ws → sgsW ws = some ps → SgDs ds ps
  | _, _, _, .nil, e => by cases e; exact .nil
  | _, _, _, .cons (w := w) (ws := ws) a r, e => by
    simp only [sgsW] at e
    cases q : sgW w with
    | none => rw [q] at e; cases e
    | some p =>
      cases q2 : sgsW ws with
      | none => rw [q, q2] at e; cases e
      | some qs => rw [q, q2] at e; cases e; exact .cons (sgW_ok a q) (sgsW_ok r q2)
theorem lev_ok (n : Nat) : FnOk ⟨[.B, .F], .F⟩ (callN (fds.map Fd.fr) con fuel (n + 1) 13) (levW n) :=
  .pure (by intro m hm t e; subst e; simp at hm) rfl fun M Z ad ws ds hw E => by
    by_cases c : levW n ws = .bad
    · exact .inl c
    · right
      unfold levW at c ⊢
      split at c
      · rename_i gs out
        split at c
        · rename_i ps hps
          by_cases hl : gs.length ≤ 20000
          · obtain ⟨d0, k1, k2⟩ := E.sl 0 _ rfl
            obtain ⟨d1, k3, k4⟩ := E.sl 1 _ rfl
            have hd : ds = [d0, d1] := by
              have hlen := E.len
              match ds, k1, k3, hlen with
              | [a, b], k1, k3, _ => simp at k1 k3; rw [k1, k3]
              | [a], _, k3, _ => simp at k3
              | [], k1, _, _ => simp at k1
              | a :: b :: c :: r, _, _, h => simp at h
            subst hd
            have e1 : RV M Z .el (ad 0) d0 (.lst gs) := k2
            have e2 : d1 = .str out := ((RM.of_sh (m := .F) rfl).mp k4).2.str'
            subst e2
            obtain ⟨k, gd, rfl, hk, hg⟩ := e1.toEl.lst'
            obtain ⟨F, M', h1, h2, h3, h4⟩ := levels_eq (n := n) (out := out) hk (sgsW_ok hg hps) (by rw [hg.length]; exact hl)
            have hF : F < M'.length := (List.getElem?_eq_some_iff.mp h2).1
            refine ⟨.lst ((lvl ps [(out, ps.length + 1)]).map lvW), .ref F, M', fun n => Z n ∨ n = F, ?_, h1, h4.len, fun i hi => h4.keep i hi (fun z => z), fun n z => .inl z, fun n z => z.imp id fun e => by subst e; exact ⟨h3, hF⟩, ?_⟩
            · rw [if_pos hl]; rfl
            · refine .lst (.inr rfl) h2 ?_
              generalize lvl ps [(out, ps.length + 1)] = qs
              induction qs with
              | nil => exact .nil
              | cons q qs ih => exact .cons (.tup (.cons (.int _) (.cons (.str _) .nil))) ih
          · rw [if_neg hl] at c; exact absurd rfl c
        · exact absurd rfl c
      · exact absurd rfl c
end K00

namespace K00
open PySem PyL
def ms : List Fm := [⟨[.B], [], .F⟩,
  ⟨[.B], [.F], .F⟩,
  ⟨[.B, .B], [], .F⟩,
  ⟨[.B], [], .F⟩,
  ⟨[.B, .B], [.F], .F⟩,
  ⟨[.B], [.F, (.O (.ls .fr)), .F, .F, .F, .F, .F, .F], .F⟩,
  ⟨[.B], [.F], .F⟩,
  ⟨[.F], [], .F⟩,
  ⟨[.B], [.F], .F⟩,
  ⟨[.K], [.F, .F], (.O (.ls .fr))⟩,
  ⟨[(.I (.ls .fr)), .B], [.F, .F, .F], .F⟩,
  ⟨[(.I (.ls .fr)), .B], [], .F⟩,
  ⟨[.B], [(.O (.ls .fr)), .F, .F, .F], .F⟩,
  ⟨[.B, .F], [], .F⟩,
  ⟨[(.I (.ls .fr))], [.F, .F, .F], .F⟩,
  ⟨[(.I (.ls .fr)), .B], [.F, .F], .F⟩,
  ⟨[(.I (.ls .fr)), .F, .B], [.F, (.O (.ls .fr)), (.O (.ls .fr)), .F, .F, .F, .F], .F⟩,
  ⟨[(.I (.ls .fr)), .F, .B, .B], [.F, .F, .F], .F⟩,
  ⟨[(.I (.ls .fr))], [.F], .F⟩,
  ⟨[(.I (.ls .fr))], [.F], .F⟩,
  ⟨[(.I (.ls .fr)), .B, .F], [.F, .F, .F, .F], .F⟩,
  ⟨[(.I (.ls .fr))], [.F, .F, .F, .F, .F, .F], .F⟩,
  ⟨[(.I (.ls .fr))], [.F, .F, .F, .F, .F, .F, .F], .F⟩,
  ⟨[(.I (.ls .fr))], [.F, .F, .F, .F, .F], .F⟩,
  ⟨[.K], [(.O (.ls .fr)), .F], .F⟩]
def bs : List Bool := [false, false, false, false, false, false, false, false, false, false, false, false, false, true, false, false, false, false, false, false, false, false, false, false, false]
def conW : List W := [(.str "abcdefghijklmnopqrstuvwxyz"), (.int 12), (.int 1000000000000000000), (.int 1000), (.int 30), (.int 200), (.str "quote"), (.str "put"), (.str "list"), (.tup [(.str "true"), (.str "false"), (.str "list"), (.str "put")])]
def io (k : Nat) : List Bool := ioOf ms k
def rn (n k : Nat) (args : List W) : FW := callO (fds.map Fd.fr) ov (ioOf ms) conW fuel n k args
def Ψ (n : Nat) : VFns := ⟨rn n, conW, fuel, io⟩
@[simp] theorem Ψ_call (n : Nat) : (Ψ n).call = rn n := rfl
@[simp] theorem Ψ_fuel (n : Nat) : (Ψ n).fuel = fuel := rfl
@[simp] theorem Ψ_io (n : Nat) : (Ψ n).io = io := rfl
@[simp] theorem Ψ_con0 (n : Nat) : (Ψ n).con[0]? = some (.str "abcdefghijklmnopqrstuvwxyz") := rfl
@[simp] theorem Ψ_con1 (n : Nat) : (Ψ n).con[1]? = some (.int 12) := rfl
@[simp] theorem Ψ_con2 (n : Nat) : (Ψ n).con[2]? = some (.int 1000000000000000000) := rfl
@[simp] theorem Ψ_con3 (n : Nat) : (Ψ n).con[3]? = some (.int 1000) := rfl
@[simp] theorem Ψ_con4 (n : Nat) : (Ψ n).con[4]? = some (.int 30) := rfl
@[simp] theorem Ψ_con5 (n : Nat) : (Ψ n).con[5]? = some (.int 200) := rfl
@[simp] theorem Ψ_con6 (n : Nat) : (Ψ n).con[6]? = some (.str "quote") := rfl
@[simp] theorem Ψ_con7 (n : Nat) : (Ψ n).con[7]? = some (.str "put") := rfl
@[simp] theorem Ψ_con8 (n : Nat) : (Ψ n).con[8]? = some (.str "list") := rfl
@[simp] theorem Ψ_con9 (n : Nat) : (Ψ n).con[9]? = some (.tup [(.str "true"), (.str "false"), (.str "list"), (.str "put")]) := rfl
@[simp] theorem io_0 : io 0 = [false] := rfl
@[simp] theorem io_1 : io 1 = [false] := rfl
@[simp] theorem io_2 : io 2 = [false, false] := rfl
@[simp] theorem io_3 : io 3 = [false] := rfl
@[simp] theorem io_4 : io 4 = [false, false] := rfl
@[simp] theorem io_5 : io 5 = [false] := rfl
@[simp] theorem io_6 : io 6 = [false] := rfl
@[simp] theorem io_7 : io 7 = [false] := rfl
@[simp] theorem io_8 : io 8 = [false] := rfl
@[simp] theorem io_9 : io 9 = [false] := rfl
@[simp] theorem io_10 : io 10 = [true, false] := rfl
@[simp] theorem io_11 : io 11 = [true, false] := rfl
@[simp] theorem io_12 : io 12 = [false] := rfl
@[simp] theorem io_13 : io 13 = [false, false] := rfl
@[simp] theorem io_14 : io 14 = [true] := rfl
@[simp] theorem io_15 : io 15 = [true, false] := rfl
@[simp] theorem io_16 : io 16 = [true, false, false] := rfl
@[simp] theorem io_17 : io 17 = [true, false, false, false] := rfl
@[simp] theorem io_18 : io 18 = [true] := rfl
@[simp] theorem io_19 : io 19 = [true] := rfl
@[simp] theorem io_20 : io 20 = [true, false, false] := rfl
@[simp] theorem io_21 : io 21 = [true] := rfl
@[simp] theorem io_22 : io 22 = [true] := rfl
@[simp] theorem io_23 : io 23 = [true] := rfl
@[simp] theorem io_24 : io 24 = [false] := rfl
theorem v_is_integer (n : Nat) (a0 : W) : rn (n + 1) 0 [a0] = endV 1 (vSs (Ψ n) b_is_integer [some a0]) := callO_eq (r := d_is_integer.fr) rfl rfl rfl
theorem v_is_name (n : Nat) (a0 : W) : rn (n + 1) 1 [a0] = endV 1 (vSs (Ψ n) b_is_name [some a0, none]) := callO_eq (r := d_is_name.fr) rfl rfl rfl
theorem v_is_told (n : Nat) (a0 a1 : W) : rn (n + 1) 2 [a0, a1] = endV 2 (vSs (Ψ n) b_is_told [some a0, some a1]) := callO_eq (r := d_is_told.fr) rfl rfl rfl
theorem v_is_number_value (n : Nat) (a0 : W) : rn (n + 1) 3 [a0] = endV 1 (vSs (Ψ n) b_is_number_value [some a0]) := callO_eq (r := d_is_number_value.fr) rfl rfl rfl
theorem v_inner_rows (n : Nat) (a0 a1 : W) : rn (n + 1) 4 [a0, a1] = endV 2 (vSs (Ψ n) b_inner_rows [some a0, some a1, none]) := callO_eq (r := d_inner_rows.fr) rfl rfl rfl
theorem v_is_bounded (n : Nat) (a0 : W) : rn (n + 1) 5 [a0] = endV 1 (vSs (Ψ n) b_is_bounded [some a0, none, none, none, none, none, none, none, none]) := callO_eq (r := d_is_bounded.fr) rfl rfl rfl
theorem v_is_program (n : Nat) (a0 : W) : rn (n + 1) 6 [a0] = endV 1 (vSs (Ψ n) b_is_program [some a0, none]) := callO_eq (r := d_is_program.fr) rfl rfl rfl
theorem v_is_value (n : Nat) (a0 : W) : rn (n + 1) 7 [a0] = endV 1 (vSs (Ψ n) b_is_value [some a0]) := callO_eq (r := d_is_value.fr) rfl rfl rfl
theorem v_is_pile (n : Nat) (a0 : W) : rn (n + 1) 8 [a0] = endV 1 (vSs (Ψ n) b_is_pile [some a0, none]) := callO_eq (r := d_is_pile.fr) rfl rfl rfl
theorem v__law_bag (n : Nat) (a0 : W) : rn (n + 1) 9 [a0] = endV 1 (vSs (Ψ n) b__law_bag [some a0, none, none]) := callO_eq (r := d__law_bag.fr) rfl rfl rfl
theorem v__law_pick (n : Nat) (a0 a1 : W) : rn (n + 1) 10 [a0, a1] = endV 2 (vSs (Ψ n) b__law_pick [some a0, some a1, none, none, none]) := callO_eq (r := d__law_pick.fr) rfl rfl rfl
theorem v__law_some (n : Nat) (a0 a1 : W) : rn (n + 1) 11 [a0, a1] = endV 2 (vSs (Ψ n) b__law_some [some a0, some a1]) := callO_eq (r := d__law_some.fr) rfl rfl rfl
theorem v__law_built (n : Nat) (a0 : W) : rn (n + 1) 12 [a0] = endV 1 (vSs (Ψ n) b__law_built [some a0, none, none, none, none]) := callO_eq (r := d__law_built.fr) rfl rfl rfl
theorem v__law_word (n : Nat) (a0 : W) : rn (n + 1) 14 [a0] = endV 1 (vSs (Ψ n) b__law_word [some a0, none, none, none]) := callO_eq (r := d__law_word.fr) rfl rfl rfl
theorem v__law_leaf (n : Nat) (a0 a1 : W) : rn (n + 1) 15 [a0, a1] = endV 2 (vSs (Ψ n) b__law_leaf [some a0, some a1, none, none]) := callO_eq (r := d__law_leaf.fr) rfl rfl rfl
theorem v__law_drawn (n : Nat) (a0 a1 a2 : W) : rn (n + 1) 16 [a0, a1, a2] = endV 3 (vSs (Ψ n) b__law_drawn [some a0, some a1, some a2, none, none, none, none, none, none, none]) := callO_eq (r := d__law_drawn.fr) rfl rfl rfl
theorem v__law_drawn_signs (n : Nat) (a0 a1 a2 a3 : W) : rn (n + 1) 17 [a0, a1, a2, a3] = endV 4 (vSs (Ψ n) b__law_drawn_signs [some a0, some a1, some a2, some a3, none, none, none]) := callO_eq (r := d__law_drawn_signs.fr) rfl rfl rfl
theorem v__law_odd_item (n : Nat) (a0 : W) : rn (n + 1) 18 [a0] = endV 1 (vSs (Ψ n) b__law_odd_item [some a0, none]) := callO_eq (r := d__law_odd_item.fr) rfl rfl rfl
theorem v__law_odd_value (n : Nat) (a0 : W) : rn (n + 1) 19 [a0] = endV 1 (vSs (Ψ n) b__law_odd_value [some a0, none]) := callO_eq (r := d__law_odd_value.fr) rfl rfl rfl
theorem v__law_spoiled (n : Nat) (a0 a1 a2 : W) : rn (n + 1) 20 [a0, a1, a2] = endV 3 (vSs (Ψ n) b__law_spoiled [some a0, some a1, some a2, none, none, none, none]) := callO_eq (r := d__law_spoiled.fr) rfl rfl rfl
theorem v__law_are_right (n : Nat) (a0 : W) : rn (n + 1) 21 [a0] = endV 1 (vSs (Ψ n) b__law_are_right [some a0, none, none, none, none, none, none]) := callO_eq (r := d__law_are_right.fr) rfl rfl rfl
theorem v__law_are_sizes_right (n : Nat) (a0 : W) : rn (n + 1) 22 [a0] = endV 1 (vSs (Ψ n) b__law_are_sizes_right [some a0, none, none, none, none, none, none, none]) := callO_eq (r := d__law_are_sizes_right.fr) rfl rfl rfl
theorem v__law_are_depths_right (n : Nat) (a0 : W) : rn (n + 1) 23 [a0] = endV 1 (vSs (Ψ n) b__law_are_depths_right [some a0, none, none, none, none, none]) := callO_eq (r := d__law_are_depths_right.fr) rfl rfl rfl
theorem v_law (n : Nat) (a0 : W) : rn (n + 1) 24 [a0] = endV 1 (vSs (Ψ n) b_law [some a0, none, none]) := callO_eq (r := d_law.fr) rfl rfl rfl
theorem tab : okTab ms 1000 (fds.map Fd.fr) bs ms = true := by decide +kernel
end K00

namespace K00
open PySem PyL
/-- a value that may be asked about: what stands within is one, too -/
inductive Wf : W → Prop
  | non : Wf .non
  | bl (b : Bool) : Wf (.bl b)
  | int (i : Int) : Wf (.int i)
  | str (z : Str) : PyData.strOk z = true → z.length ≤ sizeLine → Wf (.str z)
  | lst (xs : List W) : Wf (.lst xs)
  | dct (t : Bool) (ks vs : List W) : Wf (.dct t ks vs)
  | tup (xs : List W) : xs.length ≤ 2000 → (∀ x ∈ xs, Wf x) → Wf (.tup xs)
def isInt : W → Bool
  | .int _ => true
  | _ => false
theorem is_integer_eq {n : Nat} {d : W} (h : Wf d) : rn (n + 1) 0 [d] = .ok (.bl (isInt d)) [some d] := by
  rw [v_is_integer]
  cases h <;> simp [b_is_integer, isInt]
/-- |i| ≤ 10^18, or a flag -/
def isNum : W → Bool
  | .bl _ => true
  | .int i => decide (i ≤ 1000000000000000000 ∧ -i ≤ 1000000000000000000)
  | _ => false
theorem is_number_value_eq {n : Nat} {d : W} (h : Wf d) : rn (n + 2) 3 [d] = .ok (.bl (isNum d)) [some d] := by
  rw [v_is_number_value]
  have e := is_integer_eq (n := n) h
  cases h with
  | int i =>
    simp [b_is_number_value, e, isInt, isNum]
    by_cases hi : i < 0 <;> simp [hi] <;> omega
  | _ => simp [b_is_number_value, e, isInt, isNum]
end K00

namespace K00
open PySem PyL
def letters : Str := "abcdefghijklmnopqrstuvwxyz"
def kept : List Str := ["true", "false", "list", "put"]
def isLet (c : Nat) : Bool := !(Builtin.Str.occurrences letters ⟨#[c]⟩ 0 letters.length 1).isEmpty
def isNm : W → Bool
  | .str z => decide (1 ≤ z.length ∧ z.length ≤ 12) && !kept.any (· == z) && z.cps.toList.all isLet
  | _ => false
theorem is_name_eq {n : Nat} {d : W} (h : Wf d) : Gives (rn (n + 1) 1 [d]) (.bl (isNm d)) := by
  rw [v_is_name]
  cases h with
  | str z h1 h2 =>
    have k1 : P2.v .isin (.str z) (.tup [.str "true", .str "false", .str "list", .str "put"]) = some (.bl (kept.any (· == z))) := v_isin_strs z kept
    have ls := len_str' h2
    by_cases c1 : 1 ≤ z.length
    · have d1 : decide ((1 : Int) ≤ (z.length : Int)) = true := decide_eq_true (by omega)
      by_cases c2 : z.length ≤ 12
      · have d2 : decide ((z.length : Int) ≤ 12) = true := decide_eq_true (by omega)
        cases h3 : kept.any (· == z) with
        | true => simp [b_is_name, isNm, ls, k1, c1, c2, h3, d1, d2, -decide_eq_true_eq]
        | false =>
          have hz : (z.cps.toList.map fun c => W.str ⟨#[c]⟩).length = z.length := by simp [Str.length]
          have lp := lcV_map (f := lcT (vE (Ψ n) (.op2 .isin (.var 1) (.glb 0))) (vT (Ψ n) .yes) [1] (.name 1)) (fun d => match d with | .str y => .bl (!(Builtin.Str.occurrences letters y 0 letters.length 1).isEmpty) | _ => .non) (σ := [some (.str z), none]) (xs := z.cps.toList.map fun c => .str ⟨#[c]⟩) (acc := []) (by rw [hz]; simpa using h2) (fun x hx => by
            obtain ⟨c, _, rfl⟩ := List.mem_map.mp hx
            simp [lcT, v_isin_sub]
            rfl)
          rw [List.map_map, List.nil_append] at lp
          have lp : lcV (lcT (vE (Ψ n) (.op2 .isin (.var 1) (.glb 0))) (vT (Ψ n) .yes) [1] (.name 1)) (z.cps.toList.map fun c => .str ⟨#[c]⟩) [] [some (.str z), none] = .ok (z.cps.toList.map (W.bl ∘ isLet)) [some (.str z), none] := lp
          have hf : z.cps.size < fuel := by rw [show z.cps.size = z.length from rfl]; unfold fuel; omega
          simp [b_is_name, isNm, ls, k1, c1, c2, h3, d1, d2, hf, lp, blv_all]
      · have d2 : decide ((z.length : Int) ≤ 12) = false := decide_eq_false (by omega)
        simp [b_is_name, isNm, ls, c1, c2, d1, d2]
    · have d1 : decide ((1 : Int) ≤ (z.length : Int)) = false := decide_eq_false (by omega)
      simp [b_is_name, isNm, ls, c1, d1]
  | _ => simp [b_is_name, isNm]
def told (w : Str) : W → Bool
  | .tup [.str z, .tup _] => decide (z = w)
  | _ => false
theorem is_told_eq {n : Nat} {d : W} {w : Str} (h : Wf d) (hw : PyData.strOk w = true) : Gives (rn (n + 1) 2 [d, .str w]) (.bl (told w d)) := by
  rw [v_is_told]
  cases h with
  | tup xs hl hx =>
    match xs, hx with
    | [], hx => simp [b_is_told, told]
    | [a], hx => simp [b_is_told, told]
    | [a, b], hx =>
      have ha := hx a (by simp)
      have hb := hx b (by simp)
      cases ha with
      | str z h1 h2 =>
        have e : P2.v .ne (.str z) (.str w) = some (.bl (!decide (z = w))) := v_ne_str h1 hw
        by_cases q : z = w
        · subst q
          cases hb <;> simp [b_is_told, told, e]
        · simp [b_is_told, e, q]
          cases hb <;> simp [told, q]
      | _ => simp [b_is_told, told]
    | a :: b :: c :: r, hx =>
      have : ¬ ((r.length : Int) + 1 + 1 + 1 = 2) := by omega
      simp [b_is_told, told, this]
  | _ => simp [b_is_told, told]
theorem okQ : PyData.strOk ("quote" : Str) = true := by decide +kernel
theorem okP : PyData.strOk ("put" : Str) = true := by decide +kernel
theorem okL : PyData.strOk ("list" : Str) = true := by decide +kernel
def seqOf : W → List W
  | .tup [_, .tup xs] => xs
  | _ => []
/-- the put value -/
def putOf : W → Option W
  | .tup [.str z, v] => if z = "put" then some v else none
  | _ => none
/-- what stands within, None where the thing is no such -/
def inn (d : W) (b : Bool) : Option (List (W × Bool)) :=
  if isNum d = true then some []
  else if b = true ∧ isNm d = true then some []
  else if told "quote" d = true then some ((seqOf d).map fun x => (x, true))
  else if b = false then (if told "list" d = true then some ((seqOf d).map fun x => (x, false)) else none)
  else (putOf d).map fun v => [(v, false)]
def rowW (p : W × Bool) : W := .tup [p.1, .bl p.2]
theorem told_form {w : Str} {d : W} (h : told w d = true) : ∃ xs, d = .tup [.str w, .tup xs] ∧ seqOf d = xs := by
  unfold told at h
  split at h
  · simp only [decide_eq_true_eq] at h
    subst h
    exact ⟨_, rfl, rfl⟩
  · cases h
def rowsW : Option (List (W × Bool)) → W
  | some rows => .lst (rows.map rowW)
  | none => .non
theorem inner_rows_eq {n : Nat} {d : W} {b : Bool} (h : Wf d) : Gives (rn (n + 3) 4 [d, .bl b]) (rowsW (inn d b)) := by
  rw [v_inner_rows]
  have e3 := is_number_value_eq (n := n) h
  obtain ⟨p1, e1⟩ := is_name_eq (n := n + 1) h
  obtain ⟨pQ, eQ⟩ := is_told_eq (n := n + 1) h okQ
  obtain ⟨pL, eL⟩ := is_told_eq (n := n + 1) h okL
  have lc : ∀ (xs : List W) (c : Bool), xs.length ≤ 2000 → lcV (lcT (vE (Ψ (n + 2)) (.tup (.cons (.var 2) (.cons (.con (.bl c)) .nil)))) (vT (Ψ (n + 2)) .yes) [2] (.name 2)) xs [] [some d, some (.bl b), none] = .ok ((xs.map fun x => (x, c)).map rowW) [some d, some (.bl b), none] := fun xs c hl => by
    rw [lcV_map (fun x => .tup [x, .bl c]) (by rw [sizeLine_eq]; simp; omega) (fun x _ => by simp [lcT]), List.map_map]
    rfl
  cases q1 : isNum d with
  | true => simp [b_inner_rows, e3, q1, inn, rowsW]
  | false =>
    have hseq : ∀ {w : Str}, told w d = true → ∃ xs, d = .tup [.str w, .tup xs] ∧ seqOf d = xs ∧ xs.length ≤ 2000 := fun {w} t => by
      obtain ⟨xs, rfl, hs⟩ := told_form t
      refine ⟨xs, rfl, hs, ?_⟩
      cases h with
      | tup _ _ hx => cases hx (.tup xs) (by simp) with
        | tup _ hl _ => exact hl
    have fl : ∀ xs : List W, xs.length ≤ 2000 → xs.length < fuel := fun xs h => by unfold fuel; omega
    cases b with
    | true =>
      cases q2 : isNm d with
      | true => simp [b_inner_rows, e3, q1, e1, q2, inn, rowsW]
      | false =>
        cases q3 : told "quote" d with
        | true =>
          rw [q3] at eQ
          obtain ⟨xs, rfl, hs, hl⟩ := hseq q3
          simp [b_inner_rows, e3, q1, e1, q2, eQ, inn, lc xs true hl, hs, q3, rowsW, fl xs hl, -List.map_map]
        | false =>
          rw [q3] at eQ
          cases h with
          | tup xs hl hx =>
            match xs, hx with
            | [], hx => simp [b_inner_rows, e3, q1, e1, q2, eQ, inn, q3, putOf, rowsW]
            | [a], hx => simp [b_inner_rows, e3, q1, e1, q2, eQ, inn, q3, putOf, rowsW]
            | [a, c], hx =>
              have ha := hx a (by simp)
              cases ha with
              | str z h1 h2 =>
                have e : P2.v .eq (.str z) (.str "put") = some (.bl (decide (z = "put"))) := v_eq_str h1 okP
                by_cases q : z = "put"
                · subst q
                  simp [b_inner_rows, e3, q1, e1, q2, eQ, inn, q3, putOf, e, rowW, rowsW]
                · simp [b_inner_rows, e3, q1, e1, q2, eQ, inn, q3, putOf, e, q, rowsW]
              | _ => simp [b_inner_rows, e3, q1, e1, q2, eQ, inn, q3, putOf, rowsW]
            | a :: b :: c :: r, hx =>
              have : ¬ ((r.length : Int) + 1 + 1 + 1 = 2) := by omega
              simp [b_inner_rows, e3, q1, e1, q2, eQ, inn, q3, putOf, this, rowsW]
          | _ => simp [b_inner_rows, e3, q1, e1, q2, eQ, inn, q3, putOf, rowsW]
    | false =>
      cases q3 : told "quote" d with
      | true =>
        rw [q3] at eQ
        obtain ⟨xs, rfl, hs, hl⟩ := hseq q3
        simp [b_inner_rows, e3, q1, eQ, inn, hs, q3, lc xs true hl, rowsW, fl xs hl, -List.map_map]
      | false =>
        rw [q3] at eQ
        cases q4 : told "list" d with
        | false =>
          rw [q4] at eL
          simp [b_inner_rows, e3, q1, eQ, eL, inn, q3, q4, rowsW]
        | true =>
          rw [q4] at eL
          obtain ⟨xs, rfl, hs, hl⟩ := hseq q4
          simp [b_inner_rows, e3, q1, eQ, eL, inn, hs, q3, q4, lc xs false hl, rowsW, fl xs hl, -List.map_map]
end K00

namespace K00
open PySem PyL
theorem inn_wf {d : W} {b : Bool} {rows : List (W × Bool)} (h : Wf d) (e : inn d b = some rows) : rows.length ≤ 2000 ∧ ∀ p ∈ rows, Wf p.1 := by
  have sub : ∀ {w : Str} {xs : List W}, Wf (.tup [.str w, .tup xs]) → xs.length ≤ 2000 ∧ ∀ x ∈ xs, Wf x := fun {w xs} h => by
    cases h with
    | tup _ _ hx => cases hx (.tup xs) (by simp) with
      | tup _ hl hx => exact ⟨hl, hx⟩
  have seq : ∀ {w : Str} {c : Bool}, told w d = true → ((seqOf d).map fun x => (x, c)).length ≤ 2000 ∧ ∀ p ∈ (seqOf d).map fun x => (x, c), Wf p.1 := fun {w c} t => by
    obtain ⟨xs, rfl, hs⟩ := told_form t
    obtain ⟨a, k⟩ := sub h
    rw [hs]
    refine ⟨by simpa using a, fun p hp => ?_⟩
    obtain ⟨x, hx, rfl⟩ := List.mem_map.mp hp
    exact k x hx
  unfold inn at e
  split at e
  · cases e; exact ⟨by simp, by simp⟩
  · split at e
    · cases e; exact ⟨by simp, by simp⟩
    · split at e
      · rename_i t
        cases e
        exact seq t
      · split at e
        · split at e
          · rename_i t
            cases e
            exact seq t
          · cases e
        · cases q : putOf d with
          | none => rw [q] at e; cases e
          | some v =>
            rw [q] at e
            cases e
            refine ⟨by simp, fun p hp => ?_⟩
            rw [List.mem_singleton.mp hp]
            unfold putOf at q
            split at q
            · split at q
              · cases q
                cases h with
                | tup _ _ hx => exact hx _ (by simp)
              · cases q
            · cases q
/-- the row of what waits: the thing, is it an item, how deep -/
abbrev Wt := W × Bool × Nat
def wW (p : Wt) : W := .tup [p.1, .bl p.2.1, .int p.2.2]
def lp : Nat → Nat → List Wt → Bool
  | 0, _, _ => false
  | k + 1, many, w => match w.getLast? with
    | none => true
    | some (d, b, dep) => match inn d b with
      | none => false
      | some rows => if many + 1 > 1000 ∨ dep > 30 then false else lp k (many + 1) (w.dropLast ++ rows.map fun p => (p.1, p.2, dep + 1))
theorem last_split {α : Type} {w : List α} {x : α} (h : w.getLast? = some x) : w = w.dropLast ++ [x] := by
  have hn : w ≠ [] := by rintro rfl; cases h
  rw [List.getLast?_eq_some_getLast hn] at h
  cases h
  exact (List.dropLast_concat_getLast hn).symm
def lpRes (R : Bool) (o : SW) : Prop := (∃ σ', o = SW.rt (.bl false) σ' ∧ R = false) ∨ ∃ σ', o = SW.nx σ' ∧ R = true
def sBd : S := b_is_bounded.tl.hd
theorem is_bounded_eq {n : Nat} {rows : List (W × Bool)} (hl : rows.length ≤ 2000) (hw : ∀ p ∈ rows, Wf p.1) :
    Gives (rn (n + 4) 5 [.lst (rows.map rowW)]) (.bl (lp 1001 0 (rows.map fun p => (p.1, p.2, 1)))) := by
  rw [v_is_bounded]
  have l1 : lcV (lcT (vE (Ψ (n + 3)) (.tup (.cons (.var 4) (.cons (.var 5) (.cons (.con (.int 1)) .nil))))) (vT (Ψ (n + 3)) .yes) [4, 5] (.tup [4, 5])) (rows.map rowW) [] [some (.lst (rows.map rowW)), none, none, none, none, none, none, none, none] = .ok ((rows.map fun p => (p.1, p.2, 1)).map wW) [some (.lst (rows.map rowW)), none, none, none, none, none, none, none, none] := by
    rw [lcV_map (fun d => match d with | .tup [x, .bl b] => .tup [x, .bl b, .int 1] | _ => .non) (by rw [sizeLine_eq]; simp; omega) (fun x hx => ?_), List.map_map, List.map_map]
    · rfl
    · obtain ⟨p, _, rfl⟩ := List.mem_map.mp hx
      simp [lcT, rowW]
  have hf : rows.length < fuel := by unfold fuel; omega
  generalize hR : lp 1001 0 (rows.map fun p => (p.1, p.2, 1)) = R
  have L := whileV_P (c := vT (Ψ (n + 3)) sBd.test) (b := vSs (Ψ (n + 3)) sBd.body)
    (fun m σ => ∃ (many : Nat) (w : List Wt) (i0 i3 i4 i5 i6 i7 i8 : Option W), m + many = 1001 ∧ many ≤ 1000 ∧ σ = [i0, some (.int many), some (.lst (w.map wW)), i3, i4, i5, i6, i7, i8] ∧ (∀ p ∈ w, Wf p.1) ∧ w.length ≤ 2000 * (many + 1) ∧ lp m many w = R) (lpRes R)
    (fun m σ ⟨many, w, i0, i3, i4, i5, i6, i7, i8, hm, hm2, hσ, hWf, hlen, hlp⟩ => by
      subst hσ
      obtain ⟨m, rfl⟩ : ∃ m', m = m' + 1 := ⟨m - 1, by omega⟩
      cases hwl : w.getLast? with
      | none =>
        left
        have : w = [] := by simpa using hwl
        subst this
        exact ⟨by simp [sBd, b_is_bounded, Ss.hd, Ss.tl, S.test], .inr ⟨_, rfl, by rw [← hlp]; simp [lp]⟩⟩
      | some p =>
        right
        obtain ⟨d, b, dep⟩ := p
        have hs := last_split hwl
        have hwf : ∀ p ∈ w.dropLast, Wf p.1 := fun p hp => hWf p (List.dropLast_subset _ hp)
        simp only [lp, hwl] at hlp
        generalize w.dropLast = wl at *
        subst hs
        have : (0 : Int) < (wl.length : Int) + 1 := by omega
        refine ⟨by simp [sBd, b_is_bounded, Ss.hd, Ss.tl, S.test, this], ?_⟩
        have wfd : Wf d := hWf (d, b, dep) (by simp)
        obtain ⟨ps, er⟩ := inner_rows_eq (n := n) (b := b) wfd
        cases hin : inn d b with
        | none =>
          simp only [hin] at er hlp
          right
          exact ⟨.bl false, [i0, some (.int ((many : Int) + 1)), some (.lst (wl.map wW)), some .non, some d, some (.bl b), some (.int dep), i7, i8], by
            simp [sBd, b_is_bounded, Ss.hd, Ss.tl, S.body, okPl, W.isL, updAt_nil, wW, er, rowsW], .inl ⟨_, rfl, hlp.symm⟩⟩
        | some rws =>
          simp only [hin] at er hlp
          obtain ⟨rl, rw2⟩ := inn_wf wfd hin
          by_cases hbig : many + 1 > 1000 ∨ dep > 30
          · rw [if_pos hbig] at hlp
            right
            refine ⟨.bl false, [i0, some (.int ((many : Int) + 1)), some (.lst (wl.map wW)), some (.lst (rws.map rowW)), some d, some (.bl b), some (.int dep), i7, i8], ?_, .inl ⟨_, rfl, hlp.symm⟩⟩
            by_cases hb1 : many + 1 > 1000
            · have h1 : (1000 : Int) < (many : Int) + 1 := by omega
              simp [sBd, b_is_bounded, Ss.hd, Ss.tl, S.body, okPl, W.isL, updAt_nil, wW, er, rowsW, h1]
            · have h1 : ¬ (1000 : Int) < (many : Int) + 1 := by omega
              have h2 : (30 : Int) < (dep : Int) := by omega
              simp [sBd, b_is_bounded, Ss.hd, Ss.tl, S.body, okPl, W.isL, updAt_nil, wW, er, rowsW, h1, h2]
          · rw [if_neg hbig] at hlp
            have h1 : ¬ (1000 : Int) < (many : Int) + 1 := by omega
            have h2 : ¬ (30 : Int) < (dep : Int) := by omega
            have l3 : ∀ σ0 : VE, σ0 = [i0, some (.int ((many : Int) + 1)), some (.lst (wl.map wW)), some (.lst (rws.map rowW)), some d, some (.bl b), some (.int (dep : Int)), i7, i8] → lcV (lcT (vE (Ψ (n + 3)) (.tup (.cons (.var 7) (.cons (.var 8) (.cons (.op2 .add (.var 6) (.con (.int 1))) .nil))))) (vT (Ψ (n + 3)) .yes) [7, 8] (.tup [7, 8])) (rws.map rowW) [] σ0 = .ok ((rws.map fun p => (p.1, p.2, dep + 1)).map wW) σ0 := fun σ0 hs => by
              subst hs
              rw [lcV_map (fun x => match x with | .tup [x, .bl b] => .tup [x, .bl b, .int ((dep : Int) + 1)] | _ => .non) (by rw [sizeLine_eq]; simp; omega) (fun x hx => ?_), List.map_map, List.map_map]
              · rfl
              · obtain ⟨p, _, rfl⟩ := List.mem_map.mp hx
                simp [lcT, rowW]
            have hf2 : rws.length < fuel := by unfold fuel; omega
            have ext : mExt ((rws.map fun p => ((p.1, p.2, dep + 1) : Wt)).map wW) (.lst (wl.map wW)) = some (.lst (wl.map wW ++ (rws.map fun p => ((p.1, p.2, dep + 1) : Wt)).map wW), .non) := upd_ext (by rw [sizeLine_eq]; simp at hlen ⊢; omega)
            left
            refine ⟨[i0, some (.int ((many : Int) + 1)), some (.lst (wl.map wW ++ (rws.map fun p => ((p.1, p.2, dep + 1) : Wt)).map wW)), some (.lst (rws.map rowW)), some d, some (.bl b), some (.int dep), i7, i8], m, ?_, by omega, many + 1, wl ++ rws.map fun p => (p.1, p.2, dep + 1), i0, some (.lst (rws.map rowW)), some d, some (.bl b), some (.int dep), i7, i8, by omega, by omega, by simp, ?_, by simp at hlen ⊢; omega, hlp⟩
            · simp [sBd, b_is_bounded, Ss.hd, Ss.tl, S.body, okPl, W.isL, updAt_nil, wW, er, rowsW, h1, h2, hf2, l3 _ rfl, ext, -List.map_map]
            · intro p hp
              rcases List.mem_append.mp hp with hp | hp
              · exact hwf p hp
              · obtain ⟨q, hq, rfl⟩ := List.mem_map.mp hp
                exact rw2 q hq)
    1001 fuel [some (.lst (rows.map rowW)), some (.int 0), some (.lst ((rows.map fun p => (p.1, p.2, 1)).map wW)), none, none, none, none, none, none] (by unfold fuel; omega)
    ⟨0, rows.map fun p => (p.1, p.2, 1), _, none, none, none, none, none, none, rfl, by omega, rfl, fun p hp => by
      obtain ⟨q, hq, rfl⟩ := List.mem_map.mp hp
      exact hw q hq, by simp; omega, hR⟩
  have e0 : b_is_bounded = .cons b_is_bounded.hd (.cons (.wh sBd.test sBd.body) (.cons (.rt (.con (.bl true))) .nil)) := rfl
  have e1 : vS (Ψ (n + 3)) b_is_bounded.hd [some (.lst (rows.map rowW)), none, none, none, none, none, none, none, none] = .nx [some (.lst (rows.map rowW)), some (.int 0), some (.lst ((rows.map fun p => (p.1, p.2, 1)).map wW)), none, none, none, none, none, none] := by
    simp [b_is_bounded, Ss.hd, hf, l1, -List.map_map]
  rw [e0]
  simp only [wSs_cons, e1, SW.andThen_nx, wS_wh, Ψ_fuel]
  rcases L with ⟨σ', e, hr⟩ | ⟨σ', e, hr⟩
  · rw [e]; simp [hr]
  · rw [e]; simp [hr]
def isPrg : W → Bool
  | .tup xs => lp 1001 0 (xs.map fun x => (x, true, 1))
  | _ => false
def isVal (d : W) : Bool := lp 1001 0 [(d, false, 1)]
def isPile : W → Bool
  | .tup xs => decide (xs.length ≤ 200) && xs.all isVal
  | _ => false
theorem is_program_eq {n : Nat} {d : W} (h : Wf d) : Gives (rn (n + 5) 6 [d]) (.bl (isPrg d)) := by
  rw [v_is_program]
  cases h with
  | tup xs hl hx =>
    have l1 : lcV (lcT (vE (Ψ (n + 4)) (.tup (.cons (.var 1) (.cons (.con (.bl true)) .nil)))) (vT (Ψ (n + 4)) .yes) [1] (.name 1)) xs [] [some (.tup xs), none] = .ok ((xs.map fun x => (x, true)).map rowW) [some (.tup xs), none] := by
      rw [lcV_map (fun x => .tup [x, .bl true]) (by rw [sizeLine_eq]; simp; omega) (fun x _ => by simp [lcT]), List.map_map]
      rfl
    have hf : xs.length < fuel := by unfold fuel; omega
    obtain ⟨ps, e⟩ := is_bounded_eq (n := n) (rows := xs.map fun x => (x, true)) (by simpa using hl) (fun q hq => by
      obtain ⟨x, hx', rfl⟩ := List.mem_map.mp hq
      exact hx x hx')
    rw [show ((xs.map fun x => (x, true)).map fun p => (p.1, p.2, 1)) = xs.map fun x => (x, true, 1) by rw [List.map_map]; rfl] at e
    simp [b_is_program, l1, hf, e, isPrg, -List.map_map]
  | _ => simp [b_is_program, isPrg]
theorem is_value_eq {n : Nat} {d : W} (h : Wf d) : Gives (rn (n + 5) 7 [d]) (.bl (isVal d)) := by
  rw [v_is_value]
  obtain ⟨ps, e⟩ := is_bounded_eq (n := n) (rows := [(d, false)]) (by simp) (fun q hq => by rw [List.mem_singleton.mp hq]; exact h)
  simp [rowW] at e
  simp [b_is_value, e, isVal]
theorem is_pile_eq {n : Nat} {d : W} (h : Wf d) : Gives (rn (n + 6) 8 [d]) (.bl (isPile d)) := by
  rw [v_is_pile]
  cases h with
  | tup xs hl hx =>
    by_cases hs : xs.length ≤ 200
    · have h1 : (xs.length : Int) ≤ 200 := by omega
      have l1 : lcV (lcT (vE (Ψ (n + 5)) (.call 7 (.cons (.var 1) .nil))) (vT (Ψ (n + 5)) .yes) [1] (.name 1)) xs [] [some (.tup xs), none] = .ok (xs.map (W.bl ∘ isVal)) [some (.tup xs), none] := by
        rw [lcV_map (W.bl ∘ isVal) (by rw [sizeLine_eq]; simp; omega) (fun x hx' => by
          obtain ⟨ps, e⟩ := is_value_eq (n := n) (hx x hx')
          simp [lcT, e])]
        rfl
      have hf : xs.length < fuel := by unfold fuel; omega
      simp [b_is_pile, h1, l1, hf, isPile, hs, blv_all]
    · have h1 : ¬ (xs.length : Int) ≤ 200 := by omega
      simp [b_is_pile, h1, isPile, hs]
  | _ => simp [b_is_pile, isPile]
end K00

namespace K00
open PySem PyL
/-! ### what is bounded -/
mutual
/-- a good thing: so many nodes, so deep -/
inductive Tr : Bool → W → Nat → Nat → Prop
  | mk {b : Bool} {d : W} {rows : List (W × Bool)} {c h : Nat} : inn d b = some rows → Trs rows c h → Tr b d (c + 1) (h + 1)
inductive Trs : List (W × Bool) → Nat → Nat → Prop
  | nil : Trs [] 0 0
  | cons {d : W} {b : Bool} {rows : List (W × Bool)} {c h c' h' : Nat} : Tr b d c h → Trs rows c' h' → Trs ((d, b) :: rows) (c + c') (max h h')
end
/-- a thing with a bad one in it -/
inductive Bd : Bool → W → Prop
  | here {b : Bool} {d : W} : inn d b = none → Bd b d
  | sub {b b' : Bool} {d x : W} {rows : List (W × Bool)} : inn d b = some rows → (x, b') ∈ rows → Bd b' x → Bd b d
/-- what waits is good: so many nodes, none deeper than m -/
inductive Ws : List Wt → Nat → Nat → Prop
  | nil {m : Nat} : Ws [] 0 m
  | snoc {w : List Wt} {c m : Nat} {b : Bool} {d : W} {dep c' h : Nat} : Ws w c m → Tr b d c' h → dep + h ≤ m + 1 → Ws (w ++ [(d, b, dep)]) (c + c') m
theorem Ws.append {w : List Wt} {c m : Nat} (x : Ws w c m) : ∀ {u : List Wt} {c' : Nat}, Ws u c' m → Ws (w ++ u) (c + c') m := by
  intro u c' y
  induction y with
  | nil => simpa using x
  | snoc y t hd ih =>
    rw [← List.append_assoc, ← Nat.add_assoc]
    exact .snoc (ih x) t hd
theorem Ws.one {b : Bool} {d : W} {dep c h m : Nat} (t : Tr b d c h) (hd : dep + h ≤ m + 1) : Ws [(d, b, dep)] c m := by
  have := Ws.snoc (.nil (m := m)) t hd
  simpa using this
theorem Trs.ws {m dep : Nat} : ∀ {rows : List (W × Bool)} {c h : Nat}, Trs rows c h → dep + h ≤ m + 1 → Ws (rows.map fun p => (p.1, p.2, dep)) c m
  | _, _, _, .nil, _ => .nil
  | _, _, _, .cons t r, hd => by
    have h1 := Ws.one (dep := dep) (m := m) t (by omega)
    have h2 := Trs.ws (m := m) (dep := dep) r (by omega)
    exact h1.append h2
theorem lp_good : ∀ (k many : Nat) (w : List Wt) (c : Nat), k + many = 1001 → Ws w c 30 → many + c ≤ 1000 → lp k many w = true
  | 0, many, w, c, hk, hw, hc => by omega
  | k + 1, many, w, c, hk, hw, hc => by
    cases hw with
    | nil => simp [lp]
    | @snoc w' c0 m b d dep c' h hw t hd =>
      cases t with
      | @mk _ _ rows c1 h1 hin hr =>
        have := lp_good k (many + 1) (w' ++ rows.map fun p => (p.1, p.2, dep + 1)) (c0 + c1) (by omega) (hw.append (hr.ws (by omega))) (by omega)
        simp [lp, hin, this]
        omega
theorem lp_big : ∀ (k many : Nat) (w : List Wt) (c m : Nat), k + many = 1001 → Ws w c m → 1000 < many + c → lp k many w = false
  | 0, many, w, c, m, hk, hw, hc => by simp [lp]
  | k + 1, many, w, c, m, hk, hw, hc => by
    cases hw with
    | nil => omega
    | @snoc w' c0 m b d dep c' h hw t hd =>
      cases t with
      | @mk _ _ rows c1 h1 hin hr =>
        have := lp_big k (many + 1) (w' ++ rows.map fun p => (p.1, p.2, dep + 1)) (c0 + c1) m (by omega) (hw.append (hr.ws (by omega))) (by omega)
        simp [lp, hin, this]
theorem lp_bad : ∀ (k many : Nat) (w : List Wt) (d : W) (b : Bool) (dep : Nat), (d, b, dep) ∈ w → Bd b d → lp k many w = false
  | 0, many, w, d, b, dep, hm, hb => by simp [lp]
  | k + 1, many, w, d, b, dep, hm, hb => by
    cases hl : w.getLast? with
    | none => 
      have : w = [] := by simpa using hl
      subst this
      simp at hm
    | some p =>
      obtain ⟨d', b', dep'⟩ := p
      have hs := last_split hl
      simp only [lp, hl]
      cases hin : inn d' b' with
      | none => rfl
      | some rows =>
        simp only
        rw [hs] at hm
        split
        · rfl
        · rcases List.mem_append.mp hm with hm | hm
          · exact lp_bad k _ _ d b dep (List.mem_append_left _ hm) hb
          · cases List.mem_singleton.mp hm
            cases hb with
            | here h => rw [hin] at h; cases h
            | @sub _ b2 _ x rows' h hx hb2 =>
              rw [hin] at h
              cases h
              exact lp_bad k _ _ x b2 (dep + 1) (List.mem_append_right _ (List.mem_map.mpr ⟨(x, b2), hx, rfl⟩)) hb2

/-- the bag of drawn numbers -/
def BagV (ns : List Int) (i : Nat) (big seed cnt : Int) : W := .lst [.lst (ns.map W.int), .int (i : Int), .int big, .int seed, .int cnt]
def Bag (b : W) : Prop := ∃ ns i big seed cnt, b = BagV ns i big seed cnt ∧ (∀ n ∈ ns, 0 ≤ n) ∧ 0 ≤ big
theorem fmod_range {a w : Int} (hw : 0 < w) : ∃ r : Nat, a.fmod w = (r : Int) ∧ (r : Int) < w := by
  have h1 : 0 ≤ a.fmod w := Int.fmod_nonneg_of_pos a hw
  have h2 : a.fmod w < w := Int.fmod_lt_of_pos a hw
  exact ⟨(a.fmod w).toNat, by omega, by omega⟩
theorem fdiv_nonneg {a w : Int} (ha : 0 ≤ a) (hw : 0 < w) : 0 ≤ a.fdiv w := by
  rw [Int.fdiv_eq_ediv_of_nonneg _ (Int.le_of_lt hw)]
  exact Int.ediv_nonneg ha (Int.le_of_lt hw)
theorem pick1 {n : Nat} {w : Int} {ns : List Int} {i : Nat} {big seed cnt : Int} (h4 : ∀ n ∈ ns, 0 ≤ n) (h5 : 0 ≤ big) :
    ∃ e i' big' seed', vS (Ψ n) b__law_pick.hd [some (BagV ns i big seed cnt), some (.int w), none, none, none] = .nx [some (BagV ns i' big' seed' cnt), some (.int w), none, e, none] ∧ 0 ≤ big' := by
  by_cases c1 : big = 0
  · subst c1
    by_cases c2 : i < ns.length
    · have c2' : (i : Int) < (ns.length : Int) := by omega
      have hx : (ns.map W.int)[i]? = some (.int ns[i]) := by rw [List.getElem?_map, List.getElem?_eq_getElem c2]; rfl
      have hn : 0 ≤ ns[i] := h4 _ (List.getElem_mem c2)
      generalize ns[i] = cell at hx hn
      have p1 : P2.v .pow (.int 10) (.int 18) = some (.int 1000000000000000000) := by rw [v_pow (by decide) (by decide) (by decide)]; rfl
      have m1 : ∀ a : Int, P2.v .mul (.int a) (.int 69621) = some (.int (a * 69621)) := fun a => v_mul_r (by decide)
      have m2 : ∀ a : Int, P2.v .mul (.int a) (.int 40692) = some (.int (a * 40692)) := fun a => v_mul_r (by decide)
      have m3 : ∀ a : Int, P2.v .mod (.int a) (.int 2147483629) = some (.int (a.fmod 2147483629)) := fun a => v_mod (by decide)
      by_cases c3 : (1000000000000000000 : Int) ≤ cell
      · refine ⟨some (.int cell), i + 1, cell, (seed * 69621 + cell * 40692 + 41).fmod 2147483629, ?_, hn⟩
        simp [b__law_pick, Ss.hd, BagV, c2', hx, m1, m2, m3, p1, c3, okPl, W.isL, updAt_nil, upd_set1, upd_set2, upd_set3, -List.getElem?_map]
      · refine ⟨some (.int cell), i + 1, 0, (seed * 69621 + cell * 40692 + 41).fmod 2147483629, ?_, h5⟩
        simp [b__law_pick, Ss.hd, BagV, c2', hx, m1, m2, m3, p1, c3, okPl, W.isL, updAt_nil, upd_set1, upd_set2, upd_set3, -List.getElem?_map]
    · have c2' : ¬ (i : Int) < (ns.length : Int) := by omega
      refine ⟨none, i, 0, seed, ?_, h5⟩
      simp [b__law_pick, Ss.hd, BagV, c2']
  · refine ⟨none, i, big, seed, ?_, h5⟩
    simp [b__law_pick, Ss.hd, BagV, c1]
theorem pick2 {n : Nat} {w : Int} {ns : List Int} {i : Nat} {big seed cnt : Int} {e : Option W} (h5 : 0 ≤ big) (hw : 0 < w) (hw2 : w < 1073741824) :
    ∃ r : Nat, ∃ big' cnt', endV 2 (vSs (Ψ n) b__law_pick.tl [some (BagV ns i big seed cnt), some (.int w), none, e, none]) = .ok (.int r) [some (BagV ns i big' seed cnt'), some (.int w)] ∧ (r : Int) < w ∧ 0 ≤ big' := by
  have wn : w ≠ 0 := by omega
  have wl : w.natAbs < 1073741824 := by omega
  have mw : ∀ a : Int, P2.v .mod (.int a) (.int w) = some (.int (a.fmod w)) := fun a => v_mod wn
  have dw : ∀ a : Int, P2.v .fdiv (.int a) (.int w) = some (.int (a.fdiv w)) := fun a => v_div wn wl
  by_cases c1 : 0 < big
  · obtain ⟨r, hr, hr2⟩ := fmod_range (a := big) hw
    refine ⟨r, big.fdiv w, cnt, ?_, hr2, fdiv_nonneg h5 hw⟩
    simp [b__law_pick, Ss.tl, BagV, c1, mw, dw, hr, okPl, W.isL, updAt_nil, upd_set2]
  · have m1 : ∀ a : Int, P2.v .mul (.int 7919) (.int a) = some (.int (7919 * a)) := fun a => v_mul_l (by decide)
    have m2 : ∀ a : Int, P2.v .mul (.int a) (.int 48271) = some (.int (a * 48271)) := fun a => v_mul_r (by decide)
    have m3 : ∀ a : Int, P2.v .mod (.int a) (.int 2147483647) = some (.int (a.fmod 2147483647)) := fun a => v_mod (by decide)
    have m4 : ∀ a : Int, P2.v .mod (.int a) (.int 2147483563) = some (.int (a.fmod 2147483563)) := fun a => v_mod (by decide)
    have d1 : ∀ a : Int, P2.v .fdiv (.int a) (.int 1009) = some (.int (a.fdiv 1009)) := fun a => v_div (by decide) (by decide)
    have d2 : ∀ a : Int, P2.v .fdiv (.int a) (.int 2003) = some (.int (a.fdiv 2003)) := fun a => v_div (by decide) (by decide)
    have d3 : ∀ a : Int, P2.v .fdiv (.int a) (.int 16) = some (.int (a.fdiv 16)) := fun a => v_div (by decide) (by decide)
    obtain ⟨x1, hx1, hx1'⟩ := fmod_range (a := (seed + 7919 * (cnt + 1)) * 48271) (w := 2147483647) (by decide)
    have q1 : ∀ a : Int, P2.v .mul (.int (x1 : Int)) (.int a) = some (.int (x1 * a)) := fun a => v_mul_l (by omega)
    obtain ⟨x2, hx2, hx2'⟩ := fmod_range (a := (x1 : Int) * ((x1 : Int).fdiv 1009 + 69621)) (w := 2147483647) (by decide)
    have q2 : ∀ a : Int, P2.v .mul (.int (x2 : Int)) (.int a) = some (.int (x2 * a)) := fun a => v_mul_l (by omega)
    obtain ⟨x3, hx3, hx3'⟩ := fmod_range (a := (x2 : Int) * ((x2 : Int).fdiv 2003 + 40014)) (w := 2147483563) (by decide)
    obtain ⟨r, hr, hr2⟩ := fmod_range (a := (x3 : Int).fdiv 16) hw
    refine ⟨r, big, cnt + 1, ?_, hr2, h5⟩
    simp [b__law_pick, Ss.tl, BagV, c1, mw, m1, m2, m3, m4, d1, d2, d3, hx1, q1, hx2, q2, hx3, hr, okPl, W.isL, updAt_nil, upd_set4]
theorem pick_eq {n : Nat} {b : W} {w : Int} (h : Bag b) (hw : 0 < w) (hw2 : w < 1073741824) : ∃ r : Nat, ∃ b', rn (n + 1) 10 [b, .int w] = .ok (.int r) [some b', some (.int w)] ∧ (r : Int) < w ∧ Bag b' := by
  rw [v__law_pick]
  obtain ⟨ns, i, big, seed, cnt, rfl, h4, h5⟩ := h
  obtain ⟨e, i', big', seed', e1, b1⟩ := pick1 (n := n) (w := w) (i := i) (seed := seed) (cnt := cnt) h4 h5
  obtain ⟨r, big2, cnt2, e2, hr, b2⟩ := pick2 (n := n) (e := e) (ns := ns) (i := i') (seed := seed') (cnt := cnt) b1 hw hw2
  refine ⟨r, BagV ns i' big2 seed' cnt2, ?_, hr, ⟨ns, i', big2, seed', cnt2, rfl, h4, b2⟩⟩
  rw [show b__law_pick = .cons b__law_pick.hd b__law_pick.tl from rfl, wSs_cons, e1]
  exact e2
/-- one of a tuple, of a list, of a text -/
theorem some_tup {n : Nat} {b : W} {xs : List W} (h : Bag b) (h0 : xs ≠ []) (hl : xs.length < 1000000) : ∃ x ∈ xs, ∃ b', rn (n + 2) 11 [b, .tup xs] = .ok x [some b', some (.tup xs)] ∧ Bag b' := by
  rw [v__law_some]
  have hp : 0 < xs.length := List.length_pos_iff.mpr h0
  obtain ⟨r, b', e1, hr, b1⟩ := pick_eq (n := n) (w := (xs.length : Int)) h (by omega) (by omega)
  have hr' : r < xs.length := by omega
  refine ⟨xs[r], List.getElem_mem hr', b', ?_, b1⟩
  simp [b__law_some, e1, List.getElem?_eq_getElem hr']
theorem some_lst {n : Nat} {b : W} {xs : List W} (h : Bag b) (h0 : xs ≠ []) (hl : xs.length < 1000000) : ∃ x ∈ xs, ∃ b', rn (n + 2) 11 [b, .lst xs] = .ok x [some b', some (.lst xs)] ∧ Bag b' := by
  rw [v__law_some]
  have hp : 0 < xs.length := List.length_pos_iff.mpr h0
  obtain ⟨r, b', e1, hr, b1⟩ := pick_eq (n := n) (w := (xs.length : Int)) h (by omega) (by omega)
  have hr' : r < xs.length := by omega
  refine ⟨xs[r], List.getElem_mem hr', b', ?_, b1⟩
  simp [b__law_some, e1, List.getElem?_eq_getElem hr']
end K00

namespace K00
open PySem PyL
theorem joinL_nil : ∀ ps : List (List Nat), TL.joinL [] ps = ps.flatten
  | [] => rfl
  | [p] => by simp [TL.joinL]
  | p :: q :: r => by
    rw [TL.joinL, joinL_nil (q :: r)]
    simp
theorem join_cps (ts : List Str) : (Txt.join ("" : Str) ts).cps.toList = (ts.map fun t => t.cps.toList).flatten := by
  show (Builtin.Str.glued ("" : Str) ts).cps.toList = _
  rw [StrLaws.glued_eq_join]
  have := TL.tl_join ("" : Str) ts
  have h2 : TL.tl ("" : Str) = [] := by decide
  rw [h2, joinL_nil] at this
  exact this
def lets : List Nat := letters.cps.toList
theorem let_ok : ∀ c ∈ lets, isLet c = true ∧ c < 0x110000 := by decide +kernel
/-- a name that may stand -/
def GoodNm (z : Str) : Prop := isNm (.str z) = true ∧ PyData.strOk z = true ∧ z.length ≤ 12
theorem strOk_of {z : Str} (h : ∀ c ∈ z.cps.toList, c < 0x110000) : PyData.strOk z = true := by
  unfold PyData.strOk
  rw [← Array.all_toList]
  exact List.all_eq_true.mpr fun c hc => decide_eq_true (h c hc)
theorem flat_ones : ∀ cs : List Nat, (cs.map ((fun t : Str => t.cps.toList) ∘ fun c => (⟨#[c]⟩ : Str))).flatten = cs
  | [] => rfl
  | c :: cs => by
    rw [List.map_cons, List.flatten_cons, flat_ones cs]
    rfl
theorem sum_ones : ∀ cs : List Nat, (cs.map (Str.length ∘ fun c => (⟨#[c]⟩ : Str))).sum = cs.length
  | [] => rfl
  | c :: cs => by
    rw [List.map_cons, List.sum_cons, sum_ones cs]
    show 1 + cs.length = cs.length + 1
    omega
def wlist (z : Str) : List W := [.str "dup", .str "swap", .str "add", .str "call", .str "if", .str "times", .str z, .str z, .str "cons", .str "say"]
theorem fixed_ok : ∀ z ∈ (["dup", "swap", "add", "call", "if", "times", "cons", "say"] : List Str), isNm (.str z) = true ∧ PyData.strOk z = true ∧ z.length ≤ 12 := by decide +kernel
theorem words_ok {z1 : Str} (hg : GoodNm z1) (x : W) (hx : x ∈ [W.str "dup", .str "swap", .str "add", .str "call", .str "if", .str "times", .str z1, .str z1, .str "cons", .str "say"]) : ∃ z, x = .str z ∧ GoodNm z := by
  simp only [List.mem_cons, List.not_mem_nil, or_false] at hx
  rcases hx with h | h | h | h | h | h | h | h | h | h
  · exact ⟨_, h, fixed_ok _ (by simp)⟩
  · exact ⟨_, h, fixed_ok _ (by simp)⟩
  · exact ⟨_, h, fixed_ok _ (by simp)⟩
  · exact ⟨_, h, fixed_ok _ (by simp)⟩
  · exact ⟨_, h, fixed_ok _ (by simp)⟩
  · exact ⟨_, h, fixed_ok _ (by simp)⟩
  · exact ⟨_, h, hg⟩
  · exact ⟨_, h, hg⟩
  · exact ⟨_, h, fixed_ok _ (by simp)⟩
  · exact ⟨_, h, fixed_ok _ (by simp)⟩
theorem kept_x {z : Str} (hk : kept.any (· == z) = true) : GoodNm (z ++ "x") ∧ z.length ≤ 5 := by
  have : ∀ z ∈ kept, (isNm (.str (z ++ "x")) = true ∧ PyData.strOk (z ++ "x") = true ∧ (z ++ "x").length ≤ 12) ∧ z.length ≤ 5 := by decide +kernel
  obtain ⟨y, hy, e⟩ := List.any_eq_true.mp hk
  have e := beq_iff_eq.mp e
  subst e
  exact this y hy

theorem some_letter {n : Nat} {b : W} (h : Bag b) : ∃ c ∈ lets, ∃ b', rn (n + 2) 11 [b, .str "abcdefghijklmnopqrstuvwxyz"] = .ok (.str ⟨#[c]⟩) [some b', some (.str "abcdefghijklmnopqrstuvwxyz")] ∧ Bag b' := by
  rw [v__law_some]
  have hl : letters.length = 26 := by decide +kernel
  have hz : letters.length ≤ sizeLine := by rw [hl]; simp
  obtain ⟨r, b', e1, hr, b1⟩ := pick_eq (n := n) (w := (letters.length : Int)) h (by rw [hl]; decide) (by rw [hl]; decide)
  have hr' : r < lets.length := by
    have : lets.length = letters.length := rfl
    omega
  refine ⟨lets[r], List.getElem_mem hr', b', ?_, b1⟩
  have e2 : W.len (.str "abcdefghijklmnopqrstuvwxyz") = some letters.length := len_str' hz
  have e3 : W.ix (.str "abcdefghijklmnopqrstuvwxyz") (.int (r : Int)) = some (.str ⟨#[lets[r]]⟩) := by
    have := ix_str' hz (r : Int)
    rw [show L2.atI letters.cps.toList (r : Int) = some lets[r] from (atI_cast _ _).trans (List.getElem?_eq_getElem hr')] at this
    exact this
  simp [b__law_some, e1, e2, e3]
theorem word_eq {n : Nat} {b : W} (h : Bag b) : ∃ z b', rn (n + 3) 14 [b] = .ok (.str z) [some b'] ∧ GoodNm z ∧ Bag b' := by
  rw [v__law_word]
  obtain ⟨r, b1, e1, hr, hb1⟩ := pick_eq (n := n + 1) (w := 12) h (by decide) (by decide)
  obtain ⟨acc, σ2, e2, ⟨cs, b2, ha, hσ, hcs, hlen, hb2⟩⟩ := lcV_inv (f := lcT (vE (Ψ (n + 2)) (.call 11 (.cons (.var 0) (.cons (.var 1) .nil)))) (vT (Ψ (n + 2)) .yes) [3] (.name 3)) (xs := rangeW 0 1 (1 + (r : Int)).toNat) (σ := [some b1, some (.str "abcdefghijklmnopqrstuvwxyz"), none, none])
    (fun pre acc σ => ∃ (cs : List Nat) (b2 : W), acc = cs.map (fun c => W.str ⟨#[c]⟩) ∧ σ = [some b2, some (.str "abcdefghijklmnopqrstuvwxyz"), none, none] ∧ (∀ c ∈ cs, c ∈ lets) ∧ cs.length = pre.length ∧ Bag b2) (by rw [rangeW_len, sizeLine_eq]; omega) ⟨[], b1, rfl, rfl, by simp, rfl, hb1⟩ (fun pre x suf acc σ e ⟨cs, b2, h1, h2, h3, h4, h5⟩ hle => by
      subst h2
      obtain ⟨c, hc, b3, e4, hb3⟩ := some_letter (n := n) h5
      refine ⟨some (.str ⟨#[c]⟩), [some b3, some (.str "abcdefghijklmnopqrstuvwxyz"), none, none], by simp [lcT, e4], cs ++ [c], b3, by simp [h1], rfl, fun d hd => ?_, by simp [h4], hb3⟩
      rcases List.mem_append.mp hd with hd | hd
      · exact h3 d hd
      · rw [List.mem_singleton.mp hd]; exact hc)
  rw [rangeW_len] at hlen
  have hc12 : cs.length ≤ 12 := by omega
  have hc1 : 1 ≤ cs.length := by omega
  have hz0 : (Txt.join ("" : Str) (cs.map fun c => (⟨#[c]⟩ : Str))).cps.toList = cs := by
    rw [join_cps, List.map_map]
    exact flat_ones cs
  have ws : wStr (cs.map fun c => W.str ⟨#[c]⟩) = some (cs.map fun c => (⟨#[c]⟩ : Str)) := by
    clear hlen hc12 hc1 hz0 ha hcs
    induction cs with
    | nil => rfl
    | cons c cs ih => simp [wStr, ih]
  have hj : ((cs.map fun c => (⟨#[c]⟩ : Str)).map (·.length)).sum + (cs.map fun c => (⟨#[c]⟩ : Str)).length * ("" : Str).length ≤ 16777216 := by
    have : ((cs.map fun c => (⟨#[c]⟩ : Str)).map (·.length)).sum = cs.length := by
      rw [List.map_map]
      exact sum_ones cs
    rw [this, show ("" : Str).length = 0 from rfl]
    omega
  have hzl : (Txt.join ("" : Str) (cs.map fun c => (⟨#[c]⟩ : Str))).length = cs.length := by
    have := congrArg List.length hz0
    simpa [Str.length] using this
  generalize hzz : Txt.join ("" : Str) (cs.map fun c => (⟨#[c]⟩ : Str)) = z at hz0 hzl
  have k1 : P2.v .isin (.str z) (.tup [.str "true", .str "false", .str "list", .str "put"]) = some (.bl (kept.any (· == z))) := v_isin_strs z kept
  obtain ⟨z1, hz1, hg⟩ : ∃ z1, (if kept.any (· == z) = true then P2.v .add (.str z) (.str "x") else some (.str z)) = some (.str z1) ∧ GoodNm z1 := by
    cases hk : kept.any (· == z) with
    | true =>
      refine ⟨z ++ "x", ?_, ?_⟩
      · simp only [if_true]
        exact v_add_str (by rw [show ("x" : Str).length = 1 from rfl, sizeLine_eq]; omega)
      · exact (kept_x hk).1
    | false =>
      refine ⟨z, by simp, ?_, ?_, by omega⟩
      · simp only [isNm, hk, hz0, Bool.and_eq_true, decide_eq_true_eq, List.all_eq_true]
        exact ⟨⟨⟨by omega, by omega⟩, rfl⟩, fun c hc => (let_ok c (hcs c hc)).1⟩
      · exact strOk_of fun c hc => (let_ok c (hcs c (by rw [hz0] at hc; exact hc))).2
  obtain ⟨x, hx, b3, e4, hb3⟩ := some_lst (n := n) (b := b2) (xs := [.str "dup", .str "swap", .str "add", .str "call", .str "if", .str "times", .str z1, .str z1, .str "cons", .str "say"]) hb2 (by simp) (by simp)
  obtain ⟨zx, rfl, hgz⟩ := words_ok hg x hx
  refine ⟨zx, b3, ?_, hgz, hb3⟩
  have sm : small62 (1 + (r : Int)) = true := small62_of (by omega) (by omega)
  have hf : (rangeW 0 1 (1 + (r : Int)).toNat).length < fuel := by rw [rangeW_len]; unfold fuel; omega
  have hcl : cs.length < 1000 := by omega
  subst ha
  subst hσ
  have hj' : (List.map (Str.length ∘ fun c => (⟨#[c]⟩ : Str)) cs).sum + cs.length * ("" : Str).length ≤ 16777216 := by simpa using hj
  cases hk : kept.any (· == z) with
  | true =>
    rw [if_pos hk] at hz1
    simp [b__law_word, e1, sm, hf, e2, ws, hj', hzz, k1, hk, hz1, e4]
  | false =>
    rw [if_neg (by rw [hk]; simp)] at hz1
    cases hz1
    simp [b__law_word, e1, sm, hf, e2, ws, hj', hzz, k1, hk, e4]
end K00

namespace K00
open PySem PyL
theorem inn_num {d : W} {b : Bool} (h : isNum d = true) : inn d b = some [] := by
  unfold inn
  rw [if_pos h]
theorem inn_name {z : Str} (h : isNm (.str z) = true) : inn (.str z) true = some [] := by
  unfold inn
  rw [if_neg (by simp [isNum]), if_pos ⟨rfl, h⟩]
theorem GoodNm.wf {z : Str} (h : GoodNm z) : Wf (.str z) := .str z h.2.1 (by rw [sizeLine_eq]; have := h.2.2; omega)
theorem leaf_eq {n : Nat} {it : Bool} {b : W} (h : Bag b) : ∃ d b', rn (n + 4) 15 [b, .bl it] = .ok (.tup [.str "leaf", d]) [some b', some (.bl it)] ∧ inn d it = some [] ∧ Wf d ∧ Bag b' := by
  rw [v__law_leaf]
  obtain ⟨r, b1, e1, hr, hb1⟩ := pick_eq (n := n + 2) (w := 6) h (by decide) (by decide)
  by_cases c : it = true ∧ r < 3
  · obtain ⟨rfl, hr3⟩ := c
    have hr3' : (r : Int) < 3 := by omega
    obtain ⟨z, b2, e2, gz, hb2⟩ := word_eq (n := n) hb1
    refine ⟨.str z, b2, ?_, inn_name gz.1, gz.wf, hb2⟩
    simp [b__law_leaf, e1, hr3', e2]
  · have p1 : P2.v .pow (.int 10) (.int 18) = some (.int 1000000000000000000) := by rw [v_pow (by decide) (by decide) (by decide)]; rfl
    have p2 : P2.v .pow (.int 10) (.int 9) = some (.int 1000000000) := by rw [v_pow (by decide) (by decide) (by decide)]; rfl
    have p3 : P2.v .pow (.int 10) (.int 6) = some (.int 1000000) := by rw [v_pow (by decide) (by decide) (by decide)]; rfl
    have p4 : P2.v .pow (.int 10) (.int 12) = some (.int 1000000000000) := by rw [v_pow (by decide) (by decide) (by decide)]; rfl
    have m1 : ∀ a : Int, P2.v .mul (.int a) (.int 1000000000000) = some (.int (a * 1000000000000)) := fun a => v_mul_r (by decide)
    obtain ⟨q, b2, e2, hq, hb2⟩ := pick_eq (n := n + 2) (w := 1000000) hb1 (by decide) (by decide)
    obtain ⟨x, hx, b3, e3, hb3⟩ := some_lst (n := n + 1) (xs := [.int 1000000000000000000, .int 999999999999999999, .int 1000000000, .int 0, .int 7, .int 12345, .int ((q : Int) * 1000000000000 + 5)]) hb2 (by simp) (by simp)
    obtain ⟨edge, rfl, he0, he1⟩ : ∃ e : Int, x = .int e ∧ 0 ≤ e ∧ e ≤ 1000000000000000000 := by
      simp only [List.mem_cons, List.not_mem_nil, or_false] at hx
      rcases hx with h | h | h | h | h | h | h <;> exact ⟨_, h, by omega, by omega⟩
    obtain ⟨s, b4, e4, hs, hb4⟩ := pick_eq (n := n + 2) (w := 40) hb3 (by decide) (by decide)
    obtain ⟨y, hy, b5, e5, hb5⟩ := some_lst (n := n + 1) (xs := [.bl true, .bl false, .int edge, .int (-edge), .int ((s : Int) - 9)]) hb4 (by simp) (by simp)
    have hny : isNum y = true ∧ Wf y := by
      simp only [List.mem_cons, List.not_mem_nil, or_false] at hy
      rcases hy with h | h | h | h | h
      · subst h; exact ⟨rfl, .bl _⟩
      · subst h; exact ⟨rfl, .bl _⟩
      · subst h; exact ⟨decide_eq_true (by omega), .int _⟩
      · subst h; exact ⟨decide_eq_true (by omega), .int _⟩
      · subst h; exact ⟨decide_eq_true (by omega), .int _⟩
    refine ⟨y, b5, ?_, inn_num hny.1, hny.2, hb5⟩
    cases it with
    | false => simp [b__law_leaf, e1, p1, p2, p3, p4, m1, e2, e3, e4, e5]
    | true =>
      have hr3 : ¬ (r : Int) < 3 := fun z => c ⟨rfl, by omega⟩
      simp [b__law_leaf, e1, hr3, p1, p2, p3, p4, m1, e2, e3, e4, e5]
end K00

namespace K00
open PySem PyL
/-- a tree of signs -/
inductive Tree where
  | leaf (d : W)
  | node (k : Str) (ts : List Tree)
mutual
def code : Tree → List W
  | .leaf d => [.tup [.str "leaf", d]]
  | .node k ts => .tup [.str k, .int (ts.length : Int)] :: codes ts
def codes : List Tree → List W
  | [] => []
  | t :: ts => code t ++ codes ts
end
mutual
def val : Tree → W
  | .leaf d => d
  | .node k ts => .tup [.str k, if k = "put" then (vals ts).headD .non else .tup (vals ts)]
def vals : List Tree → List W
  | [] => []
  | t :: ts => val t :: vals ts
end
mutual
def size : Tree → Nat
  | .leaf _ => 1
  | .node _ ts => sizes ts + 1
def sizes : List Tree → Nat
  | [] => 0
  | t :: ts => size t + sizes ts
end
theorem codes_append : ∀ a b : List Tree, codes (a ++ b) = codes a ++ codes b
  | [], b => rfl
  | t :: a, b => by
    show code t ++ codes (a ++ b) = (code t ++ codes a) ++ codes b
    rw [codes_append a b, List.append_assoc]
theorem vals_append : ∀ a b : List Tree, vals (a ++ b) = vals a ++ vals b
  | [], b => rfl
  | t :: a, b => by
    show val t :: vals (a ++ b) = (val t :: vals a) ++ vals b
    rw [vals_append a b]; rfl
theorem vals_length : ∀ a : List Tree, (vals a).length = a.length
  | [] => rfl
  | t :: a => by
    show (vals a).length + 1 = a.length + 1
    rw [vals_length a]
theorem sizes_append : ∀ a b : List Tree, sizes (a ++ b) = sizes a + sizes b
  | [], b => by rw [List.nil_append]; show sizes b = 0 + sizes b; omega
  | t :: a, b => by
    show size t + sizes (a ++ b) = (size t + sizes a) + sizes b
    rw [sizes_append a b]; omega
mutual
theorem code_length : ∀ t : Tree, (code t).length = size t
  | .leaf d => rfl
  | .node k ts => by
    show (codes ts).length + 1 = sizes ts + 1
    rw [codes_length ts]
theorem codes_length : ∀ ts : List Tree, (codes ts).length = sizes ts
  | [] => rfl
  | t :: ts => by
    show (code t ++ codes ts).length = size t + sizes ts
    rw [List.length_append, code_length t, codes_length ts]
end
theorem size_pos : ∀ t : Tree, 1 ≤ size t
  | .leaf d => Nat.le_refl _
  | .node k ts => by show 1 ≤ sizes ts + 1; omega
theorem length_sizes : ∀ ts : List Tree, ts.length ≤ sizes ts
  | [] => Nat.le_refl _
  | t :: ts => by
    show ts.length + 1 ≤ size t + sizes ts
    have := size_pos t
    have := length_sizes ts
    omega
/-- a good tree: is it an item, how high -/
inductive Gt : Bool → Tree → Nat → Prop
  | leaf {b : Bool} {d : W} {h : Nat} : inn d b = some [] → Wf d → Gt b (.leaf d) (h + 1)
  | quote {b : Bool} {ts : List Tree} {h : Nat} : ts.length ≤ 2000 → (∀ t ∈ ts, Gt true t h) → Gt b (.node "quote" ts) (h + 1)
  | list {ts : List Tree} {h : Nat} : ts.length ≤ 2000 → (∀ t ∈ ts, Gt false t h) → Gt false (.node "list" ts) (h + 1)
  | put {t : Tree} {h : Nat} : Gt false t h → Gt true (.node "put" [t]) (h + 1)
theorem Gt.mono {b : Bool} {t : Tree} {h : Nat} (g : Gt b t h) : ∀ {h' : Nat}, h ≤ h' → Gt b t h' := by
  induction g with
  | leaf a c => intro h' hh; obtain ⟨k, rfl⟩ : ∃ k, h' = k + 1 := ⟨h' - 1, by omega⟩; exact .leaf a c
  | quote hl _ ih => intro h' hh; obtain ⟨k, rfl⟩ : ∃ k, h' = k + 1 := ⟨h' - 1, by omega⟩; exact .quote hl fun t ht => ih t ht (by omega)
  | list hl _ ih => intro h' hh; obtain ⟨k, rfl⟩ : ∃ k, h' = k + 1 := ⟨h' - 1, by omega⟩; exact .list hl fun t ht => ih t ht (by omega)
  | put _ ih => intro h' hh; obtain ⟨k, rfl⟩ : ∃ k, h' = k + 1 := ⟨h' - 1, by omega⟩; exact .put (ih (by omega))
theorem ne_qp : ("quote" : Str) ≠ "put" := by decide +kernel
theorem ne_lp : ("list" : Str) ≠ "put" := by decide +kernel
theorem ne_ql : ("quote" : Str) ≠ "list" := by decide +kernel
theorem val_quote (ts : List Tree) : val (.node "quote" ts) = .tup [.str "quote", .tup (vals ts)] := by rw [val, if_neg ne_qp]
theorem val_list (ts : List Tree) : val (.node "list" ts) = .tup [.str "list", .tup (vals ts)] := by rw [val, if_neg ne_lp]
theorem val_put (t : Tree) : val (.node "put" [t]) = .tup [.str "put", val t] := by rw [val, if_pos rfl]; rfl
theorem vals_mem : ∀ {ts : List Tree} {d : W}, d ∈ vals ts → ∃ t ∈ ts, d = val t
  | t :: ts, d, h => by
    rcases List.mem_cons.mp h with h | h
    · exact ⟨t, List.mem_cons_self, h⟩
    · obtain ⟨u, h1, h2⟩ := vals_mem h
      exact ⟨u, List.mem_cons_of_mem _ h1, h2⟩
theorem inn_quote (xs : List W) (b : Bool) : inn (.tup [.str "quote", .tup xs]) b = some (xs.map fun x => (x, true)) := by
  simp [inn, isNum, isNm, told, seqOf]
theorem inn_list (xs : List W) : inn (.tup [.str "list", .tup xs]) false = some (xs.map fun x => (x, false)) := by
  simp [inn, isNum, isNm, told, seqOf, ne_ql.symm]
theorem inn_put (v : W) : inn (.tup [.str "put", v]) true = some [(v, false)] := by
  cases v <;> simp [inn, isNum, isNm, told, seqOf, putOf, ne_qp.symm]
theorem Gt.wf {b : Bool} {t : Tree} {h : Nat} (g : Gt b t h) : Wf (val t) := by
  have st : ∀ {w : Str} {ts : List Tree}, PyData.strOk w = true → w.length ≤ sizeLine → ts.length ≤ 2000 → (∀ t ∈ ts, Wf (val t)) → Wf (.tup [.str w, .tup (vals ts)]) := fun {w ts} h1 h2 hl hx => by
    refine .tup _ (by simp) fun x hx' => ?_
    rcases List.mem_cons.mp hx' with rfl | hx'
    · exact .str _ h1 h2
    · rw [List.mem_singleton.mp hx']
      refine .tup _ (by rw [vals_length]; exact hl) fun y hy => ?_
      obtain ⟨t, ht, rfl⟩ := vals_mem hy
      exact hx t ht
  have l5 : ("quote" : Str).length ≤ sizeLine := by rw [show ("quote" : Str).length = 5 from rfl]; simp
  have l4 : ("list" : Str).length ≤ sizeLine := by rw [show ("list" : Str).length = 4 from rfl]; simp
  have l3 : ("put" : Str).length ≤ sizeLine := by rw [show ("put" : Str).length = 3 from rfl]; simp
  induction g with
  | leaf a c => exact c
  | quote hl _ ih => rw [val_quote]; exact st okQ l5 hl ih
  | list hl _ ih => rw [val_list]; exact st okL l4 hl ih
  | put _ ih =>
    rw [val_put]
    refine .tup _ (by simp) fun x hx' => ?_
    rcases List.mem_cons.mp hx' with rfl | hx'
    · exact .str _ okP l3
    · rw [List.mem_singleton.mp hx']
      exact ih
theorem trs_of {b : Bool} {h : Nat} : ∀ {ts : List Tree}, (∀ t ∈ ts, ∃ h', h' ≤ h ∧ Tr b (val t) (size t) h') → ∃ h', h' ≤ h ∧ Trs ((vals ts).map fun x => (x, b)) (sizes ts) h'
  | [], _ => ⟨0, Nat.zero_le _, .nil⟩
  | t :: ts, hx => by
    obtain ⟨h1, l1, t1⟩ := hx t List.mem_cons_self
    obtain ⟨h2, l2, t2⟩ := trs_of (ts := ts) fun u hu => hx u (List.mem_cons_of_mem _ hu)
    exact ⟨max h1 h2, by omega, .cons t1 t2⟩
theorem Gt.tr {b : Bool} {t : Tree} {h : Nat} (g : Gt b t h) : ∃ h', h' ≤ h ∧ Tr b (val t) (size t) h' := by
  induction g with
  | leaf a c => exact ⟨1, by omega, .mk a .nil⟩
  | @quote b ts h hl _ ih =>
    obtain ⟨h', l, r⟩ := trs_of ih
    exact ⟨h' + 1, by omega, by rw [val_quote]; exact .mk (inn_quote _ _) r⟩
  | @list ts h hl _ ih =>
    obtain ⟨h', l, r⟩ := trs_of ih
    exact ⟨h' + 1, by omega, by rw [val_list]; exact .mk (inn_list _) r⟩
  | @put t h _ ih =>
    obtain ⟨h', l, r⟩ := ih
    refine ⟨h' + 1, by omega, ?_⟩
    rw [val_put]
    have : Trs [(val t, false)] (size t + 0) (max h' 0) := .cons r .nil
    have z : max h' 0 = h' := by omega
    rw [z] at this
    exact .mk (inn_put _) this
/-- what the pile is behind these signs: the last one first -/
def bt : List W → List W
  | [] => []
  | g :: s => match g with
    | .tup [.str k, x] => if k = "leaf" then x :: bt s else match x with
      | .int n => .tup [.str k, if k = "put" then ((bt s).take n.toNat).headD .non else .tup ((bt s).take n.toNat)] :: (bt s).drop n.toNat
      | _ => bt s
    | _ => bt s
/-- a sign that may stand ahead of such a pile -/
def SgOk (g : W) (vs : List W) : Prop := (∃ d, g = .tup [.str "leaf", d]) ∨ ∃ (k : Str) (n : Nat), g = .tup [.str k, .int (n : Int)] ∧ PyData.strOk k = true ∧ k ≠ "leaf" ∧ n ≤ vs.length ∧ (k = "put" → n = 1)
def OkS : List W → Prop
  | [] => True
  | g :: s => SgOk g (bt s) ∧ OkS s
inductive Wt' : Tree → Prop
  | leaf (d : W) : Wf d → Wt' (.leaf d)
  | node {k : Str} {ts : List Tree} : PyData.strOk k = true → k ≠ "leaf" → (k = "put" → ts.length = 1) → (∀ t ∈ ts, Wt' t) → ts.length ≤ 2000 ∧ k.length ≤ sizeLine → Wt' (.node k ts)
theorem bt_leaf (d : W) (s : List W) : bt (.tup [.str "leaf", d] :: s) = d :: bt s := by cases d <;> simp [bt]
theorem bt_node {k : Str} (h : k ≠ "leaf") (n : Nat) (s : List W) : bt (.tup [.str k, .int (n : Int)] :: s) = .tup [.str k, if k = "put" then ((bt s).take n).headD .non else .tup ((bt s).take n)] :: (bt s).drop n := by
  rw [bt]; simp [h]
mutual
theorem bt_code : ∀ {t : Tree}, Wt' t → ∀ {s : List W}, OkS s → bt (code t ++ s) = val t :: bt s ∧ OkS (code t ++ s)
  | .leaf d, _, s, h => by
    refine ⟨bt_leaf d s, .inl ⟨d, rfl⟩, h⟩
  | .node k ts, .node h1 h2 h3 h4 _, s, h => by
    obtain ⟨e, o⟩ := bt_codes (ts := ts) h4 h
    have hl := vals_length ts
    refine ⟨?_, ?_⟩
    · show bt (.tup [.str k, .int (ts.length : Int)] :: (codes ts ++ s)) = _
      rw [bt_node h2, e, List.take_append_of_le_length (by omega), List.take_of_length_le (by omega), List.drop_append_of_le_length (by omega), List.drop_eq_nil_of_le (by omega), List.nil_append]
      rfl
    · show SgOk _ _ ∧ OkS (codes ts ++ s)
      refine ⟨.inr ⟨k, ts.length, rfl, h1, h2, ?_, h3⟩, o⟩
      show ts.length ≤ (bt (codes ts ++ s)).length
      rw [e, List.length_append]
      omega
theorem bt_codes : ∀ {ts : List Tree}, (∀ t ∈ ts, Wt' t) → ∀ {s : List W}, OkS s → bt (codes ts ++ s) = vals ts ++ bt s ∧ OkS (codes ts ++ s)
  | [], _, s, h => ⟨rfl, h⟩
  | t :: ts, hx, s, h => by
    obtain ⟨e1, o1⟩ := bt_codes (ts := ts) (fun u hu => hx u (List.mem_cons_of_mem _ hu)) h
    obtain ⟨e2, o2⟩ := bt_code (hx t List.mem_cons_self) o1
    refine ⟨?_, ?_⟩
    · show bt ((code t ++ codes ts) ++ s) = _
      rw [List.append_assoc, e2, e1]
      rfl
    · show OkS ((code t ++ codes ts) ++ s)
      rw [List.append_assoc]
      exact o2
end
theorem bt_len : ∀ s : List W, OkS s → (bt s).length ≤ s.length
  | [], _ => Nat.le_refl _
  | g :: s, ⟨h, o⟩ => by
    have ih := bt_len s o
    rcases h with ⟨d, rfl⟩ | ⟨k, n, rfl, _, h2, h3, _⟩
    · rw [bt_leaf]; simp; exact ih
    · rw [bt_node h2]; simp; omega
theorem OkS.suf : ∀ {a s : List W}, OkS (a ++ s) → OkS s
  | [], _, h => h
  | _ :: a, _, h => OkS.suf (a := a) h.2
theorem lp_ne : ("leaf" : Str) ≠ "put" := by decide +kernel
def sBt : S := b__law_built.tl.hd
theorem Gt.wt {b : Bool} {t : Tree} {h : Nat} (g : Gt b t h) : Wt' t := by
  have l5 : ("quote" : Str).length ≤ sizeLine := by rw [show ("quote" : Str).length = 5 from rfl]; simp
  have l4 : ("list" : Str).length ≤ sizeLine := by rw [show ("list" : Str).length = 4 from rfl]; simp
  have l3 : ("put" : Str).length ≤ sizeLine := by rw [show ("put" : Str).length = 3 from rfl]; simp
  induction g with
  | leaf a c => exact .leaf _ c
  | quote hl _ ih => exact .node okQ (by decide +kernel) (fun e => absurd e (by decide +kernel)) ih ⟨hl, l5⟩
  | list hl _ ih => exact .node okL (by decide +kernel) (fun e => absurd e (by decide +kernel)) ih ⟨hl, l4⟩
  | put _ ih => exact .node okP (by decide +kernel) (fun _ => rfl) (by intro t ht; rw [List.mem_singleton.mp ht]; exact ih) ⟨by simp, l3⟩
theorem vals_wf : ∀ {ts : List Tree}, (∀ t ∈ ts, Wf (val t)) → ∀ d ∈ vals ts, Wf d := fun {ts} h d hd => by
  obtain ⟨t, ht, rfl⟩ := vals_mem hd
  exact h t ht
theorem Wt'.wf : ∀ {t : Tree}, Wt' t → Wf (val t) := fun {t} w => by
  induction w with
  | leaf d h => exact h
  | @node k ts h1 h2 h3 _ h5 ih =>
    rw [val]
    refine .tup _ (by simp) fun x hx => ?_
    rcases List.mem_cons.mp hx with rfl | hx
    · exact .str _ h1 h5.2
    · rw [List.mem_singleton.mp hx]
      split
      · match ts, h3 (by assumption), ih with
        | [t], _, ih => exact ih t (by simp)
      · exact .tup _ (by rw [vals_length]; exact h5.1) (vals_wf ih)
/-- the trees of a row of signs, built -/
theorem built_eq {n : Nat} {gs : List W} (ho : OkS gs) (hl : gs.length ≤ 2000) : Gives (rn (n + 1) 12 [.lst gs]) (.tup (bt gs)) := by
  rw [v__law_built]
  obtain ⟨σ', e, ⟨i2, i3, i4, hσ⟩⟩ := forV_nx (tg := .name 2) (b := vSs (Ψ n) sBt.body) (xs := gs.reverse) (σ := [some (.lst gs), some (.lst []), none, none, none])
    (fun pre σ => ∃ i2 i3 i4 : Option W, σ = [some (.lst gs), some (.lst (bt pre.reverse).reverse), i2, i3, i4]) ⟨none, none, none, rfl⟩
    (fun pre x suf σ e ⟨i2, i3, i4, hσ⟩ => by
      subst hσ
      have e' : gs = suf.reverse ++ x :: pre.reverse := by
        have := congrArg List.reverse e
        rw [List.reverse_reverse, List.reverse_append, List.reverse_cons] at this
        rw [this, List.append_assoc]
        rfl
      have ho' : OkS (x :: pre.reverse) := OkS.suf (a := suf.reverse) (by rw [← e']; exact ho)
      obtain ⟨hs, ho2⟩ := ho'
      have hl2 : (bt pre.reverse).length ≤ 2000 := by
        have := bt_len _ ho2
        have h3 := congrArg List.length e'
        simp at this h3
        omega
      rw [List.reverse_append, List.reverse_singleton, List.singleton_append]
      rcases hs with ⟨d, rfl⟩ | ⟨kk, nn, rfl, hok, hne, hle, hput⟩
      · rw [bt_leaf]
        generalize bt pre.reverse = vs at *
        have ap : mApp d (.lst vs.reverse) = some (.lst (vs.reverse ++ [d]), .non) := upd_app (by rw [List.length_reverse, sizeLine_eq]; omega)
        have eq1 : P2.v .eq (.str "leaf") (.str "leaf") = some (.bl true) := by rw [v_eq_str okLeaf okLeaf]; simp
        refine ⟨_, [some (.lst gs), some (.lst (d :: vs).reverse), some (.tup [.str "leaf", d]), i3, i4], rfl, .inl ?_, _, _, _, rfl⟩
        simp [sBt, b__law_built, Ss.hd, Ss.tl, S.body, eq1, okPl, W.isL, updAt_nil, ap]
      · rw [bt_node hne]
        generalize bt pre.reverse = vs at *
        have eq1 : P2.v .eq (.str kk) (.str "leaf") = some (.bl false) := by rw [v_eq_str hok okLeaf]; simp [hne]
        have eq2 : P2.v .eq (.str kk) (.str "put") = some (.bl (decide (kk = "put"))) := v_eq_str hok okP
        have hu : ((vs.length : Int) - (nn : Int)) = ((vs.length - nn : Nat) : Int) := by omega
        have s1 := cutW_from vs.reverse (vs.length - nn)
        have s2 := cutW_to vs.reverse (vs.length - nn)
        have r1 : vs.reverse.drop (vs.length - nn) = (vs.take nn).reverse := by rw [List.drop_reverse, show vs.length - (vs.length - nn) = nn by omega]
        have r2 : vs.reverse.take (vs.length - nn) = (vs.drop nn).reverse := by rw [List.take_reverse, show vs.length - (vs.length - nn) = nn by omega]
        rw [r1] at s1
        rw [r2] at s2
        have tk : (vs.take nn).length = nn := by rw [List.length_take]; omega
        generalize hx : W.tup [.str kk, if kk = "put" then (vs.take nn).headD .non else .tup (vs.take nn)] = x
        have ad : P2.v .add (.lst (vs.drop nn).reverse) (.lst [x]) = some (.lst ((vs.drop nn).reverse ++ [x])) := v_add_lst (by rw [List.length_reverse, List.length_drop, sizeLine_eq]; simp; omega)
        refine ⟨_, [some (.lst gs), some (.lst (x :: vs.drop nn).reverse), some (.tup [.str kk, .int (nn : Int)]), some (.int ((vs.length - nn : Nat) : Int)), some (.tup (vs.take nn))], rfl, .inl ?_, _, _, _, rfl⟩
        by_cases hk : kk = "put"
        · have n1 := hput hk
          obtain ⟨y, hy⟩ : ∃ y, vs.take nn = [y] := by
            rw [n1] at tk
            rw [n1]
            match hv : vs.take 1, tk with
            | [y], _ => exact ⟨y, rfl⟩
          rw [if_pos hk, hy] at hx
          rw [hy] at s1 ⊢
          have hx : W.tup [.str kk, y] = x := hx
          subst hk
          simp [sBt, b__law_built, Ss.hd, Ss.tl, S.body, eq1, eq2, hu, s1, s2, hx, ad]
        · rw [if_neg hk] at hx
          simp [sBt, b__law_built, Ss.hd, Ss.tl, S.body, eq1, eq2, hk, hu, s1, s2, hx, ad])
  subst hσ
  rw [List.reverse_reverse] at e
  have hf : gs.length < fuel := by unfold fuel; omega
  have e' : forV (.name 2) (vSs (Ψ n) sBt.body) gs.reverse [some (.lst gs), some (.lst []), none, none, none] = .nx [some (.lst gs), some (.lst (bt gs).reverse), i2, i3, i4] := e
  unfold sBt b__law_built at e'
  simp only [Ss.tl, Ss.hd, S.body] at e'
  simp [b__law_built, hf, e']
end K00

namespace K00
open PySem PyL
def rowOf (t : Tree) : W := .lst (code t)
structure Rows (ts : List Tree) (c : Bool) (h m n : Nat) : Prop where
  ne : ts ≠ []
  len : ts.length ≤ n
  ok : ∀ t ∈ ts, Gt c t h ∧ size t ≤ m
theorem Rows.up {ts : List Tree} {c : Bool} {h h' m n n' : Nat} (x : Rows ts c h m n) (hh : h ≤ h') (hn : n ≤ n') : Rows ts c h' m n' := ⟨x.ne, Nat.le_trans x.len hn, fun t ht => ⟨(x.ok t ht).1.mono hh, (x.ok t ht).2⟩⟩
theorem Rows.add {ts : List Tree} {c : Bool} {h m n : Nat} {t : Tree} (x : Rows ts c h m n) (g : Gt c t h) (hs : size t ≤ m) : Rows (ts ++ [t]) c h m (n + 1) :=
  ⟨by simp, by have := x.len; simp; omega, fun u hu => by
    rcases List.mem_append.mp hu with hu | hu
    · exact x.ok u hu
    · rw [List.mem_singleton.mp hu]; exact ⟨g, hs⟩⟩
/-- one of the rows -/
theorem some_row {n : Nat} {b : W} {ts : List Tree} {c : Bool} {h m l : Nat} (hb : Bag b) (x : Rows ts c h m l) (hl : l < 1000000) : ∃ t b', rn (n + 2) 11 [b, .lst (ts.map rowOf)] = .ok (rowOf t) [some b', some (.lst (ts.map rowOf))] ∧ Gt c t h ∧ size t ≤ m ∧ Bag b' := by
  obtain ⟨y, hy, b', e, hb'⟩ := some_lst (n := n) (xs := ts.map rowOf) hb (by have := x.ne; simpa using this) (by have := x.len; simp; omega)
  obtain ⟨t, ht, rfl⟩ := List.mem_map.mp hy
  exact ⟨t, b', e, (x.ok t ht).1, (x.ok t ht).2, hb'⟩
theorem sizes_le {ts : List Tree} {m : Nat} (h : ∀ t ∈ ts, size t ≤ m) : sizes ts ≤ ts.length * m := by
  induction ts with
  | nil => simp [sizes]
  | cons t ts ih =>
    have := ih fun u hu => h u (List.mem_cons_of_mem _ hu)
    have h2 := h t List.mem_cons_self
    show size t + sizes ts ≤ (ts.length + 1) * m
    rw [Nat.succ_mul]; omega
def isVals (k : Str) : Bool := decide (k = "list")
def sDr : S := b__law_drawn.tl.hd
def sFd : S := sDr.body.tl.hd
theorem okB : PyData.strOk ("both" : Str) = true := by decide +kernel
/-- what is put together of rows -/
theorem found_eq {n : Nat} {b : W} {its vs : List Tree} {h m l : Nat} {kind : Str} {many : Nat} {d1 d2 d3 d6 : Option W} (hb : Bag b) (xi : Rows its true h (m + 2) l) (xv : Rows vs false h (m + 1) l) (hm : m ≤ 200) (hl : l ≤ 1000) (hk : PyData.strOk kind = true) (hmany : many ≤ 5) :
    ∃ b' d6' ts, vS (Ψ (n + 4)) sFd [some b, d1, d2, d3, some (.lst (its.map rowOf)), some (.lst (vs.map rowOf)), d6, some (.str kind), some (.int many), some (.lst [])] =
      .nx [some b', d1, d2, d3, some (.lst (its.map rowOf)), some (.lst (vs.map rowOf)), d6', some (.str kind), some (.int many), some (.lst (codes ts))] ∧ Bag b' ∧ ts.length = many ∧ (∀ t ∈ ts, Gt (!isVals kind) t h) ∧ sizes ts ≤ many * (m + 2) := by
  have eq1 : P2.v .eq (.str kind) (.str "list") = some (.bl (decide (kind = "list"))) := v_eq_str hk okL
  obtain ⟨σ', e, b', d6', ts, hσ, h1, h2, h3, h4⟩ := forV_nx (tg := .name 6) (b := vSs (Ψ (n + 4)) sFd.body) (xs := rangeW 0 1 many) (σ := [some b, d1, d2, d3, some (.lst (its.map rowOf)), some (.lst (vs.map rowOf)), d6, some (.str kind), some (.int many), some (.lst [])])
    (fun pre σ => ∃ b' d6' ts, σ = [some b', d1, d2, d3, some (.lst (its.map rowOf)), some (.lst (vs.map rowOf)), d6', some (.str kind), some (.int many), some (.lst (codes ts))] ∧ Bag b' ∧ ts.length = pre.length ∧ (∀ t ∈ ts, Gt (!isVals kind) t h) ∧ sizes ts ≤ pre.length * (m + 2)) ⟨b, d6, [], rfl, hb, rfl, by simp, by simp [sizes]⟩
    (fun pre x suf σ e ⟨b1, d6', ts, hσ, h1, h2, h3, h4⟩ => by
      subst hσ
      have hpl : pre.length < many := by
        have := congrArg List.length e
        rw [rangeW_len] at this
        simp at this; omega
      have fin : ∀ t b2, Gt (!isVals kind) t h → size t ≤ m + 2 → Bag b2 → vSs (Ψ (n + 4)) sFd.body [some b1, d1, d2, d3, some (.lst (its.map rowOf)), some (.lst (vs.map rowOf)), some x, some (.str kind), some (.int many), some (.lst (codes ts))] = .nx [some b2, d1, d2, d3, some (.lst (its.map rowOf)), some (.lst (vs.map rowOf)), some x, some (.str kind), some (.int many), some (.lst (codes ts ++ code t))] →
        ∃ σ1 σ', wTg (.name 6) x [some b1, d1, d2, d3, some (.lst (its.map rowOf)), some (.lst (vs.map rowOf)), d6', some (.str kind), some (.int many), some (.lst (codes ts))] = some σ1 ∧ (vSs (Ψ (n + 4)) sFd.body σ1 = .nx σ' ∨ vSs (Ψ (n + 4)) sFd.body σ1 = .ct σ') ∧ ∃ b' d6' ts, σ' = [some b', d1, d2, d3, some (.lst (its.map rowOf)), some (.lst (vs.map rowOf)), d6', some (.str kind), some (.int many), some (.lst (codes ts))] ∧ Bag b' ∧ ts.length = (pre ++ [x]).length ∧ (∀ t ∈ ts, Gt (!isVals kind) t h) ∧ sizes ts ≤ (pre ++ [x]).length * (m + 2) := fun t b2 g hs hb2 he => by
        refine ⟨_, _, rfl, .inl he, b2, some x, ts ++ [t], ?_, hb2, by simp [h2], fun u hu => ?_, ?_⟩
        · rw [codes_append]; simp [codes]
        · rcases List.mem_append.mp hu with hu | hu
          · exact h3 u hu
          · rw [List.mem_singleton.mp hu]; exact g
        · rw [sizes_append]
          simp [sizes, Nat.succ_mul]
          omega
      have hcl : (codes ts).length ≤ 2000 := by
        rw [codes_length]
        have : pre.length * (m + 2) ≤ 5 * 202 := Nat.mul_le_mul (by omega) (by omega)
        omega
      by_cases c : kind = "list"
      · obtain ⟨t, b2, e2, g, hs, hb2⟩ := some_row (n := n + 2) h1 xv (by omega)
        have ad : P2.v .add (.lst (codes ts)) (rowOf t) = some (.lst (codes ts ++ code t)) := v_add_lst (by rw [code_length, sizeLine_eq]; omega)
        refine fin t b2 (by simp [isVals, c]; exact g) (by omega) hb2 ?_
        subst c
        simp [sFd, sDr, b__law_drawn, Ss.hd, Ss.tl, S.body, eq1, e2, ad]
      · obtain ⟨t, b2, e2, g, hs, hb2⟩ := some_row (n := n + 2) h1 xi (by omega)
        have ad : P2.v .add (.lst (codes ts)) (rowOf t) = some (.lst (codes ts ++ code t)) := v_add_lst (by rw [code_length, sizeLine_eq]; omega)
        refine fin t b2 (by simp [isVals, c]; exact g) hs hb2 ?_
        simp [sFd, sDr, b__law_drawn, Ss.hd, Ss.tl, S.body, eq1, c, e2, ad])
  rw [rangeW_len] at h2 h4
  subst hσ
  refine ⟨b', d6', ts, ?_, h1, h2, h3, h4⟩
  have hf : (rangeW 0 1 many).length < fuel := by rw [rangeW_len]; unfold fuel; omega
  have sm : small62 (many : Int) = true := small62_of (by omega) (by omega)
  rw [show sFd = .fo (.name 6) (.rng1 (.var 8)) sFd.body from rfl]
  simp [sm, hf, e]
theorem ne_pl : ("put" : Str) ≠ "list" := by decide +kernel
theorem ne_bl : ("both" : Str) ≠ "list" := by decide +kernel
theorem ne_bp : ("both" : Str) ≠ "put" := by decide +kernel
/-- one turn of _law_drawn -/
theorem turn_eq {n : Nat} {b : W} {its vs : List Tree} {h m l : Nat} {d1 d3 d6 d7 d8 d9 : Option W} (hb : Bag b) (xi : Rows its true (h + 1) (m + 2) l) (xv : Rows vs false (h + 1) (m + 1) l) (hm : m ≤ 200) (hl : l ≤ 900) :
    ∃ b' its' vs' d6' d7' d8' d9', vSs (Ψ (n + 4)) sDr.body [some b, d1, some (.int m), d3, some (.lst (its.map rowOf)), some (.lst (vs.map rowOf)), d6, d7, d8, d9] =
      .nx [some b', d1, some (.int m), d3, some (.lst (its'.map rowOf)), some (.lst (vs'.map rowOf)), d6', d7', d8', d9'] ∧ Bag b' ∧ Rows its' true (h + 2) (m + 2) (l + 2) ∧ Rows vs' false (h + 2) (m + 1) (l + 2) := by
  rw [show sDr.body = .cons sDr.body.hd (.cons sFd (.cons sDr.body.tl.tl.hd (.cons sDr.body.tl.tl.tl.hd sDr.body.tl.tl.tl.tl))) from rfl]
  obtain ⟨kind, hk, b1, e1, hb1⟩ := some_lst (n := n + 2) (xs := [.str "quote", .str "quote", .str "put", .str "list", .str "both"]) hb (by simp) (by simp)
  obtain ⟨many, b2, e2, hmany, hb2⟩ := pick_eq (n := n + 3) (w := 5) hb1 (by decide) (by decide)
  obtain ⟨kd, rfl, hkd⟩ : ∃ k : Str, kind = .str k ∧ (k = "quote" ∨ k = "put" ∨ k = "list" ∨ k = "both") := by
    simp only [List.mem_cons, List.not_mem_nil, or_false] at hk
    rcases hk with h | h | h | h | h <;> subst h <;> simp
  have hko : PyData.strOk kd = true := by rcases hkd with h | h | h | h <;> subst h <;> first | exact okQ | exact okP | exact okL | exact okB
  have s1 : vS (Ψ (n + 4)) sDr.body.hd [some b, d1, some (.int m), d3, some (.lst (its.map rowOf)), some (.lst (vs.map rowOf)), d6, d7, d8, d9] = .nx [some b2, d1, some (.int m), d3, some (.lst (its.map rowOf)), some (.lst (vs.map rowOf)), d6, some (.str kd), some (.int many), some (.lst [])] := by
    simp [sDr, b__law_drawn, Ss.hd, Ss.tl, S.body, e1, e2]
  obtain ⟨b3, d6', ts, s2, hb3, hts, hg, hsz⟩ := found_eq (n := n) (d1 := d1) (d2 := some (.int m)) (d3 := d3) (d6 := d6) (many := many) hb2 xi xv hm (by omega) hko (by omega)
  -- cut
  obtain ⟨ts', hts', hg', hsz', s3⟩ : ∃ ts' : List Tree, ts'.length ≤ 5 ∧ (∀ t ∈ ts', Gt (!isVals kd) t (h + 1)) ∧ sizes ts' ≤ m ∧ vS (Ψ (n + 4)) sDr.body.tl.tl.hd [some b3, d1, some (.int m), d3, some (.lst (its.map rowOf)), some (.lst (vs.map rowOf)), d6', some (.str kd), some (.int many), some (.lst (codes ts))] = .nx [some b3, d1, some (.int m), d3, some (.lst (its.map rowOf)), some (.lst (vs.map rowOf)), d6', some (.str kd), some (.int ts'.length), some (.lst (codes ts'))] := by
    by_cases c : sizes ts ≤ m
    · have hc : ¬ ((m : Int) < ((codes ts).length : Int)) := by rw [codes_length]; omega
      exact ⟨ts, by omega, hg, c, by rw [hts]; simp [sDr, b__law_drawn, Ss.hd, Ss.tl, S.body, hc]⟩
    · have hc : (m : Int) < ((codes ts).length : Int) := by rw [codes_length]; omega
      exact ⟨[], by simp, by simp, by simp [sizes], by simp [sDr, b__law_drawn, Ss.hd, Ss.tl, S.body, hc, codes]⟩
  have hcl : (codes ts').length ≤ 200 := by rw [codes_length]; omega
  have eqp : P2.v .eq (.str kd) (.str "put") = some (.bl (decide (kd = "put"))) := v_eq_str hko okP
  have eql : P2.v .eq (.str kd) (.str "list") = some (.bl (decide (kd = "list"))) := v_eq_str hko okL
  have li := xi.len
  have lv := xv.len
  -- the new rows
  obtain ⟨b4, its1, vs1, hb4, ri, rv, s4⟩ : ∃ b4 its1 vs1, Bag b4 ∧ Rows its1 true (h + 2) (m + 2) (l + 1) ∧ Rows vs1 false (h + 2) (m + 1) (l + 1) ∧ vS (Ψ (n + 4)) sDr.body.tl.tl.tl.hd [some b3, d1, some (.int m), d3, some (.lst (its.map rowOf)), some (.lst (vs.map rowOf)), d6', some (.str kd), some (.int ts'.length), some (.lst (codes ts'))] = .nx [some b4, d1, some (.int m), d3, some (.lst (its1.map rowOf)), some (.lst (vs1.map rowOf)), d6', some (.str kd), some (.int ts'.length), some (.lst (codes ts'))] := by
    have addr : ∀ g : W, P2.v .add (.lst [g]) (.lst (codes ts')) = some (.lst (g :: codes ts')) := fun g => v_add_lst (by rw [sizeLine_eq]; simp; omega)
    have ai : ∀ r : W, mApp r (.lst (its.map rowOf)) = some (.lst (its.map rowOf ++ [r]), .non) := fun r => upd_app (by rw [List.length_map, sizeLine_eq]; omega)
    have av : ∀ r : W, mApp r (.lst (vs.map rowOf)) = some (.lst (vs.map rowOf ++ [r]), .non) := fun r => upd_app (by rw [List.length_map, sizeLine_eq]; omega)
    by_cases cp : kd = "put"
    · subst cp
      obtain ⟨t, b4, e4, g4, hs4, hb4⟩ := some_row (n := n + 2) hb3 xv (by omega)
      have ad : P2.v .add (.lst [.tup [.str "put", .int 1]]) (rowOf t) = some (rowOf (.node "put" [t])) := by
        have := v_add_lst (x := [.tup [.str "put", .int 1]]) (y := code t) (by rw [code_length, sizeLine_eq]; simp; omega)
        rw [show rowOf t = .lst (code t) from rfl, this]
        simp [rowOf, code, codes]
      refine ⟨b4, its ++ [.node "put" [t]], vs, hb4, (xi.up (by omega) (Nat.le_refl _)).add (.put g4) (by simp [size, sizes]; omega), xv.up (by omega) (by omega), ?_⟩
      simp [sDr, b__law_drawn, Ss.hd, Ss.tl, S.body, eqp, e4, ad, okPl, W.isL, updAt_nil, ai]
    · by_cases cl : kd = "list"
      · subst cl
        have g : Gt false (.node "list" ts') (h + 2) := .list (by omega) (by simpa [isVals] using hg')
        refine ⟨b3, its, vs ++ [.node "list" ts'], hb3, xi.up (by omega) (by omega), (xv.up (by omega) (Nat.le_refl _)).add g (by simp [size]; omega), ?_⟩
        simp [sDr, b__law_drawn, Ss.hd, Ss.tl, S.body, eqp, eql, cp, addr, okPl, W.isL, updAt_nil, av, rowOf, code]
      · have hg2 : ∀ t ∈ ts', Gt true t (h + 1) := by
          have : isVals kd = false := by simp [isVals, cl]
          simpa [this] using hg'
        have gi : Gt true (.node "quote" ts') (h + 2) := .quote (by omega) hg2
        have gv : Gt false (.node "quote" ts') (h + 2) := .quote (by omega) hg2
        refine ⟨b3, its ++ [.node "quote" ts'], vs ++ [.node "quote" ts'], hb3, (xi.up (by omega) (Nat.le_refl _)).add gi (by simp [size]; omega), (xv.up (by omega) (Nat.le_refl _)).add gv (by simp [size]; omega), ?_⟩
        simp [sDr, b__law_drawn, Ss.hd, Ss.tl, S.body, eqp, eql, cp, cl, addr, okPl, W.isL, updAt_nil, ai, av, rowOf, code]
  -- two leaves
  obtain ⟨x, b5, e5, ix5, wx5, hb5⟩ := leaf_eq (n := n) (it := true) hb4
  obtain ⟨y, b6, e6, ix6, wx6, hb6⟩ := leaf_eq (n := n) (it := false) hb5
  have li1 := ri.len
  have lv1 := rv.len
  have ai : mApp (rowOf (.leaf x)) (.lst (its1.map rowOf)) = some (.lst (its1.map rowOf ++ [rowOf (.leaf x)]), .non) := upd_app (by rw [List.length_map, sizeLine_eq]; omega)
  have av : mApp (rowOf (.leaf y)) (.lst (vs1.map rowOf)) = some (.lst (vs1.map rowOf ++ [rowOf (.leaf y)]), .non) := upd_app (by rw [List.length_map, sizeLine_eq]; omega)
  have rx : ∀ x, rowOf (.leaf x) = .lst [.tup [.str "leaf", x]] := fun _ => rfl
  rw [rx] at ai av
  have s5 : vSs (Ψ (n + 4)) sDr.body.tl.tl.tl.tl [some b4, d1, some (.int m), d3, some (.lst (its1.map rowOf)), some (.lst (vs1.map rowOf)), d6', some (.str kd), some (.int ts'.length), some (.lst (codes ts'))] = .nx [some b6, d1, some (.int m), d3, some (.lst ((its1 ++ [Tree.leaf x]).map rowOf)), some (.lst ((vs1 ++ [Tree.leaf y]).map rowOf)), d6', some (.str kd), some (.int ts'.length), some (.lst (codes ts'))] := by
    simp [sDr, b__law_drawn, Ss.hd, Ss.tl, S.body, e5, e6, okPl, W.isL, updAt_nil, ai, av, rx]
  refine ⟨b6, its1 ++ [Tree.leaf x], vs1 ++ [Tree.leaf y], d6', some (.str kd), some (.int ts'.length), some (.lst (codes ts')), ?_, hb6, ri.add (.leaf ix5 wx5) (by simp [size]), rv.add (.leaf ix6 wx6) (by simp [size])⟩
  simp only [wSs_cons, s1, s2, s3, s4, s5, SW.andThen_nx]

theorem drawn_eq {n : Nat} {b : W} {turns m : Nat} (hb : Bag b) (ht : turns ≤ 50) (hm : m ≤ 200) :
    ∃ b' its vs, rn (n + 5) 16 [b, .int turns, .int m] = .ok (.tup [.lst (its.map rowOf), .lst (vs.map rowOf)]) [some b', some (.int turns), some (.int m)] ∧ Bag b' ∧ Rows its true (turns + 1) (m + 2) (2 * turns + 2) ∧ Rows vs false (turns + 1) (m + 1) (2 * turns + 2) := by
  rw [v__law_drawn]
  obtain ⟨x1, b1, e1, ix1, wx1, hb1⟩ := leaf_eq (n := n) (it := true) hb
  obtain ⟨x2, b2, e2, ix2, wx2, hb2⟩ := leaf_eq (n := n) (it := true) hb1
  obtain ⟨x3, b3, e3, ix3, wx3, hb3⟩ := leaf_eq (n := n) (it := false) hb2
  obtain ⟨x4, b4, e4, ix4, wx4, hb4⟩ := leaf_eq (n := n) (it := false) hb3
  have s1 : vS (Ψ (n + 4)) b__law_drawn.hd [some b, some (.int turns), some (.int m), none, none, none, none, none, none, none] = .nx [some b4, some (.int turns), some (.int m), none, some (.lst ([Tree.leaf x1, Tree.leaf x2].map rowOf)), some (.lst ([Tree.leaf x3, Tree.leaf x4].map rowOf)), none, none, none, none] := by
    simp [b__law_drawn, Ss.hd, e1, e2, e3, e4, rowOf, code]
  obtain ⟨σ', e, b', its, vs, d3, d6, d7, d8, d9, hσ, hb', ri, rv⟩ := forV_nx (tg := .name 3) (b := vSs (Ψ (n + 4)) sDr.body) (xs := rangeW 0 1 turns) (σ := [some b4, some (.int turns), some (.int m), none, some (.lst ([Tree.leaf x1, Tree.leaf x2].map rowOf)), some (.lst ([Tree.leaf x3, Tree.leaf x4].map rowOf)), none, none, none, none])
    (fun pre σ => ∃ b' its vs d3 d6 d7 d8 d9, σ = [some b', some (.int turns), some (.int m), d3, some (.lst (its.map rowOf)), some (.lst (vs.map rowOf)), d6, d7, d8, d9] ∧ Bag b' ∧ Rows its true (pre.length + 1) (m + 2) (2 * pre.length + 2) ∧ Rows vs false (pre.length + 1) (m + 1) (2 * pre.length + 2))
    ⟨b4, [Tree.leaf x1, Tree.leaf x2], [Tree.leaf x3, Tree.leaf x4], none, none, none, none, none, rfl, hb4, ⟨by simp, by simp, fun t ht => by
      simp only [List.mem_cons, List.not_mem_nil, or_false] at ht
      rcases ht with h | h <;> subst h
      · exact ⟨.leaf ix1 wx1, by simp [size]⟩
      · exact ⟨.leaf ix2 wx2, by simp [size]⟩⟩, ⟨by simp, by simp, fun t ht => by
      simp only [List.mem_cons, List.not_mem_nil, or_false] at ht
      rcases ht with h | h <;> subst h
      · exact ⟨.leaf ix3 wx3, by simp [size]⟩
      · exact ⟨.leaf ix4 wx4, by simp [size]⟩⟩⟩
    (fun pre x suf σ e ⟨b', its, vs, d3, d6, d7, d8, d9, hσ, hb', ri, rv⟩ => by
      subst hσ
      have hpl : pre.length < turns := by
        have := congrArg List.length e
        rw [rangeW_len] at this
        simp at this; omega
      obtain ⟨b2, its', vs', d6', d7', d8', d9', e2, hb2, ri', rv'⟩ := turn_eq (n := n) (d1 := some (.int turns)) (d3 := some x) (d6 := d6) (d7 := d7) (d8 := d8) (d9 := d9) hb' ri rv hm (by omega)
      exact ⟨_, _, rfl, .inl e2, b2, its', vs', some x, d6', d7', d8', d9', rfl, hb2, by simpa using ri'.up (by simp) (by simp; omega), by simpa using rv'.up (by simp) (by simp; omega)⟩)
  rw [rangeW_len] at ri rv
  subst hσ
  refine ⟨b', its, vs, ?_, hb', ri, rv⟩
  have hf : (rangeW 0 1 turns).length < fuel := by rw [rangeW_len]; unfold fuel; omega
  have sm : small62 (turns : Int) = true := small62_of (by omega) (by omega)
  rw [show b__law_drawn = .cons b__law_drawn.hd (.cons (.fo (.name 3) (.rng1 (.var 1)) sDr.body) (.cons (.rt (.tup (.cons (.var 4) (.cons (.var 5) .nil)))) .nil)) from rfl, wSs_cons, s1]
  simp only [List.map_cons, List.map_nil] at e
  simp [sm, hf, e]
theorem cut_mem {xs : List W} {lo hi : Option Int} {x : W} (h : x ∈ cutW xs lo hi) : x ∈ xs := List.mem_of_mem_drop (List.mem_of_mem_take h)
theorem cut_len (xs : List W) (lo hi : Option Int) : (cutW xs lo hi).length ≤ xs.length := by
  unfold cutW
  rw [List.length_take, List.length_drop]
  omega
def sSg : S := b__law_drawn_signs.tl.hd
theorem drawn_signs_eq {n : Nat} {b : W} {turns m many : Nat} (hb : Bag b) (ht : turns ≤ 50) (hm : m ≤ 200) (hmany : many ≤ 8) :
    ∃ b' ts, rn (n + 6) 17 [b, .int turns, .int m, .int many] = .ok (.lst (codes ts)) [some b', some (.int turns), some (.int m), some (.int many)] ∧ Bag b' ∧ ts.length ≤ many ∧ (∀ t ∈ ts, Gt true t (turns + 1)) ∧ sizes ts ≤ many * (m + 2) := by
  rw [v__law_drawn_signs]
  obtain ⟨b1, its, vs, e1, hb1, ri, rv⟩ := drawn_eq (n := n) hb ht hm
  obtain ⟨r, b2, e2, hr, hb2⟩ := pick_eq (n := n + 4) (w := (many : Int) + 1) hb1 (by omega) (by omega)
  have hri := ri.len
  have s1 : vS (Ψ (n + 5)) b__law_drawn_signs.hd [some b, some (.int turns), some (.int m), some (.int many), none, none, none] = .nx [some b1, some (.int turns), some (.int m), some (.int many), none, some (.lst (its.map rowOf)), some (.lst [])] := by
    simp [b__law_drawn_signs, Ss.hd, e1]
  obtain ⟨σ', e, b', ts, d4, hσ, hb', h1, h2, h3⟩ := forV_nx (tg := .name 4) (b := vSs (Ψ (n + 5)) sSg.body) (xs := rangeW 0 1 r) (σ := [some b2, some (.int turns), some (.int m), some (.int many), none, some (.lst (its.map rowOf)), some (.lst [])])
    (fun pre σ => ∃ b' ts d4, σ = [some b', some (.int turns), some (.int m), some (.int many), d4, some (.lst (its.map rowOf)), some (.lst (codes ts))] ∧ Bag b' ∧ ts.length = pre.length ∧ (∀ t ∈ ts, Gt true t (turns + 1)) ∧ sizes ts ≤ pre.length * (m + 2)) ⟨b2, [], none, rfl, hb2, rfl, by simp, by simp [sizes]⟩
    (fun pre x suf σ e ⟨b3, ts, d4, hσ, hb3, h1, h2, h3⟩ => by
      subst hσ
      have hpl : pre.length < r := by
        have := congrArg List.length e
        rw [rangeW_len] at this
        simp at this; omega
      have cl := cut_len (its.map rowOf) (some (-4)) none
      rw [List.length_map] at cl
      have ad1 : P2.v .add (.lst (cutW (its.map rowOf) (some (-4)) none)) (.lst (its.map rowOf)) = some (.lst (cutW (its.map rowOf) (some (-4)) none ++ its.map rowOf)) := v_add_lst (by rw [List.length_map, sizeLine_eq]; omega)
      have ine : its.map rowOf ≠ [] := by have := ri.ne; simpa using this
      obtain ⟨y, hy, b4, e4, hb4⟩ := some_lst (n := n + 3) (xs := cutW (its.map rowOf) (some (-4)) none ++ its.map rowOf) hb3 (by simp; intro _; exact ri.ne) (by simp; omega)
      have hy : y ∈ its.map rowOf := by
        rcases List.mem_append.mp hy with hy | hy
        · exact cut_mem hy
        · exact hy
      obtain ⟨t, ht, rfl⟩ := List.mem_map.mp hy
      obtain ⟨g, hs⟩ := ri.ok t ht
      have hcl : (codes ts).length ≤ 2000 := by
        rw [codes_length]
        have : pre.length * (m + 2) ≤ 8 * 202 := Nat.mul_le_mul (by omega) (by omega)
        omega
      have ad2 : P2.v .add (.lst (codes ts)) (rowOf t) = some (.lst (codes ts ++ code t)) := v_add_lst (by rw [code_length, sizeLine_eq]; omega)
      refine ⟨_, [some b4, some (.int turns), some (.int m), some (.int many), some x, some (.lst (its.map rowOf)), some (.lst (codes ts ++ code t))], rfl, .inl ?_, b4, ts ++ [t], some x, ?_, hb4, by simp [h1], fun u hu => ?_, ?_⟩
      · simp [sSg, b__law_drawn_signs, Ss.hd, Ss.tl, S.body, ad1, e4, ad2]
      · rw [codes_append]; simp [codes]
      · rcases List.mem_append.mp hu with hu | hu
        · exact h2 u hu
        · rw [List.mem_singleton.mp hu]; exact g
      · rw [sizes_append]
        simp [sizes, Nat.succ_mul]
        omega)
  rw [rangeW_len] at h1 h3
  subst hσ
  have h3' : sizes ts ≤ many * (m + 2) := Nat.le_trans h3 (Nat.mul_le_mul (by omega) (Nat.le_refl _))
  refine ⟨b', ts, ?_, hb', by omega, h2, h3'⟩
  have hf : (rangeW 0 1 r).length < fuel := by rw [rangeW_len]; unfold fuel; omega
  have sm : small62 (r : Int) = true := small62_of (by omega) (by omega)
  rw [show b__law_drawn_signs = .cons b__law_drawn_signs.hd (.cons (.fo (.name 4) (.rng1 (.call 10 (.cons (.var 0) (.cons (.op2 .add (.var 3) (.con (.int 1))) .nil)))) sSg.body) (.cons (.rt (.var 6)) .nil)) from rfl, wSs_cons, s1]
  simp [e2, sm, hf, e]
end K00

namespace K00
open PySem PyL
mutual
def sgT : Tree → List (Str × Nat)
  | .leaf _ => [("leaf", 0)]
  | .node k ts => (k, ts.length) :: sgTs ts
def sgTs : List Tree → List (Str × Nat)
  | [] => []
  | t :: ts => sgT t ++ sgTs ts
end
mutual
def lvT : Nat → Str → Tree → List (Nat × Str)
  | d, c, .leaf _ => [(d, c)]
  | d, c, .node k ts => (d, c) :: lvTs (d + 1) k ts
def lvTs : Nat → Str → List Tree → List (Nat × Str)
  | _, _, [] => []
  | d, c, t :: ts => lvT d c t ++ lvTs d c ts
end
theorem sgsW_app : ∀ {a b : List W} {p q : List (Str × Nat)}, sgsW a = some p → sgsW b = some q → sgsW (a ++ b) = some (p ++ q)
  | [], b, p, q, h1, h2 => by cases h1; exact h2
  | g :: a, b, p, q, h1, h2 => by
    simp only [sgsW, List.cons_append] at h1 ⊢
    cases e : sgW g with
    | none => rw [e] at h1; cases h1
    | some x =>
      cases e2 : sgsW a with
      | none => rw [e, e2] at h1; cases h1
      | some y =>
        rw [e, e2] at h1
        cases h1
        rw [sgsW_app e2 h2]
        rfl
mutual
theorem sgs_code : ∀ {t : Tree}, Wt' t → sgsW (code t) = some (sgT t)
  | .leaf d, _ => by
    have : sgW (.tup [.str "leaf", d]) = some (("leaf" : Str), 0) := by
      simp only [sgW]; rw [if_pos okLeaf, if_pos trivial]
    show sgsW [W.tup [.str "leaf", d]] = _
    simp only [sgsW, this]
    rfl
  | .node k ts, .node h1 h2 h3 h4 _ => by
    have : sgW (.tup [.str k, .int (ts.length : Int)]) = some (k, ts.length) := by
      simp only [sgW]; rw [if_pos h1, if_neg h2, if_pos (by omega)]
      simp
    show sgsW (W.tup [.str k, .int (ts.length : Int)] :: codes ts) = _
    simp only [sgsW, this, sgs_codes h4]
    rfl
theorem sgs_codes : ∀ {ts : List Tree}, (∀ t ∈ ts, Wt' t) → sgsW (codes ts) = some (sgTs ts)
  | [], _ => rfl
  | t :: ts, h => by
    show sgsW (code t ++ codes ts) = some (sgT t ++ sgTs ts)
    exact sgsW_app (sgs_code (h t List.mem_cons_self)) (sgs_codes fun u hu => h u (List.mem_cons_of_mem _ hu))
end
mutual
theorem sgT_len : ∀ t : Tree, (sgT t).length = size t
  | .leaf d => rfl
  | .node k ts => by
    show (sgTs ts).length + 1 = sizes ts + 1
    rw [sgTs_len ts]
theorem sgTs_len : ∀ ts : List Tree, (sgTs ts).length = sizes ts
  | [] => rfl
  | t :: ts => by
    show (sgT t ++ sgTs ts).length = size t + sizes ts
    rw [List.length_append, sgT_len t, sgTs_len ts]
end
mutual
theorem lvl_code : ∀ (t : Tree) (c : Str) (q : Nat) (s0 : Stk) (rest : List (Str × Nat)), lvl (sgT t ++ rest) ((c, q + 1) :: s0) = lvT (s0.length + 1) c t ++ lvl rest (popz ((c, q) :: s0))
  | .leaf d, c, q, s0, rest => by
    show (s0.length + 1, c) :: lvl rest (popz (("leaf", 0) :: (c, q + 1 - 1) :: s0)) = _
    rw [popz_zero]
    rfl
  | .node k ts, c, q, s0, rest => by
    show (s0.length + 1, c) :: lvl (sgTs ts ++ rest) (popz ((k, ts.length) :: (c, q + 1 - 1) :: s0)) = _
    have : (k, ts.length) = (k, 0 + ts.length) := by rw [Nat.zero_add]
    rw [this, lvl_codes ts k 0 _ rest, popz_zero]
    rfl
theorem lvl_codes : ∀ (ts : List Tree) (c : Str) (r : Nat) (s0 : Stk) (rest : List (Str × Nat)), lvl (sgTs ts ++ rest) (popz ((c, r + ts.length) :: s0)) = lvTs (s0.length + 1) c ts ++ lvl rest (popz ((c, r) :: s0))
  | [], c, r, s0, rest => rfl
  | t :: ts, c, r, s0, rest => by
    have e : r + (t :: ts).length = (r + ts.length) + 1 := by simp; omega
    rw [e, popz_succ]
    show lvl ((sgT t ++ sgTs ts) ++ rest) _ = (lvT _ _ _ ++ lvTs _ _ _) ++ _
    rw [List.append_assoc, lvl_code t, lvl_codes ts, List.append_assoc]
end
mutual
theorem lvT_length : ∀ (d : Nat) (c : Str) (t : Tree), (lvT d c t).length = size t
  | d, c, .leaf _ => rfl
  | d, c, .node k ts => by
    show (lvTs (d + 1) k ts).length + 1 = sizes ts + 1
    rw [lvTs_length (d + 1) k ts]
theorem lvTs_length : ∀ (d : Nat) (c : Str) (ts : List Tree), (lvTs d c ts).length = sizes ts
  | d, c, [] => rfl
  | d, c, t :: ts => by
    show (lvT d c t ++ lvTs d c ts).length = size t + sizes ts
    rw [List.length_append, lvT_length d c t, lvTs_length d c ts]
end
mutual
theorem lvT_ge : ∀ (d : Nat) (c : Str) (t : Tree), ∀ p ∈ lvT d c t, d ≤ p.1
  | d, c, .leaf _, p, h => by rw [List.mem_singleton.mp h]; exact Nat.le_refl _
  | d, c, .node k ts, p, h => by
    rcases List.mem_cons.mp h with rfl | h
    · exact Nat.le_refl _
    · have := lvTs_ge (d + 1) k ts p h; omega
theorem lvTs_ge : ∀ (d : Nat) (c : Str) (ts : List Tree), ∀ p ∈ lvTs d c ts, d ≤ p.1
  | d, c, [], p, h => by simp [lvTs] at h
  | d, c, t :: ts, p, h => by
    rcases List.mem_append.mp h with h | h
    · exact lvT_ge d c t p h
    · exact lvTs_ge d c ts p h
end
/-- is what stands in such a thing an item -/
def itB (c : Str) : Bool := c == "quote"
/-- a forest with a hole -/
structure Hole (ts : List Tree) (d : Nat) (c : Str) (p : Nat) (pre suf : List W) (t : Tree) (dt : Nat) (ct : Str) (re : Tree → List Tree) : Prop where
  cod : codes ts = pre ++ code t ++ suf
  at_ : p = pre.length
  lev : (lvTs d c ts)[p]? = some (dt, ct)
  dp : d ≤ dt
  ins : ∀ q, 1 ≤ q → q < size t → ∃ e, (lvTs d c ts)[p + q]? = some e ∧ dt < e.1
  beh : p + size t < sizes ts → ∃ e, (lvTs d c ts)[p + size t]? = some e ∧ e.1 ≤ dt
  cods : ∀ u, codes (re u) = pre ++ code u ++ suf
  wt : ∀ u, Wt' u → (∀ t ∈ ts, Wt' t) → ∀ t ∈ re u, Wt' t
  len : ∀ u, (re u).length = ts.length
  bad : ∀ u h, (∀ t ∈ ts, Gt (itB c) t h) → Bd (itB ct) (val u) → ∃ x ∈ vals (re u), Bd (itB c) x
theorem itB_q : itB "quote" = true := by decide +kernel
theorem itB_l : itB "list" = false := by decide +kernel
theorem itB_p : itB "put" = false := by decide +kernel
theorem lvT_head (d : Nat) (c : Str) : ∀ t : Tree, (lvT d c t)[0]? = some (d, c)
  | .leaf _ => rfl
  | .node _ _ => rfl
theorem lvT_tail (d : Nat) (c : Str) : ∀ (t : Tree) (q : Nat), 1 ≤ q → q < size t → ∃ e, (lvT d c t)[q]? = some e ∧ d < e.1
  | .leaf _, q, h1, h2 => by
    have : q < 1 := h2
    omega
  | .node k ts, q, h1, h2 => by
    obtain ⟨q, rfl⟩ : ∃ r, q = r + 1 := ⟨q - 1, by omega⟩
    have h2 : q + 1 < sizes ts + 1 := h2
    have hl : q < (lvTs (d + 1) k ts).length := by rw [lvTs_length]; omega
    refine ⟨(lvTs (d + 1) k ts)[q], ?_, ?_⟩
    · show ((d, c) :: lvTs (d + 1) k ts)[q + 1]? = _
      rw [List.getElem?_cons_succ, List.getElem?_eq_getElem hl]
    · have := lvTs_ge (d + 1) k ts _ (List.getElem_mem hl)
      omega
mutual
theorem hole_one : ∀ (t : Tree) (d : Nat) (c : Str) (p : Nat), p < size t → ∃ pre suf u dt ct re, Hole [t] d c p pre suf u dt ct re
  | t, d, c, 0, hp => by
    refine ⟨[], [], t, d, c, fun u => [u], ?_, rfl, ?_, Nat.le_refl _, fun q h1 h2 => ?_, fun h => ?_, fun u => ?_, fun u h1 h2 t' ht => ?_, fun u => rfl, fun u h h1 h2 => ⟨val u, by simp [vals], h2⟩⟩
    · show code t ++ [] = [] ++ code t ++ []
      simp
    · show (lvT d c t ++ [])[0]? = _
      rw [List.append_nil, lvT_head]
    · obtain ⟨e, h3, h4⟩ := lvT_tail d c t q h1 h2
      refine ⟨e, ?_, h4⟩
      show (lvT d c t ++ [])[0 + q]? = _
      rw [List.append_nil, Nat.zero_add]
      exact h3
    · have : sizes [t] = size t := by show size t + 0 = size t; omega
      omega
    · show code u ++ [] = [] ++ code u ++ []
      simp
    · rw [List.mem_singleton.mp ht]; exact h1
  | .leaf _, d, c, p + 1, hp => by
    have : p + 1 < 1 := hp
    omega
  | .node k ts, d, c, p + 1, hp => by
    have hp' : p < sizes ts := by
      have : p + 1 < sizes ts + 1 := hp
      omega
    obtain ⟨pre, suf, u, dt, ct, re, H⟩ := hole_many ts (d + 1) k p hp'
    have ix : ∀ j, (lvTs d c [Tree.node k ts])[j + 1]? = (lvTs (d + 1) k ts)[j]? := fun j => by
      show (((d, c) :: lvTs (d + 1) k ts) ++ [])[j + 1]? = _
      rw [List.append_nil, List.getElem?_cons_succ]
    have sz : sizes [Tree.node k ts] = sizes ts + 1 := by show (sizes ts + 1) + 0 = _; omega
    refine ⟨.tup [.str k, .int (ts.length : Int)] :: pre, suf, u, dt, ct, fun u => [.node k (re u)], ?_, ?_, ?_, ?_, fun q h1 h2 => ?_, fun h => ?_, fun w => ?_, fun w h1 h2 t' ht => ?_, fun w => rfl, fun w h h1 h2 => ?_⟩
    · show (.tup [.str k, .int (ts.length : Int)] :: codes ts) ++ [] = _
      rw [List.append_nil, H.cod]
      rfl
    · show p + 1 = pre.length + 1
      rw [H.at_]
    · rw [ix]; exact H.lev
    · have := H.dp; omega
    · rw [show p + 1 + q = (p + q) + 1 by omega, ix]
      exact H.ins q h1 h2
    · rw [show p + 1 + size u = (p + size u) + 1 by omega, ix]
      exact H.beh (by omega)
    · show (.tup [.str k, .int ((re w).length : Int)] :: codes (re w)) ++ [] = _
      rw [List.append_nil, H.cods, H.len]
      rfl
    · rw [List.mem_singleton.mp ht]
      cases h2 _ List.mem_cons_self with
      | node a1 a2 a3 a4 a5 => exact .node a1 a2 (fun z => by rw [H.len]; exact a3 z) (H.wt w h1 a4) ⟨by rw [H.len]; exact a5.1, a5.2⟩
    · refine ⟨val (.node k (re w)), by simp [vals], ?_⟩
      have g := h1 _ List.mem_cons_self
      generalize hb : itB c = b at g
      cases g with
      | quote hl hx =>
        obtain ⟨x, hx1, hx2⟩ := H.bad w _ (by rw [itB_q]; exact hx) h2
        rw [itB_q] at hx2
        rw [val_quote]
        exact .sub (inn_quote _ _) (List.mem_map.mpr ⟨x, hx1, rfl⟩) hx2
      | list hl hx =>
        obtain ⟨x, hx1, hx2⟩ := H.bad w _ (by rw [itB_l]; exact hx) h2
        rw [itB_l] at hx2
        rw [val_list]
        exact .sub (inn_list _) (List.mem_map.mpr ⟨x, hx1, rfl⟩) hx2
      | @put t0 h0 g0 =>
        obtain ⟨x, hx1, hx2⟩ := H.bad w h0 (by rw [itB_p]; intro y hy; rw [List.mem_singleton.mp hy]; exact g0) h2
        rw [itB_p] at hx2
        have hl := H.len w
        match hre : re w, hl with
        | [y], _ =>
          rw [hre] at hx1
          have : x = val y := by simpa [vals] using hx1
          subst this
          rw [val_put]
          exact .sub (inn_put _) (by simp) hx2
theorem hole_many : ∀ (ts : List Tree) (d : Nat) (c : Str) (p : Nat), p < sizes ts → ∃ pre suf u dt ct re, Hole ts d c p pre suf u dt ct re
  | [], d, c, p, hp => by
    have : p < 0 := hp
    omega
  | t :: ts, d, c, p, hp => by
    have hs : p < size t + sizes ts := hp
    have ll : (lvT d c t).length = size t := lvT_length d c t
    by_cases hq : p < size t
    · obtain ⟨pre, suf, u, dt, ct, re, H⟩ := hole_one t d c p hq
      have c1 : code t = pre ++ code u ++ suf := by
        have := H.cod
        rw [show codes [t] = code t ++ [] from rfl, List.append_nil] at this
        exact this
      have l1 : lvTs d c [t] = lvT d c t := by show lvT d c t ++ [] = _; rw [List.append_nil]
      have s1 : sizes [t] = size t := by show size t + 0 = _; omega
      have sz : size t = p + size u + suf.length := by
        have := congrArg List.length c1
        rw [code_length, List.length_append, List.length_append, code_length, ← H.at_] at this
        exact this
      have lf : ∀ j, j < size t → (lvTs d c (t :: ts))[j]? = (lvTs d c [t])[j]? := fun j hj => by
        rw [l1]
        show (lvT d c t ++ lvTs d c ts)[j]? = _
        rw [List.getElem?_append_left (by omega)]
      refine ⟨pre, suf ++ codes ts, u, dt, ct, fun w => re w ++ ts, ?_, H.at_, ?_, H.dp, fun q h1 h2 => ?_, fun h => ?_, fun w => ?_, fun w h1 h2 t' ht => ?_, fun w => ?_, fun w h h1 h2 => ?_⟩
      · show code t ++ codes ts = _
        rw [c1]; simp only [List.append_assoc]
      · rw [lf p hq]; exact H.lev
      · rw [lf (p + q) (by omega)]; exact H.ins q h1 h2
      · by_cases h3 : p + size u < size t
        · rw [lf _ h3]; exact H.beh (by omega)
        · have h4 : p + size u = size t := by omega
          rw [h4]
          match ts, h with
          | [], h =>
            have : p + size u < size t + 0 := h
            omega
          | t2 :: ts2, _ =>
            refine ⟨(d, c), ?_, H.dp⟩
            show (lvT d c t ++ (lvT d c t2 ++ lvTs d c ts2))[size t]? = _
            rw [List.getElem?_append_right (by omega), ll, Nat.sub_self, List.getElem?_append_left (by rw [lvT_length]; exact size_pos t2), lvT_head]
      · show codes (re w ++ ts) = _
        rw [codes_append, H.cods]; simp only [List.append_assoc]
      · rcases List.mem_append.mp ht with ht | ht
        · exact H.wt w h1 (fun y hy => h2 y (by rw [List.mem_singleton.mp hy]; exact List.mem_cons_self)) t' ht
        · exact h2 t' (List.mem_cons_of_mem _ ht)
      · rw [List.length_append, H.len]; simp; omega
      · obtain ⟨x, hx1, hx2⟩ := H.bad w h (fun y hy => h1 y (by rw [List.mem_singleton.mp hy]; exact List.mem_cons_self)) h2
        exact ⟨x, by rw [vals_append]; exact List.mem_append_left _ hx1, hx2⟩
    · obtain ⟨pre, suf, u, dt, ct, re, H⟩ := hole_many ts d c (p - size t) (by omega)
      have rg : ∀ j, (lvTs d c (t :: ts))[size t + j]? = (lvTs d c ts)[j]? := fun j => by
        show (lvT d c t ++ lvTs d c ts)[size t + j]? = _
        rw [List.getElem?_append_right (by omega), ll, Nat.add_sub_cancel_left]
      refine ⟨code t ++ pre, suf, u, dt, ct, fun w => t :: re w, ?_, ?_, ?_, H.dp, fun q h1 h2 => ?_, fun h => ?_, fun w => ?_, fun w h1 h2 t' ht => ?_, fun w => ?_, fun w h h1 h2 => ?_⟩
      · show code t ++ codes ts = _
        rw [H.cod]; simp only [List.append_assoc]
      · rw [List.length_append, code_length, ← H.at_]; omega
      · have := rg (p - size t)
        rw [show size t + (p - size t) = p by omega] at this
        rw [this]; exact H.lev
      · have := rg (p - size t + q)
        rw [show size t + (p - size t + q) = p + q by omega] at this
        rw [this]; exact H.ins q h1 h2
      · have := rg (p - size t + size u)
        rw [show size t + (p - size t + size u) = p + size u by omega] at this
        rw [this]
        have h : p + size u < size t + sizes ts := h
        exact H.beh (by omega)
      · show code t ++ codes (re w) = _
        rw [H.cods]; simp only [List.append_assoc]
      · rcases List.mem_cons.mp ht with rfl | ht
        · exact h2 _ List.mem_cons_self
        · exact H.wt w h1 (fun y hy => h2 y (List.mem_cons_of_mem _ hy)) t' ht
      · simp [H.len]
      · obtain ⟨x, hx1, hx2⟩ := H.bad w h (fun y hy => h1 y (List.mem_cons_of_mem _ hy)) h2
        exact ⟨x, List.mem_cons_of_mem _ hx1, hx2⟩
end

theorem levels_v {n : Nat} {ts : List Tree} {out : Str} (hw : ∀ t ∈ ts, Wt' t) (hl : sizes ts ≤ 20000) : Gives (rn (n + 1) 13 [.lst (codes ts), .str out]) (.lst ((lvTs 1 out ts).map lvW)) := by
  have e : rn (n + 1) 13 [.lst (codes ts), .str out] = levW n [.lst (codes ts), .str out] := rfl
  rw [e]
  simp only [levW, sgs_codes hw]
  rw [if_pos (by rw [codes_length]; exact hl), gives_ok, sgTs_len]
  have hle := length_sizes ts
  have h1 := lvl_codes ts out (sizes ts + 1 - ts.length) [] []
  have h2 : sizes ts + 1 - ts.length + ts.length = sizes ts + 1 := by omega
  rw [h2, popz_succ, List.append_nil] at h1
  rw [h1]
  show W.lst ((lvTs 1 out ts ++ []).map lvW) = _
  rw [List.append_nil]
end K00

namespace K00
open PySem PyL
/-- has a bad one in it -/
def bdB : Nat → Bool → W → Bool
  | 0, _, _ => false
  | n + 1, b, d => match inn d b with
    | none => true
    | some rows => rows.any fun p => bdB n p.2 p.1
theorem bdB_ok : ∀ {n : Nat} {b : Bool} {d : W}, bdB n b d = true → Bd b d
  | 0, _, _, h => by cases h
  | n + 1, b, d, h => by
    simp only [bdB] at h
    cases q : inn d b with
    | none => exact .here q
    | some rows =>
      rw [q] at h
      obtain ⟨p, h1, h2⟩ := List.any_eq_true.mp h
      exact .sub q h1 (bdB_ok h2)
def wfB : Nat → W → Bool
  | 0, _ => false
  | n + 1, w => match w with
    | .non | .bl _ | .int _ | .lst _ | .dct _ _ _ => true
    | .str z => PyData.strOk z && decide (z.length ≤ 1000)
    | .tup xs => decide (xs.length ≤ 1000) && xs.all (wfB n)
    | _ => false
theorem wfB_ok : ∀ {n : Nat} {w : W}, wfB n w = true → Wf w
  | 0, _, h => by cases h
  | n + 1, .non, h => .non
  | n + 1, .bl b, h => .bl b
  | n + 1, .int b, h => .int b
  | n + 1, .lst b, h => .lst b
  | n + 1, .dct a b c, h => .dct a b c
  | n + 1, .str z, h => by
    simp only [wfB, Bool.and_eq_true, decide_eq_true_eq] at h
    exact .str z h.1 (by rw [sizeLine_eq]; omega)
  | n + 1, .tup xs, h => by
    simp only [wfB, Bool.and_eq_true, decide_eq_true_eq] at h
    exact .tup xs (by omega) fun x hx => wfB_ok (List.all_eq_true.mp h.2 x hx)
  | n + 1, .ins _ _ _, h => by cases h
  | n + 1, .fn _ _, h => by cases h
def oddI : List W := [.non,
  (.str ""),
  (.str "Dup"),
  (.str "aaaaaaaaaaaaa"),
  (.str "list"),
  (.str "put"),
  (.str "true"),
  (.str "false"),
  (.int 1000000000000000001),
  (.int (-1000000000000000001)),
  (.tup [(.str "list"), (.tup [])]),
  (.tup [(.str "quote")]),
  (.tup []),
  (.tup [(.str "quote"), (.lst [])]),
  (.tup [(.str "quote"), (.int 5)]),
  (.lst [(.str "quote"), (.tup [])]),
  (.tup [(.str "put")]),
  (.tup [(.str "put"), (.str "dup")]),
  (.tup [(.str "put"), .non]),
  (.tup [(.str "take"), (.tup [])]),
  (.tup [(.str "put"), (.tup [])]),
  (.tup [(.str "quote"), (.tup []), (.tup [])]),
  (.str "a b"),
  (.str "a1"),
  (.str "dup "),
  (.tup [(.str "dup")]),
  (.dct false [] []),
  (.tup [(.str "quote"), .non]),
  (.tup [(.str "put"), (.tup [(.str "put"), (.int 3)])]),
  (.tup [(.str "put"), (.int 3), (.int 4)]),
  (.lst []),
  (.tup [(.str "put"), (.tup [(.str "list"), (.lst [(.int 1)])])]),
  (.tup [(.str "quote"), (.str "dup")]),
  (.tup [(.str "put"), (.tup [(.str "list"), (.tup [(.str "add")])])]),
  (.str "-"),
  (.str "~5"),
  (.int 999999999999999999999999999999999999999999999999999999999999),
  (.tup [(.str "put"), (.tup [(.str "quote")])])]
def oddV : List W := [.non,
  (.str "dup"),
  (.str ""),
  (.tup [(.str "put"), (.int 3)]),
  (.tup [(.str "put"), (.tup [(.str "list"), (.tup [])])]),
  (.int 1000000000000000001),
  (.int (-1000000000000000001)),
  (.tup [(.str "list")]),
  (.tup [(.str "list"), (.lst [])]),
  (.lst [(.str "list"), (.tup [])]),
  (.tup []),
  (.tup [(.str "quote"), (.lst [])]),
  (.tup [(.str "quote")]),
  (.tup [(.str "quote"), (.int 3)]),
  (.tup [(.str "list"), (.int 4)]),
  (.tup [(.str "list"), (.tup []), (.tup [])]),
  (.tup [(.int 1), (.int 2)]),
  (.dct false [] []),
  (.tup [(.str "list"), .non]),
  (.tup [(.str "list"), (.str "dup")]),
  (.tup [(.str "quote"), (.tup [.non])]),
  (.tup [(.str "list"), (.tup [(.str "add")])]),
  (.tup [(.str "quote"), (.tup [(.tup [(.str "list"), (.tup [])])])]),
  (.tup [(.bl true)]),
  (.lst []),
  (.str "true")]
theorem oddI_ok : (oddI.all fun x => bdB 5 true x && wfB 6 x) = true := by decide +kernel
theorem oddV_ok : (oddV.all fun x => bdB 5 false x && wfB 6 x) = true := by decide +kernel
theorem p18 : P2.v .pow (.int 10) (.int 18) = some (.int 1000000000000000000) := by rw [v_pow (by decide) (by decide) (by decide)]; rfl
theorem p60 : P2.v .pow (.int 10) (.int 60) = some (.int (10 ^ 60)) := by rw [v_pow (by decide) (by decide) (by decide)]; rfl
theorem a13 : P2.v .mul (.str "a") (.int 13) = some (.str "aaaaaaaaaaaaa") := by
  simp only [P2.v, vMul]
  rw [if_pos ⟨by decide, by decide, by decide +kernel, by decide +kernel⟩]
  exact congrArg (fun z => some (W.str z)) (by decide +kernel)
theorem odd_item_eq {n : Nat} {b : W} (h : Bag b) : ∃ x b', rn (n + 3) 18 [b] = .ok x [some b'] ∧ Bd true x ∧ Wf x ∧ Bag b' := by
  rw [v__law_odd_item]
  obtain ⟨x, hx, b', e, hb⟩ := some_lst (n := n) (xs := oddI) h (by simp [oddI]) (by decide +kernel)
  have ok := List.all_eq_true.mp oddI_ok x hx
  simp only [Bool.and_eq_true] at ok
  refine ⟨x, b', ?_, bdB_ok ok.1, wfB_ok ok.2, hb⟩
  unfold oddI at e
  have ad : ∀ (a b : List W), a.length + b.length ≤ 1000 → P2.v .add (.lst a) (.lst b) = some (.lst (a ++ b)) := fun a b h => v_add_lst (by rw [sizeLine_eq]; omega)
  simp [b__law_odd_item, p18, p60, a13, ad]
  simp [e]
theorem odd_value_eq {n : Nat} {b : W} (h : Bag b) : ∃ x b', rn (n + 3) 19 [b] = .ok x [some b'] ∧ Bd false x ∧ Wf x ∧ Bag b' := by
  rw [v__law_odd_value]
  obtain ⟨x, hx, b', e, hb⟩ := some_lst (n := n) (xs := oddV) h (by simp [oddV]) (by decide +kernel)
  have ok := List.all_eq_true.mp oddV_ok x hx
  simp only [Bool.and_eq_true] at ok
  refine ⟨x, b', ?_, bdB_ok ok.1, wfB_ok ok.2, hb⟩
  unfold oddV at e
  have ad : ∀ (a b : List W), a.length + b.length ≤ 1000 → P2.v .add (.lst a) (.lst b) = some (.lst (a ++ b)) := fun a b h => v_add_lst (by rw [sizeLine_eq]; omega)
  simp [b__law_odd_value, p18, p60, a13, ad, e]
end K00

namespace K00
open PySem PyL
def sWh : S := b__law_spoiled.tl.tl.hd
mutual
theorem lvT_okk : ∀ (d : Nat) (c : Str) (t : Tree), PyData.strOk c = true → Wt' t → ∀ e ∈ lvT d c t, PyData.strOk e.2 = true
  | d, c, .leaf _, hc, _, e, h => by rw [List.mem_singleton.mp h]; exact hc
  | d, c, .node k ts, hc, .node h1 h2 h3 h4 h5, e, h => by
    rcases List.mem_cons.mp h with rfl | h
    · exact hc
    · exact lvTs_okk (d + 1) k ts h1 h4 e h
theorem lvTs_okk : ∀ (d : Nat) (c : Str) (ts : List Tree), PyData.strOk c = true → (∀ t ∈ ts, Wt' t) → ∀ e ∈ lvTs d c ts, PyData.strOk e.2 = true
  | d, c, [], hc, _, e, h => by simp [lvTs] at h
  | d, c, t :: ts, hc, hw, e, h => by
    rcases List.mem_append.mp h with h | h
    · exact lvT_okk d c t hc (hw t List.mem_cons_self) e h
    · exact lvTs_okk d c ts hc (fun u hu => hw u (List.mem_cons_of_mem _ hu)) e h
end
theorem spoiled_eq {n : Nat} {b : W} {ts : List Tree} {out : Str} {h : Nat} (hb : Bag b) (hg : ∀ t ∈ ts, Gt (itB out) t h) (h1 : 1 ≤ sizes ts) (h2 : sizes ts ≤ 2000) (ho : PyData.strOk out = true) :
    ∃ b' ts' ps, rn (n + 5) 20 [b, .lst (codes ts), .str out] = .ok (.lst (codes ts')) (some b' :: ps) ∧ Bag b' ∧ ts'.length = ts.length ∧ sizes ts' ≤ sizes ts ∧ (∀ t ∈ ts', Wt' t) ∧ ∃ x ∈ vals ts', Bd (itB out) x := by
  rw [v__law_spoiled]
  have hw : ∀ t ∈ ts, Wt' t := fun t ht => (hg t ht).wt
  obtain ⟨pl, el⟩ := levels_v (n := n + 3) (out := out) hw (by omega)
  obtain ⟨p, b1, e1, hp, hb1⟩ := pick_eq (n := n + 3) (w := ((codes ts).length : Int)) hb (by rw [codes_length]; omega) (by rw [codes_length]; omega)
  rw [codes_length] at hp
  obtain ⟨pre, suf, u, dt, ct, re, H⟩ := hole_many ts 1 out p (by omega)
  have hcl := codes_length ts
  have hL : ((lvTs 1 out ts).map lvW).length = sizes ts := by rw [List.length_map, lvTs_length]
  have hcod : (codes ts).length = p + size u + suf.length := by
    rw [H.cod, List.length_append, List.length_append, code_length, ← H.at_]
  have lx : ∀ (q : Nat) (e : Nat × Str), (lvTs 1 out ts)[q]? = some e → ((lvTs 1 out ts).map lvW)[q]? = some (lvW e) := fun q e he => by rw [List.getElem?_map, he]; rfl
  have l0 := lx p _ H.lev
  have okc0 : PyData.strOk ct = true := lvTs_okk 1 out ts ho hw _ (List.mem_of_getElem? H.lev)
  generalize (lvTs 1 out ts).map lvW = L at el hL lx l0
  generalize hC : codes ts = C at *
  have s1 : vS (Ψ (n + 4)) b__law_spoiled.hd [some b, some (.lst C), some (.str out), none, none, none, none] = .nx [some b1, some (.lst C), some (.str out), none, none, some (.lst L), some (.int p)] := by
    simp [b__law_spoiled, Ss.hd, el, e1]
  have s2 : vS (Ψ (n + 4)) b__law_spoiled.tl.hd [some b1, some (.lst C), some (.str out), none, none, some (.lst L), some (.int p)] = .nx [some b1, some (.lst C), some (.str out), some (.int ((p : Int) + 1)), none, some (.lst L), some (.int p)] := by
    simp [b__law_spoiled, Ss.hd, Ss.tl]
  have s3 := whileV_P (c := vT (Ψ (n + 4)) sWh.test) (b := vSs (Ψ (n + 4)) sWh.body)
    (fun m σ => ∃ q : Nat, 1 ≤ q ∧ q + m = size u ∧ σ = [some b1, some (.lst C), some (.str out), some (.int ((p + q : Nat) : Int)), none, some (.lst L), some (.int p)])
    (fun o => o = .nx [some b1, some (.lst C), some (.str out), some (.int ((p + size u : Nat) : Int)), none, some (.lst L), some (.int p)])
    (fun m σ ⟨q, q1, q2, hσ⟩ => by
      subst hσ
      cases m with
      | zero =>
        left
        have hq : q = size u := by omega
        subst hq
        refine ⟨?_, rfl⟩
        by_cases c : p + size u < sizes ts
        · obtain ⟨e, he, hle⟩ := H.beh c
          have c1 : ((p : Int) + (size u : Int)) < (C.length : Int) := by omega
          have c2 : ¬ ((dt : Int) < (e.1 : Int)) := by omega
          have le := lx _ _ he
          have a1 : L2.atI L ((p : Int) + (size u : Int)) = some (lvW e) := by
            rw [show ((p : Int) + (size u : Int)) = ((p + size u : Nat) : Int) by omega, atI_cast]; exact le
          simp [sWh, b__law_spoiled, Ss.hd, Ss.tl, S.test, c1, a1, l0, lvW, c2]
        · have c1 : ¬ ((p : Int) + (size u : Int)) < (C.length : Int) := by omega
          simp [sWh, b__law_spoiled, Ss.hd, Ss.tl, S.test, c1]
      | succ m =>
        right
        obtain ⟨e, he, hlt⟩ := H.ins q q1 (by omega)
        have le := lx _ _ he
        have c1 : ((p : Int) + (q : Int)) < (C.length : Int) := by omega
        have c2 : (dt : Int) < (e.1 : Int) := by omega
        have a1 : L2.atI L ((p : Int) + (q : Int)) = some (lvW e) := by
          rw [show ((p : Int) + (q : Int)) = ((p + q : Nat) : Int) by omega, atI_cast]; exact le
        refine ⟨by simp [sWh, b__law_spoiled, Ss.hd, Ss.tl, S.test, c1, a1, l0, lvW, c2], .inl ⟨_, m, ?_, by omega, q + 1, by omega, by omega, rfl⟩⟩
        simp [sWh, b__law_spoiled, Ss.hd, Ss.tl, S.body]
        omega)
    (size u - 1) fuel [some b1, some (.lst C), some (.str out), some (.int ((p : Int) + 1)), none, some (.lst L), some (.int p)] (by unfold fuel; omega) ⟨1, by omega, by have := size_pos u; omega, by simp⟩
  have s3' : vS (Ψ (n + 4)) sWh [some b1, some (.lst C), some (.str out), some (.int ((p : Int) + 1)), none, some (.lst L), some (.int p)] = .nx [some b1, some (.lst C), some (.str out), some (.int ((p + size u : Nat) : Int)), none, some (.lst L), some (.int p)] := by
    rw [show sWh = .wh sWh.test sWh.body from rfl, wS_wh]; exact s3
  have okc : PyData.strOk ct = true := okc0
  have eqc : P2.v .eq (.str ct) (.str "quote") = some (.bl (decide (ct = "quote"))) := v_eq_str okc okQ
  -- the odd one
  obtain ⟨x, b2, hb2, hx, wx, s4⟩ : ∃ x b2, Bag b2 ∧ Bd (itB ct) x ∧ Wf x ∧ vS (Ψ (n + 4)) b__law_spoiled.tl.tl.tl.hd [some b1, some (.lst C), some (.str out), some (.int ((p + size u : Nat) : Int)), none, some (.lst L), some (.int p)] = .nx [some b2, some (.lst C), some (.str out), some (.int ((p + size u : Nat) : Int)), some x, some (.lst L), some (.int p)] := by
    by_cases c : ct = "quote"
    · obtain ⟨x, b2, e2, hx, wx, hb2⟩ := odd_item_eq (n := n + 1) hb1
      refine ⟨x, b2, hb2, by rw [c, itB_q]; exact hx, wx, ?_⟩
      subst c
      simp [b__law_spoiled, Ss.hd, Ss.tl, l0, lvW, eqc, e2]
    · obtain ⟨x, b2, e2, hx, wx, hb2⟩ := odd_value_eq (n := n + 1) hb1
      have : itB ct = false := by simp [itB, c]
      refine ⟨x, b2, hb2, by rw [this]; exact hx, wx, ?_⟩
      simp [b__law_spoiled, Ss.hd, Ss.tl, l0, lvW, eqc, c, e2]
  have cp : cutW C none (some (p : Int)) = pre := by
    rw [cutW_to, ← hC, H.cod, H.at_, List.append_assoc, List.take_left']
    rfl
  have cs : cutW C (some ((p + size u : Nat) : Int)) none = suf := by
    rw [cutW_from, ← hC, H.cod]
    exact List.drop_left' (by rw [List.length_append, code_length, ← H.at_])
  have hpre : pre.length ≤ 2000 := by rw [← H.at_]; omega
  have a1 : P2.v .add (.lst pre) (.lst [.tup [.str "leaf", x]]) = some (.lst (pre ++ [.tup [.str "leaf", x]])) := v_add_lst (by rw [sizeLine_eq]; simp; omega)
  have a2 : P2.v .add (.lst (pre ++ [.tup [.str "leaf", x]])) (.lst suf) = some (.lst (pre ++ [.tup [.str "leaf", x]] ++ suf)) := v_add_lst (by rw [sizeLine_eq]; simp; omega)
  have cu := H.cods (.leaf x)
  have hszl : sizes (re (.leaf x)) ≤ sizes ts := by
    have hcu := congrArg List.length cu
    rw [codes_length, List.length_append, List.length_append, code_length, ← H.at_] at hcu
    have := size_pos u
    simp only [size] at hcu
    omega
  refine ⟨b2, re (.leaf x), [some (.lst C), some (.str out)], ?_, hb2, H.len _, hszl, fun t ht => H.wt (.leaf x) (.leaf x wx) hw t ht, H.bad (.leaf x) h hg hx⟩
  rw [cu, show b__law_spoiled = .cons b__law_spoiled.hd (.cons b__law_spoiled.tl.hd (.cons sWh (.cons b__law_spoiled.tl.tl.tl.hd b__law_spoiled.tl.tl.tl.tl))) from rfl]
  simp only [wSs_cons, s1, s2, s3', s4, SW.andThen_nx]
  have cs' : cutW C (some ((p : Int) + (size u : Int))) none = suf := by rw [show ((p : Int) + (size u : Int)) = ((p + size u : Nat) : Int) by omega]; exact cs
  simp [b__law_spoiled, Ss.tl, cp, cs', a1, a2, code]
end K00

namespace K00
open PySem PyL
theorem isVal_good {d : W} {c h : Nat} (t : Tr false d c h) (hc : c ≤ 1000) (hh : h ≤ 30) : isVal d = true :=
  lp_good 1001 0 _ c rfl (Ws.one t (by omega)) (by omega)
theorem isVal_bad {d : W} (h : Bd false d) : isVal d = false := lp_bad 1001 0 _ d false 1 (by simp) h
theorem isPrg_good {xs : List W} {c h : Nat} (t : Trs (xs.map fun x => (x, true)) c h) (hc : c ≤ 1000) (hh : h ≤ 30) : isPrg (.tup xs) = true := by
  have := t.ws (m := 30) (dep := 1) (by omega)
  rw [List.map_map] at this
  exact lp_good 1001 0 _ c rfl this (by omega)
theorem isPrg_bad {xs : List W} {x : W} (hx : x ∈ xs) (h : Bd true x) : isPrg (.tup xs) = false :=
  lp_bad 1001 0 _ x true 1 (List.mem_map.mpr ⟨x, hx, rfl⟩) h
theorem isPile_bad {xs : List W} {x : W} (hx : x ∈ xs) (h : Bd false x) : isPile (.tup xs) = false := by
  have : xs.all isVal = false := by
    rw [Bool.eq_false_iff]
    intro hh
    have := List.all_eq_true.mp hh x hx
    rw [isVal_bad h] at this
    cases this
  simp [isPile, this]
theorem inn_put_none : inn (.str "put") true = none := by decide +kernel
theorem inn_list_none : inn (.str "list") true = none := by decide +kernel
theorem tr_inn {b : Bool} {d : W} {c h : Nat} (t : Tr b d c h) : inn d b ≠ none := by
  cases t with
  | mk e _ => rw [e]; simp
theorem trs_mem {rows : List (W × Bool)} {c h : Nat} : Trs rows c h → ∀ p ∈ rows, ∃ c' h', Tr p.2 p.1 c' h' ∧ c' ≤ c
  | .nil, p, hp => by simp at hp
  | .cons t r, p, hp => by
    rcases List.mem_cons.mp hp with rfl | hp
    · exact ⟨_, _, t, by omega⟩
    · obtain ⟨c', h', k1, k2⟩ := trs_mem r p hp
      exact ⟨c', h', k1, by omega⟩
theorem inn_quote_none {xs : List W} {b : Bool} (h : told "quote" (.tup xs) = false) (h2 : told "list" (.tup xs) = false) (h3 : putOf (.tup xs) = none) : inn (.tup xs) b = none := by
  cases b <;> simp [inn, isNum, isNm, h, h2, h3]
theorem tup_item {ys : List W} {c h : Nat} (t : Tr true (.tup ys) c h) : (∃ zs c' h', ys = [.str "quote", .tup zs] ∧ Trs (zs.map fun x => (x, true)) c' h' ∧ c' < c) ∨ ∃ v, ys = [.str "put", v] := by
  cases t with
  | @mk _ _ rows c' h' e r =>
    cases q : told "quote" (.tup ys) with
    | true =>
      obtain ⟨zs, e2, _⟩ := told_form q
      cases e2
      rw [inn_quote] at e
      cases e
      exact .inl ⟨zs, c', h', rfl, r, by omega⟩
    | false =>
      have : inn (.tup ys) true = (putOf (.tup ys)).map fun v => [(v, false)] := by simp [inn, isNum, isNm, q]
      rw [this] at e
      cases q2 : putOf (.tup ys) with
      | none => rw [q2] at e; cases e
      | some v =>
        unfold putOf at q2
        split at q2
        · rename_i z w heq
          split at q2
          · rename_i hz
            cases heq
            subst hz
            exact .inr ⟨_, rfl⟩
          · cases q2
        · cases q2
/-- a program is no item, no value -/
theorem prog_no : ∀ (c : Nat) (xs : List W) (h : Nat), Trs (xs.map fun x => (x, true)) c h → ∀ b, Bd b (.tup xs) := fun c => by
  induction c using Nat.strongRecOn with
  | ind c ih =>
    intro xs h t b
    have mem : ∀ x ∈ xs, ∃ c' h', Tr true x c' h' ∧ c' ≤ c := fun x hx => trs_mem t (x, true) (List.mem_map.mpr ⟨x, hx, rfl⟩)
    cases q : told "quote" (.tup xs) with
    | true =>
      obtain ⟨ys, e, _⟩ := told_form q
      cases e
      have hin := inn_quote ys b
      obtain ⟨c', h', k1, k2⟩ := mem (.tup ys) (by simp)
      rcases tup_item k1 with ⟨zs, c2, h2, rfl, k3, k4⟩ | ⟨v, rfl⟩
      · exact .sub hin (List.mem_map.mpr ⟨.tup zs, by simp, rfl⟩) (ih c2 (by omega) zs h2 k3 true)
      · exact .sub hin (List.mem_map.mpr ⟨.str "put", by simp, rfl⟩) (.here inn_put_none)
    | false =>
      refine .here (inn_quote_none q ?_ ?_)
      · rw [Bool.eq_false_iff]
        intro hh
        obtain ⟨ys, e, _⟩ := told_form hh
        cases e
        obtain ⟨c', h', k1, _⟩ := mem (.str "list") (by simp)
        exact tr_inn k1 inn_list_none
      · unfold putOf
        split
        · rename_i z w heq
          split
          · rename_i hz
            cases heq
            subst hz
            obtain ⟨c', h', k1, _⟩ := mem (.str "put") (by simp)
            exact absurd inn_put_none (tr_inn k1)
          · rfl
        · rfl
/-- an item that is no value -/
def isOth : W → Bool
  | .str _ => true
  | .tup (.str k :: _) => decide (k = "put")
  | _ => false
theorem told_put {v : W} {w : Str} (h : w ≠ "put") : told w (.tup [.str "put", v]) = false := by
  cases v <;> simp [told]
  exact fun e => h e.symm
theorem inn_putF (v : W) : inn (.tup [.str "put", v]) false = none := by
  simp [inn, isNum, isNm, told_put (v := v) (w := "quote") (by decide +kernel), told_put (v := v) (w := "list") (by decide +kernel)]
theorem inn_strF (z : Str) : inn (.str z) false = none := by simp [inn, isNum, isNm, told]
/-- which items are values -/
theorem item_val {d : W} {c h : Nat} (t : Tr true d c h) (hc : c ≤ 1000) (hh : h ≤ 30) : isVal d = !isOth d := by
  have t0 := t
  cases t with
  | @mk _ _ rows c' h' e r =>
    have same : inn d false = some rows → isVal d = true := fun e2 => isVal_good (.mk e2 r) hc hh
    cases d with
    | tup ys =>
      rcases tup_item t0 with ⟨zs, c2, h2, rfl, _, _⟩ | ⟨v, rfl⟩
      · rw [inn_quote] at e
        rw [same (by rw [inn_quote]; exact e)]
        have : ("quote" : Str) ≠ "put" := by decide +kernel
        simp [isOth, this]
      · rw [isVal_bad (.here (inn_putF v))]
        simp [isOth]
    | str z =>
      rw [isVal_bad (.here (inn_strF z))]
      simp [isOth]
    | int i =>
      have hn : isNum (.int i) = true := by
        cases q : isNum (.int i) with
        | true => rfl
        | false => simp [inn, q, isNm, told, putOf] at e
      rw [same (by rw [inn_num hn] at e ⊢; exact e)]; rfl
    | bl b => rw [same (by rw [inn_num rfl] at e ⊢; exact e)]; rfl
    | non => simp [inn, isNum, isNm, told, putOf] at e
    | lst xs => simp [inn, isNum, isNm, told, putOf] at e
    | dct a b c => simp [inn, isNum, isNm, told, putOf] at e
    | ins a b c => simp [inn, isNum, isNm, told, putOf] at e
    | fn a b => simp [inn, isNum, isNm, told, putOf] at e
/-- data that the kit's equality reads -/
def Lay (w : W) (k : Nat) : Prop := w.data.canLay0 = true ∧ w.data.depth ≤ k
theorem lay_tup {xs : List W} {k : Nat} (h : ∀ x ∈ xs, Lay x k) : Lay (.tup xs) (k + 1) := by
  have : PyData.canLayAll0 (W.dataL xs) = true ∧ PyData.depthAll (W.dataL xs) ≤ k := by
    induction xs with
    | nil => exact ⟨rfl, Nat.zero_le _⟩
    | cons x xs ih =>
      obtain ⟨a, b⟩ := ih fun y hy => h y (List.mem_cons_of_mem _ hy)
      obtain ⟨c, d⟩ := h x List.mem_cons_self
      rw [W.dataL, PyData.canLayAll0, PyData.depthAll]
      exact ⟨by rw [a, c]; rfl, by omega⟩
  unfold Lay
  rw [W.data, PyData.canLay0, PyData.depth]
  exact ⟨this.1, by omega⟩
theorem lay_str {z : Str} {k : Nat} (h : PyData.strOk z = true) : Lay (.str z) k := by
  unfold Lay
  rw [W.data, PyData.canLay0, PyData.depth]
  exact ⟨h, Nat.zero_le _⟩
theorem Lay.mono {w : W} {k k' : Nat} (h : Lay w k) (hk : k ≤ k') : Lay w k' := ⟨h.1, Nat.le_trans h.2 hk⟩
theorem leaf_lay {b : Bool} {d : W} (h : inn d b = some []) (w : Wf d) : Lay d 2 := by
  cases w with
  | non => cases b <;> simp [inn, isNum, isNm, told, putOf] at h
  | bl b => exact ⟨rfl, Nat.zero_le _⟩
  | int i => exact ⟨rfl, Nat.zero_le _⟩
  | str z h1 h2 => exact lay_str h1
  | lst xs => cases b <;> simp [inn, isNum, isNm, told, putOf] at h
  | dct a c e => cases b <;> simp [inn, isNum, isNm, told, putOf] at h
  | tup xs hl hx =>
    have two : ∀ (k : Str) (ys : List W), PyData.strOk k = true → ys = [] → Lay (.tup [.str k, .tup ys]) 2 := fun k ys hk hy => by
      subst hy
      refine lay_tup (k := 1) fun x hx => ?_
      rcases List.mem_cons.mp hx with rfl | hx
      · exact lay_str hk
      · rw [List.mem_singleton.mp hx]; exact lay_tup (k := 0) (by simp)
    cases q : told "quote" (.tup xs) with
    | true =>
      obtain ⟨ys, e, _⟩ := told_form q
      cases e
      rw [inn_quote] at h
      exact two _ _ okQ (by simpa using h)
    | false =>
      cases b with
      | true =>
        have : inn (.tup xs) true = (putOf (.tup xs)).map fun v => [(v, false)] := by simp [inn, isNum, isNm, q]
        rw [this] at h
        cases q2 : putOf (.tup xs) with
        | none => rw [q2] at h; cases h
        | some v => rw [q2] at h; cases h
      | false =>
        cases q2 : told "list" (.tup xs) with
        | true =>
          obtain ⟨ys, e, _⟩ := told_form q2
          cases e
          rw [inn_list] at h
          exact two _ _ okL (by simpa using h)
        | false => simp [inn, isNum, isNm, q, q2] at h
theorem Gt.lay {b : Bool} {t : Tree} {h : Nat} (g : Gt b t h) : Lay (val t) (2 * h) := by
  have st : ∀ {w : Str} {ts : List Tree} {h : Nat}, PyData.strOk w = true → (∀ t ∈ ts, Lay (val t) (2 * h)) → Lay (.tup [.str w, .tup (vals ts)]) (2 * (h + 1)) := fun {w ts h} h1 hx => by
    refine lay_tup (k := 2 * h + 1) fun x hx' => ?_
    rcases List.mem_cons.mp hx' with rfl | hx'
    · exact lay_str h1
    · rw [List.mem_singleton.mp hx']
      refine lay_tup (k := 2 * h) fun y hy => ?_
      obtain ⟨t, ht, rfl⟩ := vals_mem hy
      exact hx t ht
  induction g with
  | leaf a c => exact (leaf_lay a c).mono (by omega)
  | quote hl _ ih => rw [val_quote]; exact st okQ ih
  | list hl _ ih => rw [val_list]; exact st okL ih
  | @put t h _ ih =>
    rw [val_put]
    refine (lay_tup (k := 2 * h) fun x hx' => ?_).mono (by omega)
    rcases List.mem_cons.mp hx' with rfl | hx'
    · exact lay_str okP
    · rw [List.mem_singleton.mp hx']; exact ih
/-- == [] -/
theorem eq_nil {xs : List W} {k : Nat} (h : ∀ x ∈ xs, Lay x k) (hk : k ≤ 60) : P2.v .eq (.lst xs) (.lst []) = some (.bl xs.isEmpty) := by
  have o : W.ord (.lst xs) (.lst []) = true := by
    obtain ⟨a, b⟩ := lay_tup h
    rw [W.data, PyData.canLay0, PyData.depth] at *
    show (SeqAt.shaped (.list (W.dataL xs)) && SeqAt.shaped (.list [])) = true
    have s1 : SeqAt.shaped (.list (W.dataL xs)) = true := by
      unfold SeqAt.shaped
      rw [PyData.canLay0, PyData.depth, a]
      simp
      omega
    rw [s1]
    rfl
  simp only [P2.v, vEq]
  rw [if_pos o]
  cases xs with
  | nil => rfl
  | cons x xs => rfl
end K00

namespace K00
open PySem PyL
theorem inn_listT (v : W) : inn (.tup [.str "list", v]) true = none := by
  have a : ("list" : Str) ≠ "quote" := by decide +kernel
  have b : ("list" : Str) ≠ "put" := by decide +kernel
  have t : told "quote" (.tup [.str "list", v]) = false := by cases v <;> simp [told, a]
  simp [inn, isNum, isNm, t, putOf, b]
theorem okT : PyData.strOk ("True" : Str) = true := by decide +kernel
theorem okF : PyData.strOk ("False" : Str) = true := by decide +kernel
theorem reprB_ne (a b : Bool) : P2.v .ne (.str (if a then "True" else "False")) (.str (if b then "True" else "False")) = some (.bl (!(a == b))) := by
  have h1 : ("True" : Str) ≠ "False" := by decide +kernel
  have h2 : ("False" : Str) ≠ "True" := by decide +kernel
  cases a <;> cases b <;> simp [v_ne_str okT okT, v_ne_str okT okF, v_ne_str okF okT, v_ne_str okF okF, h1, h2]
theorem cut_ne {xs : List W} (h : xs ≠ []) : cutW xs (some (-4)) none ≠ [] := by
  have : 0 < xs.length := List.length_pos_iff.mpr h
  intro e
  have := congrArg List.length e
  unfold cutW HT.sIx at this
  simp at this
  omega
/-- the items told apart -/
theorem oth_ok {n : Nat} {d : W} {c h : Nat} (t : Tr true d c h) (w : Wf d) (a0 a1 a2 a3 a4 a5 a6 : Option W) : lcT (vE (Ψ n) (.var 6)) (vT (Ψ n) (.or (.tru (.isin (.var 6) [.str])) (.and (.tru (.isin (.var 6) [.tuple])) (.tru (.op2 .eq (.ix (.var 6) (.con (.int 0))) (.con (.str "put"))))))) [6] (.name 6) d [a0, a1, a2, a3, a4, a5, none] = .ok (if isOth d then some d else none) [a0, a1, a2, a3, a4, a5, none] := by
  have eq1 : P2.v .eq (.str "quote") (.str "put") = some (.bl false) := by rw [v_eq_str okQ okP]; simp [ne_qp]
  have eq2 : P2.v .eq (.str "put") (.str "put") = some (.bl true) := by rw [v_eq_str okP okP]; simp
  cases d with
  | tup ys =>
    rcases tup_item t with ⟨zs, c2, h2, rfl, _, _⟩ | ⟨v, rfl⟩
    · simp [lcT, eq1, isOth, ne_qp]
    · simp [lcT, eq2, isOth]
  | str z => simp [lcT, isOth]
  | int i => simp [lcT, isOth]
  | bl b => simp [lcT, isOth]
  | non => cases t with | mk e _ => simp [inn, isNum, isNm, told, putOf] at e
  | lst xs => cases t with | mk e _ => simp [inn, isNum, isNm, told, putOf] at e
  | dct a b c => cases t with | mk e _ => simp [inn, isNum, isNm, told, putOf] at e
  | ins a b c => cases t with | mk e _ => simp [inn, isNum, isNm, told, putOf] at e
  | fn a b => cases t with | mk e _ => simp [inn, isNum, isNm, told, putOf] at e
theorem prg_eq {n : Nat} {d : W} {r : Bool} (h : Wf d) (e : isPrg d = r) : ∃ ps, rn (n + 5) 6 [d] = .ok (.bl r) ps := by subst e; exact is_program_eq h
theorem val_eq {n : Nat} {d : W} {r : Bool} (h : Wf d) (e : isVal d = r) : ∃ ps, rn (n + 5) 7 [d] = .ok (.bl r) ps := by subst e; exact is_value_eq h
theorem pile_eq {n : Nat} {d : W} {r : Bool} (h : Wf d) (e : isPile d = r) : ∃ ps, rn (n + 6) 8 [d] = .ok (.bl r) ps := by subst e; exact is_pile_eq h
theorem wf_str {z : Str} (h1 : PyData.strOk z = true) (h2 : z.length ≤ 1000) : Wf (.str z) := .str z h1 (by rw [sizeLine_eq]; omega)
theorem wf_tup {xs : List W} (hl : xs.length ≤ 2000) (h : ∀ x ∈ xs, Wf x) : Wf (.tup xs) := .tup xs hl h
theorem wf_two {a b : W} (h : Wf a) (h2 : Wf b) : Wf (.tup [a, b]) := .tup _ (by simp) fun x hx => by
  simp only [List.mem_cons, List.not_mem_nil, or_false] at hx
  rcases hx with rfl | rfl <;> assumption
theorem wf_one {a : W} (h : Wf a) : Wf (.tup [a]) := .tup _ (by simp) fun x hx => by
  rw [List.mem_singleton.mp hx]; exact h
theorem wfQ : Wf (.str "quote") := wf_str okQ (by decide +kernel)
theorem wfL : Wf (.str "list") := wf_str okL (by decide +kernel)
theorem wfP : Wf (.str "put") := wf_str okP (by decide +kernel)
theorem wfD : Wf (.str "dup") := wf_str (by decide +kernel) (by decide +kernel)
theorem right1 {n : Nat} {b : W} (hb : Bag b) : ∃ b' ts, vSs (Ψ (n + 7)) (.cons b__law_are_right.hd (.cons b__law_are_right.tl.hd (.cons b__law_are_right.tl.tl.hd .nil))) [some b, none, none, none, none, none, none] = .nx [some b', some (.lst (codes ts)), some (.tup (vals ts)), none, none, none, none] ∧ Bag b' ∧ ts.length ≤ 6 ∧ (∀ t ∈ ts, Gt true t 10) ∧ sizes ts ≤ 372 := by
  obtain ⟨b1, ts, e1, hb1, hl, hg, hs⟩ := drawn_signs_eq (n := n + 1) (turns := 9) (m := 60) (many := 6) hb (by omega) (by omega) (by omega)
  obtain ⟨hbt, hok⟩ := bt_codes (fun t ht => (hg t ht).wt) (s := []) trivial
  rw [List.append_nil] at hbt hok
  rw [show bt [] = [] from rfl, List.append_nil] at hbt
  obtain ⟨p2, e2⟩ := built_eq (n := n + 6) hok (by rw [codes_length]; omega)
  rw [hbt] at e2
  have hwf : Wf (.tup (vals ts)) := wf_tup (by rw [vals_length]; omega) (vals_wf fun t ht => (hg t ht).wf)
  obtain ⟨h', hh, tr⟩ := trs_of (b := true) (h := 10) (ts := ts) fun t ht => (hg t ht).tr
  obtain ⟨p3, e3⟩ := prg_eq (n := n + 2) hwf (isPrg_good tr (by omega) (by omega))
  obtain ⟨p4, e4⟩ := val_eq (n := n + 2) (wf_two wfQ hwf) (isVal_good (.mk (inn_quote _ _) tr) (by omega) (by omega))
  obtain ⟨p5, e5⟩ := prg_eq (n := n + 2) (d := .lst (vals ts)) (r := false) (.lst _) rfl
  refine ⟨b1, ts, ?_, hb1, hl, hg, by omega⟩
  have e1' : rn (n + 7) 17 [b, .int 9, .int 60, .int 6] = .ok (.lst (codes ts)) [some b1, some (.int 9), some (.int 60), some (.int 6)] := e1
  simp [b__law_are_right, Ss.hd, Ss.tl, e1', e2, e3, e4, e5]
theorem pile_items {ts : List Tree} (hl : ts.length ≤ 6) (hg : ∀ t ∈ ts, Gt true t 10) (hs : sizes ts ≤ 372) : isPile (.tup (vals ts)) = ((vals ts).filter isOth).isEmpty := by
  have hv : ∀ d ∈ vals ts, isVal d = !isOth d := fun d hd => by
    obtain ⟨t, ht, rfl⟩ := vals_mem hd
    obtain ⟨h', hh, tr⟩ := (hg t ht).tr
    have : size t ≤ sizes ts := by
      clear hs hl hd tr
      induction ts with
      | nil => cases ht
      | cons u us ih =>
        show size t ≤ size u + sizes us
        rcases List.mem_cons.mp ht with rfl | ht
        · omega
        · have := ih (fun v hv => hg v (List.mem_cons_of_mem _ hv)) ht
          omega
    exact item_val tr (by omega) (by omega)
  have h1 : (vals ts).length ≤ 200 := by rw [vals_length]; omega
  unfold isPile
  simp only [h1, decide_true, Bool.true_and]
  generalize vals ts = xs at hv
  clear h1
  induction xs with
  | nil => rfl
  | cons x xs ih =>
    rw [List.all_cons, List.filter_cons, hv x List.mem_cons_self, ih fun d hd => hv d (List.mem_cons_of_mem _ hd)]
    cases isOth x <;> simp
theorem size_mem {ts : List Tree} {t : Tree} (ht : t ∈ ts) : size t ≤ sizes ts := by
  induction ts with
  | nil => cases ht
  | cons u us ih =>
    show size t ≤ size u + sizes us
    rcases List.mem_cons.mp ht with rfl | ht
    · omega
    · have := ih ht; omega
theorem right2 {n : Nat} {b s1 : W} {ts : List Tree} (hl : ts.length ≤ 6) (hg : ∀ t ∈ ts, Gt true t 10) (hs : sizes ts ≤ 372) : ∃ o, vSs (Ψ (n + 7)) (.cons b__law_are_right.tl.tl.tl.hd (.cons b__law_are_right.tl.tl.tl.tl.hd .nil)) [some b, some s1, some (.tup (vals ts)), none, none, none, none] = .nx [some b, some s1, some (.tup (vals ts)), some o, none, none, none] := by
  have hpi := pile_items hl hg hs
  have hwf : Wf (.tup (vals ts)) := wf_tup (by rw [vals_length]; omega) (vals_wf fun t ht => (hg t ht).wf)
  obtain ⟨h', hh, tr⟩ := trs_of (b := true) (h := 10) (ts := ts) fun t ht => (hg t ht).tr
  obtain ⟨p3, e3⟩ := pile_eq (n := n + 1) hwf hpi
  obtain ⟨p4, e4⟩ := val_eq (n := n + 2) hwf (isVal_bad (prog_no _ _ _ tr false))
  have hlc := lcV_filter (f := lcT (vE (Ψ (n + 7)) (.var 6)) (vT (Ψ (n + 7)) (.or (.tru (.isin (.var 6) [.str])) (.and (.tru (.isin (.var 6) [.tuple])) (.tru (.op2 .eq (.ix (.var 6) (.con (.int 0))) (.con (.str "put"))))))) [6] (.name 6)) isOth id (σ := [some b, some s1, some (.tup (vals ts)), none, none, none, none]) (xs := vals ts) (acc := []) (by rw [sizeLine_eq, vals_length]; simp; omega) (fun x hx => by
    obtain ⟨t, ht, rfl⟩ := vals_mem hx
    obtain ⟨h', _, tr⟩ := (hg t ht).tr
    exact oth_ok tr (hg t ht).wf _ _ _ _ _ _ none)
  rw [List.nil_append, List.map_id] at hlc
  have hlay : ∀ x ∈ (vals ts).filter isOth, Lay x 20 := fun x hx => by
    obtain ⟨t, ht, rfl⟩ := vals_mem (List.mem_filter.mp hx |>.1)
    exact (hg t ht).lay
  have en := eq_nil hlay (by omega)
  generalize (vals ts).filter isOth = os at *
  refine ⟨.lst os, ?_⟩
  generalize os.isEmpty = be at *
  have hf : (vals ts).length < fuel := by rw [vals_length]; unfold fuel; omega
  have rn1 := reprB_ne be be
  simp [b__law_are_right, Ss.hd, Ss.tl, hlc, hf, e3, e4, en, rn1]
theorem right3 {n : Nat} {b o : W} {ts : List Tree} (hb : Bag b) (hl : ts.length ≤ 6) (hg : ∀ t ∈ ts, Gt true t 10) (hs : sizes ts ≤ 372) : ∃ b' w, vS (Ψ (n + 7)) b__law_are_right.tl.tl.tl.tl.tl.hd [some b, some (.lst (codes ts)), some (.tup (vals ts)), some o, none, none, none] = .nx [some b', some (.lst (codes ts)), some (.tup (vals ts)), some o, w, none, none] ∧ Bag b' := by
  by_cases hz : sizes ts = 0
  · refine ⟨b, none, ?_, hb⟩
    have : codes ts = [] := List.length_eq_zero_iff.mp (by rw [codes_length]; omega)
    rw [this]
    simp [b__law_are_right, Ss.hd, Ss.tl]
  · have hpos : (0 : Int) < ((codes ts).length : Int) := by rw [codes_length]; omega
    obtain ⟨b1, ts', ps, e1, hb1, hl', hsz, hw', x, hx, hbd⟩ := spoiled_eq (n := n + 2) (out := "quote") hb (by rw [itB_q]; exact hg) (by omega) (by omega) okQ
    rw [itB_q] at hbd
    obtain ⟨hbt, hok⟩ := bt_codes hw' (s := []) trivial
    rw [List.append_nil] at hbt hok
    rw [show bt [] = [] from rfl, List.append_nil] at hbt
    obtain ⟨p2, e2⟩ := built_eq (n := n + 6) hok (by rw [codes_length]; omega)
    rw [hbt] at e2
    have hwf : Wf (.tup (vals ts')) := wf_tup (by rw [vals_length]; omega) (vals_wf fun t ht => (hw' t ht).wf)
    have qb : ∀ k, Bd k (.tup [.str "quote", .tup (vals ts')]) := fun k => .sub (inn_quote _ _) (List.mem_map.mpr ⟨x, hx, rfl⟩) hbd
    have qf := wf_two wfQ hwf
    have lf := wf_two wfL (wf_one qf)
    have lb : Bd false (.tup [.str "list", .tup [.tup [.str "quote", .tup (vals ts')]]]) := .sub (b' := false) (x := .tup [.str "quote", .tup (vals ts')]) (inn_list _) (by simp) (qb false)
    have pb : Bd true (.tup [.str "put", .tup [.str "list", .tup [.tup [.str "quote", .tup (vals ts')]]]]) := .sub (inn_put _) (by simp) lb
    obtain ⟨p3, e3⟩ := prg_eq (n := n + 2) hwf (isPrg_bad hx hbd)
    obtain ⟨p4, e4⟩ := val_eq (n := n + 2) qf (isVal_bad (qb false))
    obtain ⟨p5, e5⟩ := prg_eq (n := n + 2) (wf_two (.int 3) (wf_two wfP lf)) (isPrg_bad (List.mem_cons_of_mem _ List.mem_cons_self) pb)
    obtain ⟨p6, e6⟩ := pile_eq (n := n + 1) (wf_two (.int 4) qf) (isPile_bad (List.mem_cons_of_mem _ List.mem_cons_self) (qb false))
    refine ⟨b1, some (.tup (vals ts')), ?_, hb1⟩
    have e1' : rn (n + 7) 20 [b, .lst (codes ts), .str "quote"] = .ok (.lst (codes ts')) (some b1 :: ps) := e1
    generalize codes ts = cts at *
    generalize codes ts' = cts' at *
    generalize vals ts' = vts' at *
    have hpos' : 0 < cts.length := by omega
    simp [b__law_are_right, Ss.hd, Ss.tl, hpos', e1', e2, e3, e4, e5, e6]

def rB1 : Ss := .cons b__law_are_right.hd (.cons b__law_are_right.tl.hd (.cons b__law_are_right.tl.tl.hd .nil))
def rT5 : Ss := b__law_are_right.tl.tl.tl.tl.tl
theorem right4 {n : Nat} {b : W} {s1 s2 s3 s4 : Option W} (hb : Bag b) : ∃ b' t t' , vSs (Ψ (n + 7)) (.cons rT5.tl.hd (.cons rT5.tl.tl.hd .nil)) [some b, s1, s2, s3, s4, none, none] = .nx [some b', some (.lst (codes [t])), s2, s3, some (val t'), some (val t), none] ∧ Bag b' ∧ Gt false t 9 ∧ size t ≤ 61 ∧ Wt' t' ∧ Bd false (val t') := by
  obtain ⟨b1, its, vs, e1, hb1, ri, rv⟩ := drawn_eq (n := n + 2) (turns := 8) (m := 60) hb (by omega) (by omega)
  have e1' : rn (n + 7) 16 [b, .int 8, .int 60] = .ok (.tup [.lst (its.map rowOf), .lst (vs.map rowOf)]) [some b1, some (.int 8), some (.int 60)] := e1
  have cl := cut_len (vs.map rowOf) (some (-4)) none
  have hvl := rv.len
  rw [List.length_map] at cl
  have vne : vs.map rowOf ≠ [] := by have := rv.ne; simpa using this
  obtain ⟨y, hy, b2, e2, hb2⟩ := some_lst (n := n + 5) (xs := cutW (vs.map rowOf) (some (-4)) none) hb1 (cut_ne vne) (by omega)
  obtain ⟨t, ht, rfl⟩ := List.mem_map.mp (cut_mem hy)
  obtain ⟨g, hs⟩ := rv.ok t ht
  have hc1 : code t = codes [t] := by simp [codes]
  have e2' : rn (n + 7) 11 [b1, .lst (cutW (vs.map rowOf) (some (-4)) none)] = .ok (.lst (codes [t])) [some b2, some (.lst (cutW (vs.map rowOf) (some (-4)) none))] := by rw [← hc1]; exact e2
  have hone : ∀ u ∈ [t], Gt (itB "list") u 9 := fun u hu => by rw [List.mem_singleton.mp hu, itB_l]; exact g
  have hsz1 : sizes [t] = size t := by simp [sizes]
  obtain ⟨hbt, hok⟩ := bt_codes (ts := [t]) (fun u hu => by rw [List.mem_singleton.mp hu]; exact g.wt) (s := []) trivial
  rw [List.append_nil] at hbt hok
  rw [show bt [] = [] from rfl, List.append_nil] at hbt
  obtain ⟨p3, e3⟩ := built_eq (n := n + 6) hok (by rw [codes_length]; omega)
  rw [hbt] at e3
  have hp := size_pos t
  obtain ⟨b3, ts', ps, e4, hb3, hl', hsz, hw', x, hx, hbd⟩ := spoiled_eq (n := n + 2) (out := "list") hb2 hone (by omega) (by omega) okL
  have e4' : rn (n + 7) 20 [b2, .lst (codes [t]), .str "list"] = .ok (.lst (codes ts')) (some b3 :: ps) := e4
  rw [itB_l] at hbd
  obtain ⟨t', rfl⟩ : ∃ t', ts' = [t'] := by
    match ts', hl' with
    | [t'], _ => exact ⟨t', rfl⟩
  obtain ⟨hbt', hok'⟩ := bt_codes hw' (s := []) trivial
  rw [List.append_nil] at hbt' hok'
  rw [show bt [] = [] from rfl, List.append_nil] at hbt'
  obtain ⟨p5, e5⟩ := built_eq (n := n + 6) hok' (by rw [codes_length]; omega)
  rw [hbt'] at e5
  have hv : vals [t] = [val t] := by simp [vals]
  have hv' : vals [t'] = [val t'] := by simp [vals]
  rw [hv] at e3
  rw [hv'] at e5
  rw [hv', List.mem_singleton] at hx
  subst hx
  refine ⟨b3, t, t', ?_, hb3, g, by omega, hw' t' (by simp), hbd⟩
  generalize codes [t] = c1 at *
  generalize codes [t'] = c2 at *
  simp [rT5, b__law_are_right, Ss.hd, Ss.tl, e1', e2', e3, e4', e5]
theorem right5 {n : Nat} {b : W} {s1 s2 s3 : Option W} {t t' : Tree} (g : Gt false t 9) (hs : size t ≤ 61) (hw : Wt' t') (hbd : Bd false (val t')) : endV 1 (vSs (Ψ (n + 7)) rT5.tl.tl.tl [some b, s1, s2, s3, some (val t'), some (val t), none]) = .ok (.bl true) [some b] := by
  obtain ⟨h', hh, tr⟩ := g.tr
  have wv := g.wf
  have ww := hw.wf
  generalize val t = v at *
  generalize val t' = w at *
  have iv : isVal v = true := isVal_good tr (by omega) (by omega)
  have iw : isVal w = false := isVal_bad hbd
  have tb : isVal (.bl true) = true := by decide +kernel
  obtain ⟨p1, e1⟩ := val_eq (n := n + 2) wv iv
  have w3 : Wf (.tup [v, .bl true, v]) := wf_tup (by simp) fun x hx => by
    simp only [List.mem_cons, List.not_mem_nil, or_false] at hx
    rcases hx with rfl | rfl | rfl
    · exact wv
    · exact .bl _
    · exact wv
  obtain ⟨p2, e2⟩ := pile_eq (n := n + 1) (r := true) w3 (by simp [isPile, iv, tb])
  have pv := wf_two wfP wv
  have tp : Tr true (.tup [.str "put", v]) (size t + 0 + 1) (max h' 0 + 1) := .mk (inn_put v) (.cons tr .nil)
  have tp1 : Trs ([W.tup [.str "put", v]].map fun x => (x, true)) (size t + 0 + 1 + 0) (max (max h' 0 + 1) 0) := .cons tp .nil
  obtain ⟨p3, e3⟩ := prg_eq (n := n + 2) (wf_one pv) (isPrg_good tp1 (by omega) (by omega))
  obtain ⟨p4, e4⟩ := val_eq (n := n + 2) ww iw
  obtain ⟨p5, e5⟩ := pile_eq (n := n + 1) (wf_two wv ww) (isPile_bad (List.mem_cons_of_mem _ List.mem_cons_self) hbd)
  have pw := wf_two wfP ww
  obtain ⟨p6, e6⟩ := prg_eq (n := n + 2) (wf_two pw wfD) (isPrg_bad List.mem_cons_self (.sub (inn_put w) (List.mem_singleton.mpr rfl) hbd))
  obtain ⟨p7, e7⟩ := pile_eq (n := n + 1) (d := .lst [v]) (r := false) (.lst _) rfl
  obtain ⟨p8, e8⟩ := pile_eq (n := n + 1) (wf_one pv) (isPile_bad List.mem_cons_self (.here (inn_putF v)))
  obtain ⟨p9, e9⟩ := prg_eq (n := n + 2) (wf_one (wf_two wfL (wf_one wv))) (isPrg_bad List.mem_cons_self (.here (inn_listT _)))
  simp [rT5, b__law_are_right, Ss.hd, Ss.tl, e1, e2, e3, e4, e5, e6, e7, e8, e9]
theorem two_nx {V : VFns} {a b : S} {r : Ss} {σ σ' : VE} (h : vSs V (.cons a (.cons b .nil)) σ = .nx σ') : vSs V (.cons a (.cons b r)) σ = vSs V r σ' := by
  simp only [wSs_cons, wSs_nil] at h ⊢
  cases h1 : vS V a σ <;> rw [h1] at h <;> simp only [SW.andThen] at h ⊢ <;> try (cases h)
  rename_i σ1
  cases h2 : vS V b σ1 <;> rw [h2] at h <;> simp only [SW.andThen] at h ⊢ <;> cases h
  rfl
theorem one_nx {V : VFns} {a : S} {r : Ss} {σ σ' : VE} (h : vS V a σ = .nx σ') : vSs V (.cons a r) σ = vSs V r σ' := by
  rw [wSs_cons, h]; rfl
theorem three_nx {V : VFns} {a b c : S} {r : Ss} {σ σ' : VE} (h : vSs V (.cons a (.cons b (.cons c .nil))) σ = .nx σ') : vSs V (.cons a (.cons b (.cons c r))) σ = vSs V r σ' := by
  rw [wSs_cons] at h
  cases h1 : vS V a σ <;> rw [h1] at h <;> simp only [SW.andThen] at h <;> try (cases h)
  rw [one_nx h1]
  exact two_nx h
theorem right_eq {n : Nat} {b : W} (hb : Bag b) : ∃ b', rn (n + 8) 21 [b] = .ok (.bl true) [some b'] ∧ Bag b' := by
  rw [v__law_are_right]
  obtain ⟨b1, ts, e1, hb1, hl, hg, hs⟩ := right1 (n := n) hb
  obtain ⟨o, e2⟩ := right2 (n := n) (b := b1) (s1 := .lst (codes ts)) hl hg hs
  obtain ⟨b2, w, e3, hb2⟩ := right3 (n := n) (o := o) hb1 hl hg hs
  obtain ⟨b3, t, t', e4, hb3, g, hsz, hw, hbd⟩ := right4 (n := n) (s1 := some (.lst (codes ts))) (s2 := some (.tup (vals ts))) (s3 := some o) (s4 := w) hb2
  have e5 := right5 (n := n) (b := b3) (s1 := some (.lst (codes [t]))) (s2 := some (.tup (vals ts))) (s3 := some o) g hsz hw hbd
  refine ⟨b3, ?_, hb3⟩
  rw [show b__law_are_right = .cons b__law_are_right.hd (.cons b__law_are_right.tl.hd (.cons b__law_are_right.tl.tl.hd (.cons b__law_are_right.tl.tl.tl.hd (.cons b__law_are_right.tl.tl.tl.tl.hd (.cons b__law_are_right.tl.tl.tl.tl.tl.hd (.cons rT5.tl.hd (.cons rT5.tl.tl.hd rT5.tl.tl.tl))))))) from rfl]
  rw [three_nx e1, two_nx e2, one_nx e3, two_nx e4]
  exact e5
end K00

namespace K00
open PySem PyL
theorem isPrg_cnt {xs : List W} {c h : Nat} (t : Trs (xs.map fun x => (x, true)) c h) (hh : h ≤ 30) : isPrg (.tup xs) = decide (c ≤ 1000) := by
  by_cases hc : c ≤ 1000
  · rw [isPrg_good t hc hh, decide_eq_true hc]
  · have := t.ws (m := 30) (dep := 1) (by omega)
    rw [List.map_map] at this
    rw [decide_eq_false hc]
    exact lp_big 1001 0 _ c 30 rfl this (by omega)
theorem isVal_cnt {d : W} {c h : Nat} (t : Tr false d c h) (hh : h ≤ 30) : isVal d = decide (c ≤ 1000) := by
  by_cases hc : c ≤ 1000
  · rw [isVal_good t hc hh, decide_eq_true hc]
  · rw [decide_eq_false hc]
    exact lp_big 1001 0 _ c 30 rfl (Ws.one (dep := 1) t (by omega)) (by omega)
theorem Trs.app : ∀ {r1 r2 : List (W × Bool)} {c1 h1 c2 h2 : Nat}, Trs r1 c1 h1 → Trs r2 c2 h2 → Trs (r1 ++ r2) (c1 + c2) (max h1 h2)
  | _, _, _, _, c2, h2, .nil, y => by simpa using y
  | _, _, _, _, c2, h2, .cons (c := c) (h := h) (c' := c') (h' := h') t r, y => by
    rw [Nat.add_assoc, show max (max h h') h2 = max h (max h' h2) by omega]
    exact .cons t (Trs.app r y)
structure LeafOk (d : W) : Prop where
  i : inn d true = some []
  v : inn d false = some []
  w : Wf d
theorem LeafOk.t {d : W} (l : LeafOk d) : ∀ b, Tr b d 1 1
  | true => .mk l.i .nil
  | false => .mk l.v .nil
theorem trs_rep {d : W} {b : Bool} (t : Tr b d 1 1) : ∀ n : Nat, ∃ h, h ≤ 1 ∧ Trs ((List.replicate n d).map fun x => (x, b)) n h
  | 0 => ⟨0, by omega, .nil⟩
  | n + 1 => by
    obtain ⟨h, hh, r⟩ := trs_rep t n
    refine ⟨max 1 h, by omega, ?_⟩
    rw [List.replicate_succ, List.map_cons, Nat.add_comm n 1]
    exact .cons t r
theorem rep1 (n : Nat) (d : W) : (List.replicate n [d]).flatten = List.replicate n d := by
  induction n with
  | zero => rfl
  | succ n ih => rw [List.replicate_succ, List.flatten_cons, ih, List.replicate_succ]; rfl
theorem mulR (d : W) {n : Nat} (h : n ≤ 1000) : P2.v .mul (.tup [d]) (.int (n : Int)) = some (.tup (List.replicate n d)) := by
  rw [v_mul_tup ⟨by omega, by omega, by simp⟩, Int.toNat_natCast, rep1]
theorem mulR1 (d : W) {n : Nat} (h1 : 1 ≤ n) (h : n ≤ 1000) : P2.v .mul (.tup [d]) (.int ((n : Int) - 1)) = some (.tup (List.replicate (n - 1) d)) := by
  rw [show ((n : Int) - 1) = ((n - 1 : Nat) : Int) by omega]
  exact mulR d (by omega)
theorem cut1 (xs : List W) : cutW xs (some 1) none = xs.drop 1 := cutW_from xs 1
theorem add_tup {x y : List W} (h : x.length + y.length ≤ 3000) : P2.v .add (.tup x) (.tup y) = some (.tup (x ++ y)) := v_add_tup (by rw [sizeLine_eq]; omega)
theorem wf_rep {d : W} (h : Wf d) (n : Nat) : ∀ x ∈ List.replicate n d, Wf x := fun x hx => by rw [(List.mem_replicate.mp hx).2]; exact h
theorem nm_of {z : Str} (h : isNm (.str z) = true) (h2 : PyData.strOk z = true) (h3 : z.length ≤ 12) : Tr true (.str z) 1 1 ∧ Wf (.str z) := ⟨.mk (by simp [inn, h]) .nil, wf_str h2 (by omega)⟩
theorem dup_ok : Tr true (.str "dup") 1 1 ∧ Wf (.str "dup") := nm_of (z := "dup") (by decide +kernel) (by decide +kernel) (by decide +kernel)
theorem swap_ok : Tr true (.str "swap") 1 1 ∧ Wf (.str "swap") := nm_of (z := "swap") (by decide +kernel) (by decide +kernel) (by decide +kernel)
def sSz : S := b__law_are_sizes_right.tl.hd
theorem turn_sz {n m L : Nat} {f : Bool} {b leaf : W} {s6 s7 : Option W} (hl : LeafOk leaf) (hm : m ≤ 998) (h1 : 1 ≤ L) (hL : L ≤ 1000) (hf : decide (L + m + 1 ≤ 1000) = f) :
    ∃ s6' s7', vSs (Ψ (n + 7)) sSz.body [some b, some (.int m), none, some leaf, some (.int L), some (.bl f), s6, s7] = .nx [some b, some (.int m), none, some leaf, some (.int L), some (.bl f), s6', s7'] := by
  -- the parts
  obtain ⟨hd, hd1, rd⟩ := trs_rep dup_ok.1 m
  obtain ⟨hi, hi1, ri⟩ := trs_rep (hl.t true) L
  obtain ⟨hi', hi1', ri'⟩ := trs_rep (hl.t true) (L - 1)
  obtain ⟨hv', hv1', rv'⟩ := trs_rep (hl.t false) (L - 1)
  obtain ⟨hm', hm1', rm'⟩ := trs_rep (hl.t false) m
  obtain ⟨hw, hw1, rw'⟩ := trs_rep swap_ok.1 (L - 1)
  obtain ⟨h3, h31, r3⟩ := trs_rep (d := .int 3) (b := false) (.mk (by simp [inn, isNum]) .nil) (L - 1)
  have wdup : Wf (.tup (List.replicate m (.str "dup"))) := wf_tup (by simp; omega) (wf_rep dup_ok.2 m)
  have wq := wf_two wfQ wdup
  have tq : ∀ b, Tr b (.tup [.str "quote", .tup (List.replicate m (.str "dup"))]) (m + 1) (hd + 1) := fun b => .mk (inn_quote _ _) rd
  generalize hQ : W.tup [.str "quote", .tup (List.replicate m (.str "dup"))] = Q at *
  have wml : Wf (.tup (List.replicate m leaf)) := wf_tup (by simp; omega) (wf_rep hl.w m)
  have wl := wf_two wfL wml
  have tl : Tr false (.tup [.str "list", .tup (List.replicate m leaf)]) (m + 1) (hm' + 1) := .mk (inn_list _) rm'
  generalize hLL : W.tup [.str "list", .tup (List.replicate m leaf)] = LL at *
  have tp : Tr true (.tup [.str "put", LL]) (m + 1 + 0 + 1) (max (hm' + 1) 0 + 1) := .mk (inn_put _) (.cons (c := m + 1) (c' := 0) (h := hm' + 1) (h' := 0) tl .nil)
  have d1 : (List.replicate L leaf ++ [Q]).drop 1 = List.replicate (L - 1) leaf ++ [Q] := by
    rw [List.drop_append_of_le_length (by simp; omega), List.drop_replicate]
  have wprog : Wf (.tup (List.replicate L leaf ++ [Q])) := wf_tup (by simp; omega) fun x hx => by
    rcases List.mem_append.mp hx with hx | hx
    · exact wf_rep hl.w L x hx
    · rw [List.mem_singleton.mp hx]; exact wq
  have wrest : Wf (.tup (List.replicate (L - 1) leaf ++ [Q])) := wf_tup (by simp; omega) fun x hx => by
    rcases List.mem_append.mp hx with hx | hx
    · exact wf_rep hl.w (L - 1) x hx
    · rw [List.mem_singleton.mp hx]; exact wq
  have c1 : isPrg (.tup (List.replicate L leaf ++ [Q])) = f := by
    have := ri.app (.cons (tq true) .nil)
    rw [← List.map_singleton (f := fun x => (x, true)), ← List.map_append] at this
    rw [isPrg_cnt this (by omega), ← hf]; congr 1
  have c2 : isVal (.tup [.str "quote", .tup (List.replicate (L - 1) leaf ++ [Q])]) = f := by
    have := ri'.app (.cons (tq true) .nil)
    rw [← List.map_singleton (f := fun x => (x, true)), ← List.map_append] at this
    rw [isVal_cnt (.mk (inn_quote _ _) this) (by omega), ← hf]; congr 1; exact propext (by omega)
  have c3 : isVal (.tup [.str "list", .tup (List.replicate (L - 1) leaf ++ [Q])]) = f := by
    have := rv'.app (.cons (tq false) .nil)
    rw [← List.map_singleton (f := fun x => (x, false)), ← List.map_append] at this
    rw [isVal_cnt (.mk (inn_list _) this) (by omega), ← hf]; congr 1; exact propext (by omega)
  have c4 : isPrg (.tup (.tup [.str "put", LL] :: List.replicate (L - 1) (.str "swap"))) = f := by
    have := Trs.cons tp rw'
    rw [isPrg_cnt (xs := .tup [.str "put", LL] :: List.replicate (L - 1) (.str "swap")) this (by omega), ← hf]; congr 1; exact propext (by omega)
  have c5 : isVal (.tup [.str "list", .tup (LL :: List.replicate (L - 1) (.int 3))]) = f := by
    have := Trs.cons tl r3
    rw [isVal_cnt (.mk (inn_list (LL :: List.replicate (L - 1) (.int 3))) this) (by omega), ← hf]; congr 1; exact propext (by omega)
  obtain ⟨p1, e1⟩ := prg_eq (n := n + 2) wprog c1
  obtain ⟨p2, e2⟩ := val_eq (n := n + 2) (wf_two wfQ wrest) c2
  obtain ⟨p3, e3⟩ := val_eq (n := n + 2) (wf_two wfL wrest) c3
  obtain ⟨p4, e4⟩ := prg_eq (n := n + 2) (wf_tup (by simp; omega) fun x hx => by
    rcases List.mem_cons.mp hx with rfl | hx
    · exact wf_two wfP wl
    · exact wf_rep swap_ok.2 _ x hx) c4
  obtain ⟨p5, e5⟩ := val_eq (n := n + 2) (wf_two wfL (wf_tup (by simp; omega) fun x hx => by
    rcases List.mem_cons.mp hx with rfl | hx
    · exact wl
    · exact wf_rep (.int 3) _ x hx)) c5
  have m1 := mulR leaf hL
  have m2 := mulR (.str "dup") (n := m) (by omega)
  have m3 := mulR leaf (n := m) (by omega)
  have m4 := mulR1 (.str "swap") h1 hL
  have m5 := mulR1 (.int 3) h1 hL
  have a1 : P2.v .add (.tup (List.replicate L leaf)) (.tup [Q]) = some (.tup (List.replicate L leaf ++ [Q])) := add_tup (by simp; omega)
  have a2 : P2.v .add (.tup [.tup [.str "put", LL]]) (.tup (List.replicate (L - 1) (.str "swap"))) = some (.tup (.tup [.str "put", LL] :: List.replicate (L - 1) (.str "swap"))) := add_tup (by simp; omega)
  have a3 : P2.v .add (.tup [LL]) (.tup (List.replicate (L - 1) (.int 3))) = some (.tup (LL :: List.replicate (L - 1) (.int 3))) := add_tup (by simp; omega)
  have k1 := cut1 (List.replicate L leaf ++ [Q])
  rw [d1] at k1
  have rn1 := reprB_ne f f
  rw [beq_self_eq_true, Bool.not_true] at rn1
  clear hf c1 c2 c3 c4 c5 d1
  generalize List.replicate L leaf ++ [Q] = A1 at *
  generalize List.replicate (L - 1) leaf ++ [Q] = A2 at *
  generalize List.replicate L leaf = A3 at *
  generalize List.replicate m leaf = A4 at *
  generalize List.replicate (L - 1) (W.str "swap") = A5 at *
  generalize List.replicate (L - 1) (W.int 3) = A6 at *
  generalize List.replicate m (W.str "dup") = A7 at *
  subst hQ
  subst hLL
  refine ⟨some (.tup A1), some (.str (if f then "True" else "False")), ?_⟩
  simp [sSz, b__law_are_sizes_right, Ss.hd, Ss.tl, S.body, m1, m2, a1, e1, k1, e2, e3, m3, m4, m5, a2, a3, e4, e5, rn1]

theorem leaf3 : ∀ x ∈ ([.int 4, .bl true, .tup [.str "quote", .tup []]] : List W), LeafOk x := fun x hx => by
  simp only [List.mem_cons, List.not_mem_nil, or_false] at hx
  rcases hx with rfl | rfl | rfl
  · exact ⟨by simp [inn, isNum], by simp [inn, isNum], .int 4⟩
  · exact ⟨by simp [inn, isNum], by simp [inn, isNum], .bl true⟩
  · exact ⟨inn_quote [] true, inn_quote [] false, wf_two wfQ (wf_tup (by simp) (by simp))⟩
theorem all_rep {p : W → Bool} {d : W} (h : p d = true) (n : Nat) : (List.replicate n d).all p = true := List.all_eq_true.mpr fun x hx => by rw [(List.mem_replicate.mp hx).2]; exact h
theorem pile_sz {n k : Nat} {b leaf : W} {s4 s5 s6 s7 : Option W} (hl : LeafOk leaf) (h1 : k ≤ 200) : endV 1 (vSs (Ψ (n + 7)) (.cons (.as (.name 2) (.op2 .add (.op2 .mul (.tup (.cons (.var 3) .nil)) (.var 1)) (.op2 .mul (.tup (.cons (.tup (.cons (.con (.str "list")) (.cons (.op2 .mul (.tup (.cons (.var 3) .nil)) (.con (.int 300))) .nil))) .nil)) (.op2 .sub (.con (.int 200)) (.var 1))))) b__law_are_sizes_right.tl.tl.tl.tl) [some b, some (.int (k : Int)), none, some leaf, s4, s5, s6, s7]) = .ok (.bl true) [some b] := by
  have wml : Wf (.tup (List.replicate 300 leaf)) := wf_tup (by simp) (wf_rep hl.w 300)
  have wl := wf_two wfL wml
  obtain ⟨hm', hm1', rm'⟩ := trs_rep (hl.t false) 300
  have il : isVal (.tup [.str "list", .tup (List.replicate 300 leaf)]) = true := isVal_good (.mk (inn_list _) rm') (by omega) (by omega)
  have if' : isVal leaf = true := isVal_good (hl.t false) (by omega) (by omega)
  have m0 : P2.v .mul (.tup [leaf]) (.int 300) = some (.tup (List.replicate 300 leaf)) := mulR leaf (n := 300) (by omega)
  generalize hLL : W.tup [.str "list", .tup (List.replicate 300 leaf)] = LL at *
  have wp : ∀ x ∈ List.replicate k leaf ++ List.replicate (200 - k) LL, Wf x := fun x hx => by
    rcases List.mem_append.mp hx with hx | hx
    · exact wf_rep hl.w _ x hx
    · exact wf_rep wl _ x hx
  have ln : (List.replicate k leaf ++ List.replicate (200 - k) LL).length = 200 := by simp; omega
  have va : (List.replicate k leaf ++ List.replicate (200 - k) LL).all isVal = true := by rw [List.all_append, all_rep if', all_rep il]; rfl
  have m1 := mulR leaf (n := k) (by omega)
  have m2 := mulR LL (n := 200 - k) (by omega)
  rw [show ((200 - k : Nat) : Int) = 200 - (k : Int) by omega] at m2
  have a1 : P2.v .add (.tup (List.replicate k leaf)) (.tup (List.replicate (200 - k) LL)) = some (.tup (List.replicate k leaf ++ List.replicate (200 - k) LL)) := add_tup (by simp; omega)
  generalize List.replicate k leaf ++ List.replicate (200 - k) LL = A1 at *
  generalize List.replicate k leaf = A2 at *
  generalize List.replicate (200 - k) LL = A3 at *
  generalize List.replicate 300 leaf = A4 at *
  have a2 : P2.v .add (.tup A1) (.tup [.int 1]) = some (.tup (A1 ++ [.int 1])) := add_tup (by simp; omega)
  obtain ⟨p1, e1⟩ := pile_eq (n := n + 1) (r := true) (wf_tup (by omega) wp) (by simp [isPile, ln, va])
  obtain ⟨p2, e2⟩ := pile_eq (n := n + 1) (d := .tup (A1 ++ [.int 1])) (r := false) (wf_tup (by simp; omega) fun x hx => by
    rcases List.mem_append.mp hx with hx | hx
    · exact wp x hx
    · rw [List.mem_singleton.mp hx]; exact .int 1) (by simp [isPile, ln])
  have wn : Wf (.tup []) := wf_tup (by simp) (by simp)
  obtain ⟨p3, e3⟩ := pile_eq (n := n + 1) (r := true) wn rfl
  obtain ⟨p4, e4⟩ := prg_eq (n := n + 2) (r := true) wn rfl
  subst hLL
  simp [b__law_are_sizes_right, Ss.tl, m0, m1, m2, a1, a2, e1, e2, e3, e4]
theorem sizes_right_eq {n : Nat} {b : W} (hb : Bag b) : ∃ b', rn (n + 8) 22 [b] = .ok (.bl true) [some b'] ∧ Bag b' := by
  rw [v__law_are_sizes_right]
  obtain ⟨m, b1, e1, hm, hb1⟩ := pick_eq (n := n + 6) (w := 998) hb (by decide) (by decide)
  obtain ⟨leaf, hx, b2, e2, hb2⟩ := some_lst (n := n + 5) (xs := [.int 4, .bl true, .tup [.str "quote", .tup []]]) hb1 (by simp) (by simp)
  have hl := leaf3 leaf hx
  have s1 : vS (Ψ (n + 7)) b__law_are_sizes_right.hd [some b, none, none, none, none, none, none, none] = .nx [some b2, some (.int m), none, some leaf, none, none, none, none] := by
    simp [b__law_are_sizes_right, Ss.hd, e1, e2]
  obtain ⟨r, b3, e3, hr, hb3⟩ := pick_eq (n := n + 6) (w := 51) hb2 (by decide) (by decide)
  obtain ⟨σ', e, s4, s5, s6, s7, hσ⟩ := forV_nx (tg := .tup [4, 5]) (b := vSs (Ψ (n + 7)) sSz.body) (xs := [.tup [.int (999 - (m : Int)), .bl true], .tup [.int (1000 - (m : Int)), .bl false]]) (σ := [some b2, some (.int m), none, some leaf, none, none, none, none])
    (fun pre σ => ∃ s4 s5 s6 s7, σ = [some b2, some (.int m), none, some leaf, s4, s5, s6, s7]) ⟨none, none, none, none, rfl⟩
    (fun pre x suf σ e ⟨s4, s5, s6, s7, hσ⟩ => by
      subst hσ
      have hxm : x ∈ ([.tup [.int (999 - (m : Int)), .bl true], .tup [.int (1000 - (m : Int)), .bl false]] : List W) := by rw [e]; simp
      obtain ⟨L, f, rfl, hL1, hL2, hf⟩ : ∃ (L : Nat) (f : Bool), x = .tup [.int (L : Int), .bl f] ∧ 1 ≤ L ∧ L ≤ 1000 ∧ decide (L + m + 1 ≤ 1000) = f := by
        simp only [List.mem_cons, List.not_mem_nil, or_false] at hxm
        rcases hxm with h | h
        · exact ⟨999 - m, true, by rw [h, show (999 - (m : Int)) = ((999 - m : Nat) : Int) by omega], by omega, by omega, decide_eq_true (by omega)⟩
        · exact ⟨1000 - m, false, by rw [h, show (1000 - (m : Int)) = ((1000 - m : Nat) : Int) by omega], by omega, by omega, decide_eq_false (by omega)⟩
      obtain ⟨s6', s7', e4⟩ := turn_sz (n := n) (b := b2) (s6 := s6) (s7 := s7) hl (by omega) hL1 hL2 hf
      exact ⟨_, _, rfl, .inl e4, _, _, _, _, rfl⟩)
  subst hσ
  have s2 : vS (Ψ (n + 7)) sSz [some b2, some (.int m), none, some leaf, none, none, none, none] = .nx [some b2, some (.int m), none, some leaf, s4, s5, s6, s7] := by
    rw [show sSz = .fo (.tup [4, 5]) (.lis (.lst (.cons (.tup (.cons (.op2 .sub (.con (.int 999)) (.var 1)) (.cons (.con (.bl true)) .nil))) (.cons (.tup (.cons (.op2 .sub (.con (.int 1000)) (.var 1)) (.cons (.con (.bl false)) .nil))) .nil)))) sSz.body from rfl]
    have : (2 : Nat) < fuel := by unfold fuel; omega
    simp [this, e]
  have s3 : vS (Ψ (n + 7)) b__law_are_sizes_right.tl.tl.hd [some b2, some (.int m), none, some leaf, s4, s5, s6, s7] = .nx [some b3, some (.int ((150 + r : Nat) : Int)), none, some leaf, s4, s5, s6, s7] := by
    simp [b__law_are_sizes_right, Ss.hd, Ss.tl, e3]
  refine ⟨b3, ?_, hb3⟩
  rw [show b__law_are_sizes_right = .cons b__law_are_sizes_right.hd (.cons sSz (.cons b__law_are_sizes_right.tl.tl.hd b__law_are_sizes_right.tl.tl.tl)) from rfl, one_nx s1, one_nx s2, one_nx s3]
  exact pile_sz hl (by omega)
end K00

namespace K00
open PySem PyL
theorem trs_max : ∀ {rows : List (W × Bool)} {c h : Nat}, Trs rows c h → h = 0 ∨ ∃ p ∈ rows, ∃ c', Tr p.2 p.1 c' h
  | _, _, _, .nil => .inl rfl
  | _, _, _, .cons (d := d) (b := b) (rows := rows) (c := c) (h := h) (c' := c') (h' := h') t r => by
    by_cases q : h' ≤ h
    · rw [show max h h' = h by omega]
      exact .inr ⟨(d, b), List.mem_cons_self, c, t⟩
    · rw [show max h h' = h' by omega]
      rcases trs_max r with e | ⟨p, hp, c2, t2⟩
      · omega
      · exact .inr ⟨p, List.mem_cons_of_mem _ hp, c2, t2⟩
theorem lp_deep : ∀ (k many : Nat) (w : List Wt) (d : W) (b : Bool) (dep c h : Nat), (d, b, dep) ∈ w → Tr b d c h → 31 < dep + h → lp k many w = false
  | 0, many, w, d, b, dep, c, h, hm, ht, hd => by simp [lp]
  | k + 1, many, w, d, b, dep, c, h, hm, ht, hd => by
    cases hl : w.getLast? with
    | none => 
      have : w = [] := by simpa using hl
      subst this
      simp at hm
    | some p =>
      obtain ⟨d', b', dep'⟩ := p
      have hs := last_split hl
      simp only [lp, hl]
      cases hin : inn d' b' with
      | none => rfl
      | some rows =>
        simp only
        rw [hs] at hm
        split
        · rfl
        · rename_i hcond
          rcases List.mem_append.mp hm with hm | hm
          · exact lp_deep k _ _ d b dep c h (List.mem_append_left _ hm) ht hd
          · cases List.mem_singleton.mp hm
            cases ht with
            | @mk _ _ rows' c1 h1 e r =>
              rw [hin] at e
              cases e
              rcases trs_max r with e | ⟨p, hp, c2, t2⟩
              · subst e; omega
              · exact lp_deep k _ _ p.1 p.2 (dep + 1) c2 h1 (List.mem_append_right _ (List.mem_map.mpr ⟨p, hp, rfl⟩)) t2 (by omega)
theorem isVal_deep {d : W} {c h : Nat} (t : Tr false d c h) (hh : 30 < h) : isVal d = false := lp_deep 1001 0 _ d false 1 c h (by simp) t (by omega)
theorem isPrg_deep {xs : List W} {x : W} {c h : Nat} (hx : x ∈ xs) (t : Tr true x c h) (hh : 30 < h) : isPrg (.tup xs) = false :=
  lp_deep 1001 0 _ x true 1 c h (List.mem_map.mpr ⟨x, hx, rfl⟩) t (by omega)
/-- what the value may look like -/
inductive Fm' : W → Prop
  | int (i : Int) : Fm' (.int i)
  | bl (b : Bool) : Fm' (.bl b)
  | quote (xs : List W) : Fm' (.tup [.str "quote", .tup xs])
  | list (xs : List W) : Fm' (.tup [.str "list", .tup xs])
def isLst' : W → Bool
  | .tup (.str z :: _) => decide (z = "list")
  | _ => false
structure Dp (v : W) (deep : Nat) : Prop where
  w : Wf v
  f : Fm' v
  t : ∃ c, c ≤ 3 * deep ∧ Tr false v c deep
  i : isLst' v = false → ∃ c, c ≤ 3 * deep ∧ Tr true v c deep
theorem Dp.put {v : W} {deep : Nat} (d : Dp v deep) : Dp (.tup [.str "quote", .tup [.str "dup", .tup [.str "put", v]]]) (deep + 2) := by
  obtain ⟨c, hc, t⟩ := d.t
  have tp : Tr true (.tup [.str "put", v]) (c + 0 + 1) (max deep 0 + 1) := .mk (inn_put v) (.cons t .nil)
  have tt : ∀ b, Tr b (.tup [.str "quote", .tup [.str "dup", .tup [.str "put", v]]]) (c + 3) (deep + 2) := fun b => by
    have := Tr.mk (inn_quote [.str "dup", .tup [.str "put", v]] b) (.cons dup_ok.1 (.cons tp .nil))
    rw [show c + 3 = 1 + (c + 0 + 1 + 0) + 1 by omega, show deep + 2 = max 1 (max (max deep 0 + 1) 0) + 1 by omega]
    exact this
  exact ⟨wf_two wfQ (wf_two dup_ok.2 (wf_two wfP d.w)), .quote _, ⟨_, by omega, tt false⟩, fun _ => ⟨_, by omega, tt true⟩⟩
theorem Dp.quote {v : W} {deep : Nat} (d : Dp v deep) (h : isLst' v = false) (h1 : 1 ≤ deep) : Dp (.tup [.str "quote", .tup [v, .int 5]]) (deep + 1) := by
  obtain ⟨c, hc, t⟩ := d.i h
  have t5 : Tr true (.int 5) 1 1 := .mk (by simp [inn, isNum]) .nil
  have tt : ∀ b, Tr b (.tup [.str "quote", .tup [v, .int 5]]) (c + 2) (deep + 1) := fun b => by
    have := Tr.mk (inn_quote [v, .int 5] b) (.cons t (.cons t5 .nil))
    rw [show c + 2 = c + (1 + 0) + 1 by omega, show deep + 1 = max deep (max 1 0) + 1 by omega]
    exact this
  exact ⟨wf_two wfQ (wf_two d.w (.int 5)), .quote _, ⟨_, by omega, tt false⟩, fun _ => ⟨_, by omega, tt true⟩⟩
theorem list_t {a v : W} {c1 c deep : Nat} (t : Tr false v c deep) (t5 : Tr false a 1 1) (h1 : 1 ≤ deep) : Tr false (.tup [.str "list", .tup [a, v]]) (c + 2) (deep + 1) ∧ Tr false (.tup [.str "list", .tup [v, a]]) (c + 2) (deep + 1) := by
  constructor
  · have := Tr.mk (inn_list [a, v]) (.cons t5 (.cons t .nil))
    rw [show c + 2 = 1 + (c + 0) + 1 by omega, show deep + 1 = max 1 (max deep 0) + 1 by omega]
    exact this
  · have := Tr.mk (inn_list [v, a]) (.cons t (.cons t5 .nil))
    rw [show c + 2 = c + (1 + 0) + 1 by omega, show deep + 1 = max deep (max 1 0) + 1 by omega]
    exact this
theorem ttrue : Tr false (.bl true) 1 1 := .mk (by simp [inn, isNum]) .nil
theorem tone : Tr false (.int 1) 1 1 := .mk (by simp [inn, isNum]) .nil
theorem Dp.list {v : W} {deep : Nat} (d : Dp v deep) (h1 : 1 ≤ deep) : Dp (.tup [.str "list", .tup [.bl true, v]]) (deep + 1) := by
  obtain ⟨c, hc, t⟩ := d.t
  exact ⟨wf_two wfL (wf_two (.bl true) d.w), .list _, ⟨_, by omega, (list_t (c1 := 0) t ttrue h1).1⟩, fun h => by simp [isLst'] at h⟩
theorem leaf4 : ∀ x ∈ ([.int 3, .bl false, .tup [.str "quote", .tup []], .tup [.str "list", .tup []]] : List W), Dp x 1 := fun x hx => by
  simp only [List.mem_cons, List.not_mem_nil, or_false] at hx
  rcases hx with rfl | rfl | rfl | rfl
  · exact ⟨.int 3, .int 3, ⟨1, by omega, .mk (by simp [inn, isNum]) .nil⟩, fun _ => ⟨1, by omega, .mk (by simp [inn, isNum]) .nil⟩⟩
  · exact ⟨.bl _, .bl _, ⟨1, by omega, .mk (by simp [inn, isNum]) .nil⟩, fun _ => ⟨1, by omega, .mk (by simp [inn, isNum]) .nil⟩⟩
  · exact ⟨wf_two wfQ (wf_tup (by simp) (by simp)), .quote _, ⟨1, by omega, .mk (inn_quote [] false) .nil⟩, fun _ => ⟨1, by omega, .mk (inn_quote [] true) .nil⟩⟩
  · exact ⟨wf_two wfL (wf_tup (by simp) (by simp)), .list _, ⟨1, by omega, .mk (inn_list []) .nil⟩, fun h => by simp [isLst'] at h⟩
def sDp : S := b__law_are_depths_right.tl.hd
theorem sz_add {i : Nat} {k : Nat} : ((i : Int) + (k : Int)) = ((i + k : Nat) : Int) := by omega
theorem turn_dp {n : Nat} {b v : W} {deep : Nat} {s1 s5 : Option W} (hb : Bag b) (hd : Dp v deep) (h1 : 1 ≤ deep) (h2 : deep ≤ 29) :
    ∃ b' v' deep' s5', vSs (Ψ (n + 7)) sDp.body [some b, s1, none, some v, some (.int deep), s5] = .nx [some b', s1, none, some v', some (.int (deep' : Nat)), s5'] ∧ Bag b' ∧ Dp v' deep' ∧ deep' ≤ 29 ∧ (deep + 1 ≤ deep' ∨ deep' = 29) := by
  obtain ⟨wr, hx, b2, e2, hb2⟩ := some_lst (n := n + 5) (xs := [.str "list", .str "quote", .str "put"]) hb (by simp) (by simp)
  have qp : P2.v .eq (.str "quote") (.str "put") = some (.bl false) := by rw [v_eq_str okQ okP]; simp [ne_qp]
  have lp' : P2.v .eq (.str "list") (.str "put") = some (.bl false) := by rw [v_eq_str okL okP]; simp [ne_lp]
  have pp : P2.v .eq (.str "put") (.str "put") = some (.bl true) := by rw [v_eq_str okP okP]; simp
  have lq : P2.v .eq (.str "list") (.str "quote") = some (.bl false) := by rw [v_eq_str okL okQ]; simp [Ne.symm ne_ql]
  have qq : P2.v .eq (.str "quote") (.str "quote") = some (.bl true) := by rw [v_eq_str okQ okQ]; simp
  have pq : P2.v .eq (.str "put") (.str "quote") = some (.bl false) := by rw [v_eq_str okP okQ]; simp [Ne.symm ne_qp]
  have e2' : rn (n + 7) 11 [b, .lst [.str "list", .str "quote", .str "put"]] = .ok wr [some b2, some (.lst [.str "list", .str "quote", .str "put"])] := e2
  simp only [List.mem_cons, List.not_mem_nil, or_false] at hx
  by_cases c9 : deep = 29
  · refine ⟨b2, v, deep, some wr, ?_, hb2, hd, h2, .inr c9⟩
    subst c9
    have hf := hd.f
    rcases hx with rfl | rfl | rfl
    · simp [sDp, b__law_are_depths_right, Ss.hd, Ss.tl, S.body, e2', lp', lq]
    · cases hf <;> simp [sDp, b__law_are_depths_right, Ss.hd, Ss.tl, S.body, e2', qp, qq, lq]
    · simp [sDp, b__law_are_depths_right, Ss.hd, Ss.tl, S.body, e2', pp, pq]
  · have c29 : (deep : Int) < 29 := by omega
    have lst : ∀ s5', vSs (Ψ (n + 7)) sDp.body [some b, s1, none, some v, some (.int deep), s5] = .nx [some b2, s1, none, some (.tup [.str "list", .tup [.bl true, v]]), some (.int ((deep : Int) + 1)), s5'] → ∃ b' v' deep' s5', vSs (Ψ (n + 7)) sDp.body [some b, s1, none, some v, some (.int deep), s5] = .nx [some b', s1, none, some v', some (.int (deep' : Nat)), s5'] ∧ Bag b' ∧ Dp v' deep' ∧ deep' ≤ 29 ∧ (deep + 1 ≤ deep' ∨ deep' = 29) := fun s5' e => ⟨b2, _, deep + 1, s5', e, hb2, hd.list h1, by omega, .inl (by omega)⟩
    rcases hx with rfl | rfl | rfl
    · exact lst (some (.str "list")) (by simp [sDp, b__law_are_depths_right, Ss.hd, Ss.tl, S.body, e2', lp', lq, c29])
    · by_cases cl : isLst' v = true
      · refine lst (some (.str "quote")) ?_
        have hf := hd.f
        cases hf with
        | int i => simp [isLst'] at cl
        | bl b => simp [isLst'] at cl
        | quote xs => simp [isLst', ne_ql] at cl
        | list xs => simp [sDp, b__law_are_depths_right, Ss.hd, Ss.tl, S.body, e2', qp, qq, lq, c29]
      · have cl : isLst' v = false := by simpa using cl
        refine ⟨b2, _, deep + 1, some (.str "quote"), ?_, hb2, hd.quote cl h1, by omega, .inl (by omega)⟩
        have hf := hd.f
        cases hf with
        | int i => simp [sDp, b__law_are_depths_right, Ss.hd, Ss.tl, S.body, e2', qp, qq, c29]
        | bl b => simp [sDp, b__law_are_depths_right, Ss.hd, Ss.tl, S.body, e2', qp, qq, c29]
        | quote xs => simp [sDp, b__law_are_depths_right, Ss.hd, Ss.tl, S.body, e2', qp, qq, c29]
        | list xs => simp [isLst'] at cl
    · by_cases c28 : deep = 28
      · subst c28
        exact lst (some (.str "put")) (by simp [sDp, b__law_are_depths_right, Ss.hd, Ss.tl, S.body, e2', pp, pq])
      · have c28' : (deep : Int) < 28 := by omega
        exact ⟨b2, _, deep + 2, some (.str "put"), by simp [sDp, b__law_are_depths_right, Ss.hd, Ss.tl, S.body, e2', pp, pq, c28'], hb2, hd.put, by omega, .inl (by omega)⟩
theorem end_dp {n : Nat} {b v : W} {s1 s5 : Option W} (hd : Dp v 29) : endV 1 (vSs (Ψ (n + 7)) b__law_are_depths_right.tl.tl [some b, s1, none, some v, some (.int 29), s5]) = .ok (.bl true) [some b] := by
  obtain ⟨c, hc, t⟩ := hd.t
  have wv := hd.w
  have tp : Tr true (.tup [.str "put", v]) (c + 1) 30 := .mk (inn_put v) (.cons (c := c) (c' := 0) (h := 29) (h' := 0) t .nil)
  have tl : Tr false (.tup [.str "list", .tup [v]]) (c + 1) 30 := .mk (inn_list [v]) (.cons (c := c) (c' := 0) (h := 29) (h' := 0) t .nil)
  have td := (list_t (c1 := 0) t tone (by omega)).2
  have wd := wf_two wfL (wf_two wv (.int 1))
  obtain ⟨p1, e1⟩ := prg_eq (n := n + 2) (d := .tup [.tup [.str "put", v]]) (r := true) (wf_one (wf_two wfP wv)) (isPrg_good (c := c + 1) (h := 30) (.cons (c := c + 1) (c' := 0) (h := 30) (h' := 0) tp .nil) (by omega) (by omega))
  obtain ⟨p2, e2⟩ := val_eq (n := n + 2) (wf_two wfL (wf_one wv)) (isVal_good tl (by omega) (by omega))
  generalize hD : W.tup [.str "list", .tup [v, .int 1]] = D at *
  have tpd : Tr true (.tup [.str "put", D]) (c + 2 + 1) 31 := .mk (inn_put D) (.cons (c := c + 2) (c' := 0) (h := 30) (h' := 0) td .nil)
  have tld : Tr false (.tup [.str "list", .tup [D]]) (c + 2 + 1) 31 := .mk (inn_list [D]) (.cons (c := c + 2) (c' := 0) (h := 30) (h' := 0) td .nil)
  have vD : isVal D = true := isVal_good td (by omega) (by omega)
  have vLD : isVal (.tup [.str "list", .tup [D]]) = false := isVal_deep tld (by omega)
  obtain ⟨p3, e3⟩ := prg_eq (n := n + 2) (wf_one (wf_two wfP wd)) (isPrg_deep List.mem_cons_self tpd (by omega))
  obtain ⟨p4, e4⟩ := val_eq (n := n + 2) wd vD
  obtain ⟨p5, e5⟩ := val_eq (n := n + 2) (wf_two wfL (wf_one wd)) vLD
  obtain ⟨p6, e6⟩ := pile_eq (n := n + 1) (d := .tup [D, .tup [.str "list", .tup [D]]]) (r := false) (wf_two wd (wf_two wfL (wf_one wd))) (by simp [isPile, vLD])
  have m5 : P2.v .mul (.tup [D]) (.int 5) = some (.tup (List.replicate 5 D)) := mulR D (n := 5) (by omega)
  obtain ⟨p7, e7⟩ := pile_eq (n := n + 1) (d := .tup (List.replicate 5 D)) (r := true) (wf_tup (by simp) (wf_rep wd 5)) (by simp only [isPile, all_rep vD]; simp)
  generalize List.replicate 5 D = DD at *
  subst hD
  simp [b__law_are_depths_right, Ss.tl, e1, e2, e3, e4, e5, e6, m5, e7]
theorem depths_right_eq {n : Nat} {b : W} (hb : Bag b) : ∃ b', rn (n + 8) 23 [b] = .ok (.bl true) [some b'] ∧ Bag b' := by
  rw [v__law_are_depths_right]
  obtain ⟨v, hx, b1, e1, hb1⟩ := some_lst (n := n + 5) (xs := [.int 3, .bl false, .tup [.str "quote", .tup []], .tup [.str "list", .tup []]]) hb (by simp) (by simp)
  have s1 : vS (Ψ (n + 7)) b__law_are_depths_right.hd [some b, none, none, none, none, none] = .nx [some b1, none, none, some v, some (.int 1), none] := by
    simp [b__law_are_depths_right, Ss.hd, e1]
  obtain ⟨σ', e, b2, v2, d2, s1', s5', hσ, hb2, hd2, h1, h2⟩ := forV_nx (tg := .name 1) (b := vSs (Ψ (n + 7)) sDp.body) (xs := rangeW 0 1 28) (σ := [some b1, none, none, some v, some (.int 1), none])
    (fun pre σ => ∃ b' v' d' s1 s5, σ = [some b', s1, none, some v', some (.int (d' : Nat)), s5] ∧ Bag b' ∧ Dp v' d' ∧ d' ≤ 29 ∧ (1 + pre.length ≤ d' ∨ d' = 29)) ⟨b1, v, 1, none, none, rfl, hb1, leaf4 v hx, by omega, .inl (Nat.le_refl _)⟩
    (fun pre x suf σ e ⟨b', v', d', s1, s5, hσ, hb', hd', h1, h2⟩ => by
      subst hσ
      obtain ⟨b3, v3, d3, s53, e3, hb3, hd3, h31, h32⟩ := turn_dp (n := n) (s1 := some x) (s5 := s5) hb' hd' (by omega) h1
      refine ⟨_, _, rfl, .inl e3, b3, v3, d3, _, s53, rfl, hb3, hd3, h31, ?_⟩
      rw [List.length_append]
      simp
      omega)
  rw [rangeW_len] at h2
  have : d2 = 29 := by omega
  subst this
  subst hσ
  have s2 : vS (Ψ (n + 7)) sDp [some b1, none, none, some v, some (.int 1), none] = .nx [some b2, s1', none, some v2, some (.int 29), s5'] := by
    have hf : (28 : Nat) < fuel := by unfold fuel; omega
    have sm : small62 28 = true := by decide
    rw [show sDp = .fo (.name 1) (.rng1 (.con (.int 28))) sDp.body from rfl]
    have e' : forV (.name 1) (vSs (Ψ (n + 7)) sDp.body) (rangeW 0 1 28) [some b1, none, none, some v, some (.int 1), none] = .nx [some b2, s1', none, some v2, some (.int 29), s5'] := e
    simp [sm, hf, rangeW_len, e']
  refine ⟨b2, ?_, hb2⟩
  rw [show b__law_are_depths_right = .cons b__law_are_depths_right.hd (.cons sDp b__law_are_depths_right.tl.tl) from rfl, one_nx s1, one_nx s2]
  exact end_dp hd2
end K00

namespace K00
open PySem PyL
def gB : W → W
  | .int i => .int (i.fmod (10 ^ 40))
  | w => w
theorem bag_eq {n : Nat} {ns : List Int} (hl : ns.length ≤ 63) : ∃ b ps, rn (n + 1) 9 [.lst (ns.map W.int)] = .ok b ps ∧ Bag b := by
  rw [v__law_bag]
  have p40 : P2.v .pow (.int 10) (.int 40) = some (.int (10 ^ 40)) := by rw [v_pow (by decide) (by decide) (by decide)]; rfl
  have m40 : ∀ a : Int, P2.v .mod (.int a) (.int (10 ^ 40)) = some (.int (a.fmod (10 ^ 40))) := fun a => v_mod (by decide)
  have ct : cutW (ns.map W.int) none (some 63) = ns.map W.int := by
    rw [show (63 : Int) = ((63 : Nat) : Int) from rfl, cutW_to]
    exact List.take_of_length_le (by rw [List.length_map]; exact hl)
  have hlc := lcV_map (f := lcT (vE (Ψ n) (.bi .int (.cons (.op2 .mod (.bi .int (.cons (.var 2) .nil)) (.op2 .pow (.con (.int 10)) (.con (.int 40)))) .nil))) (vT (Ψ n) .yes) [2] (.name 2)) gB (σ := [some (.lst (ns.map W.int)), none, none]) (xs := ns.map W.int) (acc := []) (by rw [sizeLine_eq, List.length_map]; simp; omega) (fun x hx => by
    obtain ⟨i, _, rfl⟩ := List.mem_map.mp hx
    generalize (ns.map W.int) = nsw
    simp [lcT, p40, m40, gB, -Int.reducePow, -Nat.reducePow])
  rw [List.nil_append, List.map_map] at hlc
  have hg : gB ∘ W.int = W.int ∘ fun i => i.fmod (10 ^ 40) := rfl
  rw [hg, ← List.map_map] at hlc
  have hf : (ns.map W.int).length < fuel := by rw [List.length_map]; unfold fuel; omega
  have hx : ∀ n ∈ ns.map (fun i : Int => i.fmod (10 ^ 40)), 0 ≤ n := fun n hn => by
    obtain ⟨i, _, rfl⟩ := List.mem_map.mp hn
    exact Int.fmod_nonneg_of_pos _ (by decide)
  have hln : (ns.map (fun i : Int => i.fmod (10 ^ 40))).length ≤ 63 := by rw [List.length_map]; exact hl
  generalize ns.map (fun i : Int => i.fmod (10 ^ 40)) = cs at *
  generalize ns.map W.int = nsw at *
  have m11 : P2.v .mul (.int 11) (.int (cs.length : Int)) = some (.int (11 * cs.length)) := v_mul_l (by decide)
  refine ⟨BagV cs 0 0 (2371 + 11 * cs.length) 0, [some (.lst nsw)], ?_, cs, 0, 0, _, 0, rfl, hx, by omega⟩
  simp [b__law_bag, ct, hf, hlc, m11, BagV]
theorem a12 : P2.v .mul (.str "a") (.int 12) = some (.str "aaaaaaaaaaaa") := by
  simp only [P2.v, vMul]
  rw [if_pos ⟨by decide, by decide, by decide +kernel, by decide +kernel⟩]
  exact congrArg (fun z => some (W.str z)) (by decide +kernel)
def sLw : S := b_law.tl.tl.tl.hd
theorem law_v {n : Nat} {ns : List Int} (hl : ns.length ≤ 63) : ∃ ps, rn (n + 9) 24 [.lst (ns.map W.int)] = .ok (.bl true) ps := by
  rw [v_law]
  obtain ⟨b, ps, e1, hb⟩ := bag_eq (n := n + 7) hl
  generalize ns.map W.int = nsw at *
  have wa : Wf (.str "aaaaaaaaaaaa") := wf_str (by decide +kernel) (by decide +kernel)
  have w3 : Wf (.tup [.int 1000000000000000000, .int (-1000000000000000000), .str "aaaaaaaaaaaa"]) := wf_tup (by simp) fun x hx => by
    simp only [List.mem_cons, List.not_mem_nil, or_false] at hx
    rcases hx with rfl | rfl | rfl
    · exact .int _
    · exact .int _
    · exact wa
  obtain ⟨p2, e2⟩ := prg_eq (n := n + 3) (r := true) w3 (by decide +kernel)
  obtain ⟨p3, e3⟩ := prg_eq (n := n + 3) (d := .tup [.int 1000000000000000001]) (r := false) (wf_one (.int _)) (by decide +kernel)
  obtain ⟨p4, e4⟩ := val_eq (n := n + 3) (d := .str "add") (r := false) (wf_str (by decide +kernel) (by decide +kernel)) (by decide +kernel)
  obtain ⟨p5, e5⟩ := val_eq (n := n + 3) (d := .int (-1000000000000000000)) (r := true) (.int _) (by decide +kernel)
  obtain ⟨p6, e6⟩ := val_eq (n := n + 3) (d := .int (-1000000000000000001)) (r := false) (.int _) (by decide +kernel)
  have s1 : vSs (Ψ (n + 8)) (.cons b_law.hd (.cons b_law.tl.hd (.cons b_law.tl.tl.hd .nil))) [some (.lst nsw), none, none] = .nx [some (.lst nsw), some b, none] := by
    simp [b_law, Ss.hd, Ss.tl, e1, p18, a12, e2, e3, e4, e5, e6]
  obtain ⟨σ', e, b2, s2, hσ, hb2⟩ := forV_nx (tg := .name 2) (b := vSs (Ψ (n + 8)) sLw.body) (xs := rangeW 0 1 3) (σ := [some (.lst nsw), some b, none])
    (fun pre σ => ∃ b' s2, σ = [some (.lst nsw), some b', s2] ∧ Bag b') ⟨b, none, rfl, hb⟩
    (fun pre x suf σ e ⟨b', s2, hσ, hb'⟩ => by
      subst hσ
      obtain ⟨b3, e3, hb3⟩ := right_eq (n := n) hb'
      refine ⟨_, [some (.lst nsw), some b3, some x], rfl, .inl ?_, b3, _, rfl, hb3⟩
      simp [sLw, b_law, Ss.hd, Ss.tl, S.body, e3])
  subst hσ
  have s2' : vS (Ψ (n + 8)) sLw [some (.lst nsw), some b, none] = .nx [some (.lst nsw), some b2, s2] := by
    have hf : (3 : Nat) < fuel := by unfold fuel; omega
    have sm : small62 3 = true := by decide
    rw [show sLw = .fo (.name 2) (.rng1 (.con (.int 3))) sLw.body from rfl]
    have e' : forV (.name 2) (vSs (Ψ (n + 8)) sLw.body) (rangeW 0 1 3) [some (.lst nsw), some b, none] = .nx [some (.lst nsw), some b2, s2] := e
    simp [sm, hf, rangeW_len, e']
  obtain ⟨b3, e7, hb3⟩ := sizes_right_eq (n := n) hb2
  obtain ⟨b4, e8, hb4⟩ := depths_right_eq (n := n) hb3
  refine ⟨[some (.lst nsw)], ?_⟩
  rw [show b_law = .cons b_law.hd (.cons b_law.tl.hd (.cons b_law.tl.tl.hd (.cons sLw b_law.tl.tl.tl.tl))) from rfl, three_nx s1, one_nx s2']
  simp [b_law, Ss.tl, e7, e8]
def depth : Nat := 9
theorem bs_ok : ∀ k : Nat, ov k = none → bs[k]? ≠ some true := fun k hk hb => by
  by_cases h : k = 13
  · subst h
    cases hk
  · have hlt : k < 25 := (List.getElem?_eq_some_iff.mp hb).1
    match k, hlt, h with
    | 0, _, _ | 1, _, _ | 2, _, _ | 3, _, _ | 4, _, _ | 5, _, _ | 6, _, _ | 7, _, _ | 8, _, _ | 9, _, _ | 10, _, _ | 11, _, _ | 12, _, _ | 14, _, _ | 15, _, _ | 16, _, _ | 17, _, _ | 18, _, _ | 19, _, _ | 20, _, _ | 21, _, _ | 22, _, _ | 23, _, _ | 24, _, _ => cases hb
theorem ov_ok : ∀ k f, ov k = some f → ∀ n, FnOk (sgOf ms k) (callN (fds.map Fd.fr) con fuel (n + 1) k) (f n) := fun k f hf n => by
  by_cases h : k = 13
  · subst h
    cases hf
    exact lev_ok n
  · unfold ov at hf
    rw [if_neg h] at hf
    cases hf
theorem tb : TabOk (fds.map Fd.fr) ms ov con conW fuel 1000 bs := ⟨tab, bs_ok, cn_of rfl, ov_ok⟩
theorem law_true : ∀ (ns : List Int) (d : D) (M : Sto), ns.length ≤ 63 → IsScr ns d M → ∃ M', callN (fds.map Fd.fr) con fuel depth 24 [d] M = .ok (.bl true) M' :=
  law_of tb (n := 9) (k := 24) rfl fun ns hl => law_v (n := 0) hl
end K00

namespace K00
open PySem PySem.Spec PyProof.Rows L2 PyL
theorem all_mk {P : Program} {w : World} {K : PySem.W.Frag} {h : Heap} {mg : Str → Option Value} {fa : Addr} (X : K.In h) (G : h.Ns mainGlobals mg) (hfa : mg "law" = some (.ref fa))
    {k0 : _}
    {k1 : _}
    {k2 : _}
    {k3 : _}
    {k4 : _}
    {k5 : _}
    {k6 : _}
    {k7 : _}
    {k8 : _}
    {t9 : Addr} {to9 : Option Addr} {ti9 : Array Value} {tn9 : Nat} {ts9 : Array (Option Value)} {tv9 : List V}
    {f0 : Addr} {od0 an0 : Option Addr} {sl0 : Array (Option Value)} {oc0 kV0 dc0 pm0 cd0 ct0 : Value}
    {f1 : Addr} {od1 an1 : Option Addr} {sl1 : Array (Option Value)} {oc1 kV1 dc1 pm1 cd1 ct1 : Value}
    {f2 : Addr} {od2 an2 : Option Addr} {sl2 : Array (Option Value)} {oc2 kV2 dc2 pm2 cd2 ct2 : Value}
    {f3 : Addr} {od3 an3 : Option Addr} {sl3 : Array (Option Value)} {oc3 kV3 dc3 pm3 cd3 ct3 : Value}
    {f4 : Addr} {od4 an4 : Option Addr} {sl4 : Array (Option Value)} {oc4 kV4 dc4 pm4 cd4 ct4 : Value}
    {f5 : Addr} {od5 an5 : Option Addr} {sl5 : Array (Option Value)} {oc5 kV5 dc5 pm5 cd5 ct5 : Value}
    {f6 : Addr} {od6 an6 : Option Addr} {sl6 : Array (Option Value)} {oc6 kV6 dc6 pm6 cd6 ct6 : Value}
    {f7 : Addr} {od7 an7 : Option Addr} {sl7 : Array (Option Value)} {oc7 kV7 dc7 pm7 cd7 ct7 : Value}
    {f8 : Addr} {od8 an8 : Option Addr} {sl8 : Array (Option Value)} {oc8 kV8 dc8 pm8 cd8 ct8 : Value}
    {f9 : Addr} {od9 an9 : Option Addr} {sl9 : Array (Option Value)} {oc9 kV9 dc9 pm9 cd9 ct9 : Value}
    {f10 : Addr} {od10 an10 : Option Addr} {sl10 : Array (Option Value)} {oc10 kV10 dc10 pm10 cd10 ct10 : Value}
    {f11 : Addr} {od11 an11 : Option Addr} {sl11 : Array (Option Value)} {oc11 kV11 dc11 pm11 cd11 ct11 : Value}
    {f12 : Addr} {od12 an12 : Option Addr} {sl12 : Array (Option Value)} {oc12 kV12 dc12 pm12 cd12 ct12 : Value}
    {f13 : Addr} {od13 an13 : Option Addr} {sl13 : Array (Option Value)} {oc13 kV13 dc13 pm13 cd13 ct13 : Value}
    {f14 : Addr} {od14 an14 : Option Addr} {sl14 : Array (Option Value)} {oc14 kV14 dc14 pm14 cd14 ct14 : Value}
    {f15 : Addr} {od15 an15 : Option Addr} {sl15 : Array (Option Value)} {oc15 kV15 dc15 pm15 cd15 ct15 : Value}
    {f16 : Addr} {od16 an16 : Option Addr} {sl16 : Array (Option Value)} {oc16 kV16 dc16 pm16 cd16 ct16 : Value}
    {f17 : Addr} {od17 an17 : Option Addr} {sl17 : Array (Option Value)} {oc17 kV17 dc17 pm17 cd17 ct17 : Value}
    {f18 : Addr} {od18 an18 : Option Addr} {sl18 : Array (Option Value)} {oc18 kV18 dc18 pm18 cd18 ct18 : Value}
    {f19 : Addr} {od19 an19 : Option Addr} {sl19 : Array (Option Value)} {oc19 kV19 dc19 pm19 cd19 ct19 : Value}
    {f20 : Addr} {od20 an20 : Option Addr} {sl20 : Array (Option Value)} {oc20 kV20 dc20 pm20 cd20 ct20 : Value}
    {f21 : Addr} {od21 an21 : Option Addr} {sl21 : Array (Option Value)} {oc21 kV21 dc21 pm21 cd21 ct21 : Value}
    {f22 : Addr} {od22 an22 : Option Addr} {sl22 : Array (Option Value)} {oc22 kV22 dc22 pm22 cd22 ct22 : Value}
    {f23 : Addr} {od23 an23 : Option Addr} {sl23 : Array (Option Value)} {oc23 kV23 dc23 pm23 cd23 ct23 : Value}
    {f24 : Addr} {od24 an24 : Option Addr} {sl24 : Array (Option Value)} {oc24 kV24 dc24 pm24 cd24 ct24 : Value}
    (c0 : PySem.W.nsIn K mainGlobals "LETTERS" = some (some (.str "abcdefghijklmnopqrstuvwxyz" k0)))
    (c1 : PySem.W.nsIn K mainGlobals "MOST_NAME" = some (some (.int 12 k1)))
    (c2 : PySem.W.nsIn K mainGlobals "MOST_INTEGER" = some (some (.int 1000000000000000000 k2)))
    (c3 : PySem.W.nsIn K mainGlobals "MOST_ITEMS" = some (some (.int 1000 k3)))
    (c4 : PySem.W.nsIn K mainGlobals "MOST_DEEP" = some (some (.int 30 k4)))
    (c5 : PySem.W.nsIn K mainGlobals "MOST_PILE" = some (some (.int 200 k5)))
    (c6 : PySem.W.nsIn K mainGlobals "QUOTE" = some (some (.str "quote" k6)))
    (c7 : PySem.W.nsIn K mainGlobals "PUT" = some (some (.str "put" k7)))
    (c8 : PySem.W.nsIn K mainGlobals "LIST" = some (some (.str "list" k8)))
    (c9 : PySem.W.nsIn K mainGlobals "KEPT" = some (some (.ref t9)))
    (tl9 : K.lookup t9 = some ⟨.type "tuple", to9, .seq ti9 tn9, ts9⟩)
    (tv_9 : KVals K [(.str "true"), (.str "false"), (.str "list"), (.str "put")] tv9 ti9.toList)
    (tz9 : ti9.size ≤ sizeLine)
    (a0 : PySem.W.nsIn K mainGlobals "is_integer" = some (some (.ref f0)))
    (l0 : K.lookup f0 = some ⟨oc0, od0, .func (PySem.W.fnOf "is_integer" "is_integer" (defArgs d_is_integer.st) (defBody d_is_integer.st) (defScope d_is_integer.st) .none kV0 dc0 pm0 an0 cd0 ct0), sl0⟩)
    (s0 : PySem.W.codeIn K cd0 "is_integer" = true)
    (k_0 : PySem.W.keepIn K (.ref f0) = true)
    (a1 : PySem.W.nsIn K mainGlobals "is_name" = some (some (.ref f1)))
    (l1 : K.lookup f1 = some ⟨oc1, od1, .func (PySem.W.fnOf "is_name" "is_name" (defArgs d_is_name.st) (defBody d_is_name.st) (defScope d_is_name.st) .none kV1 dc1 pm1 an1 cd1 ct1), sl1⟩)
    (s1 : PySem.W.codeIn K cd1 "is_name" = true)
    (k_1 : PySem.W.keepIn K (.ref f1) = true)
    (a2 : PySem.W.nsIn K mainGlobals "is_told" = some (some (.ref f2)))
    (l2 : K.lookup f2 = some ⟨oc2, od2, .func (PySem.W.fnOf "is_told" "is_told" (defArgs d_is_told.st) (defBody d_is_told.st) (defScope d_is_told.st) .none kV2 dc2 pm2 an2 cd2 ct2), sl2⟩)
    (s2 : PySem.W.codeIn K cd2 "is_told" = true)
    (k_2 : PySem.W.keepIn K (.ref f2) = true)
    (a3 : PySem.W.nsIn K mainGlobals "is_number_value" = some (some (.ref f3)))
    (l3 : K.lookup f3 = some ⟨oc3, od3, .func (PySem.W.fnOf "is_number_value" "is_number_value" (defArgs d_is_number_value.st) (defBody d_is_number_value.st) (defScope d_is_number_value.st) .none kV3 dc3 pm3 an3 cd3 ct3), sl3⟩)
    (s3 : PySem.W.codeIn K cd3 "is_number_value" = true)
    (k_3 : PySem.W.keepIn K (.ref f3) = true)
    (a4 : PySem.W.nsIn K mainGlobals "inner_rows" = some (some (.ref f4)))
    (l4 : K.lookup f4 = some ⟨oc4, od4, .func (PySem.W.fnOf "inner_rows" "inner_rows" (defArgs d_inner_rows.st) (defBody d_inner_rows.st) (defScope d_inner_rows.st) .none kV4 dc4 pm4 an4 cd4 ct4), sl4⟩)
    (s4 : PySem.W.codeIn K cd4 "inner_rows" = true)
    (k_4 : PySem.W.keepIn K (.ref f4) = true)
    (a5 : PySem.W.nsIn K mainGlobals "is_bounded" = some (some (.ref f5)))
    (l5 : K.lookup f5 = some ⟨oc5, od5, .func (PySem.W.fnOf "is_bounded" "is_bounded" (defArgs d_is_bounded.st) (defBody d_is_bounded.st) (defScope d_is_bounded.st) .none kV5 dc5 pm5 an5 cd5 ct5), sl5⟩)
    (s5 : PySem.W.codeIn K cd5 "is_bounded" = true)
    (k_5 : PySem.W.keepIn K (.ref f5) = true)
    (a6 : PySem.W.nsIn K mainGlobals "is_program" = some (some (.ref f6)))
    (l6 : K.lookup f6 = some ⟨oc6, od6, .func (PySem.W.fnOf "is_program" "is_program" (defArgs d_is_program.st) (defBody d_is_program.st) (defScope d_is_program.st) .none kV6 dc6 pm6 an6 cd6 ct6), sl6⟩)
    (s6 : PySem.W.codeIn K cd6 "is_program" = true)
    (k_6 : PySem.W.keepIn K (.ref f6) = true)
    (a7 : PySem.W.nsIn K mainGlobals "is_value" = some (some (.ref f7)))
    (l7 : K.lookup f7 = some ⟨oc7, od7, .func (PySem.W.fnOf "is_value" "is_value" (defArgs d_is_value.st) (defBody d_is_value.st) (defScope d_is_value.st) .none kV7 dc7 pm7 an7 cd7 ct7), sl7⟩)
    (s7 : PySem.W.codeIn K cd7 "is_value" = true)
    (k_7 : PySem.W.keepIn K (.ref f7) = true)
    (a8 : PySem.W.nsIn K mainGlobals "is_pile" = some (some (.ref f8)))
    (l8 : K.lookup f8 = some ⟨oc8, od8, .func (PySem.W.fnOf "is_pile" "is_pile" (defArgs d_is_pile.st) (defBody d_is_pile.st) (defScope d_is_pile.st) .none kV8 dc8 pm8 an8 cd8 ct8), sl8⟩)
    (s8 : PySem.W.codeIn K cd8 "is_pile" = true)
    (k_8 : PySem.W.keepIn K (.ref f8) = true)
    (a9 : PySem.W.nsIn K mainGlobals "_law_bag" = some (some (.ref f9)))
    (l9 : K.lookup f9 = some ⟨oc9, od9, .func (PySem.W.fnOf "_law_bag" "_law_bag" (defArgs d__law_bag.st) (defBody d__law_bag.st) (defScope d__law_bag.st) .none kV9 dc9 pm9 an9 cd9 ct9), sl9⟩)
    (s9 : PySem.W.codeIn K cd9 "_law_bag" = true)
    (k_9 : PySem.W.keepIn K (.ref f9) = true)
    (a10 : PySem.W.nsIn K mainGlobals "_law_pick" = some (some (.ref f10)))
    (l10 : K.lookup f10 = some ⟨oc10, od10, .func (PySem.W.fnOf "_law_pick" "_law_pick" (defArgs d__law_pick.st) (defBody d__law_pick.st) (defScope d__law_pick.st) .none kV10 dc10 pm10 an10 cd10 ct10), sl10⟩)
    (s10 : PySem.W.codeIn K cd10 "_law_pick" = true)
    (k_10 : PySem.W.keepIn K (.ref f10) = true)
    (a11 : PySem.W.nsIn K mainGlobals "_law_some" = some (some (.ref f11)))
    (l11 : K.lookup f11 = some ⟨oc11, od11, .func (PySem.W.fnOf "_law_some" "_law_some" (defArgs d__law_some.st) (defBody d__law_some.st) (defScope d__law_some.st) .none kV11 dc11 pm11 an11 cd11 ct11), sl11⟩)
    (s11 : PySem.W.codeIn K cd11 "_law_some" = true)
    (k_11 : PySem.W.keepIn K (.ref f11) = true)
    (a12 : PySem.W.nsIn K mainGlobals "_law_built" = some (some (.ref f12)))
    (l12 : K.lookup f12 = some ⟨oc12, od12, .func (PySem.W.fnOf "_law_built" "_law_built" (defArgs d__law_built.st) (defBody d__law_built.st) (defScope d__law_built.st) .none kV12 dc12 pm12 an12 cd12 ct12), sl12⟩)
    (s12 : PySem.W.codeIn K cd12 "_law_built" = true)
    (k_12 : PySem.W.keepIn K (.ref f12) = true)
    (a13 : PySem.W.nsIn K mainGlobals "_law_levels" = some (some (.ref f13)))
    (l13 : K.lookup f13 = some ⟨oc13, od13, .func (PySem.W.fnOf "_law_levels" "_law_levels" (defArgs d__law_levels.st) (defBody d__law_levels.st) (defScope d__law_levels.st) .none kV13 dc13 pm13 an13 cd13 ct13), sl13⟩)
    (s13 : PySem.W.codeIn K cd13 "_law_levels" = true)
    (k_13 : PySem.W.keepIn K (.ref f13) = true)
    (a14 : PySem.W.nsIn K mainGlobals "_law_word" = some (some (.ref f14)))
    (l14 : K.lookup f14 = some ⟨oc14, od14, .func (PySem.W.fnOf "_law_word" "_law_word" (defArgs d__law_word.st) (defBody d__law_word.st) (defScope d__law_word.st) .none kV14 dc14 pm14 an14 cd14 ct14), sl14⟩)
    (s14 : PySem.W.codeIn K cd14 "_law_word" = true)
    (k_14 : PySem.W.keepIn K (.ref f14) = true)
    (a15 : PySem.W.nsIn K mainGlobals "_law_leaf" = some (some (.ref f15)))
    (l15 : K.lookup f15 = some ⟨oc15, od15, .func (PySem.W.fnOf "_law_leaf" "_law_leaf" (defArgs d__law_leaf.st) (defBody d__law_leaf.st) (defScope d__law_leaf.st) .none kV15 dc15 pm15 an15 cd15 ct15), sl15⟩)
    (s15 : PySem.W.codeIn K cd15 "_law_leaf" = true)
    (k_15 : PySem.W.keepIn K (.ref f15) = true)
    (a16 : PySem.W.nsIn K mainGlobals "_law_drawn" = some (some (.ref f16)))
    (l16 : K.lookup f16 = some ⟨oc16, od16, .func (PySem.W.fnOf "_law_drawn" "_law_drawn" (defArgs d__law_drawn.st) (defBody d__law_drawn.st) (defScope d__law_drawn.st) .none kV16 dc16 pm16 an16 cd16 ct16), sl16⟩)
    (s16 : PySem.W.codeIn K cd16 "_law_drawn" = true)
    (k_16 : PySem.W.keepIn K (.ref f16) = true)
    (a17 : PySem.W.nsIn K mainGlobals "_law_drawn_signs" = some (some (.ref f17)))
    (l17 : K.lookup f17 = some ⟨oc17, od17, .func (PySem.W.fnOf "_law_drawn_signs" "_law_drawn_signs" (defArgs d__law_drawn_signs.st) (defBody d__law_drawn_signs.st) (defScope d__law_drawn_signs.st) .none kV17 dc17 pm17 an17 cd17 ct17), sl17⟩)
    (s17 : PySem.W.codeIn K cd17 "_law_drawn_signs" = true)
    (k_17 : PySem.W.keepIn K (.ref f17) = true)
    (a18 : PySem.W.nsIn K mainGlobals "_law_odd_item" = some (some (.ref f18)))
    (l18 : K.lookup f18 = some ⟨oc18, od18, .func (PySem.W.fnOf "_law_odd_item" "_law_odd_item" (defArgs d__law_odd_item.st) (defBody d__law_odd_item.st) (defScope d__law_odd_item.st) .none kV18 dc18 pm18 an18 cd18 ct18), sl18⟩)
    (s18 : PySem.W.codeIn K cd18 "_law_odd_item" = true)
    (k_18 : PySem.W.keepIn K (.ref f18) = true)
    (a19 : PySem.W.nsIn K mainGlobals "_law_odd_value" = some (some (.ref f19)))
    (l19 : K.lookup f19 = some ⟨oc19, od19, .func (PySem.W.fnOf "_law_odd_value" "_law_odd_value" (defArgs d__law_odd_value.st) (defBody d__law_odd_value.st) (defScope d__law_odd_value.st) .none kV19 dc19 pm19 an19 cd19 ct19), sl19⟩)
    (s19 : PySem.W.codeIn K cd19 "_law_odd_value" = true)
    (k_19 : PySem.W.keepIn K (.ref f19) = true)
    (a20 : PySem.W.nsIn K mainGlobals "_law_spoiled" = some (some (.ref f20)))
    (l20 : K.lookup f20 = some ⟨oc20, od20, .func (PySem.W.fnOf "_law_spoiled" "_law_spoiled" (defArgs d__law_spoiled.st) (defBody d__law_spoiled.st) (defScope d__law_spoiled.st) .none kV20 dc20 pm20 an20 cd20 ct20), sl20⟩)
    (s20 : PySem.W.codeIn K cd20 "_law_spoiled" = true)
    (k_20 : PySem.W.keepIn K (.ref f20) = true)
    (a21 : PySem.W.nsIn K mainGlobals "_law_are_right" = some (some (.ref f21)))
    (l21 : K.lookup f21 = some ⟨oc21, od21, .func (PySem.W.fnOf "_law_are_right" "_law_are_right" (defArgs d__law_are_right.st) (defBody d__law_are_right.st) (defScope d__law_are_right.st) .none kV21 dc21 pm21 an21 cd21 ct21), sl21⟩)
    (s21 : PySem.W.codeIn K cd21 "_law_are_right" = true)
    (k_21 : PySem.W.keepIn K (.ref f21) = true)
    (a22 : PySem.W.nsIn K mainGlobals "_law_are_sizes_right" = some (some (.ref f22)))
    (l22 : K.lookup f22 = some ⟨oc22, od22, .func (PySem.W.fnOf "_law_are_sizes_right" "_law_are_sizes_right" (defArgs d__law_are_sizes_right.st) (defBody d__law_are_sizes_right.st) (defScope d__law_are_sizes_right.st) .none kV22 dc22 pm22 an22 cd22 ct22), sl22⟩)
    (s22 : PySem.W.codeIn K cd22 "_law_are_sizes_right" = true)
    (k_22 : PySem.W.keepIn K (.ref f22) = true)
    (a23 : PySem.W.nsIn K mainGlobals "_law_are_depths_right" = some (some (.ref f23)))
    (l23 : K.lookup f23 = some ⟨oc23, od23, .func (PySem.W.fnOf "_law_are_depths_right" "_law_are_depths_right" (defArgs d__law_are_depths_right.st) (defBody d__law_are_depths_right.st) (defScope d__law_are_depths_right.st) .none kV23 dc23 pm23 an23 cd23 ct23), sl23⟩)
    (s23 : PySem.W.codeIn K cd23 "_law_are_depths_right" = true)
    (k_23 : PySem.W.keepIn K (.ref f23) = true)
    (a24 : PySem.W.nsIn K mainGlobals "law" = some (some (.ref f24)))
    (l24 : K.lookup f24 = some ⟨oc24, od24, .func (PySem.W.fnOf "law" "law" (defArgs d_law.st) (defBody d_law.st) (defScope d_law.st) .none kV24 dc24 pm24 an24 cd24 ct24), sl24⟩)
    (s24 : PySem.W.codeIn K cd24 "law" = true)
    (k_24 : PySem.W.keepIn K (.ref f24) = true)
    (b0 : PySem.W.nsIn K mainGlobals "abs" = some none)
    (b1 : PySem.W.nsIn K mainGlobals "all" = some none)
    (b2 : PySem.W.nsIn K mainGlobals "bool" = some none)
    (b3 : PySem.W.nsIn K mainGlobals "int" = some none)
    (b4 : PySem.W.nsIn K mainGlobals "isinstance" = some none)
    (b5 : PySem.W.nsIn K mainGlobals "len" = some none)
    (b6 : PySem.W.nsIn K mainGlobals "list" = some none)
    (b7 : PySem.W.nsIn K mainGlobals "range" = some none)
    (b8 : PySem.W.nsIn K mainGlobals "repr" = some none)
    (b9 : PySem.W.nsIn K mainGlobals "str" = some none)
    (b10 : PySem.W.nsIn K mainGlobals "tuple" = some none)
    : ∃ fd : FuncData, (∀ (s : Shared) (u : Value), BindsTo s fd ⟨[u], []⟩ [(("script" : Str), u)]) ∧ ∀ base : Heap, K.In base → base.Ns mainGlobals mg → FnOk P w K mg base (L2.CX P w) depth fa fd (["script"] : List Str) (spLaw K) := by
  have hd : DefsAt K mg fds := .cons (DefAt.mk' X G d_is_integer a0 l0 s0 k_0 (fun us hl => match us, hl with | [_], _ => rfl)) (
    .cons (DefAt.mk' X G d_is_name a1 l1 s1 k_1 (fun us hl => match us, hl with | [_], _ => rfl)) (
    .cons (DefAt.mk' X G d_is_told a2 l2 s2 k_2 (fun us hl => match us, hl with | [_, _], _ => rfl)) (
    .cons (DefAt.mk' X G d_is_number_value a3 l3 s3 k_3 (fun us hl => match us, hl with | [_], _ => rfl)) (
    .cons (DefAt.mk' X G d_inner_rows a4 l4 s4 k_4 (fun us hl => match us, hl with | [_, _], _ => rfl)) (
    .cons (DefAt.mk' X G d_is_bounded a5 l5 s5 k_5 (fun us hl => match us, hl with | [_], _ => rfl)) (
    .cons (DefAt.mk' X G d_is_program a6 l6 s6 k_6 (fun us hl => match us, hl with | [_], _ => rfl)) (
    .cons (DefAt.mk' X G d_is_value a7 l7 s7 k_7 (fun us hl => match us, hl with | [_], _ => rfl)) (
    .cons (DefAt.mk' X G d_is_pile a8 l8 s8 k_8 (fun us hl => match us, hl with | [_], _ => rfl)) (
    .cons (DefAt.mk' X G d__law_bag a9 l9 s9 k_9 (fun us hl => match us, hl with | [_], _ => rfl)) (
    .cons (DefAt.mk' X G d__law_pick a10 l10 s10 k_10 (fun us hl => match us, hl with | [_, _], _ => rfl)) (
    .cons (DefAt.mk' X G d__law_some a11 l11 s11 k_11 (fun us hl => match us, hl with | [_, _], _ => rfl)) (
    .cons (DefAt.mk' X G d__law_built a12 l12 s12 k_12 (fun us hl => match us, hl with | [_], _ => rfl)) (
    .cons (DefAt.mk' X G d__law_levels a13 l13 s13 k_13 (fun us hl => match us, hl with | [_, _], _ => rfl)) (
    .cons (DefAt.mk' X G d__law_word a14 l14 s14 k_14 (fun us hl => match us, hl with | [_], _ => rfl)) (
    .cons (DefAt.mk' X G d__law_leaf a15 l15 s15 k_15 (fun us hl => match us, hl with | [_, _], _ => rfl)) (
    .cons (DefAt.mk' X G d__law_drawn a16 l16 s16 k_16 (fun us hl => match us, hl with | [_, _, _], _ => rfl)) (
    .cons (DefAt.mk' X G d__law_drawn_signs a17 l17 s17 k_17 (fun us hl => match us, hl with | [_, _, _, _], _ => rfl)) (
    .cons (DefAt.mk' X G d__law_odd_item a18 l18 s18 k_18 (fun us hl => match us, hl with | [_], _ => rfl)) (
    .cons (DefAt.mk' X G d__law_odd_value a19 l19 s19 k_19 (fun us hl => match us, hl with | [_], _ => rfl)) (
    .cons (DefAt.mk' X G d__law_spoiled a20 l20 s20 k_20 (fun us hl => match us, hl with | [_, _, _], _ => rfl)) (
    .cons (DefAt.mk' X G d__law_are_right a21 l21 s21 k_21 (fun us hl => match us, hl with | [_], _ => rfl)) (
    .cons (DefAt.mk' X G d__law_are_sizes_right a22 l22 s22 k_22 (fun us hl => match us, hl with | [_], _ => rfl)) (
    .cons (DefAt.mk' X G d__law_are_depths_right a23 l23 s23 k_23 (fun us hl => match us, hl with | [_], _ => rfl)) (
    .cons (DefAt.mk' X G d_law a24 l24 s24 k_24 (fun us hl => match us, hl with | [_], _ => rfl)) (
    .nil)))))))))))))))))))))))))
  have hc : ConsAt P w K mg (fun _ => none) gc.cons con := .cons (con_str X G c0) (
    .cons (con_int X G c1) (
    .cons (con_int X G c2) (
    .cons (con_int X G c3) (
    .cons (con_int X G c4) (
    .cons (con_int X G c5) (
    .cons (con_str X G c6) (
    .cons (con_str X G c7) (
    .cons (con_str X G c8) (
    .cons (con_kv X G c9 (.tup tl9 tz9 tv_9)) (
    .nil))))))))))
  have hn : NoneAt mg gc.blts := .cons (PySem.W.mg_none_of X G b0) (.cons (PySem.W.mg_none_of X G b1) (.cons (PySem.W.mg_none_of X G b2) (.cons (PySem.W.mg_none_of X G b3) (.cons (PySem.W.mg_none_of X G b4) (.cons (PySem.W.mg_none_of X G b5) (.cons (PySem.W.mg_none_of X G b6) (.cons (PySem.W.mg_none_of X G b7) (.cons (PySem.W.mg_none_of X G b8) (.cons (PySem.W.mg_none_of X G b9) (.cons (PySem.W.mg_none_of X G b10) (.nil)))))))))))
  exact law_end (fun _ => none) rfl ck_all hd.all (fun base => mod_ok hc hn.all base) (show fds[24]? = some d_law from rfl) rfl hfa law_true
end K00
open PySem PySem.W PyProof.Rows
set_option maxHeartbeats 0 in
theorem PySem.Challenge.cw_pilewords_k00_whole_programs_values_and_holds : PySem.Challenge.rw_pilewords_k00_whole_programs_values_and.Holds := by
  w_on; o_law; k_head; (case hw => w_witness2)
  k_fill
  refine L2.walk_of (l := PySem.Challenge.rw_pilewords_k00_whole_programs_values_and) (n := 63) (k := K00.depth) (x := "script") (CX := fun w => L2.CX PySem.Challenge.pw_pilewords_k00_whole_programs_values_and w) (sp := fun w => PyL.spLaw _) rfl (by decide) rfl ⟨rfl, by decide, by decide⟩ (fun w h Y => PySem.W.kIn_of Y) ?F (fun _ _ a ns hl hO hS => ⟨a, ns, rfl, hS, hl, hO, fun _ => rfl⟩) (fun w H s e s1 h => PyL.cx_no _ w H s e s1 h)
  case F =>
    intro w mg fa h KX G hmg
    refine' K00.all_mk KX G hmg ?c0 ?c1 ?c2 ?c3 ?c4 ?c5 ?c6 ?c7 ?c8 ?c9 ?tl9 ?tv_9 ?tz9 ?a0 ?l0 ?s0 ?k_0 ?a1 ?l1 ?s1 ?k_1 ?a2 ?l2 ?s2 ?k_2 ?a3 ?l3 ?s3 ?k_3 ?a4 ?l4 ?s4 ?k_4 ?a5 ?l5 ?s5 ?k_5 ?a6 ?l6 ?s6 ?k_6 ?a7 ?l7 ?s7 ?k_7 ?a8 ?l8 ?s8 ?k_8 ?a9 ?l9 ?s9 ?k_9 ?a10 ?l10 ?s10 ?k_10 ?a11 ?l11 ?s11 ?k_11 ?a12 ?l12 ?s12 ?k_12 ?a13 ?l13 ?s13 ?k_13 ?a14 ?l14 ?s14 ?k_14 ?a15 ?l15 ?s15 ?k_15 ?a16 ?l16 ?s16 ?k_16 ?a17 ?l17 ?s17 ?k_17 ?a18 ?l18 ?s18 ?k_18 ?a19 ?l19 ?s19 ?k_19 ?a20 ?l20 ?s20 ?k_20 ?a21 ?l21 ?s21 ?k_21 ?a22 ?l22 ?s22 ?k_22 ?a23 ?l23 ?s23 ?k_23 ?a24 ?l24 ?s24 ?k_24 ?b0 ?b1 ?b2 ?b3 ?b4 ?b5 ?b6 ?b7 ?b8 ?b9 ?b10
    (case c0 => k_is); (case c1 => k_is); (case c2 => k_is); (case c3 => k_is); (case c4 => k_is); (case c5 => k_is)
    (case c6 => k_is); (case c7 => k_is); (case c8 => k_is); (case c9 => k_is); (case tl9 => k_is); (case tv_9 => exact (.cons (.str _ _) (.cons (.str _ _) (.cons (.str _ _) (.cons (.str _ _) .nil)))))
    (case tz9 => decide +kernel); (case a0 => k_is); (case l0 => k_is); (case s0 => k_is); (case k_0 => k_is); (case a1 => k_is)
    (case l1 => k_is); (case s1 => k_is); (case k_1 => k_is); (case a2 => k_is); (case l2 => k_is); (case s2 => k_is)
    (case k_2 => k_is); (case a3 => k_is); (case l3 => k_is); (case s3 => k_is); (case k_3 => k_is); (case a4 => k_is)
    (case l4 => k_is); (case s4 => k_is); (case k_4 => k_is); (case a5 => k_is); (case l5 => k_is); (case s5 => k_is)
    (case k_5 => k_is); (case a6 => k_is); (case l6 => k_is); (case s6 => k_is); (case k_6 => k_is); (case a7 => k_is)
    (case l7 => k_is); (case s7 => k_is); (case k_7 => k_is); (case a8 => k_is); (case l8 => k_is); (case s8 => k_is)
    (case k_8 => k_is); (case a9 => k_is); (case l9 => k_is); (case s9 => k_is); (case k_9 => k_is); (case a10 => k_is)
    (case l10 => k_is); (case s10 => k_is); (case k_10 => k_is); (case a11 => k_is); (case l11 => k_is); (case s11 => k_is)
    (case k_11 => k_is); (case a12 => k_is); (case l12 => k_is); (case s12 => k_is); (case k_12 => k_is); (case a13 => k_is)
    (case l13 => k_is); (case s13 => k_is); (case k_13 => k_is); (case a14 => k_is); (case l14 => k_is); (case s14 => k_is)
    (case k_14 => k_is); (case a15 => k_is); (case l15 => k_is); (case s15 => k_is); (case k_15 => k_is); (case a16 => k_is)
    (case l16 => k_is); (case s16 => k_is); (case k_16 => k_is); (case a17 => k_is); (case l17 => k_is); (case s17 => k_is)
    (case k_17 => k_is); (case a18 => k_is); (case l18 => k_is); (case s18 => k_is); (case k_18 => k_is); (case a19 => k_is)
    (case l19 => k_is); (case s19 => k_is); (case k_19 => k_is); (case a20 => k_is); (case l20 => k_is); (case s20 => k_is)
    (case k_20 => k_is); (case a21 => k_is); (case l21 => k_is); (case s21 => k_is); (case k_21 => k_is); (case a22 => k_is)
    (case l22 => k_is); (case s22 => k_is); (case k_22 => k_is); (case a23 => k_is); (case l23 => k_is); (case s23 => k_is)
    (case k_23 => k_is); (case a24 => k_is); (case l24 => k_is); (case s24 => k_is); (case k_24 => k_is); (case b0 => k_is)
    (case b1 => k_is); (case b2 => k_is); (case b3 => k_is); (case b4 => k_is); (case b5 => k_is); (case b6 => k_is)
    (case b7 => k_is); (case b8 => k_is); (case b9 => k_is); (case b10 => k_is)
