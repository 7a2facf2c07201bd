import PyProof.Rows.All
import Wide.All
import OpenK.AllK
import Wide.FinOn
import HandS.ForMost
import HandS.ForExc
import HandS.Deep
import HandS.Wide
import HandS.TupMul
import HandS.TupLe
import HandS.Style
import HandS.SortInts
import HandS.SortRule
import HandS.Zip
import HandS.Conv
import HandS.More
import HandS.CallSlots
import HandS.Exc
import HandS.ExcOwn
import HandS.IsInst
import HandS.ReHeld
import PyProof.ZipIter
import HandS.SetFor
import HandS.WordsExc
import HandS.EndBits
import PySem.Challenge.RW_laterletters_k10_whole_kin
set_option Elab.async false
set_option linter.all false
set_option maxRecDepth 100000
namespace MP
open PySem L2

/-- a list that is known to stand still: ours, lent by a caller, the script -/
inductive Fz where
  | own | bor | scr
  deriving DecidableEq
abbrev MKey := Sum Int Nat
inductive Val where
  | non | bl (b : Bool) | int (i : Int) | str (n : Nat)
  | tup (vs : List Val)
  | lst (c : Fz) (vs : List Val)
  | dct (c : Fz) (ks : List MKey) (vs : List Val)
  | obj (c : Fz) (k : Nat) (fs : List Nat) (vs : List Val)
  | ref (i : Nat)
  | err (k : Nat)
  | clo (l : Nat) (caps : List Val)
instance : Inhabited Val := ⟨.non⟩
inductive Ob where
  | lst (vs : List Val)
  | dct (ks : List MKey) (vs : List Val)
  | ins (k : Nat) (fs : List Nat) (vs : List Val)
abbrev Hm := List Ob
abbrev En := List (Option Val)

/-- what comes out -/
inductive R (α : Type) where
  | ok (a : α) (h : Hm)
  | exc (k : Nat) (h : Hm)
  | bad
def R.bind {α β : Type} (r : R α) (f : α → Hm → R β) : R β := match r with
  | .ok a h => f a h
  | .exc k h => .exc k h
  | .bad => .bad
def R.of {α : Type} (o : Option α) (h : Hm) : R α := match o with
  | some a => .ok a h
  | none => .bad

mutual
def deep (lk : Nat → Option Val) : Val → Option Val
  | .tup vs => match deepL lk vs with | some ws => some (.tup ws) | none => none
  | .lst c vs => match deepL lk vs with | some ws => some (.lst c ws) | none => none
  | .dct c ks vs => match deepL lk vs with | some ws => some (.dct c ks ws) | none => none
  | .obj c k fs vs => match deepL lk vs with | some ws => some (.obj c k fs ws) | none => none
  | .ref i => lk i
  | .non => some .non
  | .bl b => some (.bl b)
  | .int i => some (.int i)
  | .str n => some (.str n)
  | .err k => some (.err k)
  | .clo _ _ => none
def deepL (lk : Nat → Option Val) : List Val → Option (List Val)
  | [] => some []
  | v :: vs => match deep lk v with
    | some w => match deepL lk vs with
      | some ws => some (w :: ws)
      | none => none
    | none => none
end
/-- references followed, but never to e -/
def followX (e : Nat) : Nat → Fz → Hm → Nat → Option Val
  | 0, _, _, _ => none
  | n + 1, c, h, i => if i = e then none else match h[i]? with
    | some (.lst vs) => match deepL (followX e n c h) vs with | some ws => some (.lst c ws) | none => none
    | some (.dct ks vs) => match deepL (followX e n c h) vs with | some ws => some (.dct c ks ws) | none => none
    | some (.ins k fs vs) => match deepL (followX e n c h) vs with | some ws => some (.obj c k fs ws) | none => none
    | none => none
def follow : Nat → Fz → Hm → Nat → Option Val
  | 0, _, _, _ => none
  | n + 1, c, h, i => match h[i]? with
    | some (.lst vs) => match deepL (follow n c h) vs with | some ws => some (.lst c ws) | none => none
    | some (.dct ks vs) => match deepL (follow n c h) vs with | some ws => some (.dct c ks ws) | none => none
    | some (.ins k fs vs) => match deepL (follow n c h) vs with | some ws => some (.obj c k fs ws) | none => none
    | none => none
/-- as it is now, lent -/
def snap (h : Hm) (v : Val) : Option Val := deep (follow 9 .bor h) v
def snapL (h : Hm) (vs : List Val) : Option (List Val) := deepL (follow 9 .bor h) vs
/-- as it is now, for ever -/
def froz (h : Hm) (v : Val) : Option Val := deep (follow 9 .own h) v
mutual
/-- nothing lent, nothing that may change -/
def clean : Val → Bool
  | .tup vs => cleanL vs
  | .lst c vs => decide (c ≠ .bor) && cleanL vs
  | .dct c _ vs => decide (c ≠ .bor) && cleanL vs
  | .obj c _ _ vs => decide (c ≠ .bor) && cleanL vs
  | .ref _ => false
  | .clo _ _ => false
  | _ => true
def cleanL : List Val → Bool
  | [] => true
  | v :: vs => clean v && cleanL vs
end
mutual
/-- no reference within -/
def closed : Val → Bool
  | .tup vs => closedL vs
  | .lst _ vs => closedL vs
  | .dct _ _ vs => closedL vs
  | .obj _ _ _ vs => closedL vs
  | .ref _ => false
  | .clo _ _ => false
  | _ => true
def closedL : List Val → Bool
  | [] => true
  | v :: vs => closed v && closedL vs
end

mutual
def eqV : Val → Val → Bool
  | .non, .non => true
  | .bl a, .bl b => a == b
  | .bl a, .int j => (if a then 1 else 0) == j
  | .int i, .bl b => i == (if b then 1 else 0)
  | .int i, .int j => i == j
  | .str x, .str y => x == y
  | .lst _ xs, .lst _ ys => eqVs xs ys
  | .tup xs, .tup ys => eqVs xs ys
  | _, _ => false
def eqVs : List Val → List Val → Bool
  | [], [] => true
  | x :: xs, y :: ys => eqV x y && eqVs xs ys
  | _, _ => false
end
/-- data of at most so many levels: no dicts, no objects -/
def isData : Nat → Val → Bool
  | _, .non => true
  | _, .bl _ => true
  | _, .int _ => true
  | _, .str _ => true
  | n + 1, .tup vs => vs.all (isData n)
  | n + 1, .lst _ vs => vs.all (isData n)
  | _, _ => false
def eqM (h : Hm) (x y : Val) : Option Bool := match snap h x with
  | some a => match snap h y with
    | some b => if isData 30 a && isData 30 b then some (eqV a b) else none
    | none => none
  | none => none
/-- None, bools, ints, texts -/
def flat : Val → Bool
  | .non => true
  | .bl _ => true
  | .int _ => true
  | .str _ => true
  | _ => false

def big : Nat := 1000000

def lstOf (h : Hm) : Val → Option (List Val)
  | .lst _ vs => some vs
  | .ref i => match h[i]? with | some (.lst vs) => some vs | _ => none
  | _ => none
def seqOf (h : Hm) : Val → Option (List Val)
  | .tup vs => some vs
  | .lst _ vs => some vs
  | .ref i => match h[i]? with | some (.lst vs) => some vs | _ => none
  | _ => none
/-- a list other than the script -/
def catOf (h : Hm) : Val → Option (List Val)
  | .lst .own vs => some vs
  | .lst .bor vs => some vs
  | .ref i => match h[i]? with | some (.lst vs) => some vs | _ => none
  | _ => none
def dctOf (h : Hm) : Val → Option (List MKey × List Val)
  | .dct _ ks vs => some (ks, vs)
  | .ref i => match h[i]? with | some (.dct ks vs) => some (ks, vs) | _ => none
  | _ => none
def insOf (h : Hm) : Val → Option (Nat × List Nat × List Val)
  | .obj _ k fs vs => some (k, fs, vs)
  | .ref i => match h[i]? with | some (.ins k fs vs) => some (k, fs, vs) | _ => none
  | _ => none
def intOf : Val → Option Int
  | .int i => some i
  | _ => none
def intsOf : List Val → Option (List Int)
  | [] => some []
  | .int i :: vs => match intsOf vs with | some r => some (i :: r) | none => none
  | _ :: _ => none
def blsOf : List Val → Option (List Bool)
  | [] => some []
  | .bl b :: vs => match blsOf vs with | some r => some (b :: r) | none => none
  | _ :: _ => none
def keyOf : Val → Option MKey
  | .int i => some (.inl i)
  | .str n => some (.inr n)
  | _ => none
def assoc {κ : Type} [DecidableEq κ] : List κ → List Val → κ → Option Val
  | k :: ks, v :: vs, x => if k = x then some v else assoc ks vs x
  | _, _, _ => none
def assocPut {κ : Type} [DecidableEq κ] : List κ → List Val → κ → Val → List κ × List Val
  | k :: ks, v :: vs, x, y => if k = x then (k :: ks, y :: vs) else ((k :: (assocPut ks vs x y).1), (v :: (assocPut ks vs x y).2))
  | _, _, x, y => ([x], [y])
def replK {κ : Type} [DecidableEq κ] : List κ → List Val → κ → Val → List Val
  | k :: ks, v :: vs, x, y => (if k = x then y else v) :: replK ks vs x y
  | _, _, _, _ => []
def dctPut (ks : List MKey) (vs : List Val) (x : MKey) (y : Val) : List MKey × List Val :=
  if (ks.any fun q => decide (q = x)) = true then (ks, replK ks vs x y) else (ks ++ [x], vs ++ [y])
/-- a new list: frozen (z), or at the next address -/
def mkL (z : Bool) (vs : List Val) (h : Hm) : R Val := if z then .ok (.lst .own vs) h else .ok (.ref h.length) (h ++ [.lst vs])

inductive BOp where
  | add | sub | mul | fdiv | mod | pow
  deriving DecidableEq
inductive COp where
  | eq | ne | lt | le | gt | ge | is | isn | inn | nin
  deriving DecidableEq
def repL : Nat → List Val → List Val
  | 0, _ => []
  | n + 1, vs => vs ++ repL n vs
def binI : BOp → Int → Int → Option Int
  | .add, i, j => some (i + j)
  | .sub, i, j => some (i - j)
  | .mul, i, j => if i.natAbs.log2 + j.natAbs.log2 < 100000000 then some (i * j) else none
  | .fdiv, i, j => if 0 < j ∧ j < 1000000000 then some (i / j) else none
  | .mod, i, j => if 0 < j then some (i % j) else none
  | .pow, i, j => if 0 ≤ j ∧ j ≤ 1000 ∧ i.natAbs < 1000 then some (i ^ j.toNat) else none
def binM (z : Bool) (o : BOp) (x y : Val) (h : Hm) : R Val := match x, y with
  | .int i, .int j => match binI o i j with | some k => .ok (.int k) h | none => .bad
  | .tup vs, .tup ws => match o with
    | .add => if vs.length ≠ 0 ∧ vs.length + ws.length ≤ big then .ok (.tup (vs ++ ws)) h else .bad
    | _ => .bad
  | .tup vs, .int k => match o with
    | .mul => if vs.length ≠ 0 ∧ 2 ≤ k ∧ k ≤ 1000 ∧ vs.length ≤ 1000 then .ok (.tup (repL k.toNat vs)) h else .bad
    | _ => .bad
  | x, .int k => match o, catOf h x with
    | .mul, some vs => if 0 ≤ k ∧ k ≤ 1000000 ∧ vs.length * k.toNat ≤ big then mkL z (repL k.toNat vs) h else .bad
    | _, _ => .bad
  | x, y => match o, catOf h x, catOf h y with
    | .add, some vs, some ws => if vs.length + ws.length ≤ big then mkL z (vs ++ ws) h else .bad
    | _, _, _ => .bad
def lexL : List Int → List Int → Bool
  | [], [] => false
  | [], _ :: _ => true
  | _ :: _, [] => false
  | x :: xs, y :: ys => if x = y then lexL xs ys else decide (x < y)
def ordI : COp → Int → Int → Option Bool
  | .lt, i, j => some (decide (i < j))
  | .le, i, j => some (decide (i ≤ j))
  | .gt, i, j => some (decide (j < i))
  | .ge, i, j => some (decide (j ≤ i))
  | _, _, _ => none
def ordM (o : COp) (x y : Val) : Option Bool := match x, y with
  | .int i, .int j => ordI o i j
  | .tup vs, .tup ws => match intsOf vs, intsOf ws with
    | some is, some js => match o with
      | .lt => some (lexL is js)
      | .ge => if is.length = js.length then some (!lexL is js) else none
      | _ => none
    | _, _ => none
  | _, _ => none
def isM (x y : Val) : Option Bool := match y with
  | .non => match x with
    | .non => some true
    | .clo _ _ => none
    | .err _ => none
    | _ => some false
  | .bl b => match x with | .bl a => some (a == b) | .non => some false | _ => none
  | _ => none
def inM (h : Hm) (x y : Val) : Option Bool := match seqOf h y with
  | some vs => if flat x && vs.all flat then some (vs.any fun v => eqV v x) else
      match snap h x, snapL h vs with
      | some a, some ws => if isData 29 a && ws.all (isData 29) then some (ws.any fun w => eqV w a) else none
      | _, _ => none
  | none => match dctOf h y with
    | some (ks, _) => match keyOf x with
      | some k => some (ks.any fun q => decide (q = k))
      | none => none
    | none => none
def cmpM (o : COp) (h : Hm) (x y : Val) : Option Bool := match o with
  | .eq => eqM h x y
  | .ne => (eqM h x y).map (!·)
  | .is => isM x y
  | .isn => (isM x y).map (!·)
  | .inn => inM h x y
  | .nin => (inM h x y).map (!·)
  | o => ordM o x y

def cutM (vs : List Val) (lo hi : Option Int) : List Val := (vs.drop (HT.sIx vs.length 0 lo)).take (HT.sIx vs.length vs.length hi - HT.sIx vs.length 0 lo)
def idxM (x i : Val) (h : Hm) : R Val := match i with
  | .int j => match seqOf h x with
    | some vs => match atI vs j with | some v => .ok v h | none => .bad
    | none => .bad
  | .str n => match dctOf h x with
    | some (ks, vs) => match assoc ks vs (.inr n) with | some v => .ok v h | none => .bad
    | none => .bad
  | _ => .bad
def slcM (z : Bool) (x : Val) (lo hi : Option Int) (h : Hm) : R Val := match x with
  | .tup vs => if HT.sIx vs.length 0 lo = 0 ∧ HT.sIx vs.length vs.length hi = vs.length then .bad else .ok (.tup (cutM vs lo hi)) h
  | x => match lstOf h x with
    | some vs => mkL z (cutM vs lo hi) h
    | none => .bad
def fldM (x : Val) (f : Nat) (h : Hm) : R Val := match insOf h x with
  | some (_, fs, vs) => match assoc fs vs f with | some v => .ok v h | none => .bad
  | none => .bad

inductive Ty where
  | int | bool | str | list | tuple | cls (k : Nat)
  deriving DecidableEq
/-- sup k: the own classes that k is one of (with itself) -/
def isiM (sup : Nat → List Nat) (h : Hm) (v : Val) (t : Ty) : Option Bool := match v with
  | .non => some false
  | .bl _ => some (decide (t = .int ∨ t = .bool))
  | .int _ => some (decide (t = .int))
  | .str _ => some (decide (t = .str))
  | .tup _ => some (decide (t = .tuple))
  | .lst _ _ => some (decide (t = .list))
  | .dct _ _ _ => some false
  | .obj _ k _ _ => some (match t with | .cls j => (sup k).contains j | _ => false)
  | .ref i => match h[i]? with
    | some (.lst _) => some (decide (t = .list))
    | some (.dct _ _) => some false
    | some (.ins k _ _) => some (match t with | .cls j => (sup k).contains j | _ => false)
    | none => none
  | .err k => some (match t with | .cls j => (sup k).contains j | _ => false)
  | .clo _ _ => none

def insI (x : Int) : List Int → List Int
  | [] => [x]
  | y :: ys => if x ≤ y then x :: y :: ys else y :: insI x ys
def sortI : List Int → List Int
  | [] => []
  | x :: xs => insI x (sortI xs)
def nubI : List Int → List Int
  | [] => []
  | x :: xs => if xs.contains x then nubI xs else x :: nubI xs
/-- x before y: by the first of two ints, then by the second -/
def ltPr (p q : Int × Int) : Bool := if p.1 = q.1 then decide (p.2 < q.2) else decide (p.1 < q.1)
def insP {α : Type} (k : α → Int × Int) (x : α) : List α → List α
  | [] => [x]
  | y :: ys => if ltPr (k y) (k x) then y :: insP k x ys else x :: y :: ys
def sortP {α : Type} (k : α → Int × Int) : List α → List α
  | [] => []
  | x :: xs => insP k x (sortP k xs)
def pairOf : Val → Int × Int
  | .tup [.int i, .int j] => (i, j)
  | _ => (0, 0)
def isPair : Val → Bool
  | .tup [.int _, .int _] => true
  | _ => false
def sortM (vs : List Val) : Option (List Val) := match intsOf vs with
  | some is => some ((sortI is).map .int)
  | none => if vs.all isPair then some (sortP pairOf vs) else none
def maxI : List Int → Option Int
  | [] => none
  | [x] => some x
  | x :: xs => match maxI xs with | some y => some (if y < x then x else y) | none => none
inductive BI where
  | len | max1 | max2 | min2 | abs | sum | all | any | sorted | list | tuple | toInt
  | sortedSet | lenSet | listRng
  deriving DecidableEq
def biM (b : BI) (z : Bool) (vs : List Val) (h : Hm) : R Val := match b, vs with
  | .len, [x] => match seqOf h x with
    | some ws => .ok (.int ws.length) h
    | none => .bad
  | .max1, [x] => match lstOf h x with
    | some ws => match intsOf ws with
      | some is => match maxI is with | some m => .ok (.int m) h | none => .bad
      | none => .bad
    | none => .bad
  | .max2, [.int i, .int j] => .ok (.int (if j > i then j else i)) h
  | .min2, [.int i, .int j] => .ok (.int (if j < i then j else i)) h
  | .abs, [.int i] => .ok (.int (if i < 0 then -i else i)) h
  | .sum, [x] => match lstOf h x with
    | some ws => match intsOf ws with | some is => .ok (.int is.sum) h | none => .bad
    | none => .bad
  | .all, [x] => match lstOf h x with
    | some ws => match blsOf ws with | some bs => .ok (.bl (bs.all id)) h | none => .bad
    | none => .bad
  | .any, [x] => match lstOf h x with
    | some ws => match blsOf ws with | some bs => .ok (.bl (bs.any id)) h | none => .bad
    | none => .bad
  | .sorted, [x] => match lstOf h x with
    | some ws => match sortM ws with | some r => mkL z r h | none => .bad
    | none => .bad
  | .list, [x] => match seqOf h x with
    | some ws => mkL z ws h
    | none => .bad
  | .tuple, [x] => match lstOf h x with
    | some ws => .ok (.tup ws) h
    | none => .bad
  | .toInt, [.bl b] => .ok (.int (if b then 1 else 0)) h
  | .toInt, [.int i] => .ok (.int i) h
  | .sortedSet, [x] => match lstOf h x with
    | some ws => match intsOf ws with
      | some is => if is.length < 64 then mkL z ((sortI (nubI is)).map .int) h else .bad
      | none => .bad
    | none => .bad
  | .lenSet, [x] => match lstOf h x with
    | some ws => match intsOf ws with
      | some is => if is.length < 64 then .ok (.int (nubI is).length) h else .bad
      | none => .bad
    | none => .bad
  | .listRng, [.int i, .int j] => if 0 ≤ i ∧ i ≤ 1000000 ∧ 0 ≤ j ∧ j ≤ 1000000 then mkL z ((List.range (j - i).toNat).map fun n => .int (i + (n : Nat))) h else .bad
  | _, _ => .bad
inductive MI where
  | append | extend | pop | reverse | clear | index | count | get
  deriving DecidableEq
/-- what has such a method -/
def methK (m : MI) (h : Hm) (x : Val) : Bool := match m with
  | .get => (dctOf h x).isSome
  | _ => (lstOf h x).isSome
def findI (x : Val) : List Val → Option Nat
  | [] => none
  | v :: vs => if eqV v x then some 0 else match findI x vs with | some n => some (n + 1) | none => none
def methM (m : MI) (x : Val) (as : List Val) (h : Hm) : R Val := match m, as with
  | .append, [y] => match x with
    | .ref i => match h[i]? with
      | some (.lst vs) => if vs.length < big then .ok .non (h.set i (.lst (vs ++ [y]))) else .bad
      | _ => .bad
    | _ => .bad
  | .extend, [y] => match x with
    | .ref i => match h[i]?, catOf h y with
      | some (.lst vs), some ws => if vs.length + ws.length ≤ big then .ok .non (h.set i (.lst (vs ++ ws))) else .bad
      | _, _ => .bad
    | _ => .bad
  | .pop, [] => match x with
    | .ref i => match h[i]? with
      | some (.lst vs) => match vs.getLast? with
        | some y => .ok y (h.set i (.lst vs.dropLast))
        | none => .bad
      | _ => .bad
    | _ => .bad
  | .reverse, [] => match x with
    | .ref i => match h[i]? with
      | some (.lst vs) => .ok .non (h.set i (.lst vs.reverse))
      | _ => .bad
    | _ => .bad
  | .clear, [] => match x with
    | .ref i => match h[i]? with
      | some (.lst _) => .ok .non (h.set i (.lst []))
      | _ => .bad
    | _ => .bad
  | .index, [y] => match lstOf h x with
    | some vs => if flat y && vs.all flat then (match findI y vs with | some n => .ok (.int n) h | none => .bad) else .bad
    | none => .bad
  | .count, [y] => match lstOf h x with
    | some vs => if flat y && vs.all flat then .ok (.int ((vs.filter fun v => eqV v y).length : Nat)) h else .bad
    | none => .bad
  | .get, [y] => match dctOf h x, keyOf y with
    | some (ks, vs), some k => .ok ((assoc ks vs k).getD .non) h
    | _, _ => .bad
  | _, _ => .bad

/-- how a def is called: as it stands; by values alone; the same, the list is ours -/
inductive Md where
  | dir | pur | top
  deriving DecidableEq
inductive Pat where
  | nm (i : Nat)
  | tp (q : Pat)
  | nil
  | cons (p q : Pat)
inductive C where
  | var (i : Nat) | cst (v : Val)
  | bin (z : Bool) (o : BOp) (a b : C) | neg (a : C)
  | cmp (o : COp) (a b : C) | cmp2 (o p : COp) (a b c : C) | cmp3 (o p q : COp) (a b c d : C)
  | not (a : C) | and (a b : C) | or (a b : C) | ite (t a b : C)
  | idx (a i : C) | slc (z : Bool) (a lo hi : C) | rev (z : Bool) (a : C)
  | fld (a : C) (f : Nat)
  | nil | cons (a b : C) | omit | part (a : C)
  | tup (as : C) | lst (z : Bool) (as : C) | dct (ks : List MKey) (as : C)
  | call (z : Md) (f : Nat) (as : C)
  | bi (b : BI) (z : Bool) (as : C)
  | meth (m : MI) (o as : C)
  | ocall (z : Md) (m : Nat) (o as : C)
  | new (k : Nat) (as : C)
  | comp (z : Bool) (own : List Nat) (p : Pat) (it cd e : C)
  | isi (a : C) (t : Ty)
  | iSeq (a : C) | iRng (as : C) | iEnum (a : C) | iZip (as : C)
inductive S where
  | nil | seq (a b : S) | pass
  | asg (p : Pat) (e : C)
  | par (ps : List Nat) (as : C)
  | setI (o i e : C) | setF (o : C) (f : Nat) (e : C)
  | aug (i : Nat) (o : BOp) (e : C) | augF (x : C) (f : Nat) (o : BOp) (e : C)
  | ex (e : C)
  | ite (c : C) (a b : S) | loop (p : Pat) (it : C) (b : S) | whl (c : C) (b : S)
  | ret (e : C) | retN | rais (k : Nat)

inductive Src where
  | stat (vs : List Val)
  | live (i : Nat)
  | enum (s : Src)
  | zip (s t : Src)
  | zip3 (s t u : Src)
def Src.len (h : Hm) : Src → Option Nat
  | .stat vs => some vs.length
  | .live i => match h[i]? with | some (.lst vs) => some vs.length | _ => none
  | .enum s => s.len h
  | .zip s t => match s.len h, t.len h with | some a, some b => some (min a b) | _, _ => none
  | .zip3 s t u => match s.len h, t.len h, u.len h with | some a, some b, some c => some (min a (min b c)) | _, _, _ => none
def Src.at (h : Hm) (k : Nat) : Src → Option Val
  | .stat vs => vs[k]?
  | .live i => match h[i]? with | some (.lst vs) => vs[k]? | _ => none
  | .enum s => match s.at h k with | some v => some (.tup [.int k, v]) | none => none
  | .zip s t => match s.at h k, t.at h k with | some a, some b => some (.tup [a, b]) | _, _ => none
  | .zip3 s t u => match s.at h k, t.at h k, u.at h k with | some a, some b, some c => some (.tup [a, b, c]) | _, _, _ => none
def srcOf (h : Hm) : Val → Option Src
  | .tup vs => some (.stat vs)
  | .lst _ vs => some (.stat vs)
  | .ref i => match h[i]? with | some (.lst _) => some (.live i) | _ => none
  | _ => none
def rngM : List Val → Option Src
  | [.int j] => if -1000000 ≤ j ∧ j ≤ 1000000 then some (.stat ((List.range j.toNat).map fun n => .int (n : Nat))) else none
  | [.int i, .int j] => if -1000000 ≤ i ∧ i ≤ 1000000 ∧ -1000000 ≤ j ∧ j ≤ 1000000 then some (.stat ((List.range (j - i).toNat).map fun n => .int (i + (n : Nat)))) else none
  | [.int i, .int j, .int c] => if 0 ≤ i ∧ i ≤ 1000000 ∧ 0 ≤ j ∧ j ≤ 1000000 ∧ 0 < c ∧ c ≤ 1000 then some (.stat ((List.range ((j - i + c - 1) / c).toNat).map fun n => .int (i + (n : Nat) * c))) else none
  | _ => none
def isTup : Val → Bool
  | .tup _ => true
  | _ => false
def zipM (h : Hm) : List Val → Option Src
  | [a, b] => if isTup a = isTup b then (match srcOf h a, srcOf h b with | some s, some t => some (.zip s t) | _, _ => none) else none
  | [a, b, c] => if isTup a || isTup b || isTup c then none else (match srcOf h a, srcOf h b, srcOf h c with | some s, some t, some u => some (.zip3 s t u) | _, _, _ => none)
  | _ => none

mutual
def bindP : Pat → Val → En → Option En
  | .nm i, v, e => if i < e.length then some (e.set i (some v)) else none
  | .tp q, v, e => match v with
    | .tup vs => bindPs q vs e
    | _ => none
  | .nil, _, _ => none
  | .cons _ _, _, _ => none
def bindPs : Pat → List Val → En → Option En
  | .nil, vs, e => match vs with | [] => some e | _ => none
  | .cons p q, vs, e => match vs with
    | v :: vs => match bindP p v e with | some e' => bindPs q vs e' | none => none
    | [] => none
  | .nm _, _, _ => none
  | .tp _, _, _ => none
end
def wipeM (e : En) : List Nat → En
  | [] => e
  | v :: vs => (wipeM e vs).set v none

/-- the truth of a test: bools alone -/
def truM : Val → Option Bool
  | .bl b => some b
  | _ => none

abbrev CallF := Nat → List Val → Hm → R Val
/-- the tables: an own class's __init__, its methods, what it is one of -/
structure Tab where
  init : Nat → Option Nat
  meth : Nat → Nat → Option Nat
  sup : Nat → List Nat
/-- a call of a def that is told by its values alone: what is handed in is lent, what comes out is ours -/
def pureM (cl : CallF) (f : Nat) (vs : List Val) (h : Hm) : R Val := match snapL h vs with
  | some ws => match cl f ws [] with
    | .ok v h' => match froz h' v with
      | some t => if clean t then .ok t h else .bad
      | none => .bad
    | .exc k _ => .exc k h
    | .bad => .bad
  | none => .bad
/-- the same, but the list that comes out may be changed (what is in it may not) -/
def topM (cl : CallF) (f : Nat) (vs : List Val) (h : Hm) : R Val := match snapL h vs with
  | some ws => match cl f ws [] with
    | .ok (.ref i) h' => match h'[i]? with
      | some (.lst us) => match deepL (followX i 9 .own h') us with
        | some ts => if cleanL ts then .ok (.ref h.length) (h ++ [.lst ts]) else .bad
        | none => .bad
      | _ => .bad
    | .exc k _ => .exc k h
    | _ => .bad
  | none => .bad
def callM (cl : CallF) (z : Md) (f : Nat) (vs : List Val) (h : Hm) : R Val := match z with
  | .dir => cl f vs h
  | .pur => pureM cl f vs h
  | .top => topM cl f vs h
def clsOf (h : Hm) (v : Val) : Option Nat := match insOf h v with | some (k, _, _) => some k | none => none
def newM (T : Tab) (cl : CallF) (k : Nat) (vs : List Val) (h : Hm) : R Val := match T.init k with
  | none => if vs.length = 0 then .ok (.ref h.length) (h ++ [.ins k [] []]) else .bad
  | some f => match cl f (.ref h.length :: vs) (h ++ [.ins k [] []]) with
    | .ok .non h' => .ok (.ref h.length) h'
    | .exc k h' => .exc k h'
    | _ => .bad
/-- the loop of a comprehension: rem turns of n are left, acc is made so far -/
def compM (turn : Val → Hm → R (Option Val)) (s : Src) (n : Nat) : Nat → List Val → Hm → R (List Val)
  | 0, acc, h => match s.len h with | some m => if m = n then .ok acc h else .bad | none => .bad
  | rem + 1, acc, h => match s.len h with
    | some m => if m = n then (match s.at h (n - (rem + 1)) with
      | some v => match turn v h with
        | .ok (some w) h' => compM turn s n rem (acc ++ [w]) h'
        | .ok none h' => compM turn s n rem acc h'
        | .exc _ _ => .bad
        | .bad => .bad
      | none => .bad) else .bad
    | none => .bad

section
variable (T : Tab) (cl : CallF)
mutual
def evE : C → En → Hm → R Val
  | .var i, e, h => match e[i]? with | some (some v) => .ok v h | _ => .bad
  | .cst v, _, h => .ok v h
  | .bin z o a b, e, h => (evE a e h).bind fun x h => (evE b e h).bind fun y h => binM z o x y h
  | .neg a, e, h => (evE a e h).bind fun x h => match x with | .int i => .ok (.int (-i)) h | _ => .bad
  | .cmp o a b, e, h => (evE a e h).bind fun x h => (evE b e h).bind fun y h => match cmpM o h x y with | some r => .ok (.bl r) h | none => .bad
  | .cmp2 o p a b c, e, h => (evE a e h).bind fun x h => (evE b e h).bind fun y h => match cmpM o h x y with
    | some true => (evE c e h).bind fun w h => match cmpM p h y w with | some r => .ok (.bl r) h | none => .bad
    | some false => .ok (.bl false) h
    | none => .bad
  | .cmp3 o p q a b c d, e, h => (evE a e h).bind fun x h => (evE b e h).bind fun y h => match cmpM o h x y with
    | some true => (evE c e h).bind fun w h => match cmpM p h y w with
      | some true => (evE d e h).bind fun u h => match cmpM q h w u with | some r => .ok (.bl r) h | none => .bad
      | some false => .ok (.bl false) h
      | none => .bad
    | some false => .ok (.bl false) h
    | none => .bad
  | .not a, e, h => (evE a e h).bind fun x h => match x with | .bl b => .ok (.bl (!b)) h | _ => .bad
  | .and a b, e, h => (evE a e h).bind fun x h => match x with
    | .bl true => evE b e h
    | .bl false => .ok (.bl false) h
    | _ => .bad
  | .or a b, e, h => (evE a e h).bind fun x h => match x with
    | .bl true => .ok (.bl true) h
    | .bl false => evE b e h
    | _ => .bad
  | .ite t a b, e, h => (evE t e h).bind fun x h => match x with
    | .bl true => evE a e h
    | .bl false => evE b e h
    | _ => .bad
  | .idx a i, e, h => (evE a e h).bind fun x h => (evE i e h).bind fun y h => idxM x y h
  | .slc z a lo hi, e, h => (evE a e h).bind fun x h => (evP lo e h).bind fun l h => (evP hi e h).bind fun u h => slcM z x l u h
  | .rev z a, e, h => (evE a e h).bind fun x h => match lstOf h x with | some vs => mkL z vs.reverse h | none => .bad
  | .fld a f, e, h => (evE a e h).bind fun x h => fldM x f h
  | .tup as, e, h => (evA as e h).bind fun vs h => if vs.length ≤ big then .ok (.tup vs) h else .bad
  | .lst z as, e, h => (evA as e h).bind fun vs h => if vs.length ≤ big then mkL z vs h else .bad
  | .dct ks as, e, h => (evA as e h).bind fun vs h => if vs.length = ks.length ∧ ks.length < 16 then .ok (.ref h.length) (h ++ [.dct ks vs]) else .bad
  | .call z f as, e, h => (evA as e h).bind fun vs h => callM cl z f vs h
  | .bi b z as, e, h => (evA as e h).bind fun vs h => biM b z vs h
  | .meth m o as, e, h => (evE o e h).bind fun x h => if methK m h x then (evA as e h).bind fun vs h => methM m x vs h else .bad
  | .ocall z m o as, e, h => (evE o e h).bind fun x h => match clsOf h x with
    | some k => match T.meth k m with
      | some f => (evA as e h).bind fun vs h => callM cl z f (x :: vs) h
      | none => .bad
    | none => .bad
  | .new k as, e, h => (evA as e h).bind fun vs h => newM T cl k vs h
  | .comp z own p it cd x, e, h => (evI it e h).bind fun s h => match s.len h with
    | some n => (compM (fun v h => match bindP p v (wipeM e own) with
        | some e' => (evE cd e' h).bind fun c h => match c with
          | .bl true => (evE x e' h).bind fun w h => .ok (some w) h
          | .bl false => .ok none h
          | _ => .bad
        | none => .bad) s n n [] h).bind fun vs h => mkL z vs h
    | none => .bad
  | .isi a t, e, h => (evE a e h).bind fun x h => match isiM T.sup h x t with | some r => .ok (.bl r) h | none => .bad
  | _, _, _ => .bad
termination_by structural c => c
def evP : C → En → Hm → R (Option Int)
  | .omit, _, h => .ok none h
  | .part a, e, h => (evE a e h).bind fun x h => match x with | .int i => .ok (some i) h | _ => .bad
  | _, _, _ => .bad
termination_by structural c => c
def evA : C → En → Hm → R (List Val)
  | .nil, _, h => .ok [] h
  | .cons a b, e, h => (evE a e h).bind fun x h => (evA b e h).bind fun xs h => .ok (x :: xs) h
  | _, _, _ => .bad
termination_by structural c => c
def evI : C → En → Hm → R Src
  | .iSeq a, e, h => (evE a e h).bind fun x h => R.of (srcOf h x) h
  | .iRng as, e, h => (evA as e h).bind fun vs h => R.of (rngM vs) h
  | .iEnum a, e, h => (evE a e h).bind fun x h => if isTup x then .bad else match srcOf h x with | some s => .ok (.enum s) h | none => .bad
  | .iZip as, e, h => (evA as e h).bind fun vs h => R.of (zipM h vs) h
  | _, _, _ => .bad
termination_by structural c => c
end
end
inductive RS where
  | nx (e : En) (h : Hm)
  | bk (e : En) (h : Hm)
  | ct (e : En) (h : Hm)
  | rt (v : Val) (h : Hm)
  | exc (k : Nat) (e : En) (h : Hm)
  | bad
/-- an expression's end, in the names e -/
def RS.on {α : Type} (r : R α) (e : En) (f : α → Hm → RS) : RS := match r with
  | .ok a h => f a h
  | .exc k h => .exc k e h
  | .bad => .bad
/-- the next statement -/
def RS.then (r : RS) (f : En → Hm → RS) : RS := match r with
  | .nx e h => f e h
  | r => r
def setAll : List Nat → List Val → En → Option En
  | [], [], e => some e
  | i :: is, v :: vs, e => if i < e.length then setAll is vs (e.set i (some v)) else none
  | _, _, _ => none
/-- the loop of a for: rem turns of n are left -/
def forM' (turn : Val → En → Hm → RS) (s : Src) (n : Nat) : Nat → En → Hm → RS
  | 0, e, h => match s.len h with | some m => if m = n then .nx e h else .bad | none => .bad
  | rem + 1, e, h => match s.len h with
    | some m => if m = n then (match s.at h (n - (rem + 1)) with
      | some v => match turn v e h with
        | .nx e' h' => forM' turn s n rem e' h'
        | .ct e' h' => forM' turn s n rem e' h'
        | .bk e' h' => .nx e' h'
        | .rt v h' => .rt v h'
        | .exc k e' h' => .exc k e' h'
        | .bad => .bad
      | none => .bad) else .bad
    | none => .bad
/-- the loop of a while: at most so many turns -/
def whlM (test : En → Hm → R Val) (body : En → Hm → RS) : Nat → En → Hm → RS
  | 0, _, _ => .bad
  | n + 1, e, h => match test e h with
    | .ok (.bl true) h' => match body e h' with
      | .nx e' h' => whlM test body n e' h'
      | .ct e' h' => whlM test body n e' h'
      | .bk e' h' => .nx e' h'
      | .rt v h' => .rt v h'
      | .exc k e' h' => .exc k e' h'
      | .bad => .bad
    | .ok (.bl false) h' => .nx e h'
    | .exc k h' => .exc k e h'
    | _ => .bad
/-- x.f = v -/
def setFM (x : Val) (f : Nat) (v : Val) (h : Hm) : Option Hm := match x with
  | .ref i => match h[i]? with
    | some (.ins k fs vs) => if fs.length = vs.length ∧ fs.length < 900 then some (h.set i (.ins k (assocPut fs vs f v).1 (assocPut fs vs f v).2)) else none
    | _ => none
  | _ => none
/-- x[i] = v -/
def setIM (x i v : Val) (h : Hm) : Option Hm := match x with
  | .ref a => match h[a]?, i with
    | some (.lst vs), .int j => match ixN vs.length j with
      | some n => some (h.set a (.lst (vs.set n v)))
      | none => none
    | some (.dct ks vs), i => match keyOf i with
      | some k => if ks.length = vs.length ∧ ks.length < big then some (h.set a (.dct (dctPut ks vs k v).1 (dctPut ks vs k v).2)) else none
      | none => none
    | _, _ => none
  | _ => none
def fuelW : Nat := 2000
section
variable (T : Tab) (cl : CallF)
def exS : S → En → Hm → RS
  | .nil, e, h => .nx e h
  | .pass, e, h => .nx e h
  | .seq a b, e, h => (exS a e h).then fun e h => exS b e h
  | .asg p x, e, h => .on (evE T cl x e h) e fun v h => match bindP p v e with | some e' => .nx e' h | none => .bad
  | .par is as, e, h => .on (evA T cl as e h) e fun vs h => match setAll is vs e with | some e' => .nx e' h | none => .bad
  | .setI o i x, e, h => .on (evE T cl x e h) e fun v h => .on (evE T cl o e h) e fun w h => .on (evE T cl i e h) e fun u h =>
    match setIM w u v h with | some h' => .nx e h' | none => .bad
  | .setF o f x, e, h => .on (evE T cl x e h) e fun v h => .on (evE T cl o e h) e fun w h => match setFM w f v h with | some h' => .nx e h' | none => .bad
  | .aug i o x, e, h => match e[i]? with
    | some (some (.int a)) => .on (evE T cl x e h) e fun v h => match v with
      | .int b => match binI o a b with | some k => .nx (e.set i (some (.int k))) h | none => .bad
      | _ => .bad
    | _ => .bad
  | .augF x f o y, e, h => .on (evE T cl x e h) e fun w h => match fldM w f h with
    | .ok (.int a) _ => .on (evE T cl y e h) e fun v h2 => match v with
      | .int b => match binI o a b with
        | some k => if clsOf h w = clsOf h2 w then (match setFM w f (.int k) h2 with | some h' => .nx e h' | none => .bad) else .bad
        | none => .bad
      | _ => .bad
    | _ => .bad
  | .ex x, e, h => .on (evE T cl x e h) e fun _ h => .nx e h
  | .ite c a b, e, h => .on (evE T cl c e h) e fun v h => match v with
    | .bl true => exS a e h
    | .bl false => exS b e h
    | _ => .bad
  | .loop p it b, e, h => .on (evI T cl it e h) e fun s h => match s.len h with
    | some n => forM' (fun v e h => match bindP p v e with | some e' => exS b e' h | none => .bad) s n n e h
    | none => .bad
  | .whl c b, e, h => whlM (evE T cl c) (exS b) fuelW e h
  | .ret x, e, h => .on (evE T cl x e h) e fun v h => .rt v h
  | .retN, _, h => .rt .non h
  | .rais k, e, h => .exc k e h
termination_by structural s => s
end
/-- a def: its parameters' and its names' number, its body -/
structure Fn where
  np : Nat
  ns : Nat
  body : S
def RS.fin : RS → R Val
  | .nx _ h => .ok .non h
  | .rt v h => .ok v h
  | .exc k _ h => .exc k h
  | _ => .bad
/-- the defs: F i is the i-th; so deep -/
def run (T : Tab) (F : Nat → Option Fn) : Nat → CallF
  | 0 => fun _ _ _ => .bad
  | n + 1 => fun f vs h => match F f with
    | some d => if vs.length = d.np ∧ d.np ≤ d.ns then (exS T (run T F n) d.body (vs.map some ++ List.replicate (d.ns - d.np) none) h).fin else .bad
    | none => .bad
end MP
set_option Elab.async false
set_option linter.all false
set_option maxRecDepth 100000
set_option autoImplicit false
namespace MP
open PySem PySem.Spec PyProof.Rows L2

/-- what is fixed: the written part, the texts, the own classes, the fields' names -/
structure Sg where
  K : PySem.W.Frag
  txts : List Str
  cls : Nat → Option Addr
  exc : Nat → Option Addr
  fld : List Str
/-- b: lent by callers, never handed on as ours; x: a list under construction that no value knows -/
structure Bor where
  b : Addr → Prop
  x : Addr → Prop
abbrev Out (B : Bor) (A : List Addr) (a : Addr) : Prop := a ∉ A ∧ ¬ B.x a
/-- o stands at a, nobody may change it -/
def Still (B : Bor) (A : List Addr) (H : Hp) (c : Fz) (a : Addr) (o : HO) : Prop := c ≠ .scr ∧ H a = some o ∧ Out B A a ∧ (c = .own → ¬ B.b a)
def KLst (K : PySem.W.Frag) (a : Addr) (xs : List V) : Prop :=
  ∃ (o : Obj) (its : Array Value) (n : Nat), K.lookup a = some o ∧ o.cls = .type "list" ∧ o.dict = none ∧ o.data = .seq its n ∧ its.size ≤ sizeLine ∧ Vals xs its.toList
/-- a list that stands still -/
def LstOk (G : Sg) (B : Bor) (A : List Addr) (H : Hp) (c : Fz) (a : Addr) (xs : List V) : Prop := match c with
  | .scr => (∃ o, H a = some (.frz o (.lst xs)) ∧ Out B A a) ∨ KLst G.K a xs
  | c => Still B A H c a (.lst xs)
def RKey (G : Sg) : MKey → Key → Prop
  | .inl i, k => k = .inl i
  | .inr n, k => ∃ z, G.txts[n]? = some z ∧ k = .inr z
def RKeys (G : Sg) : List MKey → List Key → Prop
  | [], ks => ks = []
  | m :: ms, ks => ∃ k r, ks = k :: r ∧ RKey G m k ∧ RKeys G ms r
def RFs (G : Sg) : List Nat → List Str → Prop
  | [], fs => fs = []
  | m :: ms, fs => ∃ k r, fs = k :: r ∧ G.fld[m]? = some k ∧ RFs G ms r
mutual
def RV (G : Sg) (B : Bor) (A : List Addr) (H : Hp) : Val → V → Prop
  | .non, x => x = .non
  | .bl b, x => x = .bl b
  | .int i, x => x = .int i
  | .str n, x => ∃ z, G.txts[n]? = some z ∧ x = .str z
  | .tup vs, x => ∃ a xs, x = .ref a ∧ H a = some (.tup xs) ∧ Out B A a ∧ xs.length ≤ sizeLine ∧ RVs G B A H vs xs
  | .lst c vs, x => ∃ a xs, x = .ref a ∧ LstOk G B A H c a xs ∧ xs.length ≤ sizeLine ∧ RVs G B A H vs xs
  | .dct c ks vs, x => ∃ a kvs, x = .ref a ∧ Still B A H c a (.dK kvs) ∧ kvs.length ≤ sizeLine ∧ RKeys G ks (kvs.map (·.1)) ∧ RVs G B A H vs (kvs.map (·.2))
  | .obj c k fs vs, x => ∃ a C dx fv, x = .ref a ∧ G.cls k = some C ∧ Still B A H c a (.ins C dx fv) ∧ RFs G fs (fv.map (·.1)) ∧ RVs G B A H vs (fv.map (·.2))
  | .ref i, x => ∃ a, x = .ref a ∧ A[i]? = some a
  | .err _, _ => False
  | .clo _ _, _ => False
def RVs (G : Sg) (B : Bor) (A : List Addr) (H : Hp) : List Val → List V → Prop
  | [], xs => xs = []
  | v :: vs, xs => ∃ y ys, xs = y :: ys ∧ RV G B A H v y ∧ RVs G B A H vs ys
end
/-- an object of ours -/
def RO (G : Sg) (B : Bor) (A : List Addr) (H : Hp) : Ob → Addr → Prop
  | .lst vs, a => ∃ xs, H a = some (.lst xs) ∧ xs.length ≤ sizeLine ∧ RVs G B A H vs xs
  | .dct ks vs, a => ∃ kvs, H a = some (.dK kvs) ∧ kvs.length ≤ sizeLine ∧ RKeys G ks (kvs.map (·.1)) ∧ RVs G B A H vs (kvs.map (·.2))
  | .ins k fs vs, a => ∃ C dx fv, H a = some (.ins C dx fv) ∧ G.cls k = some C ∧ RFs G fs (fv.map (·.1)) ∧ RVs G B A H vs (fv.map (·.2))
structure Fits (G : Sg) (B : Bor) (A : List Addr) (h : Hm) (H : Hp) : Prop where
  len : A.length = h.length
  nd : A.Nodup
  ob : ∀ (i : Nat) (o : Ob) (a : Addr), h[i]? = some o → A[i]? = some a → RO G B A H o a
  bt : ∀ a, B.b a → H a ≠ none
  bx : ∀ a, B.x a → a ∉ A ∧ ∃ xs, H a = some (.lst xs)
/-- what may come behind: ours may change, new ones may come -/
structure Next (A : List Addr) (H : Hp) (A' : List Addr) (H' : Hp) : Prop where
  pre : ∃ new, A' = A ++ new ∧ ∀ a ∈ new, H a = none
  keep : ∀ a o, H a = some o → a ∉ A → H' a = some o
  still : ∀ a o, H a = some o → ∃ o', H' a = some o'
/-- the names -/
def RE (G : Sg) (B : Bor) (A : List Addr) (H : Hp) (e : En) (σ : L2.St) : Prop :=
  e.length = σ.length ∧ ∀ (i : Nat) (v : Val), e[i]? = some (some v) → ∃ x, σ[i]? = some (some x) ∧ RV G B A H v x

section
variable {G : Sg} {B : Bor} {A A' A'' : List Addr} {H H' H'' : Hp} {h : Hm}
theorem Next.refl : Next A H A H := ⟨⟨[], by simp, fun _ z => by cases z⟩, fun _ _ e _ => e, fun _ o e => ⟨o, e⟩⟩
theorem Next.mem (n : Next A H A' H') {a : Addr} (m : a ∈ A) : a ∈ A' := by
  obtain ⟨new, e, _⟩ := n.pre
  rw [e]
  exact List.mem_append_left _ m
theorem Next.nmem (n : Next A H A' H') {a : Addr} {o : HO} (e : H a = some o) (m : a ∉ A) : a ∉ A' := by
  obtain ⟨new, e1, f⟩ := n.pre
  rw [e1]
  intro z
  rcases List.mem_append.mp z with z | z
  · exact m z
  · rw [f a z] at e
    cases e
theorem Next.free (n : Next A H A' H') {a : Addr} (e : H' a = none) : H a = none := by
  cases q : H a with
  | none => rfl
  | some o =>
    obtain ⟨o', e'⟩ := n.still a o q
    rw [e] at e'
    cases e'
theorem Next.trans (n : Next A H A' H') (m : Next A' H' A'' H'') : Next A H A'' H'' := by
  obtain ⟨n1, e1, f1⟩ := id n.pre
  obtain ⟨n2, e2, f2⟩ := id m.pre
  refine ⟨⟨n1 ++ n2, by rw [e2, e1, List.append_assoc], fun a q => ?_⟩, fun a o q z => m.keep a o (n.keep a o q z) (n.nmem q z), fun a o q => ?_⟩
  · rcases List.mem_append.mp q with q | q
    · exact f1 a q
    · exact n.free (f2 a q)
  · obtain ⟨o1, q1⟩ := n.still a o q
    exact m.still a o1 q1
theorem Next.get (n : Next A H A' H') {i : Nat} {a : Addr} (e : A[i]? = some a) : A'[i]? = some a := by
  obtain ⟨new, e1, _⟩ := n.pre
  rw [e1, List.getElem?_append_left (List.getElem?_eq_some_iff.mp e).1]
  exact e
theorem Still.mono {c : Fz} {a : Addr} {o : HO} (s : Still B A H c a o) (n : Next A H A' H') : Still B A' H' c a o :=
  ⟨s.1, n.keep a o s.2.1 s.2.2.1.1, ⟨n.nmem s.2.1 s.2.2.1.1, s.2.2.1.2⟩, s.2.2.2⟩
theorem LstOk.mono {c : Fz} {a : Addr} {xs : List V} (s : LstOk G B A H c a xs) (n : Next A H A' H') : LstOk G B A' H' c a xs := by
  cases c with
  | scr =>
    rcases s with ⟨o, e, m⟩ | k
    · exact .inl ⟨o, n.keep _ _ e m.1, n.nmem e m.1, m.2⟩
    · exact .inr k
  | own => exact Still.mono s n
  | bor => exact Still.mono s n
theorem LstOk.sq {c : Fz} {a : Addr} {xs : List V} (s : LstOk G B A H c a xs) : SqL G.K H a xs := by
  cases c with
  | scr =>
    rcases s with ⟨o, e, m⟩ | k
    · exact .inl (.inr ⟨o, e⟩)
    · exact .inr k
  | own => exact .inl (.inl s.2.1)
  | bor => exact .inl (.inl s.2.1)
mutual
theorem RV.mono (n : Next A H A' H') : ∀ (v : Val) {x : V}, RV G B A H v x → RV G B A' H' v x
  | .non, _, r => r
  | .bl _, _, r => r
  | .int _, _, r => r
  | .str _, _, r => r
  | .tup vs, x, r => by
    unfold RV at r ⊢
    obtain ⟨a, xs, e, q, m, z, r⟩ := r
    exact ⟨a, xs, e, n.keep _ _ q m.1, ⟨n.nmem q m.1, m.2⟩, z, RVs.mono n vs r⟩
  | .lst c vs, x, r => by
    unfold RV at r ⊢
    obtain ⟨a, xs, e, q, z, r⟩ := r
    exact ⟨a, xs, e, q.mono n, z, RVs.mono n vs r⟩
  | .dct c ks vs, x, r => by
    unfold RV at r ⊢
    obtain ⟨a, kvs, e, q, z, k, r⟩ := r
    exact ⟨a, kvs, e, q.mono n, z, k, RVs.mono n vs r⟩
  | .obj c k fs vs, x, r => by
    unfold RV at r ⊢
    obtain ⟨a, C, dx, fv, e, ec, q, f, r⟩ := r
    exact ⟨a, C, dx, fv, e, ec, q.mono n, f, RVs.mono n vs r⟩
  | .ref i, x, r => by
    unfold RV at r ⊢
    obtain ⟨a, e, q⟩ := r
    exact ⟨a, e, n.get q⟩
  | .err _, _, r => by
    unfold RV at r
    exact r.elim
  | .clo _ _, _, r => by
    unfold RV at r
    exact r.elim
theorem RVs.mono (n : Next A H A' H') : ∀ (vs : List Val) {xs : List V}, RVs G B A H vs xs → RVs G B A' H' vs xs
  | [], _, r => r
  | v :: vs, xs, r => by
    unfold RVs at r ⊢
    obtain ⟨y, ys, e, r1, r2⟩ := r
    exact ⟨y, ys, e, RV.mono n v r1, RVs.mono n vs r2⟩
end
theorem RE.mono {e : En} {σ : L2.St} (r : RE G B A H e σ) (n : Next A H A' H') : RE G B A' H' e σ :=
  ⟨r.1, fun i v q => by
    obtain ⟨x, q1, q2⟩ := r.2 i v q
    exact ⟨x, q1, RV.mono n v q2⟩⟩
theorem RO.mono {o : Ob} {a : Addr} (n : Next A H A' H') (k : ∀ u, H a = some u → H' a = some u) (r : RO G B A H o a) : RO G B A' H' o a := by
  cases o with
  | lst vs =>
    obtain ⟨xs, e, z, r⟩ := r
    exact ⟨xs, k _ e, z, RVs.mono n vs r⟩
  | dct ks vs =>
    obtain ⟨kvs, e, z, kk, r⟩ := r
    exact ⟨kvs, k _ e, z, kk, RVs.mono n vs r⟩
  | ins c fs vs =>
    obtain ⟨C, dx, fv, e, ec, f, r⟩ := r
    exact ⟨C, dx, fv, k _ e, ec, f, RVs.mono n vs r⟩
theorem RO.there {o : Ob} {a : Addr} (r : RO G B A H o a) : ∃ u, H a = some u := by
  cases o with
  | lst vs => obtain ⟨xs, e, _⟩ := r; exact ⟨_, e⟩
  | dct ks vs => obtain ⟨kvs, e, _⟩ := r; exact ⟨_, e⟩
  | ins c fs vs => obtain ⟨C, dx, fv, e, _⟩ := r; exact ⟨_, e⟩
theorem Fits.there (F : Fits G B A h H) {a : Addr} (m : a ∈ A) : ∃ u, H a = some u := by
  obtain ⟨i, hi, e⟩ := List.getElem_of_mem m
  have hi' : i < h.length := by rw [← F.len]; exact hi
  exact (F.ob i h[i] a (List.getElem?_eq_getElem hi') (by rw [List.getElem?_eq_getElem hi, e])).there
/-- a fresh address is none of ours -/
theorem Fits.new (F : Fits G B A h H) {p : Addr} (e : H p = none) : Out B A p := by
  refine ⟨fun m => ?_, fun m => ?_⟩
  · obtain ⟨u, q⟩ := F.there m
    rw [e] at q
    cases q
  · obtain ⟨_, _, q⟩ := F.bx p m
    rw [e] at q
    cases q
theorem Fits.newB (F : Fits G B A h H) {p : Addr} (e : H p = none) : ¬ B.b p := fun m => F.bt p m e
/-- something new that is none of ours -/
theorem next_new {p : Addr} {o : HO} (e : H p = none) : Next A H A (upd H p o) :=
  ⟨⟨[], by simp, fun _ z => by cases z⟩, fun a u q _ => by rw [upd_ne (ne_of_none q e)]; exact q, fun a u q => ⟨u, by rw [upd_ne (ne_of_none q e)]; exact q⟩⟩
theorem Fits.step (F : Fits G B A h H) (n : Next A H A H') (k : ∀ a ∈ A, ∀ u, H a = some u → H' a = some u) : Fits G B A h H' :=
  ⟨F.len, F.nd, fun i o a e1 e2 => RO.mono n (k a (List.mem_of_getElem? e2)) (F.ob i o a e1 e2), fun a b => by
    cases q : H a with
    | none => exact absurd q (F.bt a b)
    | some u =>
      obtain ⟨u', q'⟩ := n.still a u q
      rw [q']
      simp, fun a b => by
    obtain ⟨m, xs, q⟩ := F.bx a b
    exact ⟨m, xs, n.keep _ _ q m⟩⟩
theorem Fits.other (F : Fits G B A h H) {p : Addr} {o : HO} (e : H p = none) : Fits G B A h (upd H p o) :=
  F.step (next_new e) fun a _ u q => by rw [upd_ne (ne_of_none q e)]; exact q
/-- a new one of ours -/
theorem next_mine {p : Addr} {o : HO} (e : H p = none) : Next A H (A ++ [p]) (upd H p o) :=
  ⟨⟨[p], rfl, fun a z => by rw [List.mem_singleton.mp z]; exact e⟩, fun a u q _ => by rw [upd_ne (ne_of_none q e)]; exact q, fun a u q => ⟨u, by rw [upd_ne (ne_of_none q e)]; exact q⟩⟩
theorem Fits.push (F : Fits G B A h H) {p : Addr} {o : HO} {b : Ob} (e : H p = none) (r : RO G B (A ++ [p]) (upd H p o) b p) : Fits G B (A ++ [p]) (h ++ [b]) (upd H p o) := by
  have hn : p ∉ A := (F.new e).1
  refine ⟨by simp [F.len], ?_, fun i u a e1 e2 => ?_, fun a b => ?_, fun a b => ?_⟩
  · rw [List.nodup_append]
    refine ⟨F.nd, by simp, fun x hx y hy => ?_⟩
    rw [List.mem_singleton.mp hy]
    intro z
    exact hn (z ▸ hx)
  · by_cases hi : i < h.length
    · rw [List.getElem?_append_left hi] at e1
      rw [List.getElem?_append_left (by rw [F.len]; exact hi)] at e2
      exact RO.mono (next_mine e) (fun u q => by rw [upd_ne (ne_of_none q e)]; exact q) (F.ob i u a e1 e2)
    · rw [List.getElem?_append_right (by omega)] at e1
      rw [List.getElem?_append_right (by rw [F.len]; omega)] at e2
      have e3 : i - A.length = i - h.length := by rw [F.len]
      rw [e3] at e2
      cases hj : i - h.length with
      | zero =>
        rw [hj] at e1 e2
        simp at e1 e2
        subst e1 e2
        exact r
      | succ j =>
        rw [hj] at e1
        simp at e1
  · by_cases z : a = p
    · rw [z, upd_same]
      simp
    · rw [upd_ne z]
      exact F.bt a b
  · obtain ⟨m, xs, q⟩ := F.bx a b
    have z : a ≠ p := ne_of_none q e
    refine ⟨fun k => ?_, xs, by rw [upd_ne z]; exact q⟩
    rcases List.mem_append.mp k with k | k
    · exact m k
    · exact z (List.mem_singleton.mp k)
/-- one of ours changed -/
theorem next_set {p : Addr} {o u : HO} (m : p ∈ A) (e : H p = some u) : Next A H A (upd H p o) :=
  ⟨⟨[], by simp, fun _ z => by cases z⟩, fun a w q z => by
    rw [upd_ne]
    · exact q
    · intro k
      subst k
      exact z m, fun a w q => by
    by_cases k : a = p
    · exact ⟨o, by rw [k, upd_same]⟩
    · exact ⟨w, by rw [upd_ne k]; exact q⟩⟩
theorem Fits.set (F : Fits G B A h H) {i : Nat} {p : Addr} {o : HO} {b : Ob} (e : A[i]? = some p) (r : RO G B A (upd H p o) b p) : Fits G B A (h.set i b) (upd H p o) := by
  have m : p ∈ A := List.mem_of_getElem? e
  obtain ⟨u, q⟩ := F.there m
  have hiA := (List.getElem?_eq_some_iff.mp e).1
  refine ⟨by rw [List.length_set]; exact F.len, F.nd, fun j w a e1 e2 => ?_, fun a b => ?_, fun a b => ?_⟩
  · by_cases k : j = i
    · subst k
      have ea : a = p := Option.some.inj (e2.symm.trans e)
      subst ea
      rw [List.getElem?_set_self (by rw [← F.len]; exact hiA)] at e1
      cases e1
      exact r
    · rw [List.getElem?_set_ne (Ne.symm k)] at e1
      refine RO.mono (next_set m q) (fun u q => ?_) (F.ob j w a e1 e2)
      rw [upd_ne]
      · exact q
      · intro z
        subst z
        exact k ((List.getElem?_inj hiA F.nd).mp (e.trans e2.symm)).symm
  · by_cases z : a = p
    · rw [z, upd_same]
      simp
    · rw [upd_ne z]
      exact F.bt a b
  · obtain ⟨k, xs, q⟩ := F.bx a b
    have z : a ≠ p := fun z => k (by rw [z]; exact m)
    exact ⟨k, xs, by rw [upd_ne z]; exact q⟩

theorem RVs.length : ∀ {vs : List Val} {xs : List V}, RVs G B A H vs xs → vs.length = xs.length
  | [], _, r => by
    unfold RVs at r
    rw [r]
    rfl
  | v :: vs, xs, r => by
    unfold RVs at r
    obtain ⟨y, ys, e, _, r2⟩ := r
    rw [e, List.length_cons, List.length_cons, RVs.length r2]
theorem RVs.get : ∀ {vs : List Val} {xs : List V} {i : Nat} {v : Val}, RVs G B A H vs xs → vs[i]? = some v → ∃ x, xs[i]? = some x ∧ RV G B A H v x
  | [], _, _, _, _, e => by simp at e
  | w :: vs, xs, i, v, r, e => by
    unfold RVs at r
    obtain ⟨y, ys, e1, r1, r2⟩ := r
    subst e1
    cases i with
    | zero =>
      simp at e
      subst e
      exact ⟨y, by simp, r1⟩
    | succ i =>
      simp at e
      obtain ⟨x, h1, h2⟩ := RVs.get r2 e
      exact ⟨x, by simpa using h1, h2⟩
theorem RVs.back : ∀ {vs : List Val} {xs : List V} {i : Nat} {x : V}, RVs G B A H vs xs → xs[i]? = some x → ∃ v, vs[i]? = some v ∧ RV G B A H v x
  | [], _, _, _, r, e => by
    unfold RVs at r
    rw [r] at e
    simp at e
  | w :: vs, xs, i, x, r, e => by
    unfold RVs at r
    obtain ⟨y, ys, e1, r1, r2⟩ := r
    subst e1
    cases i with
    | zero =>
      simp at e
      subst e
      exact ⟨w, by simp, r1⟩
    | succ i =>
      simp at e
      obtain ⟨v, h1, h2⟩ := RVs.back r2 e
      exact ⟨v, by simpa using h1, h2⟩
theorem RVs.append : ∀ {vs ws : List Val} {xs ys : List V}, RVs G B A H vs xs → RVs G B A H ws ys → RVs G B A H (vs ++ ws) (xs ++ ys)
  | [], _, _, _, r, q => by
    unfold RVs at r
    rw [r]
    exact q
  | v :: vs, ws, xs, ys, r, q => by
    unfold RVs at r
    obtain ⟨y, zs, e, r1, r2⟩ := r
    subst e
    show RVs G B A H (v :: (vs ++ ws)) (y :: (zs ++ ys))
    unfold RVs
    exact ⟨y, _, rfl, r1, RVs.append r2 q⟩
theorem RVs.one {v : Val} {x : V} (r : RV G B A H v x) : RVs G B A H [v] [x] := by
  unfold RVs
  exact ⟨x, [], rfl, r, by unfold RVs; rfl⟩
theorem RVs.nil : RVs G B A H [] [] := by unfold RVs; rfl
theorem RVs.cons {v : Val} {vs : List Val} {x : V} {xs : List V} (r : RV G B A H v x) (q : RVs G B A H vs xs) : RVs G B A H (v :: vs) (x :: xs) := by
  unfold RVs
  exact ⟨x, xs, rfl, r, q⟩
theorem RVs.uncons {v : Val} {vs : List Val} {xs : List V} (r : RVs G B A H (v :: vs) xs) : ∃ y ys, xs = y :: ys ∧ RV G B A H v y ∧ RVs G B A H vs ys := by
  unfold RVs at r
  exact r
theorem RVs.ofnil {xs : List V} (r : RVs G B A H [] xs) : xs = [] := by
  unfold RVs at r
  exact r
theorem RVs.take : ∀ (n : Nat) {vs : List Val} {xs : List V}, RVs G B A H vs xs → RVs G B A H (vs.take n) (xs.take n)
  | 0, _, _, _ => by simp; exact RVs.nil
  | n + 1, [], xs, r => by
    rw [r.ofnil]
    simp
    exact RVs.nil
  | n + 1, v :: vs, xs, r => by
    obtain ⟨y, ys, e, r1, r2⟩ := r.uncons
    subst e
    simp
    exact .cons r1 (RVs.take n r2)
theorem RVs.drop : ∀ (n : Nat) {vs : List Val} {xs : List V}, RVs G B A H vs xs → RVs G B A H (vs.drop n) (xs.drop n)
  | 0, _, _, r => by simpa using r
  | n + 1, [], xs, r => by
    rw [r.ofnil]
    simp
    exact RVs.nil
  | n + 1, v :: vs, xs, r => by
    obtain ⟨y, ys, e, r1, r2⟩ := r.uncons
    subst e
    simpa using RVs.drop n r2
theorem RVs.reverse : ∀ {vs : List Val} {xs : List V}, RVs G B A H vs xs → RVs G B A H vs.reverse xs.reverse
  | [], xs, r => by
    rw [r.ofnil]
    simp
    exact RVs.nil
  | v :: vs, xs, r => by
    obtain ⟨y, ys, e, r1, r2⟩ := r.uncons
    subst e
    rw [List.reverse_cons, List.reverse_cons]
    exact (RVs.reverse r2).append (.one r1)
theorem RVs.set : ∀ (n : Nat) {vs : List Val} {xs : List V} {v : Val} {x : V}, RVs G B A H vs xs → RV G B A H v x → RVs G B A H (vs.set n v) (xs.set n x)
  | n, [], xs, _, _, r, _ => by
    rw [r.ofnil]
    simp
    exact RVs.nil
  | 0, w :: vs, xs, v, x, r, q => by
    obtain ⟨y, ys, e, r1, r2⟩ := r.uncons
    subst e
    simp
    exact .cons q r2
  | n + 1, w :: vs, xs, v, x, r, q => by
    obtain ⟨y, ys, e, r1, r2⟩ := r.uncons
    subst e
    simp
    exact .cons r1 (RVs.set n r2 q)
theorem RVs.dropLast {vs : List Val} {xs : List V} (r : RVs G B A H vs xs) : RVs G B A H vs.dropLast xs.dropLast := by
  rw [List.dropLast_eq_take, List.dropLast_eq_take, r.length]
  exact r.take _
theorem RVs.rep {vs : List Val} {xs : List V} (r : RVs G B A H vs xs) : ∀ n, RVs G B A H (repL n vs) (List.replicate n xs).flatten
  | 0 => by
    unfold repL
    simp
    exact RVs.nil
  | n + 1 => by
    unfold repL
    rw [List.replicate_succ, List.flatten_cons]
    exact r.append (RVs.rep r n)
theorem RVs.ints : ∀ {vs : List Val} {is : List Int} {xs : List V}, RVs G B A H vs xs → intsOf vs = some is → xs = is.map V.int
  | [], is, xs, r, e => by
    unfold intsOf at e
    cases e
    rw [r.ofnil]
    rfl
  | v :: vs, is, xs, r, e => by
    obtain ⟨y, ys, e1, r1, r2⟩ := r.uncons
    cases v <;> simp [intsOf] at e
    rename_i i
    cases q : intsOf vs with
    | none => rw [q] at e; simp at e
    | some is' =>
      rw [q] at e
      simp at e
      subst e
      unfold RV at r1
      rw [e1, r1, RVs.ints r2 q]
      rfl
theorem RVs.bls : ∀ {vs : List Val} {bs : List Bool} {xs : List V}, RVs G B A H vs xs → blsOf vs = some bs → xs = bs.map V.bl
  | [], is, xs, r, e => by
    unfold blsOf at e
    cases e
    rw [r.ofnil]
    rfl
  | v :: vs, is, xs, r, e => by
    obtain ⟨y, ys, e1, r1, r2⟩ := r.uncons
    cases v <;> simp [blsOf] at e
    rename_i i
    cases q : blsOf vs with
    | none => rw [q] at e; simp at e
    | some is' =>
      rw [q] at e
      simp at e
      subst e
      unfold RV at r1
      rw [e1, r1, RVs.bls r2 q]
      rfl
theorem RVs.ofInts : ∀ (is : List Int), RVs G B A H (is.map Val.int) (is.map V.int)
  | [] => RVs.nil
  | i :: is => .cons (by unfold RV; rfl) (RVs.ofInts is)
abbrev Rl (α β : Type) := List Addr → Hp → α → β → Prop
def Post {α β : Type} (G : Sg) (B : Bor) (W : WX) (σ : L2.St) (rl : Rl α β) (A : List Addr) (H : Hp) (r : R α) (k : α → β → Hm → List Addr → Hp → Prop) : Prop := match r with
  | .ok v h' => ∀ A' H' x, Fits G B A' h' H' → Next A H A' H' → rl A' H' v x → k v x h' A' H'
  | .exc c h' => ∀ A' H' C, Fits G B A' h' H' → Next A H A' H' → G.exc c = some C → W (.ref C) none σ H'
  | .bad => False
variable {α β γ δ : Type} {W : WX} {σ : L2.St} {rl : Rl α β} {rl' : Rl γ δ} {r : R α} {k k' : α → β → Hm → List Addr → Hp → Prop}
theorem Post.shift (p : Post G B W σ rl A H r k) (n : Next A H A' H') : Post G B W σ rl A' H' r k := by
  cases r with
  | ok v h' => exact fun A2 H2 x f m q => p A2 H2 x f (n.trans m) q
  | exc c h' => exact fun A2 H2 C f m q => p A2 H2 C f (n.trans m) q
  | bad => exact p
theorem Post.bind {f : α → Hm → R γ} {k : γ → δ → Hm → List Addr → Hp → Prop} (p : Post G B W σ rl' A H (r.bind f) k) :
    Post G B W σ rl A H r fun v _ h' A' H' => Post G B W σ rl' A' H' (f v h') k := by
  cases r with
  | ok v h' => exact fun A' H' x _ m _ => Post.shift (r := f v h') p m
  | exc c h' => exact p
  | bad => exact p
theorem Post.imp (p : Post G B W σ rl A H r k) (i : ∀ v x h' A' H', Fits G B A' h' H' → Next A H A' H' → rl A' H' v x → k v x h' A' H' → k' v x h' A' H') : Post G B W σ rl A H r k' := by
  cases r with
  | ok v h' => exact fun A' H' x f m q => i v x h' A' H' f m q (p A' H' x f m q)
  | exc c h' => exact p
  | bad => exact p
end
abbrev RVr (G : Sg) (B : Bor) : Rl Val V := fun A H v x => RV G B A H v x
abbrev RVsr (G : Sg) (B : Bor) : Rl (List Val) (List V) := fun A H v x => RVs G B A H v x
end MP
set_option Elab.async false
set_option linter.all false
set_option maxRecDepth 100000
set_option autoImplicit false
namespace MP
open PySem PySem.Spec PyProof.Rows L2
section
variable {G : Sg} {B B' : Bor} {A A' : List Addr} {H H' : Hp} {h h' : Hm}
/-- lent: B and all of ours stand still while the callee runs -/
abbrev lent (B : Bor) (A : List Addr) : Bor := ⟨fun a => B.b a ∨ a ∈ A, B.x⟩
theorem Still.lend {c : Fz} {a : Addr} {o : HO} (s : Still B A H c a o) : Still (lent B A) [] H c a o :=
  ⟨s.1, s.2.1, ⟨by simp, s.2.2.1.2⟩, fun e z => z.elim (s.2.2.2 e) s.2.2.1.1⟩
mutual
theorem deep_snap {lk : Nat → Option Val} (hlk : ∀ i w x, lk i = some w → RV G B A H (.ref i) x → RV G (lent B A) [] H w x) : ∀ (v : Val) {w : Val} {x : V}, deep lk v = some w → RV G B A H v x → RV G (lent B A) [] H w x
  | .non, w, x, e, r => by
    simp only [deep, Option.some.injEq] at e
    subst e
    exact r
  | .bl _, w, x, e, r => by
    simp only [deep, Option.some.injEq] at e
    subst e
    exact r
  | .int _, w, x, e, r => by
    simp only [deep, Option.some.injEq] at e
    subst e
    exact r
  | .str _, w, x, e, r => by
    simp only [deep, Option.some.injEq] at e
    subst e
    exact r
  | .err _, w, x, e, r => by
    unfold RV at r
    exact r.elim
  | .clo _ _, w, x, e, r => by
    unfold RV at r
    exact r.elim
  | .ref i, w, x, e, r => by
    simp only [deep] at e
    exact hlk i w x e r
  | .tup vs, w, x, e, r => by
    simp only [deep] at e
    split at e
    · rename_i ws q
      cases e
      unfold RV at r ⊢
      obtain ⟨a, xs, e1, e2, m, z, r⟩ := r
      exact ⟨a, xs, e1, e2, ⟨by simp, m.2⟩, z, deepL_snap hlk vs q r⟩
    · cases e
  | .lst c vs, w, x, e, r => by
    simp only [deep] at e
    split at e
    · rename_i ws q
      cases e
      unfold RV at r ⊢
      obtain ⟨a, xs, e1, e2, z, r⟩ := r
      refine ⟨a, xs, e1, ?_, z, deepL_snap hlk vs q r⟩
      cases c with
      | scr =>
        rcases e2 with ⟨o, e2, m⟩ | k
        · exact .inl ⟨o, e2, by simp, m.2⟩
        · exact .inr k
      | own => exact Still.lend e2
      | bor => exact Still.lend e2
    · cases e
  | .dct c ks vs, w, x, e, r => by
    simp only [deep] at e
    split at e
    · rename_i ws q
      cases e
      unfold RV at r ⊢
      obtain ⟨a, kvs, e1, e2, z, k, r⟩ := r
      exact ⟨a, kvs, e1, e2.lend, z, k, deepL_snap hlk vs q r⟩
    · cases e
  | .obj c k fs vs, w, x, e, r => by
    simp only [deep] at e
    split at e
    · rename_i ws q
      cases e
      unfold RV at r ⊢
      obtain ⟨a, C, dx, fv, e1, ec, e2, f, r⟩ := r
      exact ⟨a, C, dx, fv, e1, ec, e2.lend, f, deepL_snap hlk vs q r⟩
    · cases e
theorem deepL_snap {lk : Nat → Option Val} (hlk : ∀ i w x, lk i = some w → RV G B A H (.ref i) x → RV G (lent B A) [] H w x) : ∀ (vs : List Val) {ws : List Val} {xs : List V}, deepL lk vs = some ws → RVs G B A H vs xs → RVs G (lent B A) [] H ws xs
  | [], ws, xs, e, r => by
    simp only [deepL, Option.some.injEq] at e
    subst e
    rw [r.ofnil]
    exact RVs.nil
  | v :: vs, ws, xs, e, r => by
    simp only [deepL] at e
    split at e
    · rename_i w q1
      split at e
      · rename_i ws' q2
        cases e
        obtain ⟨y, ys, e1, r1, r2⟩ := r.uncons
        subst e1
        exact .cons (deep_snap hlk v q1 r1) (deepL_snap hlk vs q2 r2)
      · cases e
    · cases e
end
theorem follow_snap (F : Fits G B A h H) : ∀ (n i : Nat) (w : Val) (x : V), follow n .bor h i = some w → RV G B A H (.ref i) x → RV G (lent B A) [] H w x
  | 0, _, _, _, e, _ => by
    unfold follow at e
    cases e
  | n + 1, i, w, x, e, r => by
    unfold follow at e
    unfold RV at r
    obtain ⟨a, rfl, ea⟩ := r
    have st : ∀ {o : HO}, H a = some o → Still (lent B A) [] H .bor a o := fun {o} q => ⟨by decide, q, ⟨by simp, fun z => (F.bx a z).1 (List.mem_of_getElem? ea)⟩, fun z => by cases z⟩
    cases eo : h[i]? with
    | none => rw [eo] at e; cases e
    | some o =>
      have ro := F.ob i o a eo ea
      rw [eo] at e
      cases o with
      | lst vs =>
        obtain ⟨xs, q, z, r⟩ := ro
        simp only at e
        split at e
        · rename_i ws q1
          cases e
          unfold RV
          exact ⟨a, xs, rfl, st q, z, deepL_snap (follow_snap F n) vs q1 r⟩
        · cases e
      | dct ks vs =>
        obtain ⟨kvs, q, z, k, r⟩ := ro
        simp only at e
        split at e
        · rename_i ws q1
          cases e
          unfold RV
          exact ⟨a, kvs, rfl, st q, z, k, deepL_snap (follow_snap F n) vs q1 r⟩
        · cases e
      | ins c fs vs =>
        obtain ⟨C, dx, fv, q, ec, f, r⟩ := ro
        simp only at e
        split at e
        · rename_i ws q1
          cases e
          unfold RV
          exact ⟨a, C, dx, fv, rfl, ec, st q, f, deepL_snap (follow_snap F n) vs q1 r⟩
        · cases e
theorem snap_ok (F : Fits G B A h H) {v w : Val} {x : V} (e : snap h v = some w) (r : RV G B A H v x) : RV G (lent B A) [] H w x := deep_snap (follow_snap F 9) v e r
theorem snapL_ok (F : Fits G B A h H) {v w : List Val} {x : List V} (e : snapL h v = some w) (r : RVs G B A H v x) : RVs G (lent B A) [] H w x := deepL_snap (follow_snap F 9) v e r

/-- A: the caller's; A', h': the callee's, that began with nothing; B1: what the caller knows then; Ex: what is not followed -/
structure Back (G : Sg) (B B1 : Bor) (A : List Addr) (A' : List Addr) (h' : Hm) (H' : Hp) (Ex : Addr → Prop) : Prop where
  F' : Fits G (lent B A) A' h' H'
  apart : ∀ a ∈ A', ¬ Ex a → Out B1 A a ∧ ¬ B1.b a
  st : ∀ (c : Fz) (a : Addr) (o : HO), c ≠ .bor → Still (lent B A) A' H' c a o → Still B1 A H' c a o
  tup : ∀ (a : Addr) (xs : List V), H' a = some (.tup xs) → Out B1 A a
  frz : ∀ (a : Addr) (ob : Obj) (u : HO), H' a = some (.frz ob u) → Out B1 A a
theorem still_back {c : Fz} {a : Addr} {o : HO} (nb : c ≠ .bor) (s : Still (lent B A) A' H' c a o) : Still B A H' c a o := by
  cases c with
  | scr => exact absurd rfl s.1
  | bor => exact absurd rfl nb
  | own => exact ⟨by decide, s.2.1, ⟨fun m => s.2.2.2 rfl (.inr m), s.2.2.1.2⟩, fun _ m => s.2.2.2 rfl (.inl m)⟩
theorem Fits.kind (F : Fits G B A h H) {a : Addr} (m : a ∈ A) : (∃ xs, H a = some (.lst xs)) ∨ (∃ kvs, H a = some (.dK kvs)) ∨ ∃ C dx fv, H a = some (.ins C dx fv) := by
  obtain ⟨i, hi, e⟩ := List.getElem_of_mem m
  have hi' : i < h.length := by rw [← F.len]; exact hi
  have ro := F.ob i h[i] a (List.getElem?_eq_getElem hi') (by rw [List.getElem?_eq_getElem hi, e])
  cases q : h[i] with
  | lst vs => rw [q] at ro; obtain ⟨xs, e, _⟩ := ro; exact .inl ⟨_, e⟩
  | dct ks vs => rw [q] at ro; obtain ⟨xs, e, _⟩ := ro; exact .inr (.inl ⟨_, e⟩)
  | ins c fs vs => rw [q] at ro; obtain ⟨C, dx, fv, e, _⟩ := ro; exact .inr (.inr ⟨C, dx, fv, e⟩)
theorem Fits.notup (F : Fits G B A h H) {a : Addr} {xs : List V} (e : H a = some (.tup xs)) : Out B A a := by
  refine ⟨fun m => ?_, fun m => ?_⟩
  · rcases F.kind m with ⟨_, q⟩ | ⟨_, q⟩ | ⟨_, _, _, q⟩ <;> (rw [e] at q; cases q)
  · obtain ⟨_, _, q⟩ := F.bx a m
    rw [e] at q
    cases q
theorem Fits.nofrz (F : Fits G B A h H) {a : Addr} {ob : Obj} {u : HO} (e : H a = some (.frz ob u)) : Out B A a := by
  refine ⟨fun m => ?_, fun m => ?_⟩
  · rcases F.kind m with ⟨_, q⟩ | ⟨_, q⟩ | ⟨_, _, _, q⟩ <;> (rw [e] at q; cases q)
  · obtain ⟨_, _, q⟩ := F.bx a m
    rw [e] at q
    cases q
mutual
theorem deep_froz {B1 : Bor} {Ex : Addr → Prop} (K : Back G B B1 A A' h' H' Ex) {lk : Nat → Option Val} (hlk : ∀ i w x, lk i = some w → clean w = true → RV G (lent B A) A' H' (.ref i) x → RV G B1 A H' w x) : ∀ (v : Val) {w : Val} {x : V}, deep lk v = some w → clean w = true → RV G (lent B A) A' H' v x → RV G B1 A H' w x
  | .non, w, x, e, _, r => by
    simp only [deep, Option.some.injEq] at e
    subst e
    exact r
  | .bl _, w, x, e, _, r => by
    simp only [deep, Option.some.injEq] at e
    subst e
    exact r
  | .int _, w, x, e, _, r => by
    simp only [deep, Option.some.injEq] at e
    subst e
    exact r
  | .str _, w, x, e, _, r => by
    simp only [deep, Option.some.injEq] at e
    subst e
    exact r
  | .err _, w, x, e, _, r => by
    unfold RV at r
    exact r.elim
  | .clo _ _, w, x, e, _, r => by
    unfold RV at r
    exact r.elim
  | .ref i, w, x, e, c, r => by
    simp only [deep] at e
    exact hlk i w x e c r
  | .tup vs, w, x, e, c, r => by
    simp only [deep] at e
    split at e
    · rename_i ws q
      cases e
      unfold clean at c
      unfold RV at r ⊢
      obtain ⟨a, xs, e1, e2, m, z, r⟩ := r
      exact ⟨a, xs, e1, e2, K.tup _ _ e2, z, deepL_froz K hlk vs q c r⟩
    · cases e
  | .lst c vs, w, x, e, cl, r => by
    simp only [deep] at e
    split at e
    · rename_i ws q
      cases e
      unfold clean at cl
      rw [Bool.and_eq_true, decide_eq_true_eq] at cl
      unfold RV at r ⊢
      obtain ⟨a, xs, e1, e2, z, r⟩ := r
      refine ⟨a, xs, e1, ?_, z, deepL_froz K hlk vs q cl.2 r⟩
      cases c with
      | scr =>
        rcases e2 with ⟨o, e2, m⟩ | k
        · exact .inl ⟨o, e2, K.frz _ _ _ e2⟩
        · exact .inr k
      | own => exact K.st _ _ _ cl.1 e2
      | bor => exact absurd rfl cl.1
    · cases e
  | .dct c ks vs, w, x, e, cl, r => by
    simp only [deep] at e
    split at e
    · rename_i ws q
      cases e
      unfold clean at cl
      rw [Bool.and_eq_true, decide_eq_true_eq] at cl
      unfold RV at r ⊢
      obtain ⟨a, kvs, e1, e2, z, k, r⟩ := r
      exact ⟨a, kvs, e1, K.st _ _ _ cl.1 e2, z, k, deepL_froz K hlk vs q cl.2 r⟩
    · cases e
  | .obj c k fs vs, w, x, e, cl, r => by
    simp only [deep] at e
    split at e
    · rename_i ws q
      cases e
      unfold clean at cl
      rw [Bool.and_eq_true, decide_eq_true_eq] at cl
      unfold RV at r ⊢
      obtain ⟨a, C, dx, fv, e1, ec, e2, f, r⟩ := r
      exact ⟨a, C, dx, fv, e1, ec, K.st _ _ _ cl.1 e2, f, deepL_froz K hlk vs q cl.2 r⟩
    · cases e
theorem deepL_froz {B1 : Bor} {Ex : Addr → Prop} (K : Back G B B1 A A' h' H' Ex) {lk : Nat → Option Val} (hlk : ∀ i w x, lk i = some w → clean w = true → RV G (lent B A) A' H' (.ref i) x → RV G B1 A H' w x) : ∀ (vs : List Val) {ws : List Val} {xs : List V}, deepL lk vs = some ws → cleanL ws = true → RVs G (lent B A) A' H' vs xs → RVs G B1 A H' ws xs
  | [], ws, xs, e, _, r => by
    simp only [deepL, Option.some.injEq] at e
    subst e
    rw [r.ofnil]
    exact RVs.nil
  | v :: vs, ws, xs, e, c, r => by
    simp only [deepL] at e
    split at e
    · rename_i w q1
      split at e
      · rename_i ws' q2
        cases e
        unfold cleanL at c
        rw [Bool.and_eq_true] at c
        obtain ⟨y, ys, e1, r1, r2⟩ := r.uncons
        subst e1
        exact .cons (deep_froz K hlk v q1 c.1 r1) (deepL_froz K hlk vs q2 c.2 r2)
      · cases e
    · cases e
end
theorem follow_froz {B1 : Bor} {Ex : Addr → Prop} (K : Back G B B1 A A' h' H' Ex) (e : Nat) (he : ∀ (i : Nat) (a : Addr), A'[i]? = some a → i ≠ e → ¬ Ex a) : ∀ (n i : Nat) (w : Val) (x : V), followX e n .own h' i = some w → clean w = true → RV G (lent B A) A' H' (.ref i) x → RV G B1 A H' w x
  | 0, _, _, _, e, _, _ => by
    unfold followX at e
    cases e
  | n + 1, i, w, x, ew, cl, r => by
    unfold followX at ew
    split at ew
    · cases ew
    rename_i ne
    unfold RV at r
    obtain ⟨a, rfl, ea⟩ := r
    have ap := K.apart a (List.mem_of_getElem? ea) (he i a ea ne)
    have st : ∀ {o : HO}, H' a = some o → Still B1 A H' .own a o := fun {o} q => ⟨by decide, q, ap.1, fun _ => ap.2⟩
    cases eo : h'[i]? with
    | none => rw [eo] at ew; cases ew
    | some o =>
      have ro := K.F'.ob i o a eo ea
      rw [eo] at ew
      cases o with
      | lst vs =>
        obtain ⟨xs, q, z, r⟩ := ro
        simp only at ew
        split at ew
        · rename_i ws q1
          cases ew
          unfold clean at cl
          rw [Bool.and_eq_true] at cl
          unfold RV
          exact ⟨a, xs, rfl, st q, z, deepL_froz K (follow_froz K e he n) vs q1 cl.2 r⟩
        · cases ew
      | dct ks vs =>
        obtain ⟨kvs, q, z, k, r⟩ := ro
        simp only at ew
        split at ew
        · rename_i ws q1
          cases ew
          unfold clean at cl
          rw [Bool.and_eq_true] at cl
          unfold RV
          exact ⟨a, kvs, rfl, st q, z, k, deepL_froz K (follow_froz K e he n) vs q1 cl.2 r⟩
        · cases ew
      | ins c fs vs =>
        obtain ⟨C, dx, fv, q, ec, f, r⟩ := ro
        simp only at ew
        split at ew
        · rename_i ws q1
          cases ew
          unfold clean at cl
          rw [Bool.and_eq_true] at cl
          unfold RV
          exact ⟨a, C, dx, fv, rfl, ec, st q, f, deepL_froz K (follow_froz K e he n) vs q1 cl.2 r⟩
        · cases ew
theorem followX_big : ∀ (n e i : Nat) (c : Fz) (h : Hm), h.length ≤ e → followX e n c h i = follow n c h i
  | 0, _, _, _, _, _ => rfl
  | n + 1, e, i, c, h, l => by
    unfold followX follow
    have ih : followX e n c h = follow n c h := funext fun j => followX_big n e j c h l
    rw [ih]
    split
    · rename_i q
      rw [List.getElem?_eq_none (by omega)]
    · rfl
theorem froz_ok {h : Hm} (F : Fits G B A h H') (F' : Fits G (lent B A) A' h' H') (ap : ∀ a ∈ A', Out B A a ∧ ¬ B.b a) {v w : Val} {x : V} (e : froz h' v = some w) (c : clean w = true) (r : RV G (lent B A) A' H' v x) : RV G B A H' w x := by
  have K : Back G B B A A' h' H' (fun _ => False) := ⟨F', fun a m _ => ap a m, fun c a o nb s => still_back nb s, fun a xs q => F.notup q, fun a ob u q => F.nofrz q⟩
  unfold froz at e
  have e1 : follow 9 .own h' = followX h'.length 9 .own h' := funext fun j => (followX_big 9 _ j _ h' (Nat.le_refl _)).symm
  rw [e1] at e
  exact deep_froz K (follow_froz K _ (fun _ _ _ _ z => z) 9) v e c r

structure Sg.Good (G : Sg) : Prop where
  nd : G.txts.Nodup
  ok : ∀ z ∈ G.txts, PyData.strOk z = true
  fnd : G.fld.Nodup
mutual
def toPD (G : Sg) : Val → PyData
  | .non => .none
  | .bl b => .bool b
  | .int i => .int i
  | .str n => .str ((G.txts[n]?).getD Str.empty)
  | .tup vs => .tuple (toPDs G vs)
  | .lst _ vs => .list (toPDs G vs)
  | _ => .none
def toPDs (G : Sg) : List Val → List PyData
  | [] => []
  | v :: vs => toPD G v :: toPDs G vs
end
theorem toPDs_map (vs : List Val) : toPDs G vs = vs.map (toPD G) := by
  induction vs with
  | nil => simp [toPDs]
  | cons v vs ih => simp [toPDs, ih]
theorem dpAll_of {n : Nat} (ih : ∀ (a : Val) (x : V), isData n a = true → RV G B A H a x → Dp G.K H x (toPD G a)) : ∀ (vs : List Val) {xs : List V}, vs.all (isData n) = true → RVs G B A H vs xs → DpAll G.K H xs (toPDs G vs)
  | [], xs, _, r => by
    rw [r.ofnil]
    unfold toPDs
    exact .nil
  | v :: vs, xs, d, r => by
    rw [List.all_cons, Bool.and_eq_true] at d
    obtain ⟨y, ys, e1, r1, r2⟩ := r.uncons
    subst e1
    unfold toPDs
    exact .cons (ih v y d.1 r1) (dpAll_of ih vs d.2 r2)
theorem dp_of : ∀ (n : Nat) (a : Val) (x : V), isData n a = true → RV G B A H a x → Dp G.K H x (toPD G a)
  | n, .non, x, _, r => by
    unfold RV at r
    subst r
    unfold toPD
    exact .non
  | n, .bl b, x, _, r => by
    unfold RV at r
    subst r
    unfold toPD
    exact .bl b
  | n, .int i, x, _, r => by
    unfold RV at r
    subst r
    unfold toPD
    exact .int i
  | n, .str m, x, _, r => by
    unfold RV at r
    obtain ⟨z, e, rfl⟩ := r
    unfold toPD
    rw [e]
    exact .str z
  | 0, .tup vs, x, d, r => by simp [isData] at d
  | 0, .lst c vs, x, d, r => by simp [isData] at d
  | n + 1, .tup vs, x, d, r => by
    unfold isData at d
    unfold RV at r
    obtain ⟨a, xs, rfl, e, _, _, r⟩ := r
    unfold toPD
    exact .tup (SqT.of e) (dpAll_of (dp_of n) vs d r)
  | n + 1, .lst c vs, x, d, r => by
    unfold isData at d
    unfold RV at r
    obtain ⟨a, xs, rfl, e, _, r⟩ := r
    unfold toPD
    exact .lst e.sq (dpAll_of (dp_of n) vs d r)
  | n, .dct _ _ _, x, d, r => by cases n <;> simp [isData] at d
  | n, .obj _ _ _ _, x, d, r => by cases n <;> simp [isData] at d
  | n, .ref _, x, d, r => by cases n <;> simp [isData] at d
  | n, .err _, x, d, r => by cases n <;> simp [isData] at d
  | n, .clo _ _, x, d, r => by cases n <;> simp [isData] at d
theorem layAll_of {n : Nat} (ih : ∀ a : Val, isData n a = true → (toPD G a).canLay0 = true ∧ (toPD G a).depth ≤ n) : ∀ (vs : List Val), vs.all (isData n) = true → PyData.canLayAll0 (toPDs G vs) = true ∧ PyData.depthAll (toPDs G vs) ≤ n
  | [], _ => by
    unfold toPDs PyData.canLayAll0 PyData.depthAll
    exact ⟨rfl, Nat.zero_le _⟩
  | v :: vs, d => by
    rw [List.all_cons, Bool.and_eq_true] at d
    unfold toPDs PyData.canLayAll0 PyData.depthAll
    obtain ⟨h1, h2⟩ := ih v d.1
    obtain ⟨h3, h4⟩ := layAll_of ih vs d.2
    exact ⟨by rw [h1, h3]; rfl, Nat.max_le.mpr ⟨h2, h4⟩⟩
theorem lay_of (g : G.Good) : ∀ (n : Nat) (a : Val), isData n a = true → (toPD G a).canLay0 = true ∧ (toPD G a).depth ≤ n
  | n, .non, _ => by
    unfold toPD PyData.canLay0 PyData.depth
    exact ⟨rfl, Nat.zero_le _⟩
  | n, .bl b, _ => by
    unfold toPD PyData.canLay0 PyData.depth
    exact ⟨rfl, Nat.zero_le _⟩
  | n, .int i, _ => by
    unfold toPD PyData.canLay0 PyData.depth
    exact ⟨rfl, Nat.zero_le _⟩
  | n, .str m, _ => by
    unfold toPD PyData.canLay0 PyData.depth
    refine ⟨?_, Nat.zero_le _⟩
    cases e : G.txts[m]? with
    | none => exact (by decide +kernel : PyData.strOk Str.empty = true)
    | some z => exact g.ok z (List.mem_of_getElem? e)
  | 0, .tup vs, d => by simp [isData] at d
  | 0, .lst c vs, d => by simp [isData] at d
  | n + 1, .tup vs, d => by
    unfold isData at d
    unfold toPD PyData.canLay0 PyData.depth
    obtain ⟨h1, h2⟩ := layAll_of (lay_of g n) vs d
    exact ⟨h1, Nat.succ_le_succ h2⟩
  | n + 1, .lst c vs, d => by
    unfold isData at d
    unfold toPD PyData.canLay0 PyData.depth
    obtain ⟨h1, h2⟩ := layAll_of (lay_of g n) vs d
    exact ⟨h1, Nat.succ_le_succ h2⟩
  | n, .dct _ _ _, d => by cases n <;> simp [isData] at d
  | n, .obj _ _ _ _, d => by cases n <;> simp [isData] at d
  | n, .ref _, d => by cases n <;> simp [isData] at d
  | n, .err _, d => by cases n <;> simp [isData] at d
  | n, .clo _ _, d => by cases n <;> simp [isData] at d
theorem shaped_of (g : G.Good) {n : Nat} {a : Val} (hn : n ≤ 64) (d : isData n a = true) : SeqAt.shaped (toPD G a) = true := by
  obtain ⟨h1, h2⟩ := lay_of g n a d
  unfold SeqAt.shaped
  rw [h1, Bool.true_and, decide_eq_true_eq]
  exact Nat.le_trans h2 hn
theorem txt_eq (g : G.Good) {m n : Nat} {x y : Str} (e1 : G.txts[m]? = some x) (e2 : G.txts[n]? = some y) : (m == n) = (x == y) := by
  rw [Bool.eq_iff_iff, beq_iff_eq, beq_iff_eq]
  constructor
  · intro e
    subst e
    exact Option.some.inj (e1.symm.trans e2)
  · intro e
    subst e
    exact (List.getElem?_inj (List.getElem?_eq_some_iff.mp e1).1 g.nd).mp (e1.trans e2.symm)
mutual
theorem eqv_of (g : G.Good) {A2 : List Addr} {H2 : Hp} {B2 : Bor} : ∀ (a b : Val) {x y : V}, RV G B A H a x → RV G B2 A2 H2 b y → (∃ n, isData n a = true) → (∃ n, isData n b = true) → eqV a b = PyData.eqv (toPD G a) (toPD G b)
  | .str m, .str n, x, y, r1, r2, _, _ => by
    unfold RV at r1 r2
    obtain ⟨z1, e1, _⟩ := r1
    obtain ⟨z2, e2, _⟩ := r2
    simp only [toPD, e1, e2, Option.getD_some, eqV, PyData.eqv]
    exact txt_eq g e1 e2
  | .lst _ vs, .lst _ ws, x, y, r1, r2, ⟨n1, d1⟩, ⟨n2, d2⟩ => by
    cases n1 <;> simp only [isData] at d1 <;> try cases d1
    cases n2 <;> simp only [isData] at d2 <;> try cases d2
    unfold RV at r1 r2
    obtain ⟨_, _, _, _, _, r1⟩ := r1
    obtain ⟨_, _, _, _, _, r2⟩ := r2
    simp only [toPD, eqV, PyData.eqv]
    exact eqvs_of g vs ws r1 r2 (fun v hv => ⟨_, List.all_eq_true.mp d1 v hv⟩) (fun v hv => ⟨_, List.all_eq_true.mp d2 v hv⟩)
  | .tup vs, .tup ws, x, y, r1, r2, ⟨n1, d1⟩, ⟨n2, d2⟩ => by
    cases n1 <;> simp only [isData] at d1 <;> try cases d1
    cases n2 <;> simp only [isData] at d2 <;> try cases d2
    unfold RV at r1 r2
    obtain ⟨_, _, _, _, _, _, r1⟩ := r1
    obtain ⟨_, _, _, _, _, _, r2⟩ := r2
    simp only [toPD, eqV, PyData.eqv]
    exact eqvs_of g vs ws r1 r2 (fun v hv => ⟨_, List.all_eq_true.mp d1 v hv⟩) (fun v hv => ⟨_, List.all_eq_true.mp d2 v hv⟩)
  | .non, b, x, y, _, _, _, ⟨n, d⟩ => by cases b <;> first | (simp only [toPD, eqV, PyData.eqv]; done) | (cases n <;> simp [isData] at d)
  | .bl _, b, x, y, _, _, _, ⟨n, d⟩ => by cases b <;> first | (simp only [toPD, eqV, PyData.eqv]; done) | (cases n <;> simp [isData] at d)
  | .int _, b, x, y, _, _, _, ⟨n, d⟩ => by cases b <;> first | (simp only [toPD, eqV, PyData.eqv]; done) | (cases n <;> simp [isData] at d)
  | .str _, .non, x, y, _, _, _, _ => by simp only [toPD, eqV, PyData.eqv]
  | .str _, .bl _, x, y, _, _, _, _ => by simp only [toPD, eqV, PyData.eqv]
  | .str _, .int _, x, y, _, _, _, _ => by simp only [toPD, eqV, PyData.eqv]
  | .str _, .tup _, x, y, _, _, _, _ => by simp only [toPD, eqV, PyData.eqv]
  | .str _, .lst _ _, x, y, _, _, _, _ => by simp only [toPD, eqV, PyData.eqv]
  | .lst _ _, .non, x, y, _, _, _, _ => by simp only [toPD, eqV, PyData.eqv]
  | .lst _ _, .bl _, x, y, _, _, _, _ => by simp only [toPD, eqV, PyData.eqv]
  | .lst _ _, .int _, x, y, _, _, _, _ => by simp only [toPD, eqV, PyData.eqv]
  | .lst _ _, .str _, x, y, _, _, _, _ => by simp only [toPD, eqV, PyData.eqv]
  | .lst _ _, .tup _, x, y, _, _, _, _ => by simp only [toPD, eqV, PyData.eqv]
  | .tup _, .non, x, y, _, _, _, _ => by simp only [toPD, eqV, PyData.eqv]
  | .tup _, .bl _, x, y, _, _, _, _ => by simp only [toPD, eqV, PyData.eqv]
  | .tup _, .int _, x, y, _, _, _, _ => by simp only [toPD, eqV, PyData.eqv]
  | .tup _, .str _, x, y, _, _, _, _ => by simp only [toPD, eqV, PyData.eqv]
  | .tup _, .lst _ _, x, y, _, _, _, _ => by simp only [toPD, eqV, PyData.eqv]
  | .dct _ _ _, _, x, y, _, _, ⟨n, d⟩, _ => by cases n <;> simp [isData] at d
  | .obj _ _ _ _, _, x, y, _, _, ⟨n, d⟩, _ => by cases n <;> simp [isData] at d
  | .ref _, _, x, y, _, _, ⟨n, d⟩, _ => by cases n <;> simp [isData] at d
  | .err _, _, x, y, _, _, ⟨n, d⟩, _ => by cases n <;> simp [isData] at d
  | .clo _ _, _, x, y, _, _, ⟨n, d⟩, _ => by cases n <;> simp [isData] at d
  | .str _, .dct _ _ _, x, y, _, _, _, ⟨n, d⟩ => by cases n <;> simp [isData] at d
  | .str _, .obj _ _ _ _, x, y, _, _, _, ⟨n, d⟩ => by cases n <;> simp [isData] at d
  | .str _, .ref _, x, y, _, _, _, ⟨n, d⟩ => by cases n <;> simp [isData] at d
  | .str _, .err _, x, y, _, _, _, ⟨n, d⟩ => by cases n <;> simp [isData] at d
  | .str _, .clo _ _, x, y, _, _, _, ⟨n, d⟩ => by cases n <;> simp [isData] at d
  | .lst _ _, .dct _ _ _, x, y, _, _, _, ⟨n, d⟩ => by cases n <;> simp [isData] at d
  | .lst _ _, .obj _ _ _ _, x, y, _, _, _, ⟨n, d⟩ => by cases n <;> simp [isData] at d
  | .lst _ _, .ref _, x, y, _, _, _, ⟨n, d⟩ => by cases n <;> simp [isData] at d
  | .lst _ _, .err _, x, y, _, _, _, ⟨n, d⟩ => by cases n <;> simp [isData] at d
  | .lst _ _, .clo _ _, x, y, _, _, _, ⟨n, d⟩ => by cases n <;> simp [isData] at d
  | .tup _, .dct _ _ _, x, y, _, _, _, ⟨n, d⟩ => by cases n <;> simp [isData] at d
  | .tup _, .obj _ _ _ _, x, y, _, _, _, ⟨n, d⟩ => by cases n <;> simp [isData] at d
  | .tup _, .ref _, x, y, _, _, _, ⟨n, d⟩ => by cases n <;> simp [isData] at d
  | .tup _, .err _, x, y, _, _, _, ⟨n, d⟩ => by cases n <;> simp [isData] at d
  | .tup _, .clo _ _, x, y, _, _, _, ⟨n, d⟩ => by cases n <;> simp [isData] at d
theorem eqvs_of (g : G.Good) {A2 : List Addr} {H2 : Hp} {B2 : Bor} : ∀ (vs ws : List Val) {xs ys : List V}, RVs G B A H vs xs → RVs G B2 A2 H2 ws ys → (∀ v ∈ vs, ∃ n, isData n v = true) → (∀ v ∈ ws, ∃ n, isData n v = true) → eqVs vs ws = PyData.eqvAll (toPDs G vs) (toPDs G ws)
  | [], [], _, _, _, _, _, _ => by simp only [toPDs, eqVs, PyData.eqvAll]
  | [], _ :: _, _, _, _, _, _, _ => by simp only [toPDs, eqVs, PyData.eqvAll]
  | _ :: _, [], _, _, _, _, _, _ => by simp only [toPDs, eqVs, PyData.eqvAll]
  | v :: vs, w :: ws, xs, ys, r1, r2, d1, d2 => by
    obtain ⟨_, _, _, r1, r1'⟩ := r1.uncons
    obtain ⟨_, _, _, r2, r2'⟩ := r2.uncons
    simp only [toPDs, eqVs, PyData.eqvAll]
    rw [eqv_of g v w r1 r2 (d1 v List.mem_cons_self) (d2 w List.mem_cons_self), eqvs_of g vs ws r1' r2' (fun u hu => d1 u (List.mem_cons_of_mem _ hu)) fun u hu => d2 u (List.mem_cons_of_mem _ hu)]
end
end
end MP
set_option Elab.async false
set_option linter.all false
set_option maxRecDepth 100000
set_option autoImplicit false
namespace MP
open PySem PySem.Spec PyProof.Rows L2
/-- an end of which no exception is asked -/
def PV (G : Sg) (B : Bor) (A : List Addr) (H : Hp) (r : R Val) (Q : VK) : Prop := Post G B (fun _ _ _ _ => True) [] (RVr G B) A H r fun _ x _ _ H' => Q x H'
section
variable {G : Sg} {B : Bor} {A : List Addr} {H : Hp} {h : Hm} {X : Cx} {Q : VK}
theorem PV.ok {v : Val} {h' : Hm} (p : PV G B A H (.ok v h') Q) {A' : List Addr} {H' : Hp} {x : V} (F : Fits G B A' h' H') (n : Next A H A' H') (r : RV G B A' H' v x) : Q x H' := p A' H' x F n r
theorem Post.toPV {W : WX} {σ : L2.St} {r : R Val} {k : Val → V → Hm → List Addr → Hp → Prop} (p : Post G B W σ (RVr G B) A H r k) (i : ∀ v x h' A' H', Fits G B A' h' H' → Next A H A' H' → RV G B A' H' v x → k v x h' A' H' → Q x H') : PV G B A H r Q := by
  cases r with
  | ok v h' => exact fun A' H' x f m q => i v x h' A' H' f m q (p A' H' x f m q)
  | exc c h' => exact fun _ _ _ _ _ _ => trivial
  | bad => exact p
theorem big_le {n : Nat} (e : n ≤ big) : n ≤ sizeLine := by
  rw [sizeLine_eq]
  unfold big at e
  omega
theorem big_lt {n : Nat} (e : n < big) : n < sizeLine := by
  rw [sizeLine_eq]
  unfold big at e
  omega
theorem seqOf_ok (F : Fits G B A h H) {v : Val} {vs : List Val} {x : V} (e : seqOf h v = some vs) (r : RV G B A H v x) :
    ∃ a xs, x = .ref a ∧ (SqL G.K H a xs ∨ SqT G.K H a xs) ∧ xs.length ≤ sizeLine ∧ RVs G B A H vs xs := by
  cases v <;> simp only [seqOf] at e <;> try cases e
  · unfold RV at r
    obtain ⟨a, xs, rfl, e, _, z, r⟩ := r
    exact ⟨a, xs, rfl, .inr (SqT.of e), z, r⟩
  · rename_i c
    unfold RV at r
    obtain ⟨a, xs, rfl, e, z, r⟩ := r
    exact ⟨a, xs, rfl, .inl e.sq, z, r⟩
  · rename_i i
    unfold RV at r
    obtain ⟨a, rfl, ea⟩ := r
    split at e
    · rename_i ws q
      cases e
      obtain ⟨xs, e, z, r⟩ := F.ob i _ a q ea
      exact ⟨a, xs, rfl, .inl (SqL.of e), z, r⟩
    · cases e
theorem lstOf_ok (F : Fits G B A h H) {v : Val} {vs : List Val} {x : V} (e : lstOf h v = some vs) (r : RV G B A H v x) :
    ∃ a xs, x = .ref a ∧ SqL G.K H a xs ∧ xs.length ≤ sizeLine ∧ RVs G B A H vs xs := by
  cases v <;> simp only [lstOf] at e <;> try cases e
  · rename_i c
    unfold RV at r
    obtain ⟨a, xs, rfl, e, z, r⟩ := r
    exact ⟨a, xs, rfl, e.sq, z, r⟩
  · rename_i i
    unfold RV at r
    obtain ⟨a, rfl, ea⟩ := r
    split at e
    · rename_i ws q
      cases e
      obtain ⟨xs, e, z, r⟩ := F.ob i _ a q ea
      exact ⟨a, xs, rfl, SqL.of e, z, r⟩
    · cases e
theorem catOf_ok (F : Fits G B A h H) {v : Val} {vs : List Val} {x : V} (e : catOf h v = some vs) (r : RV G B A H v x) :
    ∃ a xs, x = .ref a ∧ H a = some (.lst xs) ∧ xs.length ≤ sizeLine ∧ RVs G B A H vs xs := by
  cases v <;> try (simp [catOf] at e; done)
  · rename_i c vs
    unfold RV at r
    obtain ⟨a, xs, rfl, q, z, r⟩ := r
    cases c <;> simp [catOf] at e <;> subst e
    · exact ⟨a, xs, rfl, q.2.1, z, r⟩
    · exact ⟨a, xs, rfl, q.2.1, z, r⟩
  · rename_i i
    unfold RV at r
    obtain ⟨a, rfl, ea⟩ := r
    simp only [catOf] at e
    split at e
    · rename_i ws q
      cases e
      obtain ⟨xs, e, z, r⟩ := F.ob i _ a q ea
      exact ⟨a, xs, rfl, e, z, r⟩
    · cases e
theorem dctOf_ok (F : Fits G B A h H) {v : Val} {ks : List MKey} {vs : List Val} {x : V} (e : dctOf h v = some (ks, vs)) (r : RV G B A H v x) :
    ∃ a kvs, x = .ref a ∧ H a = some (.dK kvs) ∧ kvs.length ≤ sizeLine ∧ RKeys G ks (kvs.map (·.1)) ∧ RVs G B A H vs (kvs.map (·.2)) := by
  cases v <;> simp only [dctOf] at e <;> try cases e
  · rename_i c
    unfold RV at r
    obtain ⟨a, kvs, rfl, e, z, k, r⟩ := r
    exact ⟨a, kvs, rfl, e.2.1, z, k, r⟩
  · rename_i i
    unfold RV at r
    obtain ⟨a, rfl, ea⟩ := r
    split at e
    · rename_i ks' vs' q
      cases e
      obtain ⟨kvs, e, z, k, r⟩ := F.ob i _ a q ea
      exact ⟨a, kvs, rfl, e, z, k, r⟩
    · cases e
theorem insOf_ok (F : Fits G B A h H) {v : Val} {k : Nat} {fs : List Nat} {vs : List Val} {x : V} (e : insOf h v = some (k, fs, vs)) (r : RV G B A H v x) :
    ∃ a C dx fv, x = .ref a ∧ H a = some (.ins C dx fv) ∧ G.cls k = some C ∧ RFs G fs (fv.map (·.1)) ∧ RVs G B A H vs (fv.map (·.2)) := by
  cases v <;> simp only [insOf] at e <;> try cases e
  · rename_i c
    unfold RV at r
    obtain ⟨a, C, dx, fv, rfl, ec, e, f, r⟩ := r
    exact ⟨a, C, dx, fv, rfl, e.2.1, ec, f, r⟩
  · rename_i i
    unfold RV at r
    obtain ⟨a, rfl, ea⟩ := r
    split at e
    · rename_i k' fs' vs' q
      cases e
      obtain ⟨C, dx, fv, e, ec, f, r⟩ := F.ob i _ a q ea
      exact ⟨a, C, dx, fv, rfl, e, ec, f, r⟩
    · cases e
/-- a list was made at p -/
theorem mkL_ok {z : Bool} {vs : List Val} {xs : List V} (F : Fits G B A h H) (p : PV G B A H (mkL z vs h) Q) (r : RVs G B A H vs xs) (l : xs.length ≤ sizeLine) {d : Addr} (e : H d = none) : Q (.ref d) (upd H d (.lst xs)) := by
  unfold mkL at p
  cases z with
  | true =>
    rw [if_pos rfl] at p
    refine p.ok (F.other e) (next_new e) ?_
    unfold RV
    exact ⟨d, xs, rfl, ⟨by decide, upd_same, F.new e, fun _ => F.newB e⟩, l, RVs.mono (next_new e) vs r⟩
  | false =>
    rw [if_neg Bool.false_ne_true] at p
    refine p.ok (F.push e ⟨xs, upd_same, l, RVs.mono (next_mine e) vs r⟩) (next_mine e) ?_
    unfold RV
    exact ⟨d, rfl, by rw [← F.len]; simp⟩
theorem tup_ok {vs : List Val} {xs : List V} (F : Fits G B A h H) (p : PV G B A H (.ok (.tup vs) h) Q) (r : RVs G B A H vs xs) (l : xs.length ≤ sizeLine) {d : Addr} (e : H d = none) : Q (.ref d) (upd H d (.tup xs)) := by
  refine p.ok (F.other e) (next_new e) ?_
  unfold RV
  exact ⟨d, xs, rfl, upd_same, F.new e, l, RVs.mono (next_new e) vs r⟩
/-- a tuple that stood -/
theorem tup_old {vs : List Val} {xs : List V} {a : Addr} (F : Fits G B A h H) (p : PV G B A H (.ok (.tup vs) h) Q) (e : H a = some (.tup xs)) (r : RVs G B A H vs xs) (l : xs.length ≤ sizeLine) : Q (.ref a) H := by
  refine p.ok F .refl ?_
  unfold RV
  exact ⟨a, xs, rfl, e, F.notup e, l, r⟩
theorem rv_int {i : Int} : RV G B A H (.int i) (.int i) := by unfold RV; rfl
theorem rv_bl {b : Bool} : RV G B A H (.bl b) (.bl b) := by unfold RV; rfl
theorem rv_non : RV G B A H .non .non := by unfold RV; rfl
theorem int_ok {i : Int} (F : Fits G B A h H) (p : PV G B A H (.ok (.int i) h) Q) : Q (.int i) H := p.ok F .refl rv_int
theorem bl_ok {b : Bool} (F : Fits G B A h H) (p : PV G B A H (.ok (.bl b) h) Q) : Q (.bl b) H := p.ok F .refl rv_bl
theorem non_ok (F : Fits G B A h H) (p : PV G B A H (.ok .non h) Q) : Q .non H := p.ok F .refl rv_non
theorem val_ok {v : Val} {x : V} (F : Fits G B A h H) (p : PV G B A H (.ok v h) Q) (r : RV G B A H v x) : Q x H := p.ok F .refl r

def opB : BOp → Operator
  | .add => .Add
  | .sub => .Sub
  | .mul => .Mult
  | .fdiv => .FloorDiv
  | .mod => .Mod
  | .pow => .Pow
def rBin (G : Sg) (B : Bor) (z : Bool) (o : BOp) : R2 := fun x y H Q => ∃ A h v w, Fits G B A h H ∧ RV G B A H v x ∧ RV G B A H w y ∧ PV G B A H (binM z o v w h) Q
theorem mulOk {i j : Int} (c : i.natAbs.log2 + j.natAbs.log2 < 100000000) : IntMulOk i j := by
  have b : ∀ x : Int, Builtin.Int.intBits x ≤ x.natAbs.log2 + 1 := fun x => by
    unfold Builtin.Int.intBits
    split <;> omega
  have h1 := b i
  have h2 := b j
  have e : bitsLine = 134217728 := by decide
  unfold IntMulOk
  intro z
  rw [Bool.and_eq_true] at z
  have z2 := z.2
  unfold Builtin.Int.intTooBig at z2
  have z3 := of_decide_eq_true z2
  rw [e] at z3
  omega
theorem binI_ok {o : BOp} {i j k : Int} (e : binI o i j = some k) {pins : List (Addr × Obj)} {s : Shared} {σ : L2.St} {v u : Value} (I : Inv X pins σ H s) (rx : RelV (.int i) v) (ry : RelV (.int j) u) (q : Q (.int k) H) :
    wpAny (model X.prog X.w) X.A (binaryOp (opB o) v u) (EP X pins σ Q) X.xe s := by
  cases o <;> simp only [binI] at e
  · cases e
    exact op_add pins s σ H _ _ v u Q I rx ry ⟨i, j, rfl, rfl, q⟩
  · cases e
    exact op_sub pins s σ H _ _ v u Q I rx ry ⟨i, j, rfl, rfl, q⟩
  · split at e
    · rename_i c
      cases e
      exact (opI fun _ _ _ _ _ _ _ hc q => mul_int q hc : OpR X (binaryOp .Mult) (rI IntMulOk fun i j => .int (i * j))) pins s σ H _ _ v u Q I rx ry ⟨i, j, rfl, rfl, mulOk c, q⟩
    · cases e
  · split at e
    · rename_i c
      cases e
      exact op_fdiv pins s σ H _ _ v u Q I rx ry ⟨i, j, rfl, rfl, ⟨c.1, by omega⟩, q⟩
    · cases e
  · split at e
    · rename_i c
      cases e
      exact op_mod pins s σ H _ _ v u Q I rx ry ⟨i, j, rfl, rfl, c, q⟩
    · cases e
  · split at e
    · rename_i c
      cases e
      exact op_pow pins s σ H _ _ v u Q I rx ry ⟨i, j, rfl, rfl, ⟨c.1, by omega, Nat.lt_trans c.2.2 (by decide)⟩, q⟩
    · cases e
theorem op_binM {z : Bool} {o : BOp} (hX : X.K = G.K) : OpR X (binaryOp (opB o)) (rBin G B z o) := by
  intro pins s σ H x y v u Q I rx ry ⟨A, h, a, b, F, ra, rb, p⟩
  unfold binM at p
  split at p
  · -- ints
    rename_i i j
    unfold RV at ra rb
    subst ra rb
    split at p
    · rename_i k e
      exact binI_ok e I rx ry (int_ok F p)
    · exact p.elim
  · -- tuples
    rename_i vs ws
    split at p
    · split at p
      · rename_i c
        have ra' := ra
        have rb' := rb
        unfold RV at ra' rb'
        obtain ⟨a1, xs, rfl, e1, _, z1, r1⟩ := ra'
        obtain ⟨a2, ys, rfl, e2, _, z2, r2⟩ := rb'
        have l1 := r1.length
        have l2 := r2.length
        have lz : xs.length + ys.length ≤ sizeLine := by rw [← l1, ← l2]; exact big_le c.2
        refine op_catT pins s σ H _ _ v u Q I rx ry ⟨a1, a2, xs, ys, rfl, rfl, SqT.of e1, SqT.of e2, fun e => c.1 (by rw [l1, e]; rfl), lz, fun e => ?_, fun _ d hd => ?_⟩
        · have e' : ws = [] := List.length_eq_zero_iff.mp (by rw [l2, e]; rfl)
          rw [e', List.append_nil] at p
          exact tup_old F p e1 r1 z1
        · exact tup_ok F p (r1.append r2) (by rw [List.length_append]; exact lz) hd
      · exact p.elim
    · exact p.elim
  · -- a tuple, so often
    rename_i vs k
    split at p
    · split at p
      · rename_i c
        have ra' := ra
        unfold RV at ra' rb
        obtain ⟨a1, xs, rfl, e1, _, z1, r1⟩ := ra'
        subst rb
        have l1 := r1.length
        rw [l1] at c
        refine op_repT pins s σ H _ _ v u Q I rx ry ⟨a1, k, xs, rfl, rfl, SqT.of e1, fun e => c.1 (by rw [e]; rfl), c.2.1, c.2.2.1, c.2.2.2, fun d hd => ?_⟩
        refine tup_ok F p (r1.rep _) ?_ hd
        have h1 : xs.length * k.toNat ≤ 1000 * 1000 := Nat.mul_le_mul c.2.2.2 (by omega)
        have h2 : (List.replicate k.toNat xs).flatten.length = k.toNat * xs.length := by simp
        rw [h2, Nat.mul_comm]
        refine Nat.le_trans h1 ?_
        rw [sizeLine_eq]
        decide
      · exact p.elim
    · exact p.elim
  · -- a list, so often
    rename_i k _ _
    split at p
    · rename_i vs e
      split at p
      · rename_i c
        unfold RV at rb
        subst rb
        obtain ⟨a1, xs, rfl, e1, z1, r1⟩ := catOf_ok F e ra
        have l1 := r1.length
        rw [l1] at c
        have lz : xs.length * k.toNat ≤ sizeLine := big_le c.2.2
        refine op_rep pins s σ H _ _ v u Q I rx ry ⟨a1, k, xs, rfl, rfl, e1, by omega, by omega, lz, fun d hd => ?_⟩
        exact mkL_ok F p (r1.rep _) (by simpa [List.length_flatten, Nat.mul_comm] using lz) hd
      · exact p.elim
    · exact p.elim
  · split at p
    · rename_i e1 e2
      split at p
      · rename_i c
        obtain ⟨a1, xs, rfl, q1, z1, r1⟩ := catOf_ok F e1 ra
        obtain ⟨a2, ys, rfl, q2, z2, r2⟩ := catOf_ok F e2 rb
        have lz : xs.length + ys.length ≤ sizeLine := by rw [← r1.length, ← r2.length]; exact big_le c
        exact op_cat pins s σ H _ _ v u Q I rx ry ⟨a1, a2, xs, ys, rfl, rfl, q1, q2, lz, fun d hd => mkL_ok F p (r1.append r2) (by rw [List.length_append]; exact lz) hd⟩
      · exact p.elim
    · exact p.elim

def opC : COp → CmpOp
  | .eq => .Eq
  | .ne => .NotEq
  | .lt => .Lt
  | .le => .LtE
  | .gt => .Gt
  | .ge => .GtE
  | .is => .Is
  | .isn => .IsNot
  | .inn => .In
  | .nin => .NotIn
def rCmp (G : Sg) (B : Bor) (o : COp) : R2 := fun x y H Q => ∃ A h v w b, Fits G B A h H ∧ RV G B A H v x ∧ RV G B A H w y ∧ cmpM o h v w = some b ∧ Q (.bl b) H
theorem eqM_ok (g : G.Good) (F : Fits G B A h H) {v w : Val} {x y : V} {b : Bool} (e : eqM h v w = some b) (r : RV G B A H v x) (q : RV G B A H w y) :
    ∃ d1 d2, Dp G.K H x d1 ∧ Dp G.K H y d2 ∧ SeqAt.shaped d1 = true ∧ SeqAt.shaped d2 = true ∧ PyData.eqv d1 d2 = b := by
  unfold eqM at e
  split at e
  · rename_i a ea
    split at e
    · rename_i c ec
      split at e
      · rename_i hd
        rw [Bool.and_eq_true] at hd
        cases e
        have r1 := snap_ok F ea r
        have r2 := snap_ok F ec q
        exact ⟨toPD G a, toPD G c, dp_of 30 a x hd.1 r1, dp_of 30 c y hd.2 r2, shaped_of g (by decide) hd.1, shaped_of g (by decide) hd.2, (eqv_of g a c r1 r2 ⟨_, hd.1⟩ ⟨_, hd.2⟩).symm⟩
      · cases e
    · cases e
  · cases e
theorem flat_data {v : Val} (e : flat v = true) (n : Nat) : isData n v = true := by
  cases v <;> simp [flat] at e <;> cases n <;> simp [isData]
theorem any_eqv (g : G.Good) {B2 : Bor} {A2 : List Addr} {H2 : Hp} {c : Val} {y : V} (rc : RV G B2 A2 H2 c y) (dc : ∃ n, isData n c = true) : ∀ (vs : List Val) {xs : List V}, RVs G B A H vs xs → (∀ v ∈ vs, ∃ n, isData n v = true) →
    (vs.any fun v => eqV v c) = (toPDs G vs).any fun d => PyData.eqv d (toPD G c)
  | [], _, _, _ => by simp [toPDs]
  | v :: vs, xs, r, d => by
    obtain ⟨_, _, _, r1, r2⟩ := r.uncons
    rw [toPDs, List.any_cons, List.any_cons, eqv_of g v c r1 rc (d v List.mem_cons_self) dc, any_eqv g rc dc vs r2 fun u hu => d u (List.mem_cons_of_mem _ hu)]
/-- the items and the thing that is looked for -/
theorem in_ok (g : G.Good) (F : Fits G B A h H) {v w : Val} {vs : List Val} {x y : V} {b : Bool} (es : seqOf h w = some vs) (e : inM h v w = some b) (r : RV G B A H v x) (q : RV G B A H w y) :
    ∃ d ds, Dp G.K H x d ∧ (Dp G.K H y (.list ds) ∨ Dp G.K H y (.tuple ds)) ∧ SeqAt.shaped d = true ∧ SeqAt.shaped (.list ds) = true ∧ (ds.any fun z => PyData.eqv z d) = b := by
  unfold inM at e
  rw [es] at e
  simp only at e
  obtain ⟨a, xs, rfl, hs, _, rs⟩ := seqOf_ok F es q
  have fin : ∀ {ws : List Val} {c : Val} {B2 : Bor} {A2 : List Addr}, ws.all (isData 29) = true → isData 29 c = true → RVs G B2 A2 H ws xs → RV G B2 A2 H c x → (ws.any fun w => eqV w c) = b →
      ∃ d ds, Dp G.K H x d ∧ (Dp G.K H (.ref a) (.list ds) ∨ Dp G.K H (.ref a) (.tuple ds)) ∧ SeqAt.shaped d = true ∧ SeqAt.shaped (.list ds) = true ∧ (ds.any fun z => PyData.eqv z d) = b := by
    intro ws c B2 A2 hw hc rw_ rc hb
    have da := dpAll_of (dp_of (G := G) (B := B2) (A := A2) (H := H) 29) ws hw rw_
    refine ⟨toPD G c, toPDs G ws, dp_of 29 c x hc rc, ?_, shaped_of g (by decide) hc, ?_, ?_⟩
    · rcases hs with hs | hs
      · exact .inl (.lst hs da)
      · exact .inr (.tup hs da)
    · have l := lay_of g 30 (.tup ws) (by unfold isData; exact hw)
      unfold SeqAt.shaped PyData.canLay0 PyData.depth
      obtain ⟨l1, l2⟩ := layAll_of (G := G) (lay_of g 29) ws hw
      rw [l1, Bool.true_and, decide_eq_true_eq]
      omega
    · rw [← hb, any_eqv g rc ⟨_, hc⟩ ws rw_ fun v hv => ⟨_, List.all_eq_true.mp hw v hv⟩]
  split at e
  · rename_i c
    rw [Bool.and_eq_true] at c
    cases e
    exact fin (List.all_eq_true.mpr fun v hv => flat_data (List.all_eq_true.mp c.2 v hv) 29) (flat_data c.1 29) rs r rfl
  · split at e
    · rename_i c ws e1 e2
      split at e
      · rename_i d
        rw [Bool.and_eq_true] at d
        cases e
        exact fin d.2 d.1 (snapL_ok F e2 rs) (snap_ok F e1 r) rfl
      · cases e
    · cases e
theorem key_eq (g : G.Good) : ∀ {a b : MKey} {x y : Key}, RKey G a x → RKey G b y → decide (a = b) = decide (x = y)
  | .inl i, .inl j, _, _, r1, r2 => by
    unfold RKey at r1 r2
    subst r1 r2
    simp
  | .inr m, .inr n, _, _, r1, r2 => by
    obtain ⟨z1, e1, rfl⟩ := r1
    obtain ⟨z2, e2, rfl⟩ := r2
    have := txt_eq g e1 e2
    rw [Bool.eq_iff_iff, beq_iff_eq, beq_iff_eq] at this
    rw [Bool.eq_iff_iff, decide_eq_true_eq, decide_eq_true_eq]
    constructor
    · intro e
      rw [this.mp (Sum.inr.inj e)]
    · intro e
      rw [this.mpr (Sum.inr.inj e)]
  | .inl i, .inr n, _, _, r1, r2 => by
    unfold RKey at r1
    obtain ⟨z2, e2, rfl⟩ := r2
    subst r1
    simp
  | .inr n, .inl i, _, _, r1, r2 => by
    unfold RKey at r2
    obtain ⟨z2, e2, rfl⟩ := r1
    subst r2
    simp
theorem keyOf_ok {v : Val} {k : MKey} {x : V} (e : keyOf v = some k) (r : RV G B A H v x) : ∃ q, x = kV q ∧ RKey G k q := by
  cases v <;> simp [keyOf] at e
  · subst e
    unfold RV at r
    exact ⟨.inl _, r, rfl⟩
  · subst e
    unfold RV at r
    obtain ⟨z, e, rfl⟩ := r
    exact ⟨.inr z, rfl, z, e, rfl⟩
theorem keys_any (g : G.Good) {k : MKey} {q : Key} (rk : RKey G k q) : ∀ {ks : List MKey} {kvs : List (Key × V)}, RKeys G ks (kvs.map (·.1)) → (ks.any fun m => decide (m = k)) = (valV kvs q).isSome
  | [], kvs, r => by
    unfold RKeys at r
    have : kvs = [] := by simpa using r
    subst this
    rfl
  | m :: ms, [], r => by
    unfold RKeys at r
    obtain ⟨_, _, e, _⟩ := r
    cases e
  | m :: ms, p :: kvs, r => by
    unfold RKeys at r
    obtain ⟨k1, r1, e, h1, h2⟩ := r
    rw [List.map_cons, List.cons.injEq] at e
    rw [← valV_any, List.any_cons, List.any_cons, valV_any, ← keys_any g rk (by rw [e.2]; exact h2 : RKeys G ms (kvs.map (·.1))), key_eq g h1 rk, e.1]
theorem isM_ok {v w : Val} {x y : V} {b : Bool} (e : isM v w = some b) (r : RV G B A H v x) (q : RV G B A H w y) : (y = .non ∧ decide (x = .non) = b) ∨ (∃ a c : Bool, x = .bl a ∧ y = .bl c ∧ decide (a = c) = b) ∨ (x = .non ∧ (∃ c : Bool, y = .bl c) ∧ b = false) := by
  unfold isM at e
  split at e
  · unfold RV at q
    refine .inl ⟨q, ?_⟩
    split at e
    · unfold RV at r
      subst r
      simpa using e
    · cases e
    · cases e
    · rename_i n1 n2 n3
      cases e
      cases v <;> simp only [RV] at r
      · exact (n1 rfl).elim
      · subst r; rfl
      · subst r; rfl
      · obtain ⟨_, _, rfl⟩ := r; rfl
      · obtain ⟨_, _, rfl, _⟩ := r; rfl
      · obtain ⟨_, _, rfl, _⟩ := r; rfl
      · obtain ⟨_, _, rfl, _⟩ := r; rfl
      · obtain ⟨_, _, _, _, rfl, _⟩ := r; rfl
      · obtain ⟨_, rfl, _⟩ := r; rfl
  · split at e
    · cases e
      unfold RV at r q
      exact .inr (.inl ⟨_, _, r, q, by rw [Bool.eq_iff_iff]; simp⟩)
    · cases e
      unfold RV at r q
      exact .inr (.inr ⟨r, ⟨_, q⟩, rfl⟩)
    · cases e
  · cases e
theorem lexL_eq : ∀ ns ms : List Int, lexL ns ms = HT.lexLt ns ms
  | [], [] => rfl
  | [], _ :: _ => rfl
  | _ :: _, [] => rfl
  | x :: xs, y :: ys => by
    unfold lexL
    rw [HT.lexLt_cons, lexL_eq xs ys]
theorem lexAt_ge : ∀ (k i : Nat) (ns ms : List Int), ns.length = i + k → ms.length = i + k →
    Ob.lexAt (fun j => decide (ns.getD j 0 = ms.getD j 0)) (fun j => decide (ms.getD j 0 ≤ ns.getD j 0)) true i k = !lexL (ns.drop i) (ms.drop i)
  | 0, i, ns, ms, h1, h2 => by
    rw [Ob.lexAt_zero, List.drop_eq_nil_of_le (by omega), List.drop_eq_nil_of_le (by omega)]
    rfl
  | k + 1, i, ns, ms, h1, h2 => by
    have l1 : i < ns.length := by omega
    have l2 : i < ms.length := by omega
    rw [Ob.lexAt_succ, List.drop_eq_getElem_cons l1, List.drop_eq_getElem_cons l2]
    unfold lexL
    simp only [List.getD_eq_getElem?_getD, List.getElem?_eq_getElem l1, List.getElem?_eq_getElem l2, Option.getD_some, decide_eq_true_eq]
    by_cases e : ns[i] = ms[i]
    · rw [if_pos e, if_pos e]
      have := lexAt_ge k (i + 1) ns ms (by omega) (by omega)
      simpa only [List.getD_eq_getElem?_getD] using this
    · rw [if_neg e, if_neg e]
      rw [Bool.eq_iff_iff]
      simp
theorem op_geT {X : Cx} (hu : X.A.units < cLine) : OpR X (compareOp .GtE) (fun x y H Q => ∃ (a b : Addr) (ns ms : List Int), x = .ref a ∧ y = .ref b ∧ SqT X.K H a (ns.map V.int) ∧ SqT X.K H b (ms.map V.int) ∧ ns.length = ms.length ∧ Q (.bl (!lexL ns ms)) H) := by
  intro pins s σ H x y v u Q I rx ry h
  obtain ⟨a, b, ns, ms, rfl, rfl, ha, hb, hl, q⟩ := h
  cases rx
  cases ry
  obtain ⟨its, r1, p1, _⟩ := I.tuple ha
  obtain ⟨its2, r2, p2, _⟩ := I.tuple hb
  have i1 : IntsAre its ns := Vals.ints r1
  have i2 : IntsAre its2 ms := Vals.ints r2
  have e1 : its.toArray.size = ns.length := by rw [List.size_toArray]; exact i1.length
  have e2 : its2.toArray.size = ms.length := by rw [List.size_toArray]; exact i2.length
  have at1 : ∀ j (h1 : j < its.toArray.size), ∃ t, its.toArray[j] = .int (ns.getD j 0) t := fun j h1 => PyProof.Rows.IntsAre.int_at i1 _ _ (by simp at h1; simp [h1])
  have at2 : ∀ j (h1 : j < its2.toArray.size), ∃ t, its2.toArray[j] = .int (ms.getD j 0) t := fun j h1 => PyProof.Rows.IntsAre.int_at i2 _ _ (by simp at h1; simp [h1])
  have R := Ob.RcOp.tuples_ge (A := X.A) (s := s) (e := fun j => decide (ns.getD j 0 = ms.getD j 0)) (r := fun j => decide (ms.getD j 0 ≤ ns.getD j 0)) p1 p2 hu (fun j h1 h2 => by
    obtain ⟨t, et⟩ := at1 j h1
    obtain ⟨t', et'⟩ := at2 j h2
    rw [et, et']
    have z : (ns.getD j 0 == ms.getD j 0) = decide (ns.getD j 0 = ms.getD j 0) := by
      by_cases q : ns.getD j 0 = ms.getD j 0
      · rw [decide_eq_true q]; exact beq_iff_eq.mpr q
      · rw [decide_eq_false q]; exact beq_eq_false_iff_ne.mpr q
    rw [← z]
    exact SeqAt.EqAt.int_int _ _ _ _) (fun j h1 h2 _ => by
    obtain ⟨t, et⟩ := at1 j h1
    obtain ⟨t', et'⟩ := at2 j h2
    rw [et, et']
    exact Ob.RcOp.ge_int _ _ _ _)
  have e3 : (decide (its.toArray.size ≥ its2.toArray.size)) = true := by
    rw [e1, e2, hl]
    simp
  rw [e3, e1, e2, ← hl, Nat.min_self] at R
  have e4 := lexAt_ge ns.length 0 ns ms (by omega) (by omega)
  rw [List.drop_zero, List.drop_zero] at e4
  rw [e4] at R
  exact R _ _ _ _ ⟨.bl _, H, I, rfl, q⟩

theorem op_cmpM (g : G.Good) {o : COp} (hX : X.K = G.K) (hu : X.A.units + 65 < cLine) : OpR X (compareOp (opC o)) (rCmp G B o) := by
  intro pins s σ H x y v u Q I rx ry ⟨A, h, a, b, c, F, ra, rb, e, q⟩
  have ordI_ok : ∀ {i j : Int}, x = .int i → y = .int j → ordI o i j = some c → wpAny (model X.prog X.w) X.A (compareOp (opC o) v u) (EP X pins σ Q) X.xe s := by
    intro i j ex ey e
    subst ex ey
    cases o <;> simp [ordI] at e <;> subst e
    · exact op_lt pins s σ H _ _ v u Q I rx ry ⟨i, j, rfl, rfl, q⟩
    · exact op_le pins s σ H _ _ v u Q I rx ry ⟨i, j, rfl, rfl, q⟩
    · exact op_gt pins s σ H _ _ v u Q I rx ry ⟨i, j, rfl, rfl, q⟩
    · exact op_ge pins s σ H _ _ v u Q I rx ry ⟨i, j, rfl, rfl, q⟩
  have ord : o ≠ .eq → o ≠ .ne → o ≠ .is → o ≠ .isn → o ≠ .inn → o ≠ .nin → ordM o a b = some c → wpAny (model X.prog X.w) X.A (compareOp (opC o) v u) (EP X pins σ Q) X.xe s := by
    intro _ _ _ _ _ _ e
    unfold ordM at e
    split at e
    · unfold RV at ra rb
      exact ordI_ok ra rb e
    · split at e
      · rename_i vs ws is js e1 e2
        unfold RV at ra rb
        obtain ⟨p1, xs, rfl, q1, _, _, r1⟩ := ra
        obtain ⟨p2, ys, rfl, q2, _, _, r2⟩ := rb
        have i1 := RVs.ints r1 e1
        have i2 := RVs.ints r2 e2
        subst i1 i2
        cases o <;> simp at e
        · subst e
          rw [lexL_eq] at q
          exact op_ltT (by omega) pins s σ H _ _ v u Q I rx ry ⟨p1, p2, is, js, rfl, rfl, SqT.of q1, SqT.of q2, q⟩
        · obtain ⟨l, e⟩ := e
          have e' : c = !lexL is js := by rw [e, Bool.not_not]
          subst e'
          exact op_geT (by omega) pins s σ H _ _ v u Q I rx ry ⟨p1, p2, is, js, rfl, rfl, SqT.of q1, SqT.of q2, l, q⟩
      · cases e
    · cases e
  cases o with
  | eq =>
    obtain ⟨d1, d2, h1, h2, h3, h4, h5⟩ := eqM_ok g F e ra rb
    exact op_eqD (by omega) pins s σ H x y v u Q I rx ry ⟨d1, d2, by rw [hX]; exact h1, by rw [hX]; exact h2, h3, h4, by rw [h5]; exact q⟩
  | ne =>
    unfold cmpM at e
    obtain ⟨c', e1, e2⟩ := Option.map_eq_some_iff.mp e
    obtain ⟨d1, d2, h1, h2, h3, h4, h5⟩ := eqM_ok g F e1 ra rb
    exact op_neD (by omega) pins s σ H x y v u Q I rx ry ⟨d1, d2, by rw [hX]; exact h1, by rw [hX]; exact h2, h3, h4, by rw [h5, e2]; exact q⟩
  | is =>
    rcases isM_ok e ra rb with ⟨rfl, e⟩ | ⟨a1, b1, rfl, rfl, e⟩ | ⟨rfl, ⟨b1, rfl⟩, rfl⟩
    · exact op_isN pins s σ H x _ v u Q I rx ry ⟨rfl, by rw [e]; exact q⟩
    · exact op_isBl pins s σ H _ _ v u Q I rx ry ⟨a1, b1, rfl, rfl, by rw [e]; exact q⟩
    · cases (show v = Value.none from rx)
      cases (show u = Value.bool b1 from ry)
      exact wpAny_is_other rfl (fun z => by cases z) ⟨.bl false, H, I, rfl, q⟩
  | isn =>
    unfold cmpM at e
    obtain ⟨c', e1, e2⟩ := Option.map_eq_some_iff.mp e
    rcases isM_ok e1 ra rb with ⟨rfl, e⟩ | ⟨a1, b1, rfl, rfl, e⟩ | ⟨rfl, ⟨b1, rfl⟩, rfl⟩
    · exact op_notN pins s σ H x _ v u Q I rx ry ⟨rfl, by rw [e, e2]; exact q⟩
    · exact op_notBl pins s σ H _ _ v u Q I rx ry ⟨a1, b1, rfl, rfl, by rw [e, e2]; exact q⟩
    · cases (show v = Value.none from rx)
      cases (show u = Value.bool b1 from ry)
      exact wpAny_isNot_other rfl (fun z => by cases z) ⟨.bl true, H, I, rfl, by rw [← e2] at q; exact q⟩
  | inn =>
    unfold cmpM at e
    cases es : seqOf h b with
    | some vs =>
      obtain ⟨d, ds, h1, h2, h3, h4, h5⟩ := in_ok g F es e ra rb
      rw [← hX] at h1 h2
      obtain ⟨as, r1⟩ := Dp.reads I d x v h1 rx
      have hh : SeqAt.shaped (.tuple ds) = true := by
        unfold SeqAt.shaped PyData.canLay0 PyData.depth at h4 ⊢
        exact h4
      rcases h2 with h2 | h2
      · obtain ⟨bs, r2⟩ := Dp.reads I (.list ds) y u h2 ry
        exact SeqAt.in_list_reads r2 r1 (SeqAt.canLay_of_shaped h4) (SeqAt.canLay_of_shaped h3) (room_in_shaped h3 hu) ⟨.bl _, H, I, rfl, by rw [h5]; exact q⟩
      · obtain ⟨bs, r2⟩ := Dp.reads I (.tuple ds) y u h2 ry
        exact SeqAt.in_tuple_reads r2 r1 (SeqAt.canLay_of_shaped hh) (SeqAt.canLay_of_shaped h3) (room_in_shaped h3 hu) ⟨.bl _, H, I, rfl, by rw [h5]; exact q⟩
    | none =>
      unfold inM at e
      rw [es] at e
      simp only at e
      split at e
      · rename_i ks vs ed
        split at e
        · rename_i k ek
          cases e
          obtain ⟨p, kvs, rfl, hp, _, hk, _⟩ := dctOf_ok F ed rb
          obtain ⟨kk, rfl, rk⟩ := keyOf_ok ek ra
          rw [keys_any g rk hk] at q
          cases ry
          exact d_in (o := valV kvs kk) (by omega) I (DGet.k hp) rx fun s' I' => ⟨.bl _, H, I', rfl, q⟩
        · cases e
      · cases e
  | nin =>
    unfold cmpM at e
    obtain ⟨c', e1, e2⟩ := Option.map_eq_some_iff.mp e
    subst e2
    cases es : seqOf h b with
    | some vs =>
      obtain ⟨d, ds, h1, h2, h3, h4, h5⟩ := in_ok g F es e1 ra rb
      rw [← hX] at h1 h2
      obtain ⟨as, r1⟩ := Dp.reads I d x v h1 rx
      have hh : SeqAt.shaped (.tuple ds) = true := by
        unfold SeqAt.shaped PyData.canLay0 PyData.depth at h4 ⊢
        exact h4
      rcases h2 with h2 | h2
      · obtain ⟨bs, r2⟩ := Dp.reads I (.list ds) y u h2 ry
        exact SeqAt.notIn_list_reads r2 r1 (SeqAt.canLay_of_shaped h4) (SeqAt.canLay_of_shaped h3) (room_in_shaped h3 hu) ⟨.bl _, H, I, rfl, by rw [h5]; exact q⟩
      · obtain ⟨bs, r2⟩ := Dp.reads I (.tuple ds) y u h2 ry
        exact SeqAt.notIn_tuple_reads r2 r1 (SeqAt.canLay_of_shaped hh) (SeqAt.canLay_of_shaped h3) (room_in_shaped h3 hu) ⟨.bl _, H, I, rfl, by rw [h5]; exact q⟩
    | none =>
      unfold inM at e1
      rw [es] at e1
      simp only at e1
      split at e1
      · rename_i ks vs ed
        split at e1
        · rename_i k ek
          cases e1
          obtain ⟨p, kvs, rfl, hp, _, hk, _⟩ := dctOf_ok F ed rb
          obtain ⟨kk, rfl, rk⟩ := keyOf_ok ek ra
          rw [keys_any g rk hk] at q
          cases ry
          exact d_notIn (o := valV kvs kk) (by omega) I (DGet.k hp) rx fun s' I' => ⟨.bl _, H, I', rfl, q⟩
        · cases e1
      · cases e1
  | lt => exact ord (by decide) (by decide) (by decide) (by decide) (by decide) (by decide) e
  | le => exact ord (by decide) (by decide) (by decide) (by decide) (by decide) (by decide) e
  | gt => exact ord (by decide) (by decide) (by decide) (by decide) (by decide) (by decide) e
  | ge => exact ord (by decide) (by decide) (by decide) (by decide) (by decide) (by decide) e
end
end MP
set_option Elab.async false
set_option linter.all false
set_option maxRecDepth 100000
set_option autoImplicit false
namespace MP
open PySem PySem.Spec PyProof.Rows L2
section
variable {G : Sg} {B : Bor} {A : List Addr} {H : Hp} {h : Hm} {X : Cx} {Q : VK}
theorem ixN_lt {n : Nat} {i : Int} {j : Nat} (e : ixN n i = some j) : j < n := (ixN_seq e).2.1
theorem atI_rel {vs : List Val} {xs : List V} {i : Int} {v : Val} (r : RVs G B A H vs xs) (e : atI vs i = some v) : ∃ x, atI xs i = some x ∧ RV G B A H v x := by
  unfold atI at e ⊢
  rw [← r.length]
  cases q : ixN vs.length i with
  | none => rw [q] at e; cases e
  | some j =>
    rw [q] at e
    exact r.get e
theorem assoc_rel (g : G.Good) {k : MKey} {q : Key} (rk : RKey G k q) : ∀ {ks : List MKey} {vs : List Val} {kvs : List (Key × V)}, RKeys G ks (kvs.map (·.1)) → RVs G B A H vs (kvs.map (·.2)) →
    (∀ v, assoc ks vs k = some v → ∃ x, valV kvs q = some x ∧ RV G B A H v x) ∧ (assoc ks vs k = none → valV kvs q = none)
  | [], vs, kvs, r, _ => by
    unfold RKeys at r
    have : kvs = [] := by simpa using r
    subst this
    refine ⟨fun v e => ?_, fun _ => rfl⟩
    cases vs <;> cases e
  | m :: ms, vs, [], r, _ => by
    unfold RKeys at r
    obtain ⟨_, _, e, _⟩ := r
    cases e
  | m :: ms, [], p :: kvs, _, r => by
    have := r.ofnil
    cases this
  | m :: ms, v :: vs, p :: kvs, r, r2 => by
    unfold RKeys at r
    obtain ⟨k1, r1, e, h1, h2⟩ := r
    rw [List.map_cons, List.cons.injEq] at e
    obtain ⟨y, ys, e2, q1, q2⟩ := r2.uncons
    rw [List.map_cons, List.cons.injEq] at e2
    have ke := key_eq g h1 rk
    rw [← e.1] at ke
    have ih := assoc_rel g rk (ks := ms) (vs := vs) (kvs := kvs) (by rw [e.2]; exact h2) (by rw [e2.2]; exact q2)
    unfold assoc
    by_cases c : m = k
    · have c2 : p.1 = q := by
        rw [decide_eq_true c] at ke
        exact of_decide_eq_true ke.symm
      rw [if_pos c, valV_pos c2]
      refine ⟨fun w e3 => ?_, fun e3 => by cases e3⟩
      cases e3
      exact ⟨p.2, rfl, by rw [e2.1]; exact q1⟩
    · have c2 : ¬ p.1 = q := by
        rw [decide_eq_false c] at ke
        exact of_decide_eq_false ke.symm
      rw [if_neg c, valV_neg c2]
      exact ih
def rIdx (G : Sg) (B : Bor) : R2 := fun x y H Q => ∃ A h v w, Fits G B A h H ∧ RV G B A H v x ∧ RV G B A H w y ∧ PV G B A H (idxM v w h) Q
theorem ix_dict (hu : X.A.units + 1 < cLine) : IxR X (fun x y H Q => ∃ a v, x = .ref a ∧ DGet H a y (some v) ∧ Q v H) := by
  intro value slice pins s σ H x y v u Q I rx ry ⟨a, w, ex, g, q⟩ hs
  subst ex
  cases rx
  exact tail_any (ops := [.ref a, u]) (dict_typeIs I g) PySem.F.slot_dict_getitem.lookup (d_getItem hu I g ry fun w' s3 I3 rw' => ⟨w, H, I3, rw', q⟩) hs
theorem ix_idxM (g : G.Good) (hX : X.K = G.K) (hu : X.A.units + 1 < cLine) : IxR X (rIdx G B) := by
  intro value slice pins s σ H x y v u Q I rx ry ⟨A, h, a, b, F, ra, rb, p⟩ hs
  unfold idxM at p
  split at p
  · rename_i j
    unfold RV at rb
    subst rb
    split at p
    · rename_i vs e
      obtain ⟨d, xs, rfl, hq, _, r⟩ := seqOf_ok F e ra
      split at p
      · rename_i w ew
        obtain ⟨z, ez, rz⟩ := atI_rel r ew
        rcases hq with hq | hq
        · exact ix_list value slice pins s σ H _ _ v u Q I rx ry ⟨d, xs, j, z, rfl, rfl, by rw [hX]; exact hq, ez, val_ok F p rz⟩ hs
        · exact ix_tup value slice pins s σ H _ _ v u Q I rx ry ⟨d, xs, j, z, rfl, rfl, by rw [hX]; exact hq, ez, val_ok F p rz⟩ hs
      · exact p.elim
    · exact p.elim
  · rename_i n
    unfold RV at rb
    obtain ⟨z, ez, rfl⟩ := rb
    split at p
    · rename_i ks vs e
      obtain ⟨d, kvs, rfl, hd, _, rk, r⟩ := dctOf_ok F e ra
      split at p
      · rename_i w ew
        obtain ⟨y, ey, ry'⟩ := (assoc_rel g (k := .inr n) (q := .inr z) ⟨z, ez, rfl⟩ rk r).1 w ew
        have gg := DGet.k (k := .inr z) hd
        rw [ey] at gg
        exact ix_dict hu value slice pins s σ H _ _ v u Q I rx ry ⟨d, y, rfl, gg, val_ok F p ry'⟩ hs
      · exact p.elim
    · exact p.elim
  · exact p.elim
def rSlc (G : Sg) (B : Bor) (z : Bool) : V → Option Int → Option Int → Hp → VK → Prop := fun x lo hi H Q => ∃ A h v, Fits G B A h H ∧ RV G B A H v x ∧ PV G B A H (slcM z v lo hi h) Q
theorem cut_rel {vs : List Val} {xs : List V} (r : RVs G B A H vs xs) (lo hi : Option Int) : RVs G B A H (cutM vs lo hi) (cutV xs lo hi) := by
  unfold cutM cutV
  rw [r.length]
  exact (r.drop _).take _
theorem sl_slcM {z : Bool} (hX : X.K = G.K) : SlR X (rSlc G B z) := by
  intro pins s σ H x v vl vu lo hi sl Q I rx hs pl pu ⟨A, h, a, F, ra, p⟩
  unfold slcM at p
  split at p
  · rename_i vs
    unfold RV at ra
    obtain ⟨d, xs, rfl, e, _, l, r⟩ := ra
    split at p
    · exact p.elim
    · rename_i c
      rw [r.length] at c
      exact sl_tup pins s σ H _ v vl vu lo hi sl Q I rx hs pl pu ⟨d, xs, rfl, SqT.of e, c, fun q hq => tup_ok F p (cut_rel r lo hi) (Nat.le_trans (cutV_length xs lo hi) l) hq⟩
  · split at p
    · rename_i vs e
      obtain ⟨d, xs, rfl, hq, l, r⟩ := lstOf_ok F e ra
      exact sl_list pins s σ H _ v vl vu lo hi sl Q I rx hs pl pu ⟨d, xs, rfl, by rw [hX]; exact hq, fun q hq => mkL_ok F p (cut_rel r lo hi) (Nat.le_trans (cutV_length xs lo hi) l) hq⟩
    · exact p.elim
def rBi (G : Sg) (B : Bor) (b : BI) (z : Bool) : List V → Hp → VK → Prop := fun xs H Q => ∃ A h vs, Fits G B A h H ∧ RVs G B A H vs xs ∧ PV G B A H (biM b z vs h) Q
theorem maxI_ok : ∀ {ns : List Int} {m : Int}, maxI ns = some m → m ∈ ns ∧ ∀ y ∈ ns, y ≤ m
  | [], m, e => by cases e
  | [x], m, e => by
    unfold maxI at e
    cases e
    simp
  | x :: y :: r, m, e => by
    rw [maxI] at e
    · cases q : maxI (y :: r) with
      | none => rw [q] at e; cases e
      | some k =>
        rw [q] at e
        simp only [Option.some.injEq] at e
        obtain ⟨h1, h2⟩ := maxI_ok q
        by_cases c : k < x
        · rw [if_pos c] at e
          subst e
          refine ⟨List.mem_cons_self, fun w hw => ?_⟩
          rcases List.mem_cons.mp hw with z | z
          · omega
          · have := h2 w z
            omega
        · rw [if_neg c] at e
          subst e
          refine ⟨List.mem_cons_of_mem _ h1, fun w hw => ?_⟩
          rcases List.mem_cons.mp hw with z | z
          · omega
          · exact h2 w z
    · intro z
      cases z
theorem max_uniq {ns : List Int} {m k : Int} (h1 : m ∈ ns ∧ ∀ y ∈ ns, y ≤ m) (h2 : k ∈ ns) (h3 : ∀ y, y ∈ ns → y ≤ k) : k = m := by
  have a := h1.2 k h2
  have b := h3 m h1.1
  omega
theorem insI_perm (x : Int) : ∀ ys : List Int, (insI x ys).Perm (x :: ys)
  | [] => .refl _
  | y :: ys => by
    unfold insI
    split
    · exact .refl _
    · exact ((insI_perm x ys).cons y).trans (.swap x y ys)
theorem sortI_perm : ∀ xs : List Int, (sortI xs).Perm xs
  | [] => .refl _
  | x :: xs => (insI_perm x (sortI xs)).trans ((sortI_perm xs).cons x)
theorem insI_sorted (x : Int) : ∀ ys : List Int, ys.Pairwise (· ≤ ·) → (insI x ys).Pairwise (· ≤ ·)
  | [], _ => by
    unfold insI
    simp
  | y :: ys, s => by
    have s' := List.pairwise_cons.mp s
    unfold insI
    split
    · rename_i c
      refine List.pairwise_cons.mpr ⟨fun z hz => ?_, s⟩
      rcases List.mem_cons.mp hz with e | hz
      · rw [e]; exact c
      · exact Int.le_trans c (s'.1 z hz)
    · rename_i c
      refine List.pairwise_cons.mpr ⟨fun z hz => ?_, insI_sorted x ys s'.2⟩
      rcases List.mem_cons.mp ((insI_perm x ys).mem_iff.mp hz) with e | hz
      · rw [e]; omega
      · exact s'.1 z hz
theorem sortI_sorted : ∀ xs : List Int, (sortI xs).Pairwise (· ≤ ·)
  | [] => .nil
  | x :: xs => insI_sorted x _ (sortI_sorted xs)
theorem sorted_uniq : ∀ {l m : List Int}, l.Perm m → l.Pairwise (· ≤ ·) → m.Pairwise (· ≤ ·) → l = m
  | [], m, p, _, _ => (List.nil_perm.mp p).symm
  | x :: l, [], p, _, _ => by
    have := p.length_eq
    simp at this
  | x :: l, y :: m, p, s, t => by
    have s' := List.pairwise_cons.mp s
    have t' := List.pairwise_cons.mp t
    have h1 : x ≤ y := by
      rcases List.mem_cons.mp (p.mem_iff.mpr (List.mem_cons_self (a := y) (l := m))) with e | e
      · omega
      · exact s'.1 y e
    have h2 : y ≤ x := by
      rcases List.mem_cons.mp (p.mem_iff.mp (List.mem_cons_self (a := x) (l := l))) with e | e
      · omega
      · exact t'.1 x e
    have e : x = y := by omega
    subst e
    rw [sorted_uniq p.cons_inv s'.2 t'.2]

theorem insP_rel {kx : V → Int × Int} {v : Val} {x : V} (r : RV G B A H v x) (e : pairOf v = kx x) : ∀ {vs : List Val} {xs : List V}, RVs G B A H vs xs → vs.map pairOf = xs.map kx → RVs G B A H (insP pairOf v vs) (insP kx x xs) ∧ (insP pairOf v vs).map pairOf = (insP kx x xs).map kx
  | [], xs, q, _ => by
    rw [q.ofnil]
    unfold insP
    exact ⟨.one r, by simp [e]⟩
  | w :: vs, xs, q, m => by
    obtain ⟨y, ys, e1, q1, q2⟩ := q.uncons
    subst e1
    rw [List.map_cons, List.map_cons, List.cons.injEq] at m
    unfold insP
    rw [e, m.1]
    obtain ⟨h1, h2⟩ := insP_rel r e q2 m.2
    split
    · exact ⟨.cons q1 h1, by simp [m.1, h2]⟩
    · exact ⟨.cons r (.cons q1 q2), by simp [e, m.1, m.2]⟩
theorem sortP_rel {kx : V → Int × Int} : ∀ {vs : List Val} {xs : List V}, RVs G B A H vs xs → vs.map pairOf = xs.map kx → RVs G B A H (sortP pairOf vs) (sortP kx xs) ∧ (sortP pairOf vs).map pairOf = (sortP kx xs).map kx
  | [], xs, q, _ => by
    rw [q.ofnil]
    exact ⟨RVs.nil, rfl⟩
  | w :: vs, xs, q, m => by
    obtain ⟨y, ys, e1, q1, q2⟩ := q.uncons
    subst e1
    rw [List.map_cons, List.map_cons, List.cons.injEq] at m
    obtain ⟨h1, h2⟩ := sortP_rel q2 m.2
    unfold sortP
    exact insP_rel q1 m.1 h1 h2
theorem insP_srt (k : V → Int × Int) (x : V) : ∀ ys : List V, SrtO.Srtd (ltP k) ys → SrtO.Srtd (ltP k) (insP k x ys) ∧ SrtO.Stb (ltP k) (insP k x ys) (x :: ys)
  | [], _ => ⟨List.pairwise_singleton _ _, SrtO.Stb.refl _⟩
  | y :: ys, s => by
    have s' := List.pairwise_cons.mp s
    unfold insP
    split
    · rename_i c
      obtain ⟨h1, h2⟩ := insP_srt k x ys s'.2
      have c' : ltP k y x = true := c
      refine ⟨List.pairwise_cons.mpr ⟨fun z hz => ?_, h1⟩, ?_⟩
      · rcases List.mem_cons.mp (h2.perm.mem_iff.mp hz) with e | hz
        · subst e
          have a := SrtO.lexB_iff.mp c'
          refine SrtO.lexB_no.mpr ?_
          omega
        · exact s'.1 z hz
      · refine ⟨(h2.perm.cons y).trans (.swap x y ys), fun z => ?_⟩
        have e1 := h2.cls z
        rw [List.filter_cons, List.filter_cons, List.filter_cons, e1, List.filter_cons]
        by_cases q1 : SrtO.eqv (ltP k) z x = true
        · by_cases q2 : SrtO.eqv (ltP k) z y = true
          · have a1 := SrtO.eqv_iff.mp q1
            have a2 := SrtO.eqv_iff.mp q2
            have b1 := SrtO.lexB_no.mp a1.1
            have b2 := SrtO.lexB_no.mp a1.2
            have b3 := SrtO.lexB_no.mp a2.1
            have b4 := SrtO.lexB_no.mp a2.2
            have b5 := SrtO.lexB_iff.mp c'
            omega
          · simp only [if_neg q2, if_pos q1]
        · simp only [if_neg q1]
    · rename_i c
      have c' : ltP k y x = false := by
        have : ltPr (k y) (k x) = false := by simpa using c
        exact this
      refine ⟨List.pairwise_cons.mpr ⟨fun z hz => ?_, s⟩, SrtO.Stb.refl _⟩
      rcases List.mem_cons.mp hz with e | hz
      · rw [e]
        exact c'
      · have a := SrtO.lexB_no.mp (s'.1 z hz)
        have b := SrtO.lexB_no.mp c'
        refine SrtO.lexB_no.mpr ?_
        omega
theorem sortP_srt (k : V → Int × Int) : ∀ xs : List V, SrtO.Srtd (ltP k) (sortP k xs) ∧ SrtO.Stb (ltP k) (sortP k xs) xs
  | [] => ⟨.nil, SrtO.Stb.refl _⟩
  | x :: xs => by
    obtain ⟨h1, h2⟩ := sortP_srt k xs
    obtain ⟨h3, h4⟩ := insP_srt k x (sortP k xs) h1
    exact ⟨h3, h4.trans (SrtO.Stb.app (SrtO.Stb.refl [x]) h2)⟩
/-- a pair's two ints, off the heap -/
def kH (H : Hp) (x : V) : Int × Int := match x with
  | .ref t => match H t with
    | some (.tup [.int i, .int j]) => (i, j)
    | _ => (0, 0)
  | _ => (0, 0)
theorem pair_rel {v : Val} {x : V} (c : isPair v = true) (r : RV G B A H v x) : pairOf v = kH H x ∧ ∃ t, x = .ref t ∧ H t = some (.tup [.int (kH H x).1, .int (kH H x).2]) := by
  unfold isPair at c
  split at c
  · unfold RV at r
    obtain ⟨a, xs, rfl, e, _, _, r⟩ := r
    obtain ⟨y1, ys1, e1, r1, r2⟩ := r.uncons
    obtain ⟨y2, ys2, e2, r3, r4⟩ := r2.uncons
    have e3 := r4.ofnil
    unfold RV at r1 r3
    subst r1 r3 e3 e2 e1
    have hk : ∀ i j, H a = some (.tup [.int i, .int j]) → kH H (.ref a) = (i, j) := fun i j e => by
      unfold kH
      simp only [e]
    rw [hk _ _ e]
    exact ⟨rfl, a, rfl, e⟩
  · cases c
theorem pairs_rel : ∀ {vs : List Val} {xs : List V}, vs.all isPair = true → RVs G B A H vs xs → vs.map pairOf = xs.map (kH H) ∧ ∀ x ∈ xs, ∃ t, x = .ref t ∧ H t = some (.tup [.int (kH H x).1, .int (kH H x).2])
  | [], xs, _, r => by
    rw [r.ofnil]
    exact ⟨rfl, fun _ z => by cases z⟩
  | v :: vs, xs, c, r => by
    rw [List.all_cons, Bool.and_eq_true] at c
    obtain ⟨y, ys, e, r1, r2⟩ := r.uncons
    subst e
    obtain ⟨h1, h2⟩ := pairs_rel c.2 r2
    obtain ⟨h3, h4⟩ := pair_rel c.1 r1
    refine ⟨by simp [h1, h3], fun x hx => ?_⟩
    rcases List.mem_cons.mp hx with e | hx
    · rw [e]
      exact h4
    · exact h2 x hx
def calB : BI → Value
  | .len => .builtin "len"
  | .max1 => .builtin "max"
  | .max2 => .builtin "max"
  | .min2 => .builtin "min"
  | .abs => .builtin "abs"
  | .sum => .builtin "sum"
  | .all => .builtin "all"
  | .any => .builtin "any"
  | .sorted => .builtin "sorted"
  | .list => .type "list"
  | .tuple => .type "tuple"
  | .toInt => .type "int"
  | _ => .none
theorem call_biM {b : BI} {z : Bool} (hX : X.K = G.K) (hc : X.calm = true) (nb : b ≠ .sortedSet ∧ b ≠ .lenSet ∧ b ≠ .listRng) : CallR X (calB b) (rBi G B b z) := by
  intro pins s σ H xs us Q I r ⟨A, h, vs, F, rv, p⟩
  unfold biM at p
  split at p
  · -- len
    obtain ⟨x, _, rfl, rx, q⟩ := rv.uncons
    have q0 := q.ofnil
    subst q0
    split at p
    · rename_i ws e
      obtain ⟨a, ys, rfl, hq, _, rr⟩ := seqOf_ok F e rx
      rw [rr.length] at p
      refine call_len_seq pins s σ H _ us Q I r ⟨a, ys, rfl, ?_, int_ok F p⟩
      rw [hX]
      exact hq
    · exact p.elim
  · -- max of a list
    obtain ⟨x, _, rfl, rx, q⟩ := rv.uncons
    have q0 := q.ofnil
    subst q0
    split at p
    · rename_i ws e
      obtain ⟨a, ys, rfl, hq, _, rr⟩ := lstOf_ok F e rx
      split at p
      · rename_i is ei
        split at p
        · rename_i m em
          have ey := RVs.ints rr ei
          subst ey
          have mk := maxI_ok em
          refine cr_max hc pins s σ H _ us Q I r ⟨a, is, rfl, by rw [hX]; exact hq, List.length_pos_of_mem mk.1, fun k h1 h2 => ?_⟩
          rw [max_uniq mk h1 h2]
          exact int_ok F p
        · exact p.elim
      · exact p.elim
    · exact p.elim
  · -- max, min, abs
    rename_i i j
    obtain ⟨x, _, rfl, rx, q⟩ := rv.uncons
    obtain ⟨y, _, rfl, ry, q⟩ := q.uncons
    have q0 := q.ofnil
    subst q0
    unfold RV at rx ry
    subst rx ry
    exact call_max2 hc pins s σ H _ us Q I r ⟨i, j, rfl, int_ok F p⟩
  · rename_i i j
    obtain ⟨x, _, rfl, rx, q⟩ := rv.uncons
    obtain ⟨y, _, rfl, ry, q⟩ := q.uncons
    have q0 := q.ofnil
    subst q0
    unfold RV at rx ry
    subst rx ry
    exact call_min2 hc pins s σ H _ us Q I r ⟨i, j, rfl, int_ok F p⟩
  · rename_i i
    obtain ⟨x, _, rfl, rx, q⟩ := rv.uncons
    have q0 := q.ofnil
    subst q0
    unfold RV at rx
    subst rx
    exact call_abs pins s σ H _ us Q I r ⟨i, rfl, int_ok F p⟩
  · -- sum
    obtain ⟨x, _, rfl, rx, q⟩ := rv.uncons
    have q0 := q.ofnil
    subst q0
    split at p
    · rename_i ws e
      obtain ⟨a, ys, rfl, hq, _, rr⟩ := lstOf_ok F e rx
      split at p
      · rename_i is ei
        have ey := RVs.ints rr ei
        subst ey
        exact cr_sum hc pins s σ H _ us Q I r ⟨a, is, rfl, by rw [hX]; exact hq, int_ok F p⟩
      · exact p.elim
    · exact p.elim
  · -- all
    obtain ⟨x, _, rfl, rx, q⟩ := rv.uncons
    have q0 := q.ofnil
    subst q0
    split at p
    · rename_i ws e
      obtain ⟨a, ys, rfl, hq, _, rr⟩ := lstOf_ok F e rx
      split at p
      · rename_i is ei
        have ey := RVs.bls rr ei
        subst ey
        exact cr_all hc pins s σ H _ us Q I r ⟨a, is, rfl, by rw [hX]; exact hq, bl_ok F p⟩
      · exact p.elim
    · exact p.elim
  · -- any
    obtain ⟨x, _, rfl, rx, q⟩ := rv.uncons
    have q0 := q.ofnil
    subst q0
    split at p
    · rename_i ws e
      obtain ⟨a, ys, rfl, hq, _, rr⟩ := lstOf_ok F e rx
      split at p
      · rename_i is ei
        have ey := RVs.bls rr ei
        subst ey
        exact cr_any hc pins s σ H _ us Q I r ⟨a, is, rfl, by rw [hX]; exact hq, bl_ok F p⟩
      · exact p.elim
    · exact p.elim
  · -- sorted
    obtain ⟨x, _, rfl, rx, q⟩ := rv.uncons
    have q0 := q.ofnil
    subst q0
    split at p
    · rename_i ws e
      obtain ⟨a, ys, rfl, hq, l, rr⟩ := lstOf_ok F e rx
      split at p
      · rename_i out eo
        unfold sortM at eo
        split at eo
        · rename_i is ei
          cases eo
          have ey := RVs.ints rr ei
          subst ey
          rw [List.length_map] at l
          refine cr_sortedI pins s σ H _ us Q I r ⟨a, is, rfl, by rw [hX]; exact hq, fun ns' d h1 h2 hd => ?_⟩
          have es : ns' = sortI is := sorted_uniq (h1.trans (sortI_perm is).symm) h2 (sortI_sorted is)
          subst es
          exact mkL_ok F p (RVs.ofInts _) (by rw [List.length_map, (sortI_perm is).length_eq]; exact l) hd
        · split at eo
          · rename_i c
            cases eo
            obtain ⟨h1, h2⟩ := pairs_rel c rr
            obtain ⟨h3, _⟩ := sortP_rel rr h1
            obtain ⟨h4, h5⟩ := sortP_srt (kH H) ys
            refine cr_sortedPO pins s σ H _ us Q I r ⟨a, ys, kH H, rfl, by rw [hX]; exact hq, h2, fun zs d s1 s2 hd => ?_⟩
            have es : zs = sortP (kH H) ys := SrtO.stb_uniq (ltP_swo _) s1 h4 (s2.trans ⟨h5.perm.symm, fun x => (h5.cls x).symm⟩)
            subst es
            exact mkL_ok F p h3 (by rw [h5.perm.length_eq]; exact l) hd
          · cases eo
      · exact p.elim
    · exact p.elim
  · -- list
    obtain ⟨x, _, rfl, rx, q⟩ := rv.uncons
    have q0 := q.ofnil
    subst q0
    split at p
    · rename_i ws e
      obtain ⟨a, ys, rfl, hq, l, rr⟩ := seqOf_ok F e rx
      exact call_list_of pins s σ H _ us Q I r ⟨a, ys, rfl, by rw [hX]; exact hq, fun d hd => mkL_ok F p rr l hd⟩
    · exact p.elim
  · -- tuple
    obtain ⟨x, _, rfl, rx, q⟩ := rv.uncons
    have q0 := q.ofnil
    subst q0
    split at p
    · rename_i ws e
      obtain ⟨a, ys, rfl, hq, l, rr⟩ := lstOf_ok F e rx
      exact call_tuple_of pins s σ H _ us Q I r ⟨a, ys, rfl, .inl ⟨by rw [hX]; exact hq, fun d hd => tup_ok F p rr l hd⟩⟩
    · exact p.elim
  · -- int
    rename_i k
    obtain ⟨x, _, rfl, rx, q⟩ := rv.uncons
    have q0 := q.ofnil
    subst q0
    unfold RV at rx
    subst rx
    exact call_int1 pins s σ H _ us Q I r (.inr ⟨k, rfl, int_ok F p⟩)
  · rename_i k
    obtain ⟨x, _, rfl, rx, q⟩ := rv.uncons
    have q0 := q.ofnil
    subst q0
    unfold RV at rx
    subst rx
    exact call_int1 pins s σ H _ us Q I r (.inl ⟨k, rfl, int_ok F p⟩)
  · exact absurd rfl nb.1
  · exact absurd rfl nb.2.1
  · exact absurd rfl nb.2.2
  · exact p.elim
end
end MP
set_option Elab.async false
set_option linter.all false
set_option maxRecDepth 100000
set_option autoImplicit false
namespace MP
open PySem PySem.Spec PyProof.Rows L2
section
variable {G : Sg} {B : Bor} {A : List Addr} {H : Hp} {h : Hm} {X : Cx} {Q : VK}
def idM : MI → String
  | .append => "list.append"
  | .extend => "list.extend"
  | .pop => "list.pop"
  | .reverse => "list.reverse"
  | .clear => "list.clear"
  | .index => "list.index"
  | .count => "list.count"
  | .get => "dict.get"
def tyM : MI → String
  | .get => "dict"
  | _ => "list"
def rMeth (G : Sg) (B : Bor) (m : MI) : V → List V → Hp → VK → Prop := fun x xs H Q => ∃ A h v vs, Fits G B A h H ∧ RV G B A H v x ∧ RVs G B A H vs xs ∧ PV G B A H (methM m v vs h) Q
/-- one of ours, a list, is written -/
theorem lst_set {i : Nat} {a : Addr} {xs ys : List V} {ws : List Val} {w : Val} {y : V} (F : Fits G B A h H) (ea : A[i]? = some a) (hx : H a = some (.lst xs)) (p : PV G B A H (.ok w (h.set i (.lst ws))) Q)
    (r : RVs G B A H ws ys) (l : ys.length ≤ sizeLine) (ry : RV G B A H w y) : Q y (upd H a (.lst ys)) := by
  have m := List.mem_of_getElem? ea
  have n : Next A H A (upd H a (.lst ys)) := next_set m hx
  exact p.ok (F.set ea ⟨ys, upd_same, l, RVs.mono n ws r⟩) n (RV.mono n w ry)
theorem findI_ok {x : Val} : ∀ {vs : List Val} {n : Nat}, findI x vs = some n → ∃ z, vs[n]? = some z ∧ eqV z x = true ∧ ∀ m w, m < n → vs[m]? = some w → eqV w x = false
  | [], n, e => by cases e
  | v :: vs, n, e => by
    unfold findI at e
    split at e
    · rename_i c
      cases e
      exact ⟨v, rfl, c, fun m w hm => by omega⟩
    · rename_i c
      split at e
      · rename_i k ek
        cases e
        obtain ⟨z, h1, h2, h3⟩ := findI_ok ek
        refine ⟨z, by simpa using h1, h2, fun m w hm hw => ?_⟩
        cases m with
        | zero =>
          simp at hw
          subst hw
          simpa using c
        | succ m => exact h3 m w (by omega) (by simpa using hw)
      · cases e
theorem mt_methM (g : G.Good) {m : MI} (hX : X.K = G.K) (hu : X.A.units + 65 < cLine) (nc : m ≠ .count) : MtR X (idM m) (rMeth G B m) := by
  intro pins s σ H x xs v us Q I rx rs ⟨A, h, w, ws, F, ra, rv, p⟩
  unfold methM at p
  split at p
  · -- append
    rename_i y
    split at p
    · rename_i i
      split at p
      · rename_i vs e
        split at p
        · rename_i c
          unfold RV at ra
          obtain ⟨a, rfl, ea⟩ := ra
          obtain ⟨xs', hx, l, r⟩ := F.ob i _ a e ea
          obtain ⟨z, _, rfl, rz, q⟩ := rv.uncons
          have q0 := q.ofnil
          subst q0
          rw [r.length] at c
          exact mt_append pins s σ H _ _ v us Q I rx rs ⟨a, xs', z, rfl, rfl, hx, big_lt c, lst_set F ea hx p (r.append (.one rz)) (by rw [List.length_append]; exact big_lt c) rv_non⟩
        · exact p.elim
      · exact p.elim
    · exact p.elim
  · -- extend
    rename_i y
    split at p
    · rename_i i
      split at p
      · rename_i vs ws' e1 e2
        split at p
        · rename_i c
          unfold RV at ra
          obtain ⟨a, rfl, ea⟩ := ra
          obtain ⟨xs', hx, l, r⟩ := F.ob i _ a e1 ea
          obtain ⟨z, _, rfl, rz, q⟩ := rv.uncons
          have q0 := q.ofnil
          subst q0
          obtain ⟨b, zs, rfl, hz, _, r2⟩ := catOf_ok F e2 rz
          rw [r.length, r2.length] at c
          exact mt_extend pins s σ H _ _ v us Q I rx rs ⟨a, b, xs', zs, rfl, rfl, hx, hz, big_le c, lst_set F ea hx p (r.append r2) (by rw [List.length_append]; exact big_le c) rv_non⟩
        · exact p.elim
      · exact p.elim
    · exact p.elim
  · -- pop
    split at p
    · rename_i i
      split at p
      · rename_i vs e
        split at p
        · rename_i y ey
          unfold RV at ra
          obtain ⟨a, rfl, ea⟩ := ra
          obtain ⟨xs', hx, l, r⟩ := F.ob i _ a e ea
          have q0 := rv.ofnil
          subst q0
          rw [List.getLast?_eq_getElem?, r.length] at ey
          obtain ⟨z, ez, rz⟩ := r.get ey
          exact mt_pop pins s σ H _ _ v us Q I rx rs ⟨a, xs', z, rfl, rfl, hx, ez, lst_set F ea hx p r.dropLast (by rw [List.length_dropLast]; omega) rz⟩
        · exact p.elim
      · exact p.elim
    · exact p.elim
  · -- reverse
    split at p
    · rename_i i
      split at p
      · rename_i vs e
        unfold RV at ra
        obtain ⟨a, rfl, ea⟩ := ra
        obtain ⟨xs', hx, l, r⟩ := F.ob i _ a e ea
        have q0 := rv.ofnil
        subst q0
        exact mt_reverse pins s σ H _ _ v us Q I rx rs ⟨a, xs', rfl, rfl, hx, lst_set F ea hx p r.reverse (by rw [List.length_reverse]; exact l) rv_non⟩
      · exact p.elim
    · exact p.elim
  · -- clear
    split at p
    · rename_i i
      split at p
      · rename_i vs e
        unfold RV at ra
        obtain ⟨a, rfl, ea⟩ := ra
        obtain ⟨xs', hx, l, r⟩ := F.ob i _ a e ea
        have q0 := rv.ofnil
        subst q0
        exact mt_clear pins s σ H _ _ v us Q I rx rs ⟨a, xs', rfl, rfl, hx, lst_set F ea hx p RVs.nil (Nat.zero_le _) rv_non⟩
      · exact p.elim
    · exact p.elim
  · -- index
    rename_i y
    split at p
    · rename_i vs e
      split at p
      · rename_i c
        rw [Bool.and_eq_true] at c
        split at p
        · rename_i n en
          obtain ⟨a, ys, rfl, hq, l, r⟩ := lstOf_ok F e ra
          obtain ⟨z, _, rfl, rz, q⟩ := rv.uncons
          have q0 := q.ofnil
          subst q0
          obtain ⟨t, h1, h2, h3⟩ := findI_ok en
          have dv : ∀ u ∈ vs, isData 1 u = true := fun u hu => flat_data (List.all_eq_true.mp c.2 u hu) 1
          have da : vs.all (isData 1) = true := List.all_eq_true.mpr dv
          have dy : isData 1 y = true := flat_data c.1 1
          have key : ∀ (m : Nat) (u : Val), vs[m]? = some u → eqV u y = PyData.eqv (toPD G u) (toPD G y) := fun m u hm => by
            obtain ⟨xu, _, ru⟩ := r.get hm
            exact eqv_of g u y ru rz ⟨1, dv u (List.mem_of_getElem? hm)⟩ ⟨1, dy⟩
          have hs : SeqAt.shaped (.list (toPDs G vs)) = true := by
            obtain ⟨l1, l2⟩ := layAll_of (G := G) (lay_of g 1) vs da
            unfold SeqAt.shaped PyData.canLay0 PyData.depth
            rw [l1, Bool.true_and, decide_eq_true_eq]
            omega
          refine mt_indexD hu pins s σ H _ _ v us Q I rx rs ⟨a, z, toPD G y, toPDs G vs, n, toPD G t, rfl, rfl, ?_, ?_, hs, shaped_of g (by decide) dy, ?_, ?_, fun m w hm hw => ?_, int_ok F p⟩
          · rw [hX]
            exact .lst hq (dpAll_of (dp_of 1) vs da r)
          · rw [hX]
            exact dp_of 1 y z dy rz
          · rw [toPDs_map, List.getElem?_map, h1]
            rfl
          · rw [← key n t h1]
            exact h2
          · rw [toPDs_map, List.getElem?_map] at hw
            cases eu : vs[m]? with
            | none => rw [eu] at hw; cases hw
            | some u =>
              rw [eu] at hw
              cases hw
              rw [← key m u eu]
              exact h3 m u hm eu
        · exact p.elim
      · exact p.elim
    · exact p.elim
  · exact absurd rfl nc
  · -- get
    rename_i y
    split at p
    · rename_i ks vs k e1 e2
      obtain ⟨a, kvs, rfl, hd, _, rk, r⟩ := dctOf_ok F e1 ra
      obtain ⟨z, _, rfl, rz, q⟩ := rv.uncons
      have q0 := q.ofnil
      subst q0
      obtain ⟨kk, rfl, rkk⟩ := keyOf_ok e2 rz
      obtain ⟨u, rfl, ru⟩ := Vals.one rs
      cases rx
      refine d_get1 (o := valV kvs kk) (by omega) I (DGet.k hd) ru fun w' s' I' rw' => ⟨_, H, I', rw', ?_⟩
      obtain ⟨h1, h2⟩ := assoc_rel g rkk rk r
      cases ea : assoc ks vs k with
      | none =>
        rw [ea] at p
        rw [h2 ea]
        exact val_ok F p rv_non
      | some w =>
        rw [ea] at p
        obtain ⟨x', e3, rx'⟩ := h1 w ea
        rw [e3]
        exact val_ok F p rx'
    · exact p.elim
  · exact p.elim
def rSetI (G : Sg) (B : Bor) : V → V → V → Hp → (Hp → Prop) → Prop := fun o i v H Q => ∃ A h a b c h', Fits G B A h H ∧ RV G B A H a o ∧ RV G B A H b i ∧ RV G B A H c v ∧ setIM a b c h = some h' ∧ ∀ H', Fits G B A h' H' → Next A H A H' → Q H'
theorem repl_rel (g : G.Good) {k : MKey} {q : Key} (rk : RKey G k q) {w : Val} {y : V} (rw_ : RV G B A H w y) : ∀ {ks : List MKey} {vs : List Val} {kvs : List (Key × V)}, RKeys G ks (kvs.map (·.1)) → RVs G B A H vs (kvs.map (·.2)) →
    RKeys G ks ((kvs.map fun kv => if kv.1 = q then (kv.1, y) else kv).map (·.1)) ∧ RVs G B A H (replK ks vs k w) ((kvs.map fun kv => if kv.1 = q then (kv.1, y) else kv).map (·.2))
  | [], vs, kvs, r, r2 => by
    unfold RKeys at r
    have : kvs = [] := by simpa using r
    subst this
    have e : vs = [] := List.length_eq_zero_iff.mp (by rw [r2.length]; rfl)
    subst e
    exact ⟨by unfold RKeys; rfl, RVs.nil⟩
  | m :: ms, vs, [], r, _ => by
    unfold RKeys at r
    obtain ⟨_, _, e, _⟩ := r
    cases e
  | m :: ms, [], p :: kvs, _, r => by
    have := r.ofnil
    cases this
  | m :: ms, v :: vs, p :: kvs, r, r2 => by
    unfold RKeys at r
    obtain ⟨k1, r1, e, h1, h2⟩ := r
    rw [List.map_cons, List.cons.injEq] at e
    obtain ⟨y', ys, e2, q1, q2⟩ := r2.uncons
    rw [List.map_cons, List.cons.injEq] at e2
    have ke := key_eq g h1 rk
    rw [← e.1] at ke
    have ih := repl_rel g rk rw_ (ks := ms) (vs := vs) (kvs := kvs) (by rw [e.2]; exact h2) (by rw [e2.2]; exact q2)
    rw [List.map_cons, List.map_cons, List.map_cons]
    unfold replK
    by_cases c : m = k
    · have c2 : p.1 = q := by
        rw [decide_eq_true c] at ke
        exact of_decide_eq_true ke.symm
      rw [if_pos c, if_pos c2]
      refine ⟨?_, .cons rw_ ih.2⟩
      unfold RKeys
      exact ⟨_, _, rfl, by rw [e.1]; exact h1, ih.1⟩
    · have c2 : ¬ p.1 = q := by
        rw [decide_eq_false c] at ke
        exact of_decide_eq_false ke.symm
      rw [if_neg c, if_neg c2]
      refine ⟨?_, .cons (by rw [e2.1]; exact q1) ih.2⟩
      unfold RKeys
      exact ⟨_, _, rfl, by rw [e.1]; exact h1, ih.1⟩
theorem RKeys.append {ks ms : List MKey} {qs rs : List Key} (h1 : RKeys G ks qs) (h2 : RKeys G ms rs) : RKeys G (ks ++ ms) (qs ++ rs) := by
  induction ks generalizing qs with
  | nil =>
    unfold RKeys at h1
    rw [h1]
    exact h2
  | cons k ks ih =>
    unfold RKeys at h1
    obtain ⟨q, r, e, a, b⟩ := h1
    rw [e]
    show RKeys G (k :: (ks ++ ms)) (q :: (r ++ rs))
    unfold RKeys
    exact ⟨_, _, rfl, a, ih b⟩
theorem put_rel (g : G.Good) {k : MKey} {q : Key} (rk : RKey G k q) {w : Val} {y : V} (rw_ : RV G B A H w y) {ks : List MKey} {vs : List Val} {kvs : List (Key × V)} (h1 : RKeys G ks (kvs.map (·.1))) (h2 : RVs G B A H vs (kvs.map (·.2))) :
    RKeys G (dctPut ks vs k w).1 ((putK kvs q y).map (·.1)) ∧ RVs G B A H (dctPut ks vs k w).2 ((putK kvs q y).map (·.2)) := by
  unfold dctPut putK
  rw [keys_any g rk h1, ← valV_any]
  split
  · exact repl_rel g rk rw_ h1 h2
  · rw [List.map_append, List.map_append]
    exact ⟨h1.append (by unfold RKeys; exact ⟨q, [], rfl, rk, by unfold RKeys; rfl⟩), h2.append (.one rw_)⟩
theorem set_setIM (g : G.Good) (hu : X.A.units + 1 < cLine) : PSet X (rSetI G B) := by
  intro pins s σ H o i v ov iv u Q I ro ri rv ⟨A, h, a, b, c, h', F, ra, rb, rc, e, k⟩
  unfold setIM at e
  split at e
  · rename_i n
    unfold RV at ra
    obtain ⟨p, rfl, ep⟩ := ra
    have m := List.mem_of_getElem? ep
    split at e
    · rename_i vs j eo
      unfold RV at rb
      subst rb
      obtain ⟨xs, hx, l, r⟩ := F.ob n _ p eo ep
      split at e
      · rename_i t et
        cases e
        rw [r.length] at et
        have nx : Next A H A (upd H p (.lst (xs.set t v))) := next_set m hx
        exact set_list pins s σ H _ _ v ov iv u Q I ro ri rv ⟨p, xs, j, t, rfl, rfl, hx, et, k _ (F.set ep ⟨_, upd_same, by rw [List.length_set]; exact l, RVs.mono nx _ (r.set t rc)⟩) nx⟩
      · cases e
    · rename_i ks vs _ eo
      split at e
      · rename_i kk ek
        split at e
        · rename_i c
          cases e
          obtain ⟨kvs, hx, l, rk, r⟩ := F.ob n _ p eo ep
          obtain ⟨q, rfl, rq⟩ := keyOf_ok ek rb
          cases ro
          have nx : Next A H A (upd H p (.dK (putK kvs q v))) := next_set m hx
          obtain ⟨k1, k2⟩ := put_rel g rq rc rk r
          have lk : kvs.length < sizeLine := by
            have := r.length
            rw [List.length_map] at this
            have := c.2
            rw [c.1] at this
            exact big_lt (by omega)
          refine d_setItem hu I (DPut.k hx lk) ri rv fun s' I' => ⟨_, I', k _ (F.set ep ⟨_, upd_same, ?_, k1, RVs.mono nx _ k2⟩) nx⟩
          exact Nat.le_trans (length_putK kvs q v) lk
        · cases e
      · cases e
    · cases e
  · cases e
theorem fld_rel (g : G.Good) {f : Nat} {n : Str} (ef : G.fld[f]? = some n) : ∀ {fs : List Nat} {vs : List Val} {fv : List (Str × V)} {v : Val}, RFs G fs (fv.map (·.1)) → RVs G B A H vs (fv.map (·.2)) → assoc fs vs f = some v → ∃ x, fv.lookup n = some x ∧ RV G B A H v x
  | [], vs, fv, v, _, _, e => by cases vs <;> cases e
  | m :: ms, [], fv, v, _, _, e => by cases e
  | m :: ms, w :: vs, [], v, r, _, e => by
    unfold RFs at r
    obtain ⟨_, _, e, _⟩ := r
    cases e
  | m :: ms, w :: vs, p :: fv, v, r, r2, e => by
    unfold RFs at r
    obtain ⟨k, r1, e1, h1, h2⟩ := r
    rw [List.map_cons, List.cons.injEq] at e1
    obtain ⟨y, ys, e2, q1, q2⟩ := r2.uncons
    rw [List.map_cons, List.cons.injEq] at e2
    unfold assoc at e
    obtain ⟨p1, p2⟩ := p
    simp only at e1 e2
    by_cases c : m = f
    · rw [if_pos c] at e
      cases e
      have : p1 = n := by
        rw [c, ef] at h1
        rw [e1.1]
        exact (Option.some.inj h1).symm
      refine ⟨p2, ?_, by rw [e2.1]; exact q1⟩
      rw [List.lookup_cons, this]
      simp
    · rw [if_neg c] at e
      have : p1 ≠ n := by
        intro z
        rw [e1.1] at z
        subst z
        exact c ((List.getElem?_inj (List.getElem?_eq_some_iff.mp h1).1 g.fnd).mp (h1.trans ef.symm))
      obtain ⟨x, a1, a2⟩ := fld_rel g ef (fs := ms) (vs := vs) (fv := fv) (by rw [e1.2]; exact h2) (by rw [e2.2]; exact q2) e
      refine ⟨x, ?_, a2⟩
      rw [List.lookup_cons]
      have : (n == p1) = false := by
        rw [beq_eq_false_iff_ne]
        exact fun z => this z.symm
      rw [this]
      exact a1
theorem putF_rel (g : G.Good) {f : Nat} {n : Str} (ef : G.fld[f]? = some n) {w : Val} {y : V} (rw_ : RV G B A H w y) : ∀ {fs : List Nat} {vs : List Val} {fv : List (Str × V)}, RFs G fs (fv.map (·.1)) → RVs G B A H vs (fv.map (·.2)) → fs.length = vs.length →
    RFs G (assocPut fs vs f w).1 ((putF n y fv).map (·.1)) ∧ RVs G B A H (assocPut fs vs f w).2 ((putF n y fv).map (·.2))
  | [], vs, fv, r, r2, hl => by
    unfold RFs at r
    have : fv = [] := by simpa using r
    subst this
    cases vs with
    | cons _ _ => simp at hl
    | nil =>
      unfold assocPut putF
      exact ⟨by unfold RFs; exact ⟨n, [], rfl, ef, by unfold RFs; rfl⟩, .one rw_⟩
  | m :: ms, [], fv, _, _, hl => by simp at hl
  | m :: ms, v :: vs, [], r, _, _ => by
    unfold RFs at r
    obtain ⟨_, _, e, _⟩ := r
    cases e
  | m :: ms, v :: vs, p :: fv, r, r2, hl => by
    unfold RFs at r
    obtain ⟨k, r1, e1, h1, h2⟩ := r
    rw [List.map_cons, List.cons.injEq] at e1
    obtain ⟨y', ys, e2, q1, q2⟩ := r2.uncons
    rw [List.map_cons, List.cons.injEq] at e2
    obtain ⟨p1, p2⟩ := p
    simp only at e1 e2
    unfold assocPut putF
    by_cases c : m = f
    · have : p1 = n := by
        rw [c, ef] at h1
        rw [e1.1]
        exact (Option.some.inj h1).symm
      rw [if_pos c, if_pos this]
      refine ⟨?_, .cons rw_ (by rw [e2.2]; exact q2)⟩
      unfold RFs
      exact ⟨_, _, rfl, by rw [e1.1]; exact h1, by rw [e1.2]; exact h2⟩
    · have : p1 ≠ n := by
        intro z
        rw [e1.1] at z
        subst z
        exact c ((List.getElem?_inj (List.getElem?_eq_some_iff.mp h1).1 g.fnd).mp (h1.trans ef.symm))
      rw [if_neg c, if_neg this]
      obtain ⟨a1, a2⟩ := putF_rel g ef rw_ (fs := ms) (vs := vs) (fv := fv) (by rw [e1.2]; exact h2) (by rw [e2.2]; exact q2) (by simpa using hl)
      refine ⟨?_, .cons (by rw [e2.1]; exact q1) a2⟩
      unfold RFs
      exact ⟨_, _, rfl, by rw [e1.1]; exact h1, a1⟩
/-- x.f = v: what the store leaves -/
theorem setFM_ok (g : G.Good) (F : Fits G B A h H) {f : Nat} {n : Str} (ef : G.fld[f]? = some n) {a c : Val} {x y : V} {h' : Hm} (e : setFM a f c h = some h') (ra : RV G B A H a x) (rc : RV G B A H c y) :
    ∃ (p C dx : Addr) (fv : List (Str × V)) (k : Nat), x = .ref p ∧ H p = some (.ins C dx fv) ∧ G.cls k = some C ∧ fv.length < 1000 ∧ Fits G B A h' (upd H p (.ins C dx (putF n y fv))) ∧ Next A H A (upd H p (.ins C dx (putF n y fv))) ∧ clsOf h a = some k := by
  unfold setFM at e
  split at e
  · rename_i i
    unfold RV at ra
    obtain ⟨p, rfl, ep⟩ := ra
    have m := List.mem_of_getElem? ep
    split at e
    · rename_i k fs vs eo
      split at e
      · rename_i c
        cases e
        obtain ⟨C, dx, fv, hx, ec, rf, r⟩ := F.ob i _ p eo ep
        have nx : Next A H A (upd H p (.ins C dx (putF n y fv))) := next_set m hx
        obtain ⟨k1, k2⟩ := putF_rel g ef rc rf r c.1
        have hl := r.length
        rw [List.length_map] at hl
        refine ⟨p, C, dx, fv, k, rfl, hx, ec, by omega, F.set ep ⟨C, dx, _, upd_same, ec, k1, RVs.mono nx _ k2⟩, nx, by simp only [clsOf, insOf, eo]⟩
      · cases e
    · cases e
  · cases e
end
end MP
set_option Elab.async false
set_option linter.all false
set_option maxRecDepth 100000
set_option autoImplicit false
namespace MP
open PySem PySem.Spec PyProof.Rows L2
/-- all that a value may know at (B, A, H) stands at (B', A', H') -/
structure Conv (B : Bor) (A : List Addr) (H : Hp) (B' : Bor) (A' : List Addr) (H' : Hp) : Prop where
  o : ∀ (a : Addr) (u : HO), H a = some u → Out B A a → H' a = some u ∧ Out B' A' a
  b : ∀ (a : Addr), ¬ B.b a → ¬ B'.b a
  g : ∀ (i : Nat) (a : Addr), A[i]? = some a → A'[i]? = some a
section
variable {G : Sg} {B B' B'' : Bor} {A A' A'' : List Addr} {H H' H'' : Hp} {h : Hm}
theorem Conv.refl : Conv B A H B A H := ⟨fun _ _ e o => ⟨e, o⟩, fun _ e => e, fun _ _ e => e⟩
theorem Conv.trans (c : Conv B A H B' A' H') (d : Conv B' A' H' B'' A'' H'') : Conv B A H B'' A'' H'' :=
  ⟨fun a u e o => d.o a u (c.o a u e o).1 (c.o a u e o).2, fun a e => d.b a (c.b a e), fun i a e => d.g i a (c.g i a e)⟩
theorem Conv.next (n : Next A H A' H') : Conv B A H B A' H' := ⟨fun a u e o => ⟨n.keep a u e o.1, n.nmem e o.1, o.2⟩, fun _ e => e, fun _ _ e => n.get e⟩
theorem Still.conv {c : Fz} {a : Addr} {o : HO} (s : Still B A H c a o) (n : Conv B A H B' A' H') : Still B' A' H' c a o :=
  ⟨s.1, (n.o a o s.2.1 s.2.2.1).1, (n.o a o s.2.1 s.2.2.1).2, fun e => n.b a (s.2.2.2 e)⟩
theorem LstOk.conv {c : Fz} {a : Addr} {xs : List V} (s : LstOk G B A H c a xs) (n : Conv B A H B' A' H') : LstOk G B' A' H' c a xs := by
  cases c with
  | scr =>
    rcases s with ⟨o, e, m⟩ | k
    · exact .inl ⟨o, (n.o _ _ e m).1, (n.o _ _ e m).2⟩
    · exact .inr k
  | own => exact Still.conv s n
  | bor => exact Still.conv s n
mutual
theorem RV.conv (n : Conv B A H B' A' H') : ∀ (v : Val) {x : V}, RV G B A H v x → RV G B' A' H' v x
  | .non, _, r => r
  | .bl _, _, r => r
  | .int _, _, r => r
  | .str _, _, r => r
  | .tup vs, x, r => by
    unfold RV at r ⊢
    obtain ⟨a, xs, e, q, m, z, r⟩ := r
    exact ⟨a, xs, e, (n.o _ _ q m).1, (n.o _ _ q m).2, z, RVs.conv n vs r⟩
  | .lst c vs, x, r => by
    unfold RV at r ⊢
    obtain ⟨a, xs, e, q, z, r⟩ := r
    exact ⟨a, xs, e, q.conv n, z, RVs.conv n vs r⟩
  | .dct c ks vs, x, r => by
    unfold RV at r ⊢
    obtain ⟨a, kvs, e, q, z, k, r⟩ := r
    exact ⟨a, kvs, e, q.conv n, z, k, RVs.conv n vs r⟩
  | .obj c k fs vs, x, r => by
    unfold RV at r ⊢
    obtain ⟨a, C, dx, fv, e, ec, q, f, r⟩ := r
    exact ⟨a, C, dx, fv, e, ec, q.conv n, f, RVs.conv n vs r⟩
  | .ref i, x, r => by
    unfold RV at r ⊢
    obtain ⟨a, e, q⟩ := r
    exact ⟨a, e, n.g _ _ q⟩
  | .err _, _, r => by
    unfold RV at r
    exact r.elim
  | .clo _ _, _, r => by
    unfold RV at r
    exact r.elim
theorem RVs.conv (n : Conv B A H B' A' H') : ∀ (vs : List Val) {xs : List V}, RVs G B A H vs xs → RVs G B' A' H' vs xs
  | [], _, r => r
  | v :: vs, xs, r => by
    unfold RVs at r ⊢
    obtain ⟨y, ys, e, r1, r2⟩ := r
    exact ⟨y, ys, e, RV.conv n v r1, RVs.conv n vs r2⟩
end
theorem RE.conv {e : En} {σ : L2.St} (r : RE G B A H e σ) (n : Conv B A H B' A' H') : RE G B' A' H' e σ :=
  ⟨r.1, fun i v q => by
    obtain ⟨x, q1, q2⟩ := r.2 i v q
    exact ⟨x, q1, RV.conv n v q2⟩⟩
theorem RO.conv {o : Ob} {a : Addr} (n : Conv B A H B' A' H') (k : ∀ u, H a = some u → H' a = some u) (r : RO G B A H o a) : RO G B' A' H' o a := by
  cases o with
  | lst vs =>
    obtain ⟨xs, e, z, r⟩ := r
    exact ⟨xs, k _ e, z, RVs.conv n vs r⟩
  | dct ks vs =>
    obtain ⟨kvs, e, z, kk, r⟩ := r
    exact ⟨kvs, k _ e, z, kk, RVs.conv n vs r⟩
  | ins c fs vs =>
    obtain ⟨C, dx, fv, e, ec, f, r⟩ := r
    exact ⟨C, dx, fv, k _ e, ec, f, RVs.conv n vs r⟩
/-- a list is being made at D: no value knows it -/
def Bor.and (B : Bor) (D : Addr) : Bor := ⟨B.b, fun a => B.x a ∨ a = D⟩
theorem Conv.hide {D : Addr} {o : HO} (e : H D = none) : Conv B A H (B.and D) A (upd H D o) :=
  ⟨fun a u q m => ⟨by rw [upd_ne (ne_of_none q e)]; exact q, m.1, fun z => z.elim m.2 (ne_of_none q e)⟩, fun _ e => e, fun _ _ e => e⟩
theorem Conv.show {D : Addr} : Conv (B.and D) A H B A H := ⟨fun a u q m => ⟨q, m.1, fun z => m.2 (.inl z)⟩, fun _ e => e, fun _ _ e => e⟩
theorem Conv.poke {D : Addr} {o : HO} (x : B.x D) : Conv B A H B A (upd H D o) :=
  ⟨fun a u q m => ⟨by
    have z : a ≠ D := fun z => m.2 (by rw [z]; exact x)
    rw [upd_ne z]
    exact q, m⟩, fun _ e => e, fun _ _ e => e⟩
theorem Fits.hide {D : Addr} {xs : List V} (F : Fits G B A h H) (e : H D = none) : Fits G (B.and D) A h (upd H D (.lst xs)) where
  len := F.len
  nd := F.nd
  ob := fun i o a e1 e2 => RO.conv (.hide e) (fun u q => by rw [upd_ne (ne_of_none q e)]; exact q) (F.ob i o a e1 e2)
  bt := fun a b => by
    have z : a ≠ D := fun z => F.bt a b (by rw [z]; exact e)
    rw [upd_ne z]
    exact F.bt a b
  bx := fun a b => by
    rcases b with b | rfl
    · obtain ⟨m, ys, q⟩ := F.bx a b
      exact ⟨m, ys, by rw [upd_ne (ne_of_none q e)]; exact q⟩
    · exact ⟨(F.new e).1, xs, upd_same⟩
theorem Fits.show {D : Addr} (F : Fits G (B.and D) A h H) : Fits G B A h H where
  len := F.len
  nd := F.nd
  ob := fun i o a e1 e2 => RO.conv .show (fun u q => q) (F.ob i o a e1 e2)
  bt := F.bt
  bx := fun a b => F.bx a (.inl b)
theorem Fits.poke {D : Addr} {xs : List V} (F : Fits G B A h H) (x : B.x D) : Fits G B A h (upd H D (.lst xs)) where
  len := F.len
  nd := F.nd
  ob := fun i o a e1 e2 => RO.conv (.poke x) (fun u q => by
    have z : a ≠ D := fun z => (F.bx D x).1 (by rw [← z]; exact List.mem_of_getElem? e2)
    rw [upd_ne z]
    exact q) (F.ob i o a e1 e2)
  bt := fun a b => by
    by_cases z : a = D
    · rw [z, upd_same]
      simp
    · rw [upd_ne z]
      exact F.bt a b
  bx := fun a b => by
    refine ⟨(F.bx a b).1, ?_⟩
    by_cases z : a = D
    · exact ⟨xs, by rw [z, upd_same]⟩
    · obtain ⟨_, ys, q⟩ := F.bx a b
      exact ⟨ys, by rw [upd_ne z]; exact q⟩
/-- the list is made: it becomes ours -/
theorem Conv.adopt {D : Addr} (m : D ∉ A) : Conv (B.and D) A H B (A ++ [D]) H :=
  ⟨fun a u q o => ⟨q, fun z => (List.mem_append.mp z).elim o.1 (fun z => o.2 (.inr (List.mem_singleton.mp z))), fun z => o.2 (.inl z)⟩, fun _ e => e,
    fun i a e => by rw [List.getElem?_append_left (List.getElem?_eq_some_iff.mp e).1]; exact e⟩
theorem Fits.adopt {D : Addr} {xs : List V} {vs : List Val} (F : Fits G (B.and D) A h H) (nb : ¬ B.x D) (e : H D = some (.lst xs)) (l : xs.length ≤ sizeLine) (r : RVs G (B.and D) A H vs xs) : Fits G B (A ++ [D]) (h ++ [.lst vs]) H := by
  have m : D ∉ A := (F.bx D (.inr rfl)).1
  refine ⟨by simp [F.len], ?_, fun i u a e1 e2 => ?_, F.bt, fun a b => ?_⟩
  · rw [List.nodup_append]
    refine ⟨F.nd, by simp, fun x hx y hy => ?_⟩
    rw [List.mem_singleton.mp hy]
    intro z
    exact m (z ▸ hx)
  · by_cases hi : i < h.length
    · rw [List.getElem?_append_left hi] at e1
      rw [List.getElem?_append_left (by rw [F.len]; exact hi)] at e2
      exact RO.conv (.adopt m) (fun u q => q) (F.ob i u a e1 e2)
    · rw [List.getElem?_append_right (by omega)] at e1
      rw [List.getElem?_append_right (by rw [F.len]; omega)] at e2
      have e3 : i - A.length = i - h.length := by rw [F.len]
      rw [e3] at e2
      cases hj : i - h.length with
      | zero =>
        rw [hj] at e1 e2
        simp at e1 e2
        subst e1 e2
        exact ⟨xs, e, l, RVs.conv (.adopt m) vs r⟩
      | succ j =>
        rw [hj] at e1
        simp at e1
  · obtain ⟨k, ys, q⟩ := F.bx a (.inl b)
    refine ⟨fun z => (List.mem_append.mp z).elim k fun z => ?_, ys, q⟩
    rw [List.mem_singleton.mp z] at b
    exact nb b
/-- a list that a callee made, taken over -/
theorem Conv.take {a : Addr} (e : H a = none) (k : ∀ b u, H b = some u → H' b = some u) : Conv B A H (B.and a) A H' :=
  ⟨fun b u q m => ⟨k b u q, m.1, fun z => z.elim m.2 (ne_of_none q e)⟩, fun _ e => e, fun _ _ e => e⟩
theorem Fits.take {a : Addr} {xs : List V} (F : Fits G B A h H) (e : H a = none) (k : ∀ b u, H b = some u → H' b = some u) (ea : H' a = some (.lst xs)) : Fits G (B.and a) A h H' where
  len := F.len
  nd := F.nd
  ob := fun i o b e1 e2 => RO.conv (.take e k) (fun u q => k b u q) (F.ob i o b e1 e2)
  bt := fun b z => by
    cases q : H b with
    | none => exact absurd q (F.bt b z)
    | some u =>
      rw [k b u q]
      simp
  bx := fun b z => by
    rcases z with z | rfl
    · obtain ⟨m, ys, q⟩ := F.bx b z
      exact ⟨m, ys, k b _ q⟩
    · exact ⟨(F.new e).1, xs, ea⟩
theorem top_ok (F : Fits G B A h H) {h' : Hm} (F' : Fits G (lent B A) A' h' H') (e : ∀ b ∈ A', H b = none) (k : ∀ b u, H b = some u → H' b = some u) {i : Nat} {us ts : List Val} {x : V} (eu : h'[i]? = some (.lst us))
    (et : deepL (followX i 9 .own h') us = some ts) (ct : cleanL ts = true) (r : RV G (lent B A) A' H' (.ref i) x) : ∃ a, x = .ref a ∧ H a = none ∧ Fits G B (A ++ [a]) (h ++ [.lst ts]) H' := by
  unfold RV at r
  obtain ⟨a, rfl, ea⟩ := r
  have ma : a ∈ A' := List.mem_of_getElem? ea
  have ha := e a ma
  obtain ⟨xs, hx, l, rx⟩ := F'.ob i _ a eu ea
  have ne : ∀ {b : Addr}, b ∉ A' → b ≠ a := fun {b} m z => m (by rw [z]; exact ma)
  have FB : Fits G B A h H' := F.step ⟨⟨[], by simp, fun _ z => by cases z⟩, fun b u q _ => k b u q, fun b u q => ⟨u, k b u q⟩⟩ fun b _ u q => k b u q
  have K : Back G B (B.and a) A A' h' H' (fun b => b = a) := by
    refine ⟨F', fun b m nb => ?_, fun c b o nb s => ?_, fun b ys q => ?_, fun b ob u q => ?_⟩
    · have o := F.new (e b m)
      exact ⟨⟨o.1, fun z => z.elim o.2 nb⟩, F.newB (e b m)⟩
    · have s' := still_back nb s
      exact ⟨s'.1, s'.2.1, ⟨s'.2.2.1.1, fun z => z.elim s'.2.2.1.2 (ne s.2.2.1.1)⟩, s'.2.2.2⟩
    · have o := FB.notup q
      exact ⟨o.1, fun z => z.elim o.2 fun z => by rw [z, hx] at q; cases q⟩
    · have o := FB.nofrz q
      exact ⟨o.1, fun z => z.elim o.2 fun z => by rw [z, hx] at q; cases q⟩
  have rt := deepL_froz K (follow_froz K i (fun j b eb nj z => by
    subst z
    exact nj ((List.getElem?_inj (List.getElem?_eq_some_iff.mp eb).1 F'.nd).mp (eb.trans ea.symm))) 9) us et ct rx
  exact ⟨a, rfl, ha, (F.take ha k hx).adopt (F.new ha).2 hx l rt⟩
end
end MP
set_option Elab.async false
set_option linter.all false
set_option maxRecDepth 100000
set_option autoImplicit false
namespace MP
open PySem PySem.Spec PyProof.Rows L2
/-- the names of the block that is read; cel: whose cells the block made -/
structure Tx where
  N : List Str
  sc : Scope
  cel : Str → Bool
def okName (x : Str) : Bool := decide ((x == ("__debug__" : Str)) = false) && decide ((x == ("__classdict__" : Str)) = false)
def visB (sc : Scope) (x : Str) : Bool := match sc.names.lookup x with
  | some .local => true
  | some .cell => true
  | some .free => true
  | _ => false
def globB (sc : Scope) (x : Str) : Bool := decide (sc.names.lookup x = some .globalImplicit) && decide ((x == ("__debug__" : Str)) = false) && decide (x ≠ "__name__")
theorem vis_of {sc : Scope} {x : Str} (h : visB sc x = true) : Vis sc x := by
  unfold visB at h
  split at h
  · exact .inl (by assumption)
  · exact .inr (.inl (by assumption))
  · exact .inr (.inr (by assumption))
  · cases h
/-- a name that may be stored here -/
def locB (tx : Tx) (x : Str) : Bool := match tx.sc.names.lookup x with
  | some .local => true
  | some .cell => tx.cel x
  | _ => false
mutual
/-- a target -/
def chkP (tx : Tx) : Pat → Expr → Bool
  | .nm i, .Name x _ => decide (tx.N[i]? = some x) && locB tx x
  | .tp q, .Tuple es _ _ => chkPs tx q es
  | _, _ => false
def chkPs (tx : Tx) : Pat → List Expr → Bool
  | .nil, [] => true
  | .cons p q, e :: es => chkP tx p e && chkPs tx q es
  | _, _ => false
end
/-- how a block's context stands -/
structure Shape (tx : Tx) (X : Cx) : Prop where
  N : X.N = tx.N
  nd : tx.N.Nodup
  sc : X.env.scope = tx.sc
  kd : tx.sc.kind = .function
  calm : X.calm = true
  fn : ∀ x, tx.cel x = true → X.fn x = true
theorem Shape.loc {tx : Tx} {X : Cx} (S : Shape tx X) {x : Str} (h : locB tx x = true) : Loc X.env.scope x ∧ (X.fn x = true ∨ X.env.scope.names.lookup x = some .local) := by
  rw [S.sc]
  unfold locB at h
  split at h
  · rename_i e
    exact ⟨.inl e, .inr e⟩
  · rename_i e
    exact ⟨.inr e, .inl (S.fn x h)⟩
  · cases h
section
variable {G : Sg} {B : Bor}
/-- the slots that a target names -/
def slotsP : Pat → List Nat
  | .nm i => [i]
  | .tp q => slotsP q
  | .nil => []
  | .cons p q => slotsP p ++ slotsP q
/-- all but these slots stay -/
def Same (ns : List Nat) (σ σ' : L2.St) : Prop := σ'.length = σ.length ∧ ∀ j, j ∉ ns → σ'[j]? = σ[j]?
theorem Same.refl {ns : List Nat} {σ : L2.St} : Same ns σ σ := ⟨rfl, fun _ _ => rfl⟩
theorem Same.set {i : Nat} {σ : L2.St} {x : Option V} : Same [i] σ (σ.set i x) := ⟨by simp, fun j h => by
  rw [List.getElem?_set_ne]
  intro e
  subst e
  simp at h⟩
theorem Same.then {ns ms : List Nat} {σ σ' σ'' : L2.St} (h : Same ns σ σ') (k : Same ms σ' σ'') : Same (ns ++ ms) σ σ'' := ⟨k.1.trans h.1, fun j z => by
  rw [List.mem_append] at z
  rw [k.2 j (fun m => z (.inr m)), h.2 j (fun m => z (.inl m))]⟩
/-- the reading of a target -/
def gP (G : Sg) (B : Bor) (p : Pat) : TG := fun v σ H Q => ∃ A h e w, Fits G B A h H ∧ RE G B A H e σ ∧ RV G B A H w v ∧ ∃ e', bindP p w e = some e' ∧ ∀ σ', RE G B A H e' σ' → Same (slotsP p) σ σ' → Q σ' H
def gPs (G : Sg) (B : Bor) (p : Pat) : TGs := fun vs σ H Q => ∃ A h e ws, Fits G B A h H ∧ RE G B A H e σ ∧ RVs G B A H ws vs ∧ ∃ e', bindPs p ws e = some e' ∧ ∀ σ', RE G B A H e' σ' → Same (slotsP p) σ σ' → Q σ' H
theorem RE.set {A : List Addr} {H : Hp} {e : En} {σ : L2.St} (r : RE G B A H e σ) {i : Nat} {w : Val} {x : V} (hi : i < e.length) (q : RV G B A H w x) : RE G B A H (e.set i (some w)) (σ.set i (some x)) := by
  refine ⟨by rw [List.length_set, List.length_set]; exact r.1, fun j v ej => ?_⟩
  by_cases c : j = i
  · subst c
    rw [List.getElem?_set_self hi] at ej
    cases ej
    exact ⟨x, List.getElem?_set_self (by rw [← r.1]; exact hi), q⟩
  · rw [List.getElem?_set_ne (Ne.symm c)] at ej
    rw [List.getElem?_set_ne (Ne.symm c)]
    exact r.2 j v ej
theorem notStar_chkP {tx : Tx} {p : Pat} {e : Expr} (h : chkP tx p e = true) : (∃ x pos, e = .Name x pos) ∨ ∃ es k pos, e = .Tuple es k pos := by
  cases p <;> cases e <;> simp [chkP] at h
  · exact .inl ⟨_, _, rfl⟩
  · exact .inr ⟨_, _, _, rfl⟩
theorem each_cons {e : Expr} {es : List Expr} {env : PySem.Env} (h : (∃ x pos, e = .Name x pos) ∨ ∃ es k pos, e = .Tuple es k pos) : assignEach (e :: es) env = (false, assign e env) :: assignEach es env := by
  rcases h with ⟨x, pos, rfl⟩ | ⟨es', k, pos, rfl⟩ <;> rfl
theorem each_of {tx : Tx} {env : PySem.Env} : ∀ {q : Pat} {es : List Expr}, chkPs tx q es = true → (assignEach es env).length = es.length ∧ (assignEach es env).findIdx? (·.1) = none
  | .nil, [], _ => ⟨rfl, rfl⟩
  | .nil, _ :: _, h => by simp [chkPs] at h
  | .nm _, es, h => by cases es <;> simp [chkPs] at h
  | .tp _, es, h => by cases es <;> simp [chkPs] at h
  | .cons p q, [], h => by simp [chkPs] at h
  | .cons p q, e :: es, h => by
    simp only [chkPs, Bool.and_eq_true] at h
    obtain ⟨h1, h2⟩ := each_of (q := q) (es := es) (env := env) h.2
    rw [each_cons (notStar_chkP h.1)]
    refine ⟨by simp [h1], ?_⟩
    rw [List.findIdx?_cons]
    simp [h2]
theorem bindPs_len : ∀ {q : Pat} {ws : List Val} {e e' : En} {tx : Tx} {es : List Expr}, bindPs q ws e = some e' → chkPs tx q es = true → ws.length = es.length
  | .nil, ws, e, e', tx, es, h, c => by
    cases es with
    | cons _ _ => simp [chkPs] at c
    | nil =>
      cases ws with
      | nil => rfl
      | cons _ _ => simp [bindPs] at h
  | .nm _, ws, e, e', tx, es, h, c => by cases es <;> simp [chkPs] at c
  | .tp _, ws, e, e', tx, es, h, c => by cases es <;> simp [chkPs] at c
  | .cons p q, ws, e, e', tx, es, h, c => by
    cases es with
    | nil => simp [chkPs] at c
    | cons e1 es =>
      simp only [chkPs, Bool.and_eq_true] at c
      cases ws with
      | nil => simp [bindPs] at h
      | cons w ws =>
        simp only [bindPs] at h
        split at h
        · rw [List.length_cons, List.length_cons, bindPs_len h c.2]
        · cases h
theorem map_each {e : Expr} {es : List Expr} {env : PySem.Env} (h : (∃ x pos, e = .Name x pos) ∨ ∃ es k pos, e = .Tuple es k pos) : (assignEach (e :: es) env).map (·.2) = assign e env :: (assignEach es env).map (·.2) := by
  rw [each_cons h]
  rfl
mutual
theorem pg_P {tx : Tx} {X : Cx} (hK : X.K = G.K) (S : Shape tx X) : ∀ (p : Pat) (e : Expr), chkP tx p e = true → PG X e (gP G B p)
  | .nm i, .Name x pos, h => by
    simp only [chkP, Bool.and_eq_true, decide_eq_true_eq] at h
    obtain ⟨l1, l2⟩ := S.loc h.2
    have b := pg_name (X := X) (pos := pos) (i := i) (x := x) (by rw [S.N]; exact S.nd) (by rw [S.N]; exact h.1) l1 l2
    refine ⟨fun pins s σ H v u Q I r ⟨A, h', e, w, F, re, rv, e', eb, k⟩ => b.run pins s σ H v u Q I r ?_⟩
    simp only [bindP] at eb
    split at eb
    · rename_i hi
      cases eb
      exact k _ (re.set hi rv) .set
    · cases eb
  | .tp q, .Tuple es k pos, h => by
    simp only [chkP] at h
    obtain ⟨h1, h2⟩ := each_of (env := X.env) h
    have b := pg_tup (X := X) (pos := pos) (k := k) S.calm (pg_Ps hK S q es h) h1 h2
    refine ⟨fun pins s σ H v u Q I r ⟨A, h', e, w, F, re, rv, e', eb, kk⟩ => b.run pins s σ H v u Q I r ?_⟩
    simp only [bindP] at eb
    split at eb
    · rename_i ws
      unfold RV at rv
      obtain ⟨a, xs, rfl, ex, _, _, rv⟩ := rv
      have l := bindPs_len eb h
      exact ⟨a, xs, rfl, SqT.of ex, by rw [← rv.length, l], A, h', e, ws, F, re, rv, e', eb, kk⟩
    · cases eb
  | .nil, e, h => by cases e <;> simp [chkP] at h
  | .cons _ _, e, h => by cases e <;> simp [chkP] at h
  | .nm i, .BoolOp .., h => by simp [chkP] at h
  | .nm i, .NamedExpr .., h => by simp [chkP] at h
  | .nm i, .BinOp .., h => by simp [chkP] at h
  | .nm i, .UnaryOp .., h => by simp [chkP] at h
  | .nm i, .Lambda .., h => by simp [chkP] at h
  | .nm i, .IfExp .., h => by simp [chkP] at h
  | .nm i, .Dict .., h => by simp [chkP] at h
  | .nm i, .Set .., h => by simp [chkP] at h
  | .nm i, .ListComp .., h => by simp [chkP] at h
  | .nm i, .SetComp .., h => by simp [chkP] at h
  | .nm i, .DictComp .., h => by simp [chkP] at h
  | .nm i, .GeneratorExp .., h => by simp [chkP] at h
  | .nm i, .Await .., h => by simp [chkP] at h
  | .nm i, .Yield .., h => by simp [chkP] at h
  | .nm i, .YieldFrom .., h => by simp [chkP] at h
  | .nm i, .Compare .., h => by simp [chkP] at h
  | .nm i, .Call .., h => by simp [chkP] at h
  | .nm i, .FormattedValue .., h => by simp [chkP] at h
  | .nm i, .JoinedStr .., h => by simp [chkP] at h
  | .nm i, .Constant .., h => by simp [chkP] at h
  | .nm i, .Attribute .., h => by simp [chkP] at h
  | .nm i, .Subscript .., h => by simp [chkP] at h
  | .nm i, .Starred .., h => by simp [chkP] at h
  | .nm i, .List .., h => by simp [chkP] at h
  | .nm i, .Tuple .., h => by simp [chkP] at h
  | .nm i, .Slice .., h => by simp [chkP] at h
  | .tp q, .BoolOp .., h => by simp [chkP] at h
  | .tp q, .NamedExpr .., h => by simp [chkP] at h
  | .tp q, .BinOp .., h => by simp [chkP] at h
  | .tp q, .UnaryOp .., h => by simp [chkP] at h
  | .tp q, .Lambda .., h => by simp [chkP] at h
  | .tp q, .IfExp .., h => by simp [chkP] at h
  | .tp q, .Dict .., h => by simp [chkP] at h
  | .tp q, .Set .., h => by simp [chkP] at h
  | .tp q, .ListComp .., h => by simp [chkP] at h
  | .tp q, .SetComp .., h => by simp [chkP] at h
  | .tp q, .DictComp .., h => by simp [chkP] at h
  | .tp q, .GeneratorExp .., h => by simp [chkP] at h
  | .tp q, .Await .., h => by simp [chkP] at h
  | .tp q, .Yield .., h => by simp [chkP] at h
  | .tp q, .YieldFrom .., h => by simp [chkP] at h
  | .tp q, .Compare .., h => by simp [chkP] at h
  | .tp q, .Call .., h => by simp [chkP] at h
  | .tp q, .FormattedValue .., h => by simp [chkP] at h
  | .tp q, .JoinedStr .., h => by simp [chkP] at h
  | .tp q, .Constant .., h => by simp [chkP] at h
  | .tp q, .Attribute .., h => by simp [chkP] at h
  | .tp q, .Subscript .., h => by simp [chkP] at h
  | .tp q, .Starred .., h => by simp [chkP] at h
  | .tp q, .List .., h => by simp [chkP] at h
  | .tp q, .Name .., h => by simp [chkP] at h
  | .tp q, .Slice .., h => by simp [chkP] at h
theorem pg_Ps {tx : Tx} {X : Cx} (hK : X.K = G.K) (S : Shape tx X) : ∀ (q : Pat) (es : List Expr), chkPs tx q es = true → PGs X es (gPs G B q)
  | .nil, [], _ => by
    refine ⟨fun pins s σ H vs us Q I r ⟨A, h', e, ws, F, re, rv, e', eb, k⟩ => ?_⟩
    cases ws with
    | cons _ _ => simp [bindPs] at eb
    | nil =>
      simp only [bindPs, Option.some.injEq] at eb
      subst eb
      exact (pgs_nil (X := X)).run pins s σ H vs us Q I r ⟨rv.ofnil, k σ re .refl⟩
  | .nil, _ :: _, h => by simp [chkPs] at h
  | .nm _, es, h => by cases es <;> simp [chkPs] at h
  | .tp _, es, h => by cases es <;> simp [chkPs] at h
  | .cons p q, [], h => by simp [chkPs] at h
  | .cons p q, e :: es, h => by
    simp only [chkPs, Bool.and_eq_true] at h
    have b := pgs_cons (X := X) (pg_P hK S p e h.1) (pg_Ps hK S q es h.2) (map_each (notStar_chkP h.1))
    refine ⟨fun pins s σ H vs us Q I r ⟨A, h', en, ws, F, re, rv, e', eb, k⟩ => b.run pins s σ H vs us Q I r ?_⟩
    cases ws with
    | nil => simp [bindPs] at eb
    | cons w ws =>
      obtain ⟨x, xs, ex, r1, r2⟩ := rv.uncons
      simp only [bindPs] at eb
      split at eb
      · rename_i en1 e1
        exact ⟨x, xs, ex, A, h', en, w, F, re, r1, en1, e1, fun σ1 re1 s1 => ⟨A, h', en1, ws, F, re1, r2, e', eb, fun σ2 re2 s2 => k σ2 re2 (s1.then s2)⟩⟩
      · cases eb
end
end
end MP
set_option Elab.async false
set_option linter.all false
set_option maxRecDepth 100000
set_option autoImplicit false
namespace MP
open PySem PySem.Spec PyProof.Rows L2
/-- a text's tables: its texts, fields, defs, own classes, methods, whole constants; ar: a def's parameters -/
structure Pg where
  txts : List Str
  flds : List Str
  funs : List (Option Str)
  clss : List (Option Str)
  meths : List Str
  cons : List (Str × Int)
  ar : Nat → Nat
  T : Tab
  excs : List (Option Str)
def blts : List Str := ["len", "max", "min", "abs", "sum", "all", "any", "sorted", "list", "tuple", "int", "isinstance", "range", "enumerate", "zip", "set", "bool", "str"]
/-- the promise of the i-th def -/
def spM (G : Sg) (cl : CallF) (i n : Nat) : Sp := fun vs H Q E => ∃ B A h ms, Fits G B A h H ∧ RVs G B A H ms vs ∧ vs.length = n ∧ Post G B (fun c d _ H' => E c d H') [] (RVr G B) A H (cl i ms h) fun _ x _ _ H' => Q x H'
/-- the kinds of values -/
inductive Kd where
  | non | bool | int | str | list | tuple | dict | ins (k : Nat)
  deriving DecidableEq
def kdOf (h : Hm) : Val → Option Kd
  | .non => some .non
  | .bl _ => some .bool
  | .int _ => some .int
  | .str _ => some .str
  | .tup _ => some .tuple
  | .lst _ _ => some .list
  | .dct _ _ _ => some .dict
  | .obj _ k _ _ => some (.ins k)
  | .ref i => match h[i]? with
    | some (.lst _) => some .list
    | some (.dct _ _) => some .dict
    | some (.ins k _ _) => some (.ins k)
    | none => none
  | .err _ => none
  | .clo _ _ => none
def kdIs (sup : Nat → List Nat) : Kd → Ty → Bool
  | .bool, .int => true
  | .bool, .bool => true
  | .int, .int => true
  | .str, .str => true
  | .list, .list => true
  | .tuple, .tuple => true
  | .ins k, .cls j => (sup k).contains j
  | _, _ => false
def kdV (cls : Nat → Option Addr) : Kd → Option Value
  | .non => some (.type "NoneType")
  | .bool => some (.type "bool")
  | .int => some (.type "int")
  | .str => some (.type "str")
  | .list => some (.type "list")
  | .tuple => some (.type "tuple")
  | .dict => some (.type "dict")
  | .ins k => (cls k).map .ref
def tyV' (cls : Nat → Option Addr) : Ty → Option Value
  | .int => some (.type "int")
  | .bool => some (.type "bool")
  | .str => some (.type "str")
  | .list => some (.type "list")
  | .tuple => some (.type "tuple")
  | .cls k => (cls k).map .ref
section
variable (P : Pg) (G : Sg) (cl : CallF) (lv : Nat) (prog : Program) (w : World) (K : PySem.W.Frag) (mg : Str → Option Value) (base : Heap)
/-- the i-th def stands at f -/
def FunAt (i : Nat) (f : Addr) : Prop := PySem.W.keepIn K (.ref f) = true ∧ ∃ fd ps, Binds K fd ps [] ∧ ps.length = P.ar i ∧ FnOk prog w K mg base (L2.CX prog w) lv f fd ps (spM G cl i ps.length)
/-- what stands behind the top -/
structure Facts : Prop where
  hK : K = G.K
  g : G.Good
  tx : G.txts = P.txts
  fl : G.fld = P.flds
  sep : ∀ x ∈ P.meths, x ∉ P.flds
  len : ∀ i ms h, ms.length ≠ P.ar i → cl i ms h = .bad
  blt : ∀ x ∈ blts, mg x = none
  con : ∀ p ∈ P.cons, ∃ t, mg p.1 = some (.int p.2 t)
  fn : ∀ (i : Nat) (x : Str), P.funs[i]? = some (some x) → ∃ f, mg x = some (.ref f) ∧ FunAt P G cl lv prog w K mg base i f
  cls : ∀ (k : Nat) (x : Str), P.clss[k]? = some (some x) → ∃ C, G.cls k = some C ∧ mg x = some (.ref C)
  exn : ∀ (k : Nat) (x : Str), P.excs[k]? = some (some x) → ∃ C, G.exc k = some C ∧ mg x = some (.ref C)
  ins : ∀ (k : Nat) (C : Addr), G.cls k = some C → Cls K C ∧ (∀ n ∈ P.flds, NoAttr K C n)
  mkc : ∀ (k : Nat) (C : Addr), G.cls k = some C → PySem.W.keepIn K (.ref C) = true ∧ PySem.W.makesIn K C = true ∧ match P.T.init k with
    | some i => ∃ f, PySem.W.findIn K (.ref C) "__init__" = some (some (.ref f)) ∧ PySem.W.isFn K (.ref f) = true ∧ FunAt P G cl lv prog w K mg base i f
    | none => PySem.W.findIn K (.ref C) "__init__" = some (some (.builtin "object.__init__"))
  mt : ∀ (k : Nat) (C : Addr) (m : Nat) (n : Str) (i : Nat), G.cls k = some C → P.meths[m]? = some n → P.T.meth k m = some i → ∃ f, Meth K C n f ∧ FunAt P G cl lv prog w K mg base i f
  kin : ∀ (k : Nat) (C : Addr), G.cls k = some C → PySem.W.findIn K (.ref C) "__class__" = some (some (.builtin "object.__class__")) ∧ PySem.W.specialIn K (.builtin "object.__class__") "__get__" = some (some (.builtin "getset_descriptor.__get__")) ∧
    PySem.W.takesIn K (.builtin "object.__class__") = some true ∧ PySem.W.mroIn K C (.type "object") = some true
  kit : ∀ (d : Kd) (t : Ty) (a b : Value), kdV G.cls d = some a → tyV' G.cls t = some b → PySem.W.kitOne K a b = some (kdIs P.T.sup d t)
  exc : ∀ (k : Nat) (C : Addr), G.exc k = some C → ∃ (B newId initId : String) (bmB : List Value), ExcBaseFacts B newId initId bmB ∧ PySem.W.excIn K C bmB newId = true ∧ PySem.W.keepIn K (.ref C) = true ∧
    PySem.W.subIn K (.ref C) (.type "BaseException") = some true ∧ PySem.W.typeIn K (.ref C) = some (.type "type")
end
section
variable {P : Pg} {G : Sg} {cl : CallF} {lv : Nat} {B : Bor} {W : WX} {X : Cx}
/-- the facts at a context -/
abbrev FactsX (P : Pg) (G : Sg) (cl : CallF) (lv : Nat) (X : Cx) : Prop := Facts P G cl lv X.prog X.w X.K X.mg X.base
theorem snapL_len {h : Hm} : ∀ {vs ws : List Val}, snapL h vs = some ws → ws.length = vs.length := by
  intro vs
  unfold snapL
  induction vs with
  | nil =>
    intro ws e
    simp only [deepL, Option.some.injEq] at e
    subst e
    rfl
  | cons v vs ih =>
    intro ws e
    simp only [deepL] at e
    split at e
    · split at e
      · rename_i ws' q
        cases e
        rw [List.length_cons, List.length_cons, ih q]
      · cases e
    · cases e
theorem run_callM (Fa : FactsX P G cl lv X) (hr : Room lv X.A) (tk : Takes X W) {z : Md} {i : Nat} {f : Addr} (fo : FunAt P G cl lv X.prog X.w X.K X.mg X.base i f) {pins : List (Addr × Obj)} {σ : L2.St} {H : Hp} {s : Shared} {Q : VK} {us : List Value} {vs : List V}
    (I : Inv X pins σ H s) (r : Vals vs us) {A : List Addr} {h : Hm} {ms : List Val} (F : Fits G B A h H) (rv : RVs G B A H ms vs) (p : Post G B W σ (RVr G B) A H (callM cl z i ms h) fun _ x _ _ H' => Q x H') :
    wpAny (model X.prog X.w) X.A (call (.ref f) us) (EP X pins σ Q) X.xe s := by
  obtain ⟨_, fd, ps, hb, hl, FO⟩ := fo
  refine run_fnS (E := WE W) FO hr hb (passAt tk σ) I r ?_
  unfold callM at p
  have F0 : Fits G (lent B A) [] [] H := ⟨rfl, .nil, fun i o a e => by simp at e, fun a b => by
    rcases b with b | b
    · exact F.bt a b
    · obtain ⟨u, q⟩ := F.there b
      rw [q]
      simp, fun a b => ⟨by simp, (F.bx a b).2⟩⟩
  have step : ∀ {A' : List Addr} {H' : Hp}, Next [] H A' H' → Fits G B A h H' ∧ Next A H A H' := fun {A' H'} n => by
    have n' : Next A H A H' := ⟨⟨[], by simp, fun _ z => by cases z⟩, fun a o q _ => n.keep a o q (by simp), n.still⟩
    exact ⟨F.step n' fun a _ u q => n.keep a u q (by simp), n'⟩
  have fresh : ∀ {A' : List Addr} {H' : Hp}, Next [] H A' H' → ∀ a ∈ A', H a = none := fun {A' H'} n a m => by
    obtain ⟨new, e1, e2⟩ := n.pre
    exact e2 a (by rw [e1] at m; simpa using m)
  cases z with
  | dir =>
    simp only at p
    refine ⟨B, A, h, ms, F, rv, ?_, ?_⟩
    · rw [← rv.length, hl]
      refine Classical.byContradiction fun n => ?_
      rw [Fa.len i ms h n] at p
      exact p
    · cases e : cl i ms h with
      | ok v h' =>
        rw [e] at p
        exact p
      | exc c h' =>
        rw [e] at p
        exact p
      | bad =>
        rw [e] at p
        exact p.elim
  | pur =>
    simp only at p
    unfold pureM at p
    split at p
    · rename_i ws es
      have rw_ := snapL_ok F es rv
      refine ⟨lent B A, [], [], ws, F0, rw_, ?_, ?_⟩
      · rw [← rw_.length, hl]
        refine Classical.byContradiction fun n => ?_
        rw [Fa.len i ws [] n] at p
        exact p
      · cases e : cl i ws [] with
        | ok v h' =>
          rw [e] at p
          simp only at p
          split at p
          · rename_i t et
            split at p
            · rename_i ct
              intro A' H' x F' n' rx
              obtain ⟨FB, nB⟩ := step n'
              exact p A H' x FB nB (froz_ok FB F' (fun a m => ⟨F.new (fresh n' a m), F.newB (fresh n' a m)⟩) et ct rx)
            · exact p.elim
          · exact p.elim
        | exc c h' =>
          rw [e] at p
          intro A' H' C F' n' ec
          obtain ⟨FB, nB⟩ := step n'
          exact p A H' C FB nB ec
        | bad =>
          rw [e] at p
          exact p.elim
    · exact p.elim
  | top =>
    simp only at p
    unfold topM at p
    split at p
    · rename_i ws es
      have rw_ := snapL_ok F es rv
      refine ⟨lent B A, [], [], ws, F0, rw_, ?_, ?_⟩
      · rw [← rw_.length, hl]
        refine Classical.byContradiction fun n => ?_
        rw [Fa.len i ws [] n] at p
        exact p
      · cases e : cl i ws [] with
        | ok v h' =>
          rw [e] at p
          cases v <;> try exact p.elim
          rename_i j
          simp only at p
          split at p
          · rename_i us eu
            split at p
            · rename_i ts et
              split at p
              · rename_i ct
                intro A' H' x F' n' rx
                obtain ⟨a, rfl, ha, FT⟩ := top_ok F F' (fresh n') (fun b u q => n'.keep b u q (by simp)) eu et ct rx
                refine p (A ++ [a]) H' (.ref a) FT ⟨⟨[a], rfl, fun b m => by rw [List.mem_singleton.mp m]; exact ha⟩, fun b o q _ => n'.keep b o q (by simp), n'.still⟩ ?_
                show RV G B (A ++ [a]) H' (.ref h.length) (.ref a)
                unfold RV
                exact ⟨a, rfl, by rw [← F.len]; simp⟩
              · exact p.elim
            · exact p.elim
          · exact p.elim
        | exc c h' =>
          rw [e] at p
          intro A' H' C F' n' ec
          obtain ⟨FB, nB⟩ := step n'
          exact p A H' C FB nB ec
        | bad =>
          rw [e] at p
          exact p.elim
    · exact p.elim
/-- C(..) -/
theorem run_newM (Fa : FactsX P G cl lv X) (hr : Room (lv + 1) X.A) (tk : Takes X W) {k : Nat} {C : Addr} (ec : G.cls k = some C) {pins : List (Addr × Obj)} {σ : L2.St} {H : Hp} {s : Shared} {Q : VK} {us : List Value} {vs : List V}
    (I : Inv X pins σ H s) (r : Vals vs us) {A : List Addr} {h : Hm} {ms : List Val} (F : Fits G B A h H) (rv : RVs G B A H ms vs) (p : Post G B W σ (RVr G B) A H (newM P.T cl k ms h) fun _ x _ _ H' => Q x H') :
    wpAny (model X.prog X.w) X.A (call (.ref C) us) (EP X pins σ Q) X.xe s := by
  obtain ⟨kp, mk, hi⟩ := Fa.mkc k C ec
  unfold newM at p
  cases ei : P.T.init k with
  | some i =>
    rw [ei] at p hi
    simp only at p hi
    obtain ⟨f, hf, hfn, _, fd, ps, hb, hl, FO⟩ := hi
    -- the new instance
    have hx : H (s.heap.objs.size + 1) = none := I.hok.fresh (Nat.le_succ _)
    have hdx : H s.heap.objs.size = none := I.hok.fresh (Nat.le_refl _)
    have hne : s.heap.objs.size ≠ s.heap.objs.size + 1 := Nat.ne_of_lt (Nat.lt_succ_self _)
    have I2 := Inv.made (C := C) I
    have Fd := F.other (o := .own (s.heap.objs.size + 1)) hdx
    have nd : Next A H A (upd H s.heap.objs.size (.own (s.heap.objs.size + 1))) := next_new hdx
    have hx' : upd H s.heap.objs.size (.own (s.heap.objs.size + 1)) (s.heap.objs.size + 1) = none := by rw [upd_ne (Ne.symm hne)]; exact hx
    have Fx := Fd.push (o := .ins C s.heap.objs.size []) (b := .ins k [] []) hx' ⟨C, s.heap.objs.size, [], upd_same, ec, by unfold RFs; rfl, RVs.nil⟩
    have nx' := nd.trans (next_mine (o := .ins C s.heap.objs.size []) hx')
    have e1 : (A ++ [s.heap.objs.size + 1])[h.length]? = some (s.heap.objs.size + 1) := by rw [← F.len]; simp
    have r2 : Vals (V.ref (s.heap.objs.size + 1) :: vs) (Value.ref (s.heap.objs.size + 1) :: us) := .cons rfl r
    have rv2 : RVs G B (A ++ [s.heap.objs.size + 1]) (upd (upd H s.heap.objs.size (.own (s.heap.objs.size + 1))) (s.heap.objs.size + 1) (.ins C s.heap.objs.size [])) (.ref h.length :: ms) (V.ref (s.heap.objs.size + 1) :: vs) :=
      .cons (by unfold RV; exact ⟨_, rfl, e1⟩) (RVs.mono nx' ms rv)
    have nb : cl i (.ref h.length :: ms) (h ++ [.ins k [] []]) ≠ .bad := fun e => by rw [e] at p; exact p
    have hlen : (V.ref (s.heap.objs.size + 1) :: vs).length = ps.length := by
      rw [← rv2.length, hl]
      exact Classical.byContradiction fun n => nb (Fa.len i _ _ n)
    have sp : spM G cl i ps.length (V.ref (s.heap.objs.size + 1) :: vs) (upd (upd H s.heap.objs.size (.own (s.heap.objs.size + 1))) (s.heap.objs.size + 1) (.ins C s.heap.objs.size [])) (fun v H2 => v = .non ∧ Q (.ref (s.heap.objs.size + 1)) H2) (WE W σ) := by
      refine ⟨B, _, _, _, Fx, rv2, hlen, ?_⟩
      cases e : cl i (.ref h.length :: ms) (h ++ [.ins k [] []]) with
      | ok v h' =>
        rw [e] at p
        cases v with
        | non =>
          intro A' H' x F' n' rx
          unfold RV at rx
          subst rx
          refine ⟨rfl, p A' H' _ F' (nx'.trans n') ?_⟩
          unfold RV
          exact ⟨_, rfl, n'.get e1⟩
        | _ => exact p.elim
      | exc c h' =>
        rw [e] at p
        exact fun A' H' C F' n' ec => p A' H' C F' (nx'.trans n') ec
      | bad => exact absurd e nb
    have hlu : (Value.ref (s.heap.objs.size + 1) :: us).length = ps.length := by rw [← hlen, ← r2.length]
    have bb := hb _ (Value.ref (s.heap.objs.size + 1) :: us) I2.kIn (by rw [List.append_nil]; exact hlu)
    rw [List.append_nil] at bb
    refine wpAny_call (make_map (f := f) I.kIn mk hf (beq_iff_eq.mp hfn) (codeAny_mono (FO.run _ X.stack _ _ ⟨Value.ref (s.heap.objs.size + 1) :: us, []⟩ (Value.ref (s.heap.objs.size + 1) :: us) _ _ (WE W σ) (hr.make C us [])
      (I2.env0.make C us []) bb r2 sp) fun r s' hq' => ?_))
    cases r with
    | error e => exact passAt tk σ pins _ _ e s' I2 hq'
    | ok fl =>
      cases fl with
      | ret u =>
        obtain ⟨v, H', I3, rv', ev, q3⟩ := I2.after hq'
        subst ev
        exact ⟨rv', ⟨V.ref (s.heap.objs.size + 1), H', I3, rfl, q3⟩⟩
      | next => exact False.elim hq'
      | brk => exact False.elim hq'
      | cont => exact False.elim hq'
  | none =>
    rw [ei] at p hi
    simp only at p hi
    cases ms with
    | cons _ _ => exact False.elim (by simp at p; exact p)
    | nil =>
    have evs : vs = [] := rv.ofnil
    subst evs
    have eus : us = [] := by cases r; rfl
    subst eus
    simp only [List.length_nil, if_true] at p
    have hx : H (s.heap.objs.size + 1) = none := I.hok.fresh (Nat.le_succ _)
    have hdx : H s.heap.objs.size = none := I.hok.fresh (Nat.le_refl _)
    have hne : s.heap.objs.size ≠ s.heap.objs.size + 1 := Nat.ne_of_lt (Nat.lt_succ_self _)
    have I2 := Inv.made (C := C) I
    have Fd := F.other (o := .own (s.heap.objs.size + 1)) hdx
    have nd : Next A H A (upd H s.heap.objs.size (.own (s.heap.objs.size + 1))) := next_new hdx
    have hx' : upd H s.heap.objs.size (.own (s.heap.objs.size + 1)) (s.heap.objs.size + 1) = none := by rw [upd_ne (Ne.symm hne)]; exact hx
    have Fx := Fd.push (o := .ins C s.heap.objs.size []) (b := .ins k [] []) hx' ⟨C, s.heap.objs.size, [], upd_same, ec, by unfold RFs; rfl, RVs.nil⟩
    have nx' := nd.trans (next_mine (o := .ins C s.heap.objs.size []) hx')
    have e1 : (A ++ [s.heap.objs.size + 1])[h.length]? = some (s.heap.objs.size + 1) := by rw [← F.len]; simp
    have q := p _ _ (.ref (s.heap.objs.size + 1)) Fx nx' (by unfold RV; exact ⟨_, rfl, e1⟩)
    have Y := PySem.W.makes_of (M := model X.prog X.w) I.kIn mk
    refine wpAny_call (make_map0 I.kIn mk hi (fun self => PySem.W.Looks.of_pure (PySem.W.oi_bind self)) ?_)
    have hg : ((s.heap.push PySem.W.emptyDict).push (PySem.W.instObj C s.heap.objs.size)).get? (s.heap.objs.size + 1) = some (PySem.W.instObj C s.heap.objs.size) := by heap_get
    have t1 : PySem.W.Looks (model X.prog X.w) ((s.heap.push PySem.W.emptyDict).push (PySem.W.instObj C s.heap.objs.size)) (typeOf (.ref (s.heap.objs.size + 1))) (.ref C) := (PySem.W.Looks.ld hg).andThen .now
    have t2 : PySem.W.Looks (model X.prog X.w) ((s.heap.push PySem.W.emptyDict).push (PySem.W.instObj C s.heap.objs.size)) (isInstance (.ref (s.heap.objs.size + 1)) (.type "object")) true := t1.andThen (Y.top.keeps fun b o e => Heap.get?_push_of_some _ (Heap.get?_push_of_some _ e))
    refine codeAny_call_builtin PySem.W.oi_plain PySem.W.entry_oi (@PySem.W.check_slot (model X.prog X.w) _ _ _ "object.__init__" "object" "__init__" (.ref (s.heap.objs.size + 1)) [] [] _ PySem.W.oi_kind PySem.W.oi_split t2 (PySem.W.oi_args (.ref (s.heap.objs.size + 1))) ?_)
    rw [PySem.W.oi_run]
    exact wpAny_pure (And.intro rfl ⟨V.ref (s.heap.objs.size + 1), _, I2, rfl, q⟩)
end
end MP
set_option Elab.async false
set_option linter.all false
set_option maxRecDepth 100000
set_option autoImplicit false
namespace MP
open PySem PySem.Spec PyProof.Rows L2
def SrcR (G : Sg) (B : Bor) : Rl Src It := fun A0 H0 s J => ∀ B' A h H, Fits G B' A h H → Conv B A0 H0 B' A H → ∀ n, s.len h = some n → n ≤ sizeLine ∧ ∀ i,
  (i < n → J.go i H ∧ ∀ x H', J.yld i H x H' → ∃ v, s.at h i = some v ∧ Fits G B' A h H' ∧ Next A H A H' ∧ RV G B' A H' v x) ∧ (n ≤ i → J.stop i H)
section
variable (P : Pg) (G : Sg) (cl : CallF) (W : WX)
def tE (c : C) : TE := fun σ H Q => ∃ B A h e, Fits G B A h H ∧ RE G B A H e σ ∧ Post G B W σ (RVr G B) A H (evE P.T cl c e h) fun _ x _ _ H' => Q x H'
def tAs (c : C) : TA := fun σ H Q => ∃ B A h e, Fits G B A h H ∧ RE G B A H e σ ∧ Post G B W σ (RVsr G B) A H (evA P.T cl c e h) fun _ x _ _ H' => Q x H'
def tO (c : C) : TO := fun σ H Q => ∃ B A h e, Fits G B A h H ∧ RE G B A H e σ ∧ Post G B W σ (fun _ _ (v x : Option Int) => v = x) A H (evP P.T cl c e h) fun _ x _ _ H' => Q x H'
def tI (c : C) : TI := fun σ H R => ∃ B A h e, Fits G B A h H ∧ RE G B A H e σ ∧ Post G B W σ (SrcR G B) A H (evI P.T cl c e h) fun _ J _ _ H' => R J H'
end
def notSet : Expr → Bool
  | .Set .. => false
  | _ => true
def plainX : Expr → Bool
  | .Slice .. => false
  | _ => true
def notSuper : Expr → Bool
  | .Call (.Name id _) [] [] _ => decide ((id != ("super" : Str)) = true)
  | _ => true
def noStar : List Expr → Bool
  | [] => true
  | .Starred .. :: _ => false
  | _ :: r => noStar r
def bopIs : BOp → Operator → Bool
  | .add, .Add => true
  | .sub, .Sub => true
  | .mul, .Mult => true
  | .fdiv, .FloorDiv => true
  | .mod, .Mod => true
  | .pow, .Pow => true
  | _, _ => false
def copIs : COp → CmpOp → Bool
  | .eq, .Eq => true
  | .ne, .NotEq => true
  | .lt, .Lt => true
  | .le, .LtE => true
  | .gt, .Gt => true
  | .ge, .GtE => true
  | .is, .Is => true
  | .isn, .IsNot => true
  | .inn, .In => true
  | .nin, .NotIn => true
  | _, _ => false
def chkC (P : Pg) (tx : Tx) : Val → Expr → Bool
  | .non, .Constant .none _ _ => true
  | .bl b, .Constant (.bool c) _ _ => b == c
  | .int i, .Constant (.int j) _ _ => decide (i = j)
  | .str n, .Constant (.str x) _ _ => decide (P.txts[n]? = some x)
  | .int i, .Name x _ => globB tx.sc x && decide ((x, i) ∈ P.cons)
  | _, _ => false
def kindsB : Ty → Str → Bool
  | .int, x => decide (x = "int")
  | .bool, x => decide (x = "bool")
  | .str, x => decide (x = "str")
  | .list, x => decide (x = "list")
  | .tuple, x => decide (x = "tuple")
  | .cls _, _ => false
def chkT (P : Pg) (tx : Tx) (t : Ty) : Expr → Bool
  | .Name x _ => globB tx.sc x && (kindsB t x || match t with | .cls k => decide (P.clss[k]? = some (some x))  | _ => false)
  | _ => false
def nameB : BI → Str
  | .len => "len"
  | .max1 => "max"
  | .max2 => "max"
  | .min2 => "min"
  | .abs => "abs"
  | .sum => "sum"
  | .all => "all"
  | .any => "any"
  | .sorted => "sorted"
  | .list => "list"
  | .tuple => "tuple"
  | .toInt => "int"
  | .sortedSet => "sorted"
  | .lenSet => "len"
  | .listRng => "list"
def isTyB : BI → Bool
  | .list => true
  | .tuple => true
  | .toInt => true
  | _ => false
def plainB : BI → Bool
  | .sortedSet => false
  | .lenSet => false
  | .listRng => false
  | _ => true
def nameM : MI → Str
  | .append => "append"
  | .extend => "extend"
  | .pop => "pop"
  | .reverse => "reverse"
  | .clear => "clear"
  | .index => "index"
  | .count => "count"
  | .get => "get"
def isNil : C → Bool
  | .nil => true
  | _ => false
def yes : C → Bool
  | .cst (.bl true) => true
  | _ => false
def isTuple : Expr → Bool
  | .Tuple .. => true
  | _ => false
def ownOf (N : List Str) (own : List Nat) : List (Str × Nat) := own.filterMap fun i => (N[i]?).map fun x => (x, i)
/-- a comprehension's block may stand here -/
def blkB (tx : Tx) (scope : Scope) (own : List Nat) : Bool :=
  decide (scope.kind = .function) && (scope.names.all fun y => decide (scope.names.lookup y.1 = some y.2)) && decide ((ownOf tx.N own).map (·.2) = own)
    && (scope.names.all fun y => if y.2 = .free then decide (tx.sc.names.lookup y.1 = some .cell) || decide (tx.sc.names.lookup y.1 = some .free) else true)
    && (scope.names.all fun y => if y.2 = .local ∨ y.2 = .cell then ((ownOf tx.N own).map (·.1)).contains y.1 || !(tx.N.contains y.1) else true)
def blkT (tx : Tx) (scope : Scope) : Tx := ⟨tx.N, relS scope tx.sc, fun x => scope.names.lookup x == some .cell⟩
def keyIs (P : Pg) : MKey → Option Expr → Bool
  | .inl i, some (.Constant (.int j) _ _) => decide (i = j)
  | .inr n, some (.Constant (.str x) _ _) => decide (P.txts[n]? = some x)
  | _, _ => false
def keysAre (P : Pg) : List MKey → List (Option Expr) → Bool
  | [], [] => true
  | k :: ks, e :: es => keyIs P k e && keysAre P ks es
  | _, _ => false
mutual
def chkE (P : Pg) : C → Tx → Expr → Bool
  | .var i, tx, e => match e with
    | .Name x _ => decide (tx.N[i]? = some x) && visB tx.sc x && okName x
    | _ => false
  | .cst v, tx, e => chkC P tx v e
  | .bin _ o a b, tx, e => match e with
    | .BinOp x op y _ => bopIs o op && chkE P a tx x && chkE P b tx y
    | _ => false
  | .neg a, tx, e => match e with
    | .UnaryOp .USub x _ => chkE P a tx x
    | _ => false
  | .not a, tx, e => match e with
    | .UnaryOp .Not x _ => chkE P a tx x
    | _ => false
  | .cmp o a b, tx, e => match e with
    | .Compare x [op] [y] _ => copIs o op && notSet y && chkE P a tx x && chkE P b tx y
    | _ => false
  | .cmp2 o p a b c, tx, e => match e with
    | .Compare x [op, oq] [y, z] _ => copIs o op && copIs p oq && notSet z && chkE P a tx x && chkE P b tx y && chkE P c tx z
    | _ => false
  | .cmp3 o p q a b c d, tx, e => match e with
    | .Compare x [op, oq, oq2] [y, z, w] _ => copIs o op && copIs p oq && copIs q oq2 && notSet w && chkE P a tx x && chkE P b tx y && chkE P c tx z && chkE P d tx w
    | _ => false
  | .and a b, tx, e => match e with
    | .BoolOp .And (x :: y :: r) pos => chkE P a tx x && (match r with | [] => chkE P b tx y | z :: r => chkE P b tx (.BoolOp .And (y :: z :: r) pos))
    | _ => false
  | .or a b, tx, e => match e with
    | .BoolOp .Or (x :: y :: r) pos => chkE P a tx x && (match r with | [] => chkE P b tx y | z :: r => chkE P b tx (.BoolOp .Or (y :: z :: r) pos))
    | _ => false
  | .ite t a b, tx, e => match e with
    | .IfExp x y z _ => chkE P t tx x && chkE P a tx y && chkE P b tx z
    | _ => false
  | .idx a i, tx, e => match e with
    | .Subscript x y _ => plainX y && chkE P a tx x && chkE P i tx y
    | _ => false
  | .slc _ a lo hi, tx, e => match e with
    | .Subscript x (.Slice l u none _) _ => chkE P a tx x && chkP' P lo tx l && chkP' P hi tx u
    | _ => false
  | .rev _ a, tx, e => match e with
    | .Subscript x (.Slice none none (some (.UnaryOp .USub (.Constant (.int 1) _ _) _)) _) _ => chkE P a tx x
    | _ => false
  | .fld a f, tx, e => match e with
    | .Attribute x n _ => decide (P.flds[f]? = some n) && notSuper x && chkE P a tx x
    | _ => false
  | .tup as, tx, e => match e with
    | .Tuple es _ _ => chkA P as tx es
    | _ => false
  | .lst _ as, tx, e => match e with
    | .List es _ => chkA P as tx es
    | _ => false
  | .dct ks as, _, e => match ks, e with
    | [], .Dict [] [] _ => isNil as
    | _, _ => false
  | .call _ f as, tx, e => match e with
    | .Call (.Name x _) es [] _ => globB tx.sc x && decide (P.funs[f]? = some (some x)) && chkA P as tx es
    | _ => false
  | .new k as, tx, e => match e with
    | .Call (.Name x _) es [] _ => globB tx.sc x && decide (P.clss[k]? = some (some x)) && chkA P as tx es
    | _ => false
  | .bi b _ as, tx, e => match e with
    | .Call (.Name x _) (y :: es) [] _ => globB tx.sc x && decide (x = nameB b) && (match plainB b with
      | true => chkA P as tx (y :: es)
      | false => match b, y, es with
        | .lenSet, .Call (.Name s _) [u] [] _, [] => globB tx.sc s && decide (s = "set") && chkA P as tx [u]
        | .sortedSet, .Call (.Name s _) [u] [] _, [] => globB tx.sc s && decide (s = "set") && chkA P as tx [u]
        | _, _, _ => false)
    | _ => false
  | .isi a t, tx, e => match e with
    | .Call (.Name x _) [y, z] [] _ => globB tx.sc x && decide (x = "isinstance") && chkE P a tx y && chkT P tx t z
    | _ => false
  | .meth m o as, tx, e => match e with
    | .Call (.Attribute x n ap) es [] pos => decide (n = nameM m) && decide (m ≠ .count) && notSuper x && (ap.endLine == pos.line) && decide (es.length < 30) && chkE P o tx x && chkA P as tx es
    | _ => false
  | .ocall _ m o as, tx, e => match e with
    | .Call (.Attribute x n ap) es [] pos => decide (P.meths[m]? = some n) && notSuper x && (ap.endLine == pos.line) && decide (es.length < 30) && chkE P o tx x && chkA P as tx es
    | _ => false
  | .comp _ own p it cd x, tx, e => match e with
    | .ListComp elt [⟨tg, iter, ifs, 0⟩] scope _ => blkB tx scope own && notSet iter && chkI P it tx iter tg && chkP (blkT tx scope) p tg && ((slotsP p).all fun i => own.contains i)
        && (match ifs with | [] => yes cd | [c] => chkE P cd (blkT tx scope) c | _ => false) && chkE P x (blkT tx scope) elt
    | _ => false
  | _, _, _ => false
termination_by structural c => c
def chkA (P : Pg) : C → Tx → List Expr → Bool
  | .nil, _, es => match es with
    | [] => true
    | _ => false
  | .cons a b, tx, es => match es with
    | e :: es => chkE P a tx e && chkA P b tx es
    | _ => false
  | _, _, _ => false
termination_by structural c => c
def chkP' (P : Pg) : C → Tx → Option Expr → Bool
  | .omit, _, e => match e with
    | none => true
    | _ => false
  | .part a, tx, e => match e with
    | some e => chkE P a tx e
    | _ => false
  | _, _, _ => false
termination_by structural c => c
def chkI (P : Pg) : C → Tx → Expr → Expr → Bool
  | .iSeq a, tx, e, _ => chkE P a tx e
  | .iRng as, tx, e, _ => match e with
    | .Call (.Name x _) es [] _ => globB tx.sc x && decide (x = "range") && decide (1 ≤ es.length ∧ es.length ≤ 3) && chkA P as tx es
    | _ => false
  | .iEnum a, tx, e, tg => match e with
    | .Call (.Name x _) [y] [] _ => globB tx.sc x && decide (x = "enumerate") && isTuple tg && chkE P a tx y
    | _ => false
  | .iZip as, tx, e, tg => match e with
    | .Call (.Name x _) es [] _ => globB tx.sc x && decide (x = "zip") && isTuple tg && decide (es.length = 2 ∨ es.length = 3) && chkA P as tx es
    | _ => false
  | _, _, _, _ => false
termination_by structural c => c
end
abbrev W0 : WX := fun _ _ _ _ => False
structure At (P : Pg) (G : Sg) (cl : CallF) (lv : Nat) (tx : Tx) (X : Cx) (W : WX) : Prop where
  sh : Shape tx X
  fa : FactsX P G cl lv X
  room : Room (lv + 2) X.A
  tk : Takes X W
  pass : PassesOwn (model X.prog X.w) X.A X.env X.xe
structure Snd (P : Pg) (c : C) : Prop where
  e : ∀ {G : Sg} {cl : CallF} {lv : Nat} {tx : Tx} {X : Cx} {W : WX}, At P G cl lv tx X W → ∀ e, chkE P c tx e = true → PE X e (tE P G cl W c) ∧ PT X e (tB (tE P G cl W c))
  a : ∀ {G : Sg} {cl : CallF} {lv : Nat} {tx : Tx} {X : Cx} {W : WX}, At P G cl lv tx X W → ∀ es, chkA P c tx es = true → PA X es (tAs P G cl W c) ∧ noStar es = true
  o : ∀ {G : Sg} {cl : CallF} {lv : Nat} {tx : Tx} {X : Cx} {W : WX}, At P G cl lv tx X W → ∀ e, chkP' P c tx e = true → PO X e (tO P G cl W c)
  i : ∀ {G : Sg} {cl : CallF} {lv : Nat} {tx : Tx} {X : Cx} {W : WX}, At P G cl lv tx X W → ∀ e tg, chkI P c tx e tg = true → PI X tg e (tI P G cl W c)
section
variable {P : Pg} {G : Sg} {cl : CallF} {lv : Nat} {tx : Tx} {X : Cx} {W : WX}
theorem At.glob (a : At P G cl lv tx X W) {x : Str} (h : globB tx.sc x = true) : Gl X x ∧ (x == ("__debug__" : Str)) = false ∧ x ≠ "__name__" := by
  unfold globB at h
  simp only [Bool.and_eq_true, decide_eq_true_eq] at h
  refine ⟨?_, h.1.2, h.2⟩
  show X.env.scope.names.lookup x = _
  rw [a.sh.sc]
  exact h.1.1
def simpleX : Expr → Bool
  | .UnaryOp .Not _ _ => false
  | .BoolOp .. => false
  | .IfExp .. => false
  | .Compare .. => false
  | _ => true
theorem pt_simple {e : Expr} {t : TE} (h : PE X e t) (s : simpleX e = true) : PT X e (tB t) := by
  refine pt_val h ?_
  intro whole
  cases e <;> try (simp [simpleX] at s; done)
  all_goals first | rfl | (rename_i op _ _; cases op <;> first | rfl | (simp [simpleX] at s))
theorem pw_of {op : PySem.BoolOp} {vs : List Expr} {pos : Pos} {t : TT} (h : PT X (.BoolOp op vs pos) t) : PW X (.BoolOp op vs pos) t := ⟨fun _ pins s σ H Q I q => h.run pins s σ H Q I q⟩
theorem plainIx_of {b : Expr} (h : plainX b = true) : PlainIx b := by
  intro o i
  cases b <;> first | rfl | (simp [plainX] at h)
theorem base_of {o : Expr} {f : Str} {env : PySem.Env} (h : notSuper o = true) : attributeBase o f env (eval o env) = eval o env := by
  unfold attributeBase
  split
  · rename_i id p pos
    simp only [notSuper, decide_eq_true_eq] at h
    rw [h]
    simp
  · rfl
theorem star_of {env : PySem.Env} : ∀ {es : List Expr}, noStar es = true → starEach es env = es.map fun e => (false, eval e env)
  | [], _ => rfl
  | e :: es, h => by
    have h2 : noStar es = true ∧ starEach (e :: es) env = (false, eval e env) :: starEach es env := by
      cases e <;> first | exact ⟨h, rfl⟩ | (simp [noStar] at h)
    rw [h2.2, star_of h2.1]
    rfl
theorem star_cons {env : PySem.Env} {e : Expr} {es : List Expr} (h : noStar (e :: es) = true) : starEach (e :: es) env = (false, eval e env) :: starEach es env ∧ noStar es = true := by
  cases e <;> first | exact ⟨rfl, h⟩ | (simp [noStar] at h)
theorem back_plain {env : PySem.Env} {pos : Pos} {es : List Expr} (h : noStar es = true) : (backTo pos (starEach es env)).any (·.1) = false := by
  rw [star_of h]
  induction es with
  | nil => rfl
  | cons e es ih =>
    obtain ⟨_, h2⟩ := star_cons (env := env) h
    have := ih h2
    simpa [backTo] using this
theorem back_all {env : PySem.Env} {pos : Pos} {es : List Expr} (h : noStar es = true) : (backTo pos (starEach es env)).all (fun x => !x.1) = true := by
  have := back_plain (env := env) (pos := pos) h
  rw [List.any_eq_false] at this
  rw [List.all_eq_true]
  intro x hx
  have := this x hx
  simpa using this
theorem few_of {env : PySem.Env} {pos : Pos} {es : List Expr} (h : noStar es = true) (n : es.length < 30) : ((backTo pos (starEach es env)).all (fun x => !x.1) && (backToKw pos (keywordEach [] env)).all (fun x => x.1.isSome)
      && decide (es.length + ([] : List Keyword).length + (if ([] : List Keyword).isEmpty then 0 else 1) < 30)) = true := by
  rw [back_all h, Bool.true_and]
  have e1 : (backToKw pos (keywordEach [] env)).all (fun x => x.1.isSome) = true := rfl
  rw [e1, Bool.true_and, decide_eq_true_eq]
  simpa using n
theorem noStar_of {e : Expr} {es : List Expr} (h : ∀ x p, e ≠ .Starred x p) (h2 : noStar es = true) : noStar (e :: es) = true := by
  cases e <;> first | exact h2 | exact absurd rfl (h _ _)
theorem chkE_star {c : C} {x : Expr} {p : Pos} : chkE P c tx (.Starred x p) = false := by
  cases c <;> simp [chkE, chkC]
end
end MP
set_option Elab.async false
set_option linter.all false
set_option maxRecDepth 100000
set_option autoImplicit false
namespace MP
open PySem PySem.Spec PyProof.Rows L2
open Sem (wp)
abbrev IsTri (h : Heap) (T : Addr) (a b c : Value) : Prop := h.get? T = some { cls := .type "tuple", data := .seq #[a, b, c] }
theorem typeCall_zip3 (a b c : Value) : checkTypeCall "zip" ⟨[a, b, c], []⟩ = pure () := by kernel_rfl
theorem newCall_zip3 (a b c : Value) : checkBuiltinCall "zip.__new__" ⟨[.type "zip", a, b, c], []⟩ = pure () := by kernel_rfl
theorem args_object_init4 (a b c d : Value) : argsOk "object.__init__" ⟨[a, b, c, d], []⟩ := by
  unfold argsOk; rw [signature?_of (id := "object.__init__") (n := ['_', '_', 't', 'i', 'n', 'i', '_', '_']) (o := ['t', 'c', 'e', 'j', 'b', 'o']) (by kernel_rfl) PySem.F.owner_object]; kernel_rfl
section
variable {prog : Program} {w : World} {A : Around} {E : Value → Shared → Prop} {s : Shared}
theorem updateSeq_tri {T : Addr} {a b c x : Value} {k : Nat} {Q : Unit → Shared → Prop} (hT : IsTri s.heap T a b c)
    (h : ∀ h', h'.get? T = some { cls := .type "tuple", data := .seq ((#[a, b, c] : Array Value).setIfInBounds k x) } → Heap.SameBut T s.heap h' → Q () { s with heap := h' }) :
    wpAny (model prog w) A (updateSeq T (·.setIfInBounds k x)) Q E s := by
  refine wpAny_updateSeq hT rfl (h _ ?_ (Heap.SameBut.update ..))
  rw [Heap.get?_update_self _ hT rfl]
  simp [Obj.mapSeq]
structure ZipApart3 (z TI TO i1 i2 i3 l1 l2 l3 : Addr) : Prop where
  TIz : TI ≠ z
  TOz : TO ≠ z
  i1z : i1 ≠ z
  i2z : i2 ≠ z
  i3z : i3 ≠ z
  TITO : TI ≠ TO
  TIi1 : TI ≠ i1
  TIi2 : TI ≠ i2
  TIi3 : TI ≠ i3
  TOi1 : TO ≠ i1
  TOi2 : TO ≠ i2
  TOi3 : TO ≠ i3
  i12 : i1 ≠ i2
  i13 : i1 ≠ i3
  i23 : i2 ≠ i3
  l1z : l1 ≠ z
  l1TO : l1 ≠ TO
  l1i1 : l1 ≠ i1
  l1i2 : l1 ≠ i2
  l1i3 : l1 ≠ i3
  l2z : l2 ≠ z
  l2TO : l2 ≠ TO
  l2i1 : l2 ≠ i1
  l2i2 : l2 ≠ i2
  l2i3 : l2 ≠ i3
  l3z : l3 ≠ z
  l3TO : l3 ≠ TO
  l3i1 : l3 ≠ i1
  l3i2 : l3 ≠ i2
  l3i3 : l3 ≠ i3
theorem zip3_next_item {z TI TO i1 i2 i3 l1 l2 l3 : Addr} {k1 k2 k3 : Nat} {xs ys zs : Array Value} {x y u a b c : Value} {Q : Value → Shared → Prop} (D : ZipApart3 z TI TO i1 i2 i3 l1 l2 l3)
    (hz : IsZip s.heap z TI TO .none) (hTI : IsTri s.heap TI (.ref i1) (.ref i2) (.ref i3)) (hTO : IsTri s.heap TO a b c)
    (h1 : s.heap.IsListIter i1 l1 k1) (h2 : s.heap.IsListIter i2 l2 k2) (h3 : s.heap.IsListIter i3 l3 k3) (hl1 : s.heap.IsList l1 xs) (hl2 : s.heap.IsList l2 ys) (hl3 : s.heap.IsList l3 zs) (hx : xs[k1]? = some x) (hy : ys[k2]? = some y) (hu : zs[k3]? = some u)
    (hQ : ∀ h', IsZip h' z TI TO (rawInt s.heap.objs.size) → IsTri h' TO x y u → h'.IsListIter i1 l1 (k1 + 1) → h'.IsListIter i2 l2 (k2 + 1) → h'.IsListIter i3 l3 (k3 + 1) → IsTri h' s.heap.objs.size x y u → h'.objs.size = s.heap.objs.size + 1 →
      (∀ c o, c ≠ z → c ≠ TO → c ≠ i1 → c ≠ i2 → c ≠ i3 → s.heap.get? c = some o → h'.get? c = some o) → Q (.ref s.heap.objs.size) { s with heap := h' }) :
    wpAny (model prog w) A (Builtin.«zip.__next__» ⟨[.ref z], []⟩) (fun fin s' => ∃ v, fin = .done (.ret v) ∧ Q v s') E s := by
  show wpAny _ _ (field (.ref z) 2 >>= _) _ _ _
  refine wpAny_bind (wpAny_field hz rfl (x := .bool false) rfl ?_)
  show wpAny _ _ (field (.ref z) 3 >>= _) _ _ _
  refine wpAny_bind (wpAny_field hz rfl (x := .ref TI) rfl ?_)
  refine wpAny_bind (wpAny_seqItems hTI rfl ?_)
  show wpAny _ _ (Builtin.SmallTypes.ownedTupleIsFree (.ref z) >>= _) _ _ _
  refine wpAny_bind ?_
  unfold Builtin.SmallTypes.ownedTupleIsFree
  refine wpAny_bind (wpAny_field hz rfl (x := .none) rfl (wpAny_pure ?_))
  simp only [if_true]
  refine wpAny_bind (wpAny_rule ?_)
  refine wpAny_bind (wpAny_field hz rfl (x := .ref TO) rfl ?_)
  refine wpAny_bind (wpAny_setField_rec hz (by simp) fun h₁ hz₁ hs₁ => ?_)
  replace hz₁ : IsZip h₁ z TI TO .ellipsis := hz₁
  refine wpAny_bind ?_
  simp only [List.zipIdx_cons, List.zipIdx_nil, List.forIn_cons, List.forIn_nil]

  refine wpAny_bind (wpAny_bind (wpAny_onRaise ?_))
  show wpAny _ _ (Builtin.SmallTypes.nextOf (.ref i1) >>= _) _ _ _
  refine wpAny_bind (wpAny_nextOf_list_item (h1.extBut hs₁.extBut D.i1z) (hl1.extBut hs₁.extBut D.l1z) hx fun h₂ h1₂ hs₂ => wpAny_pure ?_)
  have hTO₂ : IsTri h₂ TO a b c := hs₂.extBut _ _ D.TOi1 (hs₁.extBut _ _ D.TOz hTO)
  refine wpAny_bind (wpAny_seqItems hTO₂ rfl ?_)
  refine wpAny_bind (updateSeq_tri hTO₂ fun h₃ hTO₃ hs₃ => ?_)
  replace hTO₃ : IsTri h₃ TO x b c := hTO₃
  refine wpAny_bind (wpAny_letGo (wpAny_pure ?_))

  refine wpAny_bind (wpAny_bind (wpAny_onRaise ?_))
  show wpAny _ _ (Builtin.SmallTypes.nextOf (.ref i2) >>= _) _ _ _
  refine wpAny_bind (wpAny_nextOf_list_item (((h2.extBut hs₁.extBut D.i2z).extBut hs₂.extBut D.i12.symm).extBut hs₃.extBut D.TOi2.symm)
    (((hl2.extBut hs₁.extBut D.l2z).extBut hs₂.extBut D.l2i1).extBut hs₃.extBut D.l2TO) hy fun h₄ h2₄ hs₄ => wpAny_pure ?_)
  have hTO₄ : IsTri h₄ TO x b c := hs₄.extBut _ _ D.TOi2 hTO₃
  refine wpAny_bind (wpAny_seqItems hTO₄ rfl ?_)
  refine wpAny_bind (updateSeq_tri hTO₄ fun h₅ hTO₅ hs₅ => ?_)
  replace hTO₅ : IsTri h₅ TO x y c := hTO₅
  refine wpAny_bind (wpAny_letGo (wpAny_pure ?_))

  refine wpAny_bind (wpAny_bind (wpAny_onRaise ?_))
  show wpAny _ _ (Builtin.SmallTypes.nextOf (.ref i3) >>= _) _ _ _
  refine wpAny_bind (wpAny_nextOf_list_item (((((h3.extBut hs₁.extBut D.i3z).extBut hs₂.extBut D.i13.symm).extBut hs₃.extBut D.TOi3.symm).extBut hs₄.extBut D.i23.symm).extBut hs₅.extBut D.TOi3.symm)
    (((((hl3.extBut hs₁.extBut D.l3z).extBut hs₂.extBut D.l3i1).extBut hs₃.extBut D.l3TO).extBut hs₄.extBut D.l3i2).extBut hs₅.extBut D.l3TO) hu fun h₆ h3₆ hs₆ => wpAny_pure ?_)
  have hTO₆ : IsTri h₆ TO x y c := hs₆.extBut _ _ D.TOi3 hTO₅
  refine wpAny_bind (wpAny_seqItems hTO₆ rfl ?_)
  refine wpAny_bind (updateSeq_tri hTO₆ fun h₇ hTO₇ hs₇ => ?_)
  replace hTO₇ : IsTri h₇ TO x y u := hTO₇
  refine wpAny_bind (wpAny_letGo (wpAny_pure (wpAny_pure ?_)))

  refine wpAny_bind (wpAny_seqItems hTO₇ rfl ?_)
  refine wpAny_bind (wpAny_newTuple ?_)
  have hsz : h₇.objs.size = s.heap.objs.size := by rw [hs₇.1, hs₆.1, hs₅.1, hs₄.1, hs₃.1, hs₂.1, hs₁.1]
  have hz₇ : IsZip h₇ z TI TO .ellipsis := hs₇.extBut _ _ D.TOz.symm (hs₆.extBut _ _ D.i3z.symm (hs₅.extBut _ _ D.TOz.symm (hs₄.extBut _ _ D.i2z.symm (hs₃.extBut _ _ D.TOz.symm (hs₂.extBut _ _ D.i1z.symm hz₁)))))
  have hk₇ : ∀ c o, c ≠ z → c ≠ TO → c ≠ i1 → c ≠ i2 → c ≠ i3 → s.heap.get? c = some o → h₇.get? c = some o := fun c o c1 c2 c3 c4 c5 e =>
    hs₇.extBut _ _ c2 (hs₆.extBut _ _ c5 (hs₅.extBut _ _ c2 (hs₄.extBut _ _ c4 (hs₃.extBut _ _ c2 (hs₂.extBut _ _ c3 (hs₁.extBut _ _ c1 e))))))
  have h1₇ : h₇.IsListIter i1 l1 (k1 + 1) := ((((h1₂.extBut hs₃.extBut D.TOi1.symm).extBut hs₄.extBut D.i12).extBut hs₅.extBut D.TOi1.symm).extBut hs₆.extBut D.i13).extBut hs₇.extBut D.TOi1.symm
  have h2₇ : h₇.IsListIter i2 l2 (k2 + 1) := ((h2₄.extBut hs₅.extBut D.TOi2.symm).extBut hs₆.extBut D.i23).extBut hs₇.extBut D.TOi2.symm
  have h3₇ : h₇.IsListIter i3 l3 (k3 + 1) := h3₆.extBut hs₇.extBut D.TOi3.symm
  have hzlt : z < h₇.objs.size := Heap.lt_size hz₇
  show wpAny _ _ (Builtin.SmallTypes.ownedTupleHandOut (.ref z) (.ref h₇.objs.size) >>= _) _ _ _
  refine wpAny_bind ?_
  unfold Builtin.SmallTypes.ownedTupleHandOut
  have hz₈ : IsZip (h₇.push { cls := .type "tuple", data := .seq #[x, y, u] }) z TI TO .ellipsis := Heap.get?_push_of_some _ hz₇
  refine wpAny_bind (wpAny_setField_rec hz₈ (by simp) fun h₉ hz₉ hs₉ => ?_)
  replace hz₉ : IsZip h₉ z TI TO (rawInt h₇.objs.size) := hz₉
  refine wpAny_setField_rec hz₉ (by simp) fun h₁₀ hz₁₀ hs₁₀ => ?_
  replace hz₁₀ : IsZip h₁₀ z TI TO (rawInt h₇.objs.size) := hz₁₀
  have up : ∀ c o, c ≠ z → h₇.get? c = some o → h₁₀.get? c = some o := fun c o c1 e => hs₁₀.extBut _ _ c1 (hs₉.extBut _ _ c1 (Heap.get?_push_of_some _ e))
  have hT : IsTri h₁₀ h₇.objs.size x y u := hs₁₀.extBut _ _ (Nat.ne_of_gt hzlt) (hs₉.extBut _ _ (Nat.ne_of_gt hzlt) (Heap.get?_push_size _ rfl))
  have hz8 : h₁₀.objs.size = h₇.objs.size + 1 := by rw [hs₁₀.1, hs₉.1, Heap.size_push]
  rw [hsz] at hz₁₀ hT hz8
  refine wpAny_pure ⟨_, rfl, ?_⟩
  show Q (.ref h₇.objs.size) _
  rw [hsz]
  exact hQ h₁₀ hz₁₀ (up _ _ D.TOz hTO₇) (h1₇.at fun o e => up _ o D.i1z e) (h2₇.at fun o e => up _ o D.i2z e) (h3₇.at fun o e => up _ o D.i3z e) hT hz8 fun c o c1 c2 c3 c4 c5 e => up c o c1 (hk₇ c o c1 c2 c3 c4 c5 e)
theorem zip3_next_end {z TI TO i1 i2 i3 l1 l2 l3 : Addr} {k1 k2 k3 : Nat} {xs ys zs : Array Value} {a b c : Value} {Q : Fin → Shared → Prop} (hh : A.handled = none) (D : ZipApart3 z TI TO i1 i2 i3 l1 l2 l3)
    (hz : IsZip s.heap z TI TO .none) (hTI : IsTri s.heap TI (.ref i1) (.ref i2) (.ref i3)) (hTO : IsTri s.heap TO a b c)
    (h1 : s.heap.IsListIter i1 l1 k1) (h2 : s.heap.IsListIter i2 l2 k2) (h3 : s.heap.IsListIter i3 l3 k3) (hl1 : s.heap.IsList l1 xs) (hl2 : s.heap.IsList l2 ys) (hl3 : s.heap.IsList l3 zs) (hend : xs[k1]? = none ∨ ys[k2]? = none ∨ zs[k3]? = none)
    (hE : ∀ h' e, (∀ c o, c ≠ z → c ≠ TO → c ≠ i1 → c ≠ i2 → c ≠ i3 → s.heap.get? c = some o → h'.get? c = some o) → (∃ o, h'.get? e = some o ∧ o.cls = .type "StopIteration") → E (.ref e) { s with heap := h' }) :
    wpAny (model prog w) A (Builtin.«zip.__next__» ⟨[.ref z], []⟩) Q E s := by
  show wpAny _ _ (field (.ref z) 2 >>= _) _ _ _
  refine wpAny_bind (wpAny_field hz rfl (x := .bool false) rfl ?_)
  show wpAny _ _ (field (.ref z) 3 >>= _) _ _ _
  refine wpAny_bind (wpAny_field hz rfl (x := .ref TI) rfl ?_)
  refine wpAny_bind (wpAny_seqItems hTI rfl ?_)
  show wpAny _ _ (Builtin.SmallTypes.ownedTupleIsFree (.ref z) >>= _) _ _ _
  refine wpAny_bind ?_
  unfold Builtin.SmallTypes.ownedTupleIsFree
  refine wpAny_bind (wpAny_field hz rfl (x := .none) rfl (wpAny_pure ?_))
  simp only [if_true]
  refine wpAny_bind (wpAny_rule ?_)
  refine wpAny_bind (wpAny_field hz rfl (x := .ref TO) rfl ?_)
  refine wpAny_bind (wpAny_setField_rec hz (by simp) fun h₁ hz₁ hs₁ => ?_)
  replace hz₁ : IsZip h₁ z TI TO .ellipsis := hz₁
  refine wpAny_bind ?_
  simp only [List.zipIdx_cons, List.zipIdx_nil, List.forIn_cons, List.forIn_nil]
  refine wpAny_bind (wpAny_bind (wpAny_onRaise ?_))
  show wpAny _ _ (Builtin.SmallTypes.nextOf (.ref i1) >>= _) _ _ _
  cases hx : xs[k1]? with
  | none =>
    refine wpAny_bind (wpAny_nextOf_list_end hh (h1.extBut hs₁.extBut D.i1z) (hl1.extBut hs₁.extBut D.l1z) hx fun h₂ e hs₂ he => ?_)
    obtain ⟨oe, hoe, hce⟩ := he
    have hz₂ : IsZip h₂ z TI TO .ellipsis := hs₂ _ _ D.i1z.symm hz₁
    have hez : e ≠ z := fun x => by subst x; rw [hz₂] at hoe; cases hoe; simp at hce
    refine wpAny_setField_rec hz₂ (by simp) fun h₃ _ hs₃ => hE h₃ e (fun c o c1 _ c3 _ _ x => hs₃.extBut _ _ c1 (hs₂ _ _ c3 (hs₁.extBut _ _ c1 x))) ⟨oe, hs₃.extBut _ _ hez hoe, hce⟩
  | some x =>
    refine wpAny_bind (wpAny_nextOf_list_item (h1.extBut hs₁.extBut D.i1z) (hl1.extBut hs₁.extBut D.l1z) hx fun h₂ h1₂ hs₂ => wpAny_pure ?_)
    have hTO₂ : IsTri h₂ TO a b c := hs₂.extBut _ _ D.TOi1 (hs₁.extBut _ _ D.TOz hTO)
    refine wpAny_bind (wpAny_seqItems hTO₂ rfl ?_)
    refine wpAny_bind (updateSeq_tri hTO₂ fun h₃ hTO₃ hs₃ => ?_)
    replace hTO₃ : IsTri h₃ TO x b c := hTO₃
    refine wpAny_bind (wpAny_letGo (wpAny_pure ?_))
    refine wpAny_bind (wpAny_bind (wpAny_onRaise ?_))
    show wpAny _ _ (Builtin.SmallTypes.nextOf (.ref i2) >>= _) _ _ _
    cases hy : ys[k2]? with
    | none =>
      refine wpAny_bind (wpAny_nextOf_list_end hh (((h2.extBut hs₁.extBut D.i2z).extBut hs₂.extBut D.i12.symm).extBut hs₃.extBut D.TOi2.symm)
        (((hl2.extBut hs₁.extBut D.l2z).extBut hs₂.extBut D.l2i1).extBut hs₃.extBut D.l2TO) hy fun h₄ e hs₄ he => ?_)
      obtain ⟨oe, hoe, hce⟩ := he
      have hz₄ : IsZip h₄ z TI TO .ellipsis := hs₄ _ _ D.i2z.symm (hs₃.extBut _ _ D.TOz.symm (hs₂.extBut _ _ D.i1z.symm hz₁))
      have hez : e ≠ z := fun x => by subst x; rw [hz₄] at hoe; cases hoe; simp at hce
      refine wpAny_setField_rec hz₄ (by simp) fun h₅ _ hs₅ => hE h₅ e (fun c o c1 c2 c3 c4 _ x => hs₅.extBut _ _ c1 (hs₄ _ _ c4 (hs₃.extBut _ _ c2 (hs₂.extBut _ _ c3 (hs₁.extBut _ _ c1 x))))) ⟨oe, hs₅.extBut _ _ hez hoe, hce⟩
    | some y =>
      have hu : zs[k3]? = none := by
        rcases hend with q | q | q
        · rw [hx] at q; cases q
        · rw [hy] at q; cases q
        · exact q
      refine wpAny_bind (wpAny_nextOf_list_item (((h2.extBut hs₁.extBut D.i2z).extBut hs₂.extBut D.i12.symm).extBut hs₃.extBut D.TOi2.symm)
        (((hl2.extBut hs₁.extBut D.l2z).extBut hs₂.extBut D.l2i1).extBut hs₃.extBut D.l2TO) hy fun h₄ h2₄ hs₄ => wpAny_pure ?_)
      have hTO₄ : IsTri h₄ TO x b c := hs₄.extBut _ _ D.TOi2 hTO₃
      refine wpAny_bind (wpAny_seqItems hTO₄ rfl ?_)
      refine wpAny_bind (updateSeq_tri hTO₄ fun h₅ hTO₅ hs₅ => ?_)
      refine wpAny_bind (wpAny_letGo (wpAny_pure ?_))
      refine wpAny_bind (wpAny_bind (wpAny_onRaise ?_))
      show wpAny _ _ (Builtin.SmallTypes.nextOf (.ref i3) >>= _) _ _ _
      refine wpAny_bind (wpAny_nextOf_list_end hh (((((h3.extBut hs₁.extBut D.i3z).extBut hs₂.extBut D.i13.symm).extBut hs₃.extBut D.TOi3.symm).extBut hs₄.extBut D.i23.symm).extBut hs₅.extBut D.TOi3.symm)
        (((((hl3.extBut hs₁.extBut D.l3z).extBut hs₂.extBut D.l3i1).extBut hs₃.extBut D.l3TO).extBut hs₄.extBut D.l3i2).extBut hs₅.extBut D.l3TO) hu fun h₆ e hs₆ he => ?_)
      obtain ⟨oe, hoe, hce⟩ := he
      have hz₆ : IsZip h₆ z TI TO .ellipsis := hs₆ _ _ D.i3z.symm (hs₅.extBut _ _ D.TOz.symm (hs₄.extBut _ _ D.i2z.symm (hs₃.extBut _ _ D.TOz.symm (hs₂.extBut _ _ D.i1z.symm hz₁))))
      have hez : e ≠ z := fun x => by subst x; rw [hz₆] at hoe; cases hoe; simp at hce
      refine wpAny_setField_rec hz₆ (by simp) fun h₇ _ hs₇ => hE h₇ e (fun c o c1 c2 c3 c4 c5 x => hs₇.extBut _ _ c1 (hs₆ _ _ c5 (hs₅.extBut _ _ c2 (hs₄.extBut _ _ c4 (hs₃.extBut _ _ c2 (hs₂.extBut _ _ c3 (hs₁.extBut _ _ c1 x))))))) ⟨oe, hs₇.extBut _ _ hez hoe, hce⟩
theorem pyNext_zip3_item {z TI TO i1 i2 i3 l1 l2 l3 : Addr} {k1 k2 k3 : Nat} {xs ys zs : Array Value} {x y u a b c : Value} {Q : Option Value → Shared → Prop} (D : ZipApart3 z TI TO i1 i2 i3 l1 l2 l3)
    (hz : IsZip s.heap z TI TO .none) (hTI : IsTri s.heap TI (.ref i1) (.ref i2) (.ref i3)) (hTO : IsTri s.heap TO a b c)
    (h1 : s.heap.IsListIter i1 l1 k1) (h2 : s.heap.IsListIter i2 l2 k2) (h3 : s.heap.IsListIter i3 l3 k3) (hl1 : s.heap.IsList l1 xs) (hl2 : s.heap.IsList l2 ys) (hl3 : s.heap.IsList l3 zs) (hx : xs[k1]? = some x) (hy : ys[k2]? = some y) (hu : zs[k3]? = some u)
    (hQ : ∀ h', IsZip h' z TI TO (rawInt s.heap.objs.size) → IsTri h' TO x y u → h'.IsListIter i1 l1 (k1 + 1) → h'.IsListIter i2 l2 (k2 + 1) → h'.IsListIter i3 l3 (k3 + 1) → IsTri h' s.heap.objs.size x y u → h'.objs.size = s.heap.objs.size + 1 →
      (∀ c o, c ≠ z → c ≠ TO → c ≠ i1 → c ≠ i2 → c ≠ i3 → s.heap.get? c = some o → h'.get? c = some o) → Q (some (.ref s.heap.objs.size)) { s with heap := h' }) :
    wpAny (model prog w) A (pyNext (.ref z)) Q E s := by
  have hT : s.TypeIs (.ref z) "zip" := ⟨_, hz, rfl⟩
  unfold pyNext
  exact wpAny_bind (wpAny_attempt (wpAny_callSpecial?_slot (name := Str.ofString "__next__") hT PySem.F.slot_zip_next
    (wpAny_call_entry PySem.F.slot_zip_next hT PySem.F.entry_zip_next
      (zip3_next_item D hz hTI hTO h1 h2 h3 hl1 hl2 hl3 hx hy hu fun h' a1 a2 a3 a4 a5 a6 a7 a8 => wpAny_pure (hQ h' a1 a2 a3 a4 a5 a6 a7 a8)) (PySem.F.args_zip_next_1 _))))
theorem pyNext_zip3_end {z TI TO i1 i2 i3 l1 l2 l3 : Addr} {k1 k2 k3 : Nat} {xs ys zs : Array Value} {a b c : Value} {Q : Option Value → Shared → Prop} (hh : A.handled = none) (D : ZipApart3 z TI TO i1 i2 i3 l1 l2 l3)
    (hz : IsZip s.heap z TI TO .none) (hTI : IsTri s.heap TI (.ref i1) (.ref i2) (.ref i3)) (hTO : IsTri s.heap TO a b c)
    (h1 : s.heap.IsListIter i1 l1 k1) (h2 : s.heap.IsListIter i2 l2 k2) (h3 : s.heap.IsListIter i3 l3 k3) (hl1 : s.heap.IsList l1 xs) (hl2 : s.heap.IsList l2 ys) (hl3 : s.heap.IsList l3 zs) (hend : xs[k1]? = none ∨ ys[k2]? = none ∨ zs[k3]? = none)
    (hQ : ∀ h', (∀ c o, c ≠ z → c ≠ TO → c ≠ i1 → c ≠ i2 → c ≠ i3 → s.heap.get? c = some o → h'.get? c = some o) → Q none { s with heap := h' }) : wpAny (model prog w) A (pyNext (.ref z)) Q E s := by
  have hT : s.TypeIs (.ref z) "zip" := ⟨_, hz, rfl⟩
  unfold pyNext
  refine wpAny_bind (wpAny_attempt (wpAny_callSpecial?_slot (name := Str.ofString "__next__") hT PySem.F.slot_zip_next
    (wpAny_call_entry PySem.F.slot_zip_next hT PySem.F.entry_zip_next (zip3_next_end hh D hz hTI hTO h1 h2 h3 hl1 hl2 hl3 hend fun h' e hk he => ?_) (PySem.F.args_zip_next_1 _))))
  obtain ⟨o, ho, hc⟩ := he
  refine wpAny_bind (wpAny_isInstance (T := "StopIteration") (b := true) ⟨o, ho, hc⟩ isSubtype_stop ?_)
  exact wpAny_pure (hQ _ hk)
end
abbrev z3H1 (h : Heap) (l1 : Addr) : Heap := h.push { cls := .type "list_iterator", data := .fields #[.ref l1, .int 0 0] }
abbrev z3H2 (h : Heap) (l1 l2 : Addr) : Heap := (z3H1 h l1).push { cls := .type "list_iterator", data := .fields #[.ref l2, .int 0 0] }
abbrev z3H3 (h : Heap) (l1 l2 l3 : Addr) : Heap := (z3H2 h l1 l2).push { cls := .type "list_iterator", data := .fields #[.ref l3, .int 0 0] }
abbrev z3H4 (h : Heap) (l1 l2 l3 : Addr) : Heap := (z3H3 h l1 l2 l3).push { cls := .type "tuple", data := .seq #[.ref h.objs.size, .ref (z3H1 h l1).objs.size, .ref (z3H2 h l1 l2).objs.size] }
abbrev z3H5 (h : Heap) (l1 l2 l3 : Addr) : Heap := (z3H4 h l1 l2 l3).push { cls := .type "tuple", data := .seq #[.none, .none, .none] }
abbrev z3H6 (h : Heap) (l1 l2 l3 : Addr) : Heap := (z3H5 h l1 l2 l3).push { cls := .type "zip", data := .fields #[.none, .bool false, .bool false, .ref (z3H3 h l1 l2 l3).objs.size, .ref (z3H4 h l1 l2 l3).objs.size] }
set_option maxHeartbeats 2000000 in
theorem meets_zip3_new (l1 l2 l3 : Addr) (xs ys zs : Array Value) :
    Meets (Builtin.«zip.__new__» ⟨[.type "zip", .ref l1, .ref l2, .ref l3], []⟩) (fun _ R s => s.heap.IsList l1 xs ∧ s.heap.IsList l2 ys ∧ s.heap.IsList l3 zs ∧
      R (.ok (.ret (.ref (z3H5 s.heap l1 l2 l3).objs.size))) { s with heap := z3H6 s.heap l1 l2 l3 }) :=
  .of_wp fun prog w A R s h => by
    obtain ⟨hp, g, d, tk, os⟩ := s; obtain ⟨hl1, hl2, hl3, h⟩ := h
    have hsub := sub_zip
    have hL1 : Heap.IsList (Shared.heap ⟨hp, g, d, tk, os⟩) l1 xs := hl1
    have hL2 : Heap.IsList (Shared.heap ⟨hp.push { cls := .type "list_iterator", data := .fields #[.ref l1, .int 0 0] }, g, d, tk, os⟩) l2 ys := Heap.IsList.push hl2 _
    have hL3a : (hp.push { cls := .type "list_iterator", data := .fields #[.ref l1, .int 0 0] }).IsList l3 zs := Heap.IsList.push hl3 _
    have hL3 : Heap.IsList (Shared.heap ⟨(hp.push { cls := .type "list_iterator", data := .fields #[.ref l1, .int 0 0] }).push { cls := .type "list_iterator", data := .fields #[.ref l2, .int 0 0] }, g, d, tk, os⟩) l3 zs := Heap.IsList.push hL3a _
    wp_walk using wpAny_pyIter_list hL1, wpAny_pyIter_list hL2, wpAny_pyIter_list hL3
    exact ⟨_, rfl, h⟩
section
variable {prog : Program} {w : World} {A : Around} {E : Value → Shared → Prop} {s : Shared}
theorem call_zip_3 {l1 l2 l3 : Addr} {xs ys zs : Array Value} {Q : Value → Shared → Prop} (hl1 : s.heap.IsList l1 xs) (hl2 : s.heap.IsList l2 ys) (hl3 : s.heap.IsList l3 zs)
    (h : ∀ h', IsZip h' (s.heap.objs.size + 5) (s.heap.objs.size + 3) (s.heap.objs.size + 4) .none → IsTri h' (s.heap.objs.size + 3) (.ref s.heap.objs.size) (.ref (s.heap.objs.size + 1)) (.ref (s.heap.objs.size + 2)) →
      IsTri h' (s.heap.objs.size + 4) .none .none .none → h'.IsListIter s.heap.objs.size l1 0 → h'.IsListIter (s.heap.objs.size + 1) l2 0 → h'.IsListIter (s.heap.objs.size + 2) l3 0 → h'.objs.size = s.heap.objs.size + 6 →
      (∀ c o, s.heap.get? c = some o → h'.get? c = some o) → Q (.ref (s.heap.objs.size + 5)) { s with heap := h' }) :
    wpAny (model prog w) A (call (.type "zip") [.ref l1, .ref l2, .ref l3]) Q E s := by
  refine callType_new PySem.F.called_zip (by decide) (typeCall_zip3 _ _ _) (newCall_zip3 _ _ _) (fun obj => args_object_init4 obj _ _ _) PySem.F.entry_zip_new
    (meets_zip3_new l1 l2 l3 xs ys zs) ⟨hl1, hl2, hl3, ?_⟩
  have z1 : (z3H1 s.heap l1).objs.size = s.heap.objs.size + 1 := Heap.size_push ..
  have z2 : (z3H2 s.heap l1 l2).objs.size = s.heap.objs.size + 2 := by rw [Heap.size_push, z1]
  have z3 : (z3H3 s.heap l1 l2 l3).objs.size = s.heap.objs.size + 3 := by rw [Heap.size_push, z2]
  have z4 : (z3H4 s.heap l1 l2 l3).objs.size = s.heap.objs.size + 4 := by rw [Heap.size_push, z3]
  have z5 : (z3H5 s.heap l1 l2 l3).objs.size = s.heap.objs.size + 5 := by rw [Heap.size_push, z4]
  have z6 : (z3H6 s.heap l1 l2 l3).objs.size = s.heap.objs.size + 6 := by rw [Heap.size_push, z5]
  have g6 : (z3H6 s.heap l1 l2 l3).get? (z3H5 s.heap l1 l2 l3).objs.size = some _ := Heap.get?_push_size _ rfl
  have g5 : (z3H6 s.heap l1 l2 l3).get? (z3H4 s.heap l1 l2 l3).objs.size = some _ := Heap.get?_push_of_some _ (Heap.get?_push_size _ rfl)
  have g4 : (z3H6 s.heap l1 l2 l3).get? (z3H3 s.heap l1 l2 l3).objs.size = some _ := Heap.get?_push_of_some _ (Heap.get?_push_of_some _ (Heap.get?_push_size _ rfl))
  have g3 : (z3H6 s.heap l1 l2 l3).get? (z3H2 s.heap l1 l2).objs.size = some _ := Heap.get?_push_of_some _ (Heap.get?_push_of_some _ (Heap.get?_push_of_some _ (Heap.get?_push_size _ rfl)))
  have g2 : (z3H6 s.heap l1 l2 l3).get? (z3H1 s.heap l1).objs.size = some _ := Heap.get?_push_of_some _ (Heap.get?_push_of_some _ (Heap.get?_push_of_some _ (Heap.get?_push_of_some _ (Heap.get?_push_size _ rfl))))
  have g1 : (z3H6 s.heap l1 l2 l3).get? s.heap.objs.size = some _ := Heap.get?_push_of_some _ (Heap.get?_push_of_some _ (Heap.get?_push_of_some _ (Heap.get?_push_of_some _ (Heap.get?_push_of_some _ (Heap.get?_push_size _ rfl)))))
  show _ ∧ _
  rw [z3, z4, z5] at g6
  rw [z1, z2, z3] at g4
  rw [z4] at g5
  rw [z1] at g2
  rw [z2] at g3
  rw [z5]
  exact ⟨⟨_, g6, rfl⟩, h _ g6 g4 g5 ⟨_, g1, rfl, rfl⟩ ⟨_, g2, rfl, rfl⟩ ⟨_, g3, rfl, rfl⟩ z6 fun c o x =>
    Heap.get?_push_of_some _ (Heap.get?_push_of_some _ (Heap.get?_push_of_some _ (Heap.get?_push_of_some _ (Heap.get?_push_of_some _ (Heap.get?_push_of_some _ x)))))⟩
end
/-- the lists at a, b, c as they stand at each turn, the items in new triples -/
def Itz3 (K : PySem.W.Frag) (a b c : Addr) : It :=
  ⟨fun i H => ∃ (xs ys zs : List V) (x y z : V), SqL K H a xs ∧ SqL K H b ys ∧ SqL K H c zs ∧ xs[i]? = some x ∧ ys[i]? = some y ∧ zs[i]? = some z,
    fun i H v H' => ∃ T x y z, v = .ref T ∧ H T = none ∧ H' = upd H T (.tup [x, y, z]) ∧ (∀ xs, SqL K H a xs → xs[i]? = some x) ∧ (∀ ys, SqL K H b ys → ys[i]? = some y) ∧ ∀ zs, SqL K H c zs → zs[i]? = some z,
    fun i H => ∃ xs ys zs : List V, SqL K H a xs ∧ SqL K H b ys ∧ SqL K H c zs ∧ (xs.length ≤ i ∨ ys.length ≤ i ∨ zs.length ≤ i)⟩
theorem turn_zip3 {P : Program} {w : World} {K : PySem.W.Frag} {elts : List Expr} {kk : Nat} {tpos : Pos} {a b c z TI TO i1 i2 i3 : Addr} (D : ZipApart3 z TI TO i1 i2 i3 a b c) :
    Turn P w K (.Tuple elts kk tpos) (Itz3 K a b c) [z, TI, TO, i1, i2, i3] z (fun i h => IsZip h z TI TO .none ∧ IsTri h TI (.ref i1) (.ref i2) (.ref i3) ∧ (∃ x y u, IsTri h TO x y u) ∧ h.IsListIter i1 a i ∧ h.IsListIter i2 b i ∧ h.IsListIter i3 c i) where
  mem := by simp
  obj := fun i h st c hc => by
    obtain ⟨hz, hTI, ⟨x, y, u, hTO⟩, ⟨o1, e1, _, d1⟩, ⟨o2, e2, _, d2⟩, ⟨o3, e3, _, d3⟩⟩ := st
    have e' : c = z ∨ c = TI ∨ c = TO ∨ c = i1 ∨ c = i2 ∨ c = i3 := by simpa using hc
    rcases e' with q | q | q | q | q | q
    · rw [q]; exact ⟨_, hz, fun v q => nomatch q⟩
    · rw [q]; exact ⟨_, hTI, fun v q => nomatch q⟩
    · rw [q]; exact ⟨_, hTO, fun v q => nomatch q⟩
    · rw [q]; exact ⟨o1, e1, fun v q => by rw [d1] at q; cases q⟩
    · rw [q]; exact ⟨o2, e2, fun v q => by rw [d2] at q; cases q⟩
    · rw [q]; exact ⟨o3, e3, fun v q => by rw [d3] at q; cases q⟩
  keep := fun i h h' st k => by
    obtain ⟨hz, hTI, ⟨x, y, u, hTO⟩, h1, h2, h3⟩ := st
    exact ⟨k z (by simp) _ hz, k TI (by simp) _ hTI, ⟨x, y, u, k TO (by simp) _ hTO⟩, h1.at fun o q => k i1 (by simp) o q, h2.at fun o q => k i2 (by simp) o q, h3.at fun o q => k i3 (by simp) o q⟩
  item := by
    intro X hP hw hK hc i pins s σ H E I hf st hg
    subst hP hw hK
    obtain ⟨hz, hTI, ⟨x0, y0, u0, hTO⟩, h1, h2, h3⟩ := st
    obtain ⟨xs, ys, zs, x, y, u, hqx, hqy, hqz, hx, hy, hu⟩ := hg
    obtain ⟨its, rv, p, _⟩ := I.list hqx
    obtain ⟨its2, rv2, p2, _⟩ := I.list hqy
    obtain ⟨its3, rv3, p3, _⟩ := I.list hqz
    obtain ⟨u1, hu1, ru1⟩ := rv.get hx
    obtain ⟨u2, hu2, ru2⟩ := rv2.get hy
    obtain ⟨u3, hu3, ru3⟩ := rv3.get hu
    have hzl : z < s.heap.objs.size := Heap.lt_size hz
    refine pyNext_zip3_item D hz hTI hTO h1 h2 h3 p.isList p2.isList p3.isList (x := u1) (y := u2) (u := u3) (by simpa using hu1) (by simpa using hu2) (by simpa using hu3) fun h' z' TO' h1' h2' h3' hT hsz hk => ?_
    refine ⟨_, rfl, wpAny_letOwnedTupleGo_zip (s := { s with heap := h' }) z' fun h'' z'' sb => ?_⟩
    have hT2 : h''.get? s.heap.objs.size = some { cls := .type "tuple", data := .seq #[u1, u2, u3] } := (sb.2 _ (Nat.ne_of_gt hzl)).trans hT
    have new : ObjOk X.prog X.w (upd H s.heap.objs.size (.tup [x, y, u])) h'' s.heap.objs.size (.tup [x, y, u]) :=
      ⟨by show 3 ≤ sizeLine; decide, [u1, u2, u3], .cons ru1 (.cons ru2 (.cons ru3 .nil)), ⟨_, hT2, rfl, _, rfl⟩⟩
    have I1 : Inv X pins σ (upd H s.heap.objs.size (.tup [x, y, u])) { s with heap := h'' } :=
      I.turnedNew (t' := s.toks) (ch := [z, TI, TO, i1, i2, i3]) (fun c o hb q => (sb.2 c (fun q' => hb (by simp [q']))).trans (hk c o (fun q' => hb (by simp [q'])) (fun q' => hb (by simp [q'])) (fun q' => hb (by simp [q'])) (fun q' => hb (by simp [q'])) (fun q' => hb (by simp [q'])) q)) hf (Nat.le_refl _) new
    refine ⟨.ref s.heap.objs.size, _, I1, rfl, ⟨_, x, y, u, rfl, I.hok.fresh (Nat.le_refl _), rfl, fun l hl => by rw [I.list_inj hl hqx]; exact hx, fun l hl => by rw [I.list_inj hl hqy]; exact hy, fun l hl => by rw [I.list_inj hl hqz]; exact hu⟩, ⟨z'', ?_, ⟨u1, u2, u3, ?_⟩, ?_, ?_, ?_⟩, fun c hcm => ?_⟩
    · exact (sb.2 _ D.TIz).trans (hk _ _ D.TIz D.TITO D.TIi1 D.TIi2 D.TIi3 hTI)
    · exact (sb.2 _ D.TOz).trans TO'
    · exact h1'.at fun o q => (sb.2 _ D.i1z).trans q
    · exact h2'.at fun o q => (sb.2 _ D.i2z).trans q
    · exact h3'.at fun o q => (sb.2 _ D.i3z).trans q
    · have hlt : c < s.heap.objs.size := by
        have e' : c = z ∨ c = TI ∨ c = TO ∨ c = i1 ∨ c = i2 ∨ c = i3 := by simpa using hcm
        rcases e' with q | q | q | q | q | q
        · rw [q]; exact hzl
        · rw [q]; exact Heap.lt_size hTI
        · rw [q]; exact Heap.lt_size hTO
        · rw [q]; obtain ⟨_, e1, _⟩ := h1; exact Heap.lt_size e1
        · rw [q]; obtain ⟨_, e2, _⟩ := h2; exact Heap.lt_size e2
        · rw [q]; obtain ⟨_, e3, _⟩ := h3; exact Heap.lt_size e3
      rw [upd_ne (Nat.ne_of_lt hlt)]
      exact (hf c hcm).1
  done := by
    intro X hP hw hK hc i pins s σ H E I hf st hg
    subst hP hw hK
    obtain ⟨hz, hTI, ⟨x0, y0, u0, hTO⟩, h1, h2, h3⟩ := st
    obtain ⟨xs, ys, zs, hqx, hqy, hqz, hend⟩ := hg
    obtain ⟨its, rv, p, _⟩ := I.list hqx
    obtain ⟨its2, rv2, p2, _⟩ := I.list hqy
    obtain ⟨its3, rv3, p3, _⟩ := I.list hqz
    have l1 := rv.length
    have l2 := rv2.length
    have l3 := rv3.length
    have he : its.toArray[i]? = none ∨ its2.toArray[i]? = none ∨ its3.toArray[i]? = none := by
      rcases hend with q | q | q
      · exact .inl (by simp; omega)
      · exact .inr (.inl (by simp; omega))
      · exact .inr (.inr (by simp; omega))
    exact pyNext_zip3_end (I.ok.hd hc) D hz hTI hTO h1 h2 h3 p.isList p2.isList p3.isList he fun h' hk => ⟨rfl, I.turnedL (t' := s.toks) (ch := [z, TI, TO, i1, i2, i3]) (fun c o hb q =>
      hk c o (fun q' => hb (by simp [q'])) (fun q' => hb (by simp [q'])) (fun q' => hb (by simp [q'])) (fun q' => hb (by simp [q'])) (fun q' => hb (by simp [q'])) q) hf⟩
  self := fun A i s Q E st h => wpAny_pyIter_zip st.1 h
theorem apart3 (n a b c : Nat) (ha : a < n) (hb : b < n) (hc : c < n) : ZipApart3 (n + 5) (n + 3) (n + 4) n (n + 1) (n + 2) a b c := by
  constructor <;> (show ¬ (_ : Nat) = _; omega)
def iZip3 (K : PySem.W.Frag) (ta : TA) : TI := fun σ H R => ta σ H fun vs H1 => ∃ a b c xs ys zs, vs = [.ref a, .ref b, .ref c] ∧ SqL K H1 a xs ∧ SqL K H1 b ys ∧ SqL K H1 c zs ∧ R (Itz3 K a b c) H1
theorem pi_zip3 {X : Cx} {e : Expr} {es : List Expr} {ta : TA} {p pos tpos : Pos} {elts : List Expr} {kk : Nat} (hg : Gl X "zip") (hm : X.mg "zip" = none) (ha : PA X (e :: es) ta)
    (hs : starEach (e :: es) X.env = (false, eval e X.env) :: starEach es X.env) (hpl : (backTo pos (starEach es X.env)).any (·.1) = false) :
    PI X (.Tuple elts kk tpos) (.Call (.Name "zip" p) (e :: es) [] pos) (iZip3 X.K ta) := by
  refine ⟨fun pins s σ H R I h => ?_⟩
  refine Call_ (ld_blt I hg hm PyProof.Rows.boot_zip (PyProof.Rows.callWith_type1 (thn (ha.run pos pins s σ H _ I h) fun us s1 ⟨vs, H1, I1, r1, q1⟩ => ?_) hs hpl))
  obtain ⟨a, b, c, xs, ys, zs, ex, hqx, hqy, hqz, q⟩ := q1
  subst ex
  cases r1 with
  | cons r rr =>
    cases rr with
    | cons r' rr =>
      cases rr with
      | cons r'' rr =>
        cases rr
        cases r
        cases r'
        cases r''
        obtain ⟨its, rv, p1, _⟩ := I1.list hqx
        obtain ⟨its2, rv2, p2, _⟩ := I1.list hqy
        obtain ⟨its3, rv3, p3, _⟩ := I1.list hqz
        have la : a < s1.heap.objs.size := p1.lt
        have lb : b < s1.heap.objs.size := p2.lt
        have lc : c < s1.heap.objs.size := p3.lt
        refine call_zip_3 p1.isList p2.isList p3.isList fun h' hz hTI hTO h1 h2 h3 hsz hk => wpAny_pyIter_zip hz ?_
        have I2 : Inv X pins σ H1 { s1 with heap := h' } := I1.kept (t' := s1.toks) hk
        refine ⟨s1.heap.objs.size + 5, [s1.heap.objs.size + 5, s1.heap.objs.size + 3, s1.heap.objs.size + 4, s1.heap.objs.size, s1.heap.objs.size + 1, s1.heap.objs.size + 2], _, _, H1, rfl, I2, turn_zip3 (apart3 s1.heap.objs.size a b c la lb lc), ⟨hz, hTI, ⟨_, _, _, hTO⟩, h1, h2, h3⟩, fun c hcm => ?_, q⟩
        have e' : c = s1.heap.objs.size + 5 ∨ c = s1.heap.objs.size + 3 ∨ c = s1.heap.objs.size + 4 ∨ c = s1.heap.objs.size ∨ c = s1.heap.objs.size + 1 ∨ c = s1.heap.objs.size + 2 := by simpa using hcm
        have hle : s1.heap.objs.size ≤ c := by
          rcases e' with z | z | z | z | z | z <;> rw [z] <;> first | exact Nat.le_add_right _ _ | exact Nat.le_refl _
        exact I1.fpOk hle (I1.hok.fresh hle)
section
variable {X : Cx} {a b c d : Expr} {pos : Pos} {ta tb tc td : TE}
def tChain3 (r r' r'' : R2) (ta tb tc td : TE) : TE := fun σ H Q => ta σ H fun x H1 => tb σ H1 fun y H2 => r x y H2 fun z H3 => ∃ k, z = .bl k ∧
  (if k = true then tc σ H3 fun u H4 => r' y u H4 fun z' H5 => ∃ k', z' = .bl k' ∧ (if k' = true then td σ H5 fun v H6 => r'' u v H6 Q else Q (.bl false) H5) else Q (.bl false) H3)
theorem pe_chain3 {op op' op'' : CmpOp} {r r' r'' : R2} (ho : OpR X (compareOp op) r) (ho' : OpR X (compareOp op') r') (ho'' : OpR X (compareOp op'') r'') (ha : PE X a ta) (hb : PE X b tb) (hc : PE X c tc) (hd : PE X d td)
    (hm : lastMarks [op, op', op''] [b, c, d] = false) : PE X (.Compare a [op, op', op''] [b, c, d] pos) (tChain3 r r' r'' ta tb tc td) := by
  refine ⟨fun pins s σ H Q I h => ?_⟩
  refine Compare_chain (thn (ha.run pins s σ H _ I h) fun v s1 ⟨x, H1, I1, r1, q1⟩ => chain_link (thn (hb.run pins s1 σ H1 _ I1 q1) fun u s2 ⟨y, H2, I2, r2, q2⟩ =>
    thn (ho pins s2 σ H2 x y v u _ I2 r1 r2 q2) fun d s3 ⟨z, H3, I3, r3, k, e, q3⟩ => ?_)) hm
  subst e
  cases r3
  refine wpAny_truthy_bool ?_
  cases k with
  | false => exact ite_ff ⟨.bl false, H3, I3, rfl, q3⟩
  | true =>
    refine ite_tt (chain_link (thn (hc.run pins s3 σ H3 _ I3 q3) fun u4 s4 ⟨z4, H4, I4, r4, q4⟩ => thn (ho' pins s4 σ H4 y z4 u u4 _ I4 r2 r4 q4) fun d5 s5 ⟨z5, H5, I5, r5, k5, e5, q5⟩ => ?_))
    subst e5
    cases r5
    refine wpAny_truthy_bool ?_
    cases k5 with
    | false => exact ite_ff ⟨.bl false, H5, I5, rfl, q5⟩
    | true => exact ite_tt (chain_last (thn (hd.run pins s5 σ H5 _ I5 q5) fun w' s6 ⟨z', H6, I6, r6, q6⟩ => ho'' pins s6 σ H6 z4 z' u4 w' Q I6 r4 r6 q6))
theorem pt_chain3 {op op' op'' : CmpOp} {r r' r'' : R2} (ho : OpR X (compareOp op) r) (ho' : OpR X (compareOp op') r') (ho'' : OpR X (compareOp op'') r'') (ha : PE X a ta) (hb : PE X b tb) (hc : PE X c tc) (hd : PE X d td)
    (hm : lastMarks [op, op', op''] [b, c, d] = false) : PT X (.Compare a [op, op', op''] [b, c, d] pos) (tTest (tChain3 r r' r'' ta tb tc td)) := by
  refine ⟨fun pins s σ H Q I h => ?_⟩
  refine isTrue_chain (thn (ha.run pins s σ H _ I h) fun v s1 ⟨x, H1, I1, r1, q1⟩ => test_link (thn (hb.run pins s1 σ H1 _ I1 q1) fun u s2 ⟨y, H2, I2, r2, q2⟩ =>
    thn (ho pins s2 σ H2 x y v u _ I2 r1 r2 q2) fun d s3 ⟨z, H3, I3, r3, k, e, q3⟩ => ?_)) hm
  subst e
  cases r3
  refine wpAny_truthy_bool ?_
  cases k with
  | false =>
    obtain ⟨k', e', q'⟩ := q3
    cases e'
    exact ite_ff ⟨H3, I3, q'⟩
  | true =>
    refine ite_tt (test_link (thn (hc.run pins s3 σ H3 _ I3 q3) fun u4 s4 ⟨z4, H4, I4, r4, q4⟩ => thn (ho' pins s4 σ H4 y z4 u u4 _ I4 r2 r4 q4) fun d5 s5 ⟨z5, H5, I5, r5, k5, e5, q5⟩ => ?_))
    subst e5
    cases r5
    refine wpAny_truthy_bool ?_
    cases k5 with
    | false =>
      obtain ⟨k', e', q'⟩ := q5
      cases e'
      exact ite_ff ⟨H5, I5, q'⟩
    | true =>
      refine ite_tt (test_last (thn (hd.run pins s5 σ H5 _ I5 q5) fun w' s6 ⟨z', H6, I6, r6, q6⟩ => thn (ho'' pins s6 σ H6 z4 z' u4 w' _ I6 r4 r6 q6) fun d' s7 ⟨z2, H7, I7, r7, k2, e2, q7⟩ => ?_))
      subst e2
      cases r7
      exact wpAny_truthy_bool ⟨H7, I7, q7⟩
end
end MP
set_option Elab.async false
set_option linter.all false
set_option maxRecDepth 100000
set_option autoImplicit false
namespace MP
open PySem PySem.Spec PyProof.Rows L2
section
variable {P : Pg} {G : Sg} {cl : CallF} {lv : Nat} {tx : Tx} {X : Cx} {W : WX}
theorem pe_imp {e : Expr} {t t' : TE} (h : PE X e t) (i : ∀ σ H Q, t' σ H Q → t σ H Q) : PE X e t' := ⟨fun pins s σ H Q I q => h.run pins s σ H Q I (i σ H Q q)⟩
theorem pt_imp {e : Expr} {t t' : TT} (h : PT X e t) (i : ∀ σ H Q, t' σ H Q → t σ H Q) : PT X e t' := ⟨fun pins s σ H Q I q => h.run pins s σ H Q I (i σ H Q q)⟩
theorem pa_imp {e : List Expr} {t t' : TA} (h : PA X e t) (i : ∀ σ H Q, t' σ H Q → t σ H Q) : PA X e t' := ⟨fun pos pins s σ H Q I q => h.run pos pins s σ H Q I (i σ H Q q)⟩
theorem opr_ex {f : Value → Value → Sem Value} {r : Bor → R2} (h : ∀ i, OpR X f (r i)) : OpR X f (fun x y H Q => ∃ i, r i x y H Q) := fun pins s σ H x y v u Q I rx ry ⟨i, q⟩ => h i pins s σ H x y v u Q I rx ry q
theorem ixr_ex {r : Bor → R2} (h : ∀ i, IxR X (r i)) : IxR X (fun x y H Q => ∃ i, r i x y H Q) := fun value slice pins s σ H x y v u Q I rx ry ⟨i, q⟩ hs => h i value slice pins s σ H x y v u Q I rx ry q hs
theorem slr_ex {r : Bor → V → Option Int → Option Int → Hp → VK → Prop} (h : ∀ i, SlR X (r i)) : SlR X (fun x l u H Q => ∃ i, r i x l u H Q) := fun pins s σ H x v vl vu lo hi sl Q I rx hs pl pu ⟨i, q⟩ => h i pins s σ H x v vl vu lo hi sl Q I rx hs pl pu q
theorem callr_ex {f : Value} {r : Bor → List V → Hp → VK → Prop} (h : ∀ i, CallR X f (r i)) : CallR X f (fun x H Q => ∃ i, r i x H Q) := fun pins s σ H xs us Q I rx ⟨i, q⟩ => h i pins s σ H xs us Q I rx q
theorem mtr_ex {f : String} {r : Bor → V → List V → Hp → VK → Prop} (h : ∀ i, MtR X f (r i)) : MtR X f (fun x xs H Q => ∃ i, r i x xs H Q) := fun pins s σ H x xs v us Q I rx rs ⟨i, q⟩ => h i pins s σ H x xs v us Q I rx rs q
theorem toPV {B : Bor} {A : List Addr} {H : Hp} {σ : L2.St} {r : R Val} {Q : VK} (p : Post G B W σ (RVr G B) A H r fun _ x _ _ H' => Q x H') : PV G B A H r Q := p.toPV fun _ _ _ _ _ _ _ _ q => q
theorem post_ok {α β : Type} {rl : Rl α β} {B : Bor} {A A' : List Addr} {H H' : Hp} {h' : Hm} {σ : L2.St} {v : α} {x : β} {k : α → β → Hm → List Addr → Hp → Prop} (p : Post G B W σ rl A H (.ok v h') k) (F : Fits G B A' h' H') (n : Next A H A' H') (r : rl A' H' v x) : k v x h' A' H' := p A' H' x F n r
theorem bop_of {o : BOp} {op : Operator} (h : bopIs o op = true) : op = opB o := by
  cases o <;> cases op <;> first | rfl | simp [bopIs] at h
theorem cop_of {o : COp} {op : CmpOp} (h : copIs o op = true) : op = opC o := by
  cases o <;> cases op <;> first | rfl | simp [copIs] at h
theorem behind_of {b : Expr} {op : CmpOp} (h : notSet b = true) : behindInMarks op b = false := by
  cases b <;> first | rfl | simp [notSet] at h
theorem un65 {lv : Nat} {A : Around} (r : Room lv A) : A.units + 65 < cLine := by have := r.un; omega
theorem un1 {lv : Nat} {A : Around} (r : Room lv A) : A.units + 1 < cLine := by have := r.un; omega

theorem snd_var (i : Nat) : Snd P (.var i) where
  e := by
    intro G cl lv tx X W a e h
    simp only [chkE] at h
    split at h
    · rename_i x pos
      simp only [Bool.and_eq_true, decide_eq_true_eq, okName] at h
      obtain ⟨⟨h1, h2⟩, h3, h4⟩ := h
      have b : PE X (.Name x pos) (tE P G cl W (.var i)) := by
        refine pe_imp (pe_var (i := i) (by rw [a.sh.N]; exact h1) (by rw [a.sh.sc]; exact vis_of h2) h3 h4) ?_
        intro σ H Q ⟨B, A, h, e, F, re, p⟩
        simp only [evE] at p
        split at p
        · rename_i v ev
          obtain ⟨x, e1, r⟩ := re.2 i v ev
          exact ⟨x, e1, post_ok p F .refl r⟩
        · exact p.elim
      exact ⟨b, pt_simple b rfl⟩
    · cases h
  a := by intro G cl lv tx X W a es h; simp [chkA] at h
  o := by intro G cl lv tx X W a e h; simp [chkP'] at h
  i := by intro G cl lv tx X W a e tg h; simp [chkI] at h
theorem tE_cst {v : Val} {x : V} (hr : ∀ B A H, RV G B A H v x) : ∀ σ H Q, tE P G cl W (.cst v) σ H Q → tC x σ H Q := by
  intro σ H Q ⟨B, A, h, e, F, re, p⟩
  simp only [evE] at p
  exact post_ok p F .refl (hr B A H)
theorem snd_cst (v : Val) : Snd P (.cst v) where
  e := by
    intro G cl lv tx X W a e h
    simp only [chkE] at h
    unfold chkC at h
    split at h
    · exact ⟨pe_imp pe_non (tE_cst fun _ _ _ => rv_non), pt_simple (pe_imp pe_non (tE_cst fun _ _ _ => rv_non)) rfl⟩
    · rename_i b c k pos
      obtain rfl : b = c := beq_iff_eq.mp h
      exact ⟨pe_imp pe_bl (tE_cst fun _ _ _ => rv_bl), pt_simple (pe_imp pe_bl (tE_cst fun _ _ _ => rv_bl)) rfl⟩
    · rename_i i j k pos
      obtain rfl : i = j := decide_eq_true_eq.mp h
      exact ⟨pe_imp pe_int (tE_cst fun _ _ _ => rv_int), pt_simple (pe_imp pe_int (tE_cst fun _ _ _ => rv_int)) rfl⟩
    · rename_i n x k pos
      have hx : G.txts[n]? = some x := by rw [a.fa.tx]; exact decide_eq_true_eq.mp h
      have hr : ∀ B A H, RV G B A H (.str n) (.str x) := fun _ _ _ => by unfold RV; exact ⟨x, hx, rfl⟩
      exact ⟨pe_imp pe_str (tE_cst hr), pt_simple (pe_imp pe_str (tE_cst hr)) rfl⟩
    · rename_i i x pos
      simp only [Bool.and_eq_true, decide_eq_true_eq] at h
      obtain ⟨g1, g2, g3⟩ := a.glob h.1
      obtain ⟨t, ht⟩ := a.fa.con _ h.2
      have b : PE X (.Name x pos) (tC (.int i)) := pe_glob g1 ht ⟨t, rfl⟩ g2
      exact ⟨pe_imp b (tE_cst fun _ _ _ => rv_int), pt_simple (pe_imp b (tE_cst fun _ _ _ => rv_int)) rfl⟩
    · cases h
  a := by intro G cl lv tx X W a es h; simp [chkA] at h
  o := by intro G cl lv tx X W a e h; simp [chkP'] at h
  i := by intro G cl lv tx X W a e tg h; simp [chkI] at h

theorem snd_bin {z : Bool} {o : BOp} {a b : C} (sa : Snd P a) (sb : Snd P b) : Snd P (.bin z o a b) where
  e := by
    intro G cl lv tx X W at_ e h
    simp only [chkE] at h
    split at h
    · rename_i x op y pos
      simp only [Bool.and_eq_true] at h
      obtain ⟨⟨h1, h2⟩, h3⟩ := h
      obtain rfl := bop_of h1
      have b : PE X (.BinOp x (opB o) y pos) (tE P G cl W (.bin z o a b)) := by
        refine pe_imp (pe_op (opr_ex fun B => op_binM (G := G) (B := B) (z := z) at_.fa.hK) (sa.e at_ x h2).1 (sb.e at_ y h3).1) ?_
        intro σ H Q ⟨B, A, h, e, F, re, p⟩
        simp only [evE] at p
        refine ⟨B, A, h, e, F, re, p.bind.imp fun v x h1 A1 H1 F1 n1 r1 p1 => ?_⟩
        refine ⟨B, A1, h1, e, F1, re.mono n1, p1.bind.imp fun w y h2 A2 H2 F2 n2 r2 p2 => ?_⟩
        exact ⟨B, A2, h2, v, w, F2, RV.mono n2 v r1, r2, toPV p2⟩
      exact ⟨b, pt_simple b rfl⟩
    · cases h
  a := by intro G cl lv tx X W a es h; simp [chkA] at h
  o := by intro G cl lv tx X W a e h; simp [chkP'] at h
  i := by intro G cl lv tx X W a e tg h; simp [chkI] at h
theorem snd_neg {a : C} (sa : Snd P a) : Snd P (.neg a) where
  e := by
    intro G cl lv tx X W at_ e h
    simp only [chkE] at h
    split at h
    · rename_i x pos
      have b : PE X (.UnaryOp .USub x pos) (tE P G cl W (.neg a)) := by
        refine pe_imp (pe_un un_neg (sa.e at_ x h).1) ?_
        intro σ H Q ⟨B, A, h, e, F, re, p⟩
        simp only [evE] at p
        refine ⟨B, A, h, e, F, re, p.bind.imp fun v x h1 A1 H1 F1 n1 r1 p1 => ?_⟩
        split at p1
        · rename_i i
          unfold RV at r1
          exact ⟨i, r1, post_ok p1 F1 .refl rv_int⟩
        · exact p1.elim
      exact ⟨b, pt_simple b rfl⟩
    · cases h
  a := by intro G cl lv tx X W a es h; simp [chkA] at h
  o := by intro G cl lv tx X W a e h; simp [chkP'] at h
  i := by intro G cl lv tx X W a e tg h; simp [chkI] at h
theorem snd_not {a : C} (sa : Snd P a) : Snd P (.not a) where
  e := by
    intro G cl lv tx X W at_ e h
    simp only [chkE] at h
    split at h
    · rename_i x pos
      have key : ∀ σ H Q, tE P G cl W (.not a) σ H Q → tE P G cl W a σ H fun x H1 => ∃ c, x = .bl c ∧ Q (.bl (!c)) H1 := by
        intro σ H Q ⟨B, A, h, e, F, re, p⟩
        simp only [evE] at p
        refine ⟨B, A, h, e, F, re, p.bind.imp fun v x h1 A1 H1 F1 n1 r1 p1 => ?_⟩
        split at p1
        · rename_i i
          unfold RV at r1
          exact ⟨i, r1, post_ok p1 F1 .refl rv_bl⟩
        · exact p1.elim
      refine ⟨pe_imp (pe_not (sa.e at_ x h).1) key, pt_imp (pt_not (sa.e at_ x h).2) fun σ H Q q => ?_⟩
      obtain ⟨B, A, h, e, F, re, p⟩ := key σ H _ q
      exact ⟨B, A, h, e, F, re, p.imp fun v x h1 A1 H1 F1 n1 r1 ⟨c, e1, d, e2, q⟩ => ⟨c, e1, by cases e2; exact q⟩⟩
    · cases h
  a := by intro G cl lv tx X W a es h; simp [chkA] at h
  o := by intro G cl lv tx X W a e h; simp [chkP'] at h
  i := by intro G cl lv tx X W a e tg h; simp [chkI] at h
/-- a comparison's end -/
theorem cmp_end {B : Bor} {A : List Addr} {H : Hp} {h : Hm} {σ : L2.St} {o : COp} {v w : Val} {x y : V} {Q : VK} (F : Fits G B A h H) (r1 : RV G B A H v x) (r2 : RV G B A H w y)
    (p : Post G B W σ (RVr G B) A H (match cmpM o h v w with | some r => .ok (.bl r) h | none => .bad) fun _ x _ _ H' => Q x H') : ∃ B, rCmp G B o x y H Q := by
  split at p
  · rename_i b eb
    exact ⟨B, A, h, v, w, b, F, r1, r2, eb, post_ok p F .refl rv_bl⟩
  · exact p.elim
theorem cmp_mid {B : Bor} {A : List Addr} {H : Hp} {h : Hm} {σ : L2.St} {o : COp} {v w : Val} {x y : V} {Q : VK} {f : R Val} (F : Fits G B A h H) (r1 : RV G B A H v x) (r2 : RV G B A H w y)
    (p : Post G B W σ (RVr G B) A H (match cmpM o h v w with | some true => f | some false => .ok (.bl false) h | none => .bad) fun _ x _ _ H' => Q x H') :
    ∃ B', rCmp G B' o x y H fun z H3 => ∃ k, z = .bl k ∧ H3 = H ∧ (if k = true then Post G B W σ (RVr G B) A H f fun _ x _ _ H' => Q x H' else Q (.bl false) H) := by
  split at p
  · rename_i eb
    exact ⟨B, A, h, v, w, true, F, r1, r2, eb, true, rfl, rfl, by rw [if_pos rfl]; exact p⟩
  · rename_i eb
    exact ⟨B, A, h, v, w, false, F, r1, r2, eb, false, rfl, rfl, by rw [if_neg Bool.false_ne_true]; exact post_ok p F .refl rv_bl⟩
  · exact p.elim
theorem snd_cmp {o : COp} {a b : C} (sa : Snd P a) (sb : Snd P b) : Snd P (.cmp o a b) where
  e := by
    intro G cl lv tx X W at_ e h
    simp only [chkE] at h
    split at h
    · rename_i x op y pos
      simp only [Bool.and_eq_true] at h
      obtain ⟨⟨⟨h1, h2⟩, h3⟩, h4⟩ := h
      obtain rfl := cop_of h1
      have ho : OpR X (compareOp (opC o)) (fun x y H Q => ∃ B, rCmp G B o x y H Q) := opr_ex fun B => op_cmpM (G := G) (B := B) at_.fa.g at_.fa.hK (un65 at_.room)
      have pc : PC X (opC o) x y (tOp (fun x y H Q => ∃ B, rCmp G B o x y H Q) (tE P G cl W a) (tE P G cl W b)) :=
        ⟨fun pins s σ H Q I h => binT (sa.e at_ x h3).1 (sb.e at_ y h4).1 I h fun v u s2 x y H2 I2 rx ry q => ho pins s2 σ H2 x y v u Q I2 rx ry q⟩
      have key : ∀ σ H Q, tE P G cl W (.cmp o a b) σ H Q → tOp (fun x y H Q => ∃ B, rCmp G B o x y H Q) (tE P G cl W a) (tE P G cl W b) σ H Q := by
        intro σ H Q ⟨B, A, h, e, F, re, p⟩
        simp only [evE] at p
        refine ⟨B, A, h, e, F, re, p.bind.imp fun v x h1 A1 H1 F1 n1 r1 p1 => ?_⟩
        refine ⟨B, A1, h1, e, F1, re.mono n1, p1.bind.imp fun w y h2 A2 H2 F2 n2 r2 p2 => ?_⟩
        exact cmp_end F2 (RV.mono n2 v r1) r2 p2
      exact ⟨pe_imp (pe_cmp pc (behind_of h2)) key, pt_imp (pt_cmp pc (behind_of h2)) fun σ H Q q => key σ H _ q⟩
    · cases h
  a := by intro G cl lv tx X W a es h; simp [chkA] at h
  o := by intro G cl lv tx X W a e h; simp [chkP'] at h
  i := by intro G cl lv tx X W a e tg h; simp [chkI] at h
theorem snd_cmp2 {o o' : COp} {a b c : C} (sa : Snd P a) (sb : Snd P b) (sc : Snd P c) : Snd P (.cmp2 o o' a b c) where
  e := by
    intro G cl lv tx X W at_ e h
    simp only [chkE] at h
    split at h
    · rename_i x op oq y z pos
      simp only [Bool.and_eq_true] at h
      obtain ⟨⟨⟨⟨⟨h1, h1'⟩, h2⟩, h3⟩, h4⟩, h5⟩ := h
      obtain rfl := cop_of h1
      obtain rfl := cop_of h1'
      have ho : ∀ o, OpR X (compareOp (opC o)) (fun x y H Q => ∃ B, rCmp G B o x y H Q) := fun o => opr_ex fun B => op_cmpM (G := G) (B := B) at_.fa.g at_.fa.hK (un65 at_.room)
      have key : ∀ σ H Q, tE P G cl W (.cmp2 o o' a b c) σ H Q → tChain (fun x y H Q => ∃ B, rCmp G B o x y H Q) (fun x y H Q => ∃ B, rCmp G B o' x y H Q) (tE P G cl W a) (tE P G cl W b) (tE P G cl W c) σ H Q := by
        intro σ H Q ⟨B, A, h, e, F, re, p⟩
        simp only [evE] at p
        refine ⟨B, A, h, e, F, re, p.bind.imp fun v x h1 A1 H1 F1 n1 r1 p1 => ?_⟩
        refine ⟨B, A1, h1, e, F1, re.mono n1, p1.bind.imp fun w y h2 A2 H2 F2 n2 r2 p2 => ?_⟩
        obtain ⟨B', A', h', v', w', b', q1, q2, q3, q4, k, e1, e2, q⟩ := cmp_mid F2 (RV.mono n2 v r1) r2 p2
        refine ⟨B', A', h', v', w', b', q1, q2, q3, q4, k, e1, ?_⟩
        cases k with
        | false => exact q
        | true =>
          rw [if_pos rfl] at q ⊢
          exact ⟨B, A2, h2, e, F2, (re.mono n1).mono n2, q.bind.imp fun u z h3 A3 H3 F3 n3 r3 p3 => cmp_end F3 (RV.mono n3 w r2) r3 p3⟩
      have hm : lastMarks [opC o, opC o'] [y, z] = false := behind_of h2
      exact ⟨pe_imp (pe_chain (ho o) (ho o') (sa.e at_ x h3).1 (sb.e at_ y h4).1 (sc.e at_ z h5).1 hm) key, pt_imp (pt_chain (ho o) (ho o') (sa.e at_ x h3).1 (sb.e at_ y h4).1 (sc.e at_ z h5).1 hm) fun σ H Q q => key σ H _ q⟩
    · cases h
  a := by intro G cl lv tx X W a es h; simp [chkA] at h
  o := by intro G cl lv tx X W a e h; simp [chkP'] at h
  i := by intro G cl lv tx X W a e tg h; simp [chkI] at h
theorem behind3_of {o p q : CmpOp} {x y z : Expr} (h : lastMarks [q] [z] = false) : lastMarks [o, p, q] [x, y, z] = false := h
theorem snd_cmp3 {o o' o'' : COp} {a b c d : C} (sa : Snd P a) (sb : Snd P b) (sc : Snd P c) (sd : Snd P d) : Snd P (.cmp3 o o' o'' a b c d) where
  e := by
    intro G cl lv tx X W at_ e h
    simp only [chkE] at h
    split at h
    · rename_i x op oq or y z u pos
      simp only [Bool.and_eq_true] at h
      obtain ⟨⟨⟨⟨⟨⟨⟨h1, h1'⟩, h1''⟩, h2⟩, h3⟩, h4⟩, h5⟩, h6⟩ := h
      obtain rfl := cop_of h1
      obtain rfl := cop_of h1'
      obtain rfl := cop_of h1''
      have ho : ∀ o, OpR X (compareOp (opC o)) (fun x y H Q => ∃ B, rCmp G B o x y H Q) := fun o => opr_ex fun B => op_cmpM (G := G) (B := B) at_.fa.g at_.fa.hK (un65 at_.room)
      have key : ∀ σ H Q, tE P G cl W (.cmp3 o o' o'' a b c d) σ H Q → tChain3 (fun x y H Q => ∃ B, rCmp G B o x y H Q) (fun x y H Q => ∃ B, rCmp G B o' x y H Q) (fun x y H Q => ∃ B, rCmp G B o'' x y H Q) (tE P G cl W a) (tE P G cl W b) (tE P G cl W c) (tE P G cl W d) σ H Q := by
        intro σ H Q ⟨B, A, h, e, F, re, p⟩
        simp only [evE] at p
        refine ⟨B, A, h, e, F, re, p.bind.imp fun v x h1 A1 H1 F1 n1 r1 p1 => ?_⟩
        refine ⟨B, A1, h1, e, F1, re.mono n1, p1.bind.imp fun w y h2 A2 H2 F2 n2 r2 p2 => ?_⟩
        obtain ⟨B', A', h', v', w', b', q1, q2, q3, q4, k, e1, e2, q⟩ := cmp_mid F2 (RV.mono n2 v r1) r2 p2
        refine ⟨B', A', h', v', w', b', q1, q2, q3, q4, k, e1, ?_⟩
        cases k with
        | false => exact q
        | true =>
          rw [if_pos rfl] at q ⊢
          refine ⟨B, A2, h2, e, F2, (re.mono n1).mono n2, q.bind.imp fun u z h3 A3 H3 F3 n3 r3 p3 => ?_⟩
          obtain ⟨B', A', h', v', w', b', q1, q2, q3, q4, k, e1, e2, q⟩ := cmp_mid F3 (RV.mono n3 w r2) r3 p3
          refine ⟨B', A', h', v', w', b', q1, q2, q3, q4, k, e1, ?_⟩
          cases k with
          | false => exact q
          | true =>
            rw [if_pos rfl] at q ⊢
            exact ⟨B, A3, h3, e, F3, ((re.mono n1).mono n2).mono n3, q.bind.imp fun u' z' h4 A4 H4 F4 n4 r4 p4 => cmp_end F4 (RV.mono n4 u r3) r4 p4⟩
      have hm : lastMarks [opC o, opC o', opC o''] [y, z, u] = false := behind_of h2
      exact ⟨pe_imp (pe_chain3 (ho o) (ho o') (ho o'') (sa.e at_ x h3).1 (sb.e at_ y h4).1 (sc.e at_ z h5).1 (sd.e at_ u h6).1 hm) key, pt_imp (pt_chain3 (ho o) (ho o') (ho o'') (sa.e at_ x h3).1 (sb.e at_ y h4).1 (sc.e at_ z h5).1 (sd.e at_ u h6).1 hm) fun σ H Q q => key σ H _ q⟩
    · cases h
  a := by intro G cl lv tx X W a es h; simp [chkA] at h
  o := by intro G cl lv tx X W a e h; simp [chkP'] at h
  i := by intro G cl lv tx X W a e tg h; simp [chkI] at h
/-- and, or: by the first -/
theorem bool_end {B : Bor} {A : List Addr} {H : Hp} {h : Hm} {σ : L2.St} {v : Val} {x : V} {Q : VK} {f g : R Val} (F : Fits G B A h H) (r1 : RV G B A H v x)
    (p : Post G B W σ (RVr G B) A H (match (generalizing := false) v with | .bl true => f | .bl false => g | _ => .bad) fun _ x _ _ H' => Q x H') :
    ∃ k, x = .bl k ∧ Post G B W σ (RVr G B) A H (if k = true then f else g) fun _ x _ _ H' => Q x H' := by
  cases v <;> try exact p.elim
  rename_i b
  unfold RV at r1
  cases b with
  | true => exact ⟨true, r1, by rw [if_pos rfl]; exact p⟩
  | false => exact ⟨false, r1, by rw [if_neg Bool.false_ne_true]; exact p⟩
theorem and_key {a b : C} : ∀ σ H Q, tE P G cl W (.and a b) σ H Q → tAndV (tE P G cl W a) (tE P G cl W b) σ H Q := by
  intro σ H Q ⟨B, A, h, e, F, re, p⟩
  simp only [evE] at p
  refine ⟨B, A, h, e, F, re, p.bind.imp fun v x h1 A1 H1 F1 n1 r1 p1 => ?_⟩
  obtain ⟨k, e1, p1⟩ := bool_end F1 r1 p1
  refine ⟨k, e1, ?_⟩
  cases k with
  | true => exact ⟨B, A1, h1, e, F1, re.mono n1, p1⟩
  | false => exact post_ok p1 F1 .refl rv_bl
theorem or_key {a b : C} : ∀ σ H Q, tE P G cl W (.or a b) σ H Q → tOrV (tE P G cl W a) (tE P G cl W b) σ H Q := by
  intro σ H Q ⟨B, A, h, e, F, re, p⟩
  simp only [evE] at p
  refine ⟨B, A, h, e, F, re, p.bind.imp fun v x h1 A1 H1 F1 n1 r1 p1 => ?_⟩
  obtain ⟨k, e1, p1⟩ := bool_end F1 r1 p1
  refine ⟨k, e1, ?_⟩
  cases k with
  | false => exact ⟨B, A1, h1, e, F1, re.mono n1, p1⟩
  | true => exact post_ok p1 F1 .refl rv_bl
theorem tB_imp {t : TE} {u : TE} (k : ∀ σ H Q, t σ H Q → u σ H Q) : ∀ σ H Q, tB t σ H Q → tB u σ H Q := fun σ H Q q => k σ H _ q
theorem tE_imp {c : C} {σ : L2.St} {H : Hp} {Q Q' : VK} (h : tE P G cl W c σ H Q) (i : ∀ x H', Q x H' → Q' x H') : tE P G cl W c σ H Q' := by
  obtain ⟨B, A, h, e, F, re, p⟩ := h
  exact ⟨B, A, h, e, F, re, p.imp fun v x h1 A1 H1 _ _ _ q => i x H1 q⟩
theorem andT {a b : C} : ∀ σ H Q, tB (tAndV (tE P G cl W a) (tE P G cl W b)) σ H Q → tAnd (tB (tE P G cl W a)) (tB (tE P G cl W b)) σ H Q := by
  intro σ H Q q
  refine tE_imp (c := a) q fun x H' ⟨c, e, q⟩ => ⟨c, e, ?_⟩
  cases c with
  | true => exact q
  | false =>
    obtain ⟨c, e, q⟩ := (show ∃ c, V.bl false = .bl c ∧ Q c H' from q)
    cases e
    exact q
theorem orT {a b : C} : ∀ σ H Q, tB (tOrV (tE P G cl W a) (tE P G cl W b)) σ H Q → tOr (tB (tE P G cl W a)) (tB (tE P G cl W b)) σ H Q := by
  intro σ H Q q
  refine tE_imp (c := a) q fun x H' ⟨c, e, q⟩ => ⟨c, e, ?_⟩
  cases c with
  | false => exact q
  | true =>
    obtain ⟨c, e, q⟩ := (show ∃ c, V.bl true = .bl c ∧ Q c H' from q)
    cases e
    exact q
theorem snd_and {a b : C} (sa : Snd P a) (sb : Snd P b) : Snd P (.and a b) where
  e := by
    intro G cl lv tx X W at_ e h
    simp only [chkE] at h
    split at h
    · rename_i x y r pos
      rw [Bool.and_eq_true] at h
      obtain ⟨h1, h2⟩ := h
      have hb : PE X (.BoolOp .And (y :: r) pos) (tE P G cl W b) ∧ PW X (.BoolOp .And (y :: r) pos) (tB (tE P G cl W b)) := by
        split at h2
        · exact ⟨pe_one (sb.e at_ y h2).1, pw_and1 (sb.e at_ y h2).2⟩
        · exact ⟨(sb.e at_ _ h2).1, pw_of (sb.e at_ _ h2).2⟩
      exact ⟨pe_imp (pe_and (sa.e at_ x h1).1 hb.1) and_key, pt_imp (pw_and (sa.e at_ x h1).2 hb.2).pt fun σ H Q q => andT σ H Q (tB_imp and_key σ H Q q)⟩
    · cases h
  a := by intro G cl lv tx X W a es h; simp [chkA] at h
  o := by intro G cl lv tx X W a e h; simp [chkP'] at h
  i := by intro G cl lv tx X W a e tg h; simp [chkI] at h
theorem snd_or {a b : C} (sa : Snd P a) (sb : Snd P b) : Snd P (.or a b) where
  e := by
    intro G cl lv tx X W at_ e h
    simp only [chkE] at h
    split at h
    · rename_i x y r pos
      rw [Bool.and_eq_true] at h
      obtain ⟨h1, h2⟩ := h
      have hb : PE X (.BoolOp .Or (y :: r) pos) (tE P G cl W b) ∧ PW X (.BoolOp .Or (y :: r) pos) (tB (tE P G cl W b)) := by
        split at h2
        · exact ⟨pe_one (sb.e at_ y h2).1, pw_or1 (sb.e at_ y h2).2⟩
        · exact ⟨(sb.e at_ _ h2).1, pw_of (sb.e at_ _ h2).2⟩
      exact ⟨pe_imp (pe_or (sa.e at_ x h1).1 hb.1) or_key, pt_imp (pw_or (sa.e at_ x h1).2 hb.2).pt fun σ H Q q => orT σ H Q (tB_imp or_key σ H Q q)⟩
    · cases h
  a := by intro G cl lv tx X W a es h; simp [chkA] at h
  o := by intro G cl lv tx X W a e h; simp [chkP'] at h
  i := by intro G cl lv tx X W a e tg h; simp [chkI] at h
theorem pt_if {c a b : Expr} {pos : Pos} {t u w : TT} (hc : PT X c t) (ha : PT X a u) (hb : PT X b w) : PT X (.IfExp c a b pos) (fun σ H Q => t σ H fun k H1 => if k = true then u σ H1 Q else w σ H1 Q) := by
  refine ⟨fun pins s σ H Q I h => ?_⟩
  show wpAny _ _ (do if ← isTrue c X.env (eval c X.env) then isTrue a X.env (eval a X.env) else isTrue b X.env (eval b X.env)) _ _ _
  refine wpAny_bind (thn (hc.run pins s σ H _ I h) fun k s1 ⟨H1, I1, q⟩ => ?_)
  cases k with
  | true => exact ha.run pins s1 σ H1 Q I1 q
  | false => exact hb.run pins s1 σ H1 Q I1 q
theorem snd_ite {t a b : C} (st : Snd P t) (sa : Snd P a) (sb : Snd P b) : Snd P (.ite t a b) where
  e := by
    intro G cl lv tx X W at_ e h
    simp only [chkE] at h
    split at h
    · rename_i x y z pos
      simp only [Bool.and_eq_true] at h
      obtain ⟨⟨h1, h2⟩, h3⟩ := h
      have key : ∀ σ H Q, tE P G cl W (.ite t a b) σ H Q → tIf (tB (tE P G cl W t)) (tE P G cl W a) (tE P G cl W b) σ H Q := by
        intro σ H Q ⟨B, A, h, e, F, re, p⟩
        simp only [evE] at p
        refine ⟨B, A, h, e, F, re, p.bind.imp fun v x h1 A1 H1 F1 n1 r1 p1 => ?_⟩
        obtain ⟨k, e1, p1⟩ := bool_end F1 r1 p1
        refine ⟨k, e1, ?_⟩
        cases k with
        | true => exact ⟨B, A1, h1, e, F1, re.mono n1, p1⟩
        | false => exact ⟨B, A1, h1, e, F1, re.mono n1, p1⟩
      exact ⟨pe_imp (pe_ifExp (st.e at_ x h1).2 (sa.e at_ y h2).1 (sb.e at_ z h3).1) key, pt_imp (pt_if (st.e at_ x h1).2 (sa.e at_ y h2).2 (sb.e at_ z h3).2) fun σ H Q q => key σ H _ q⟩
    · cases h
  a := by intro G cl lv tx X W a es h; simp [chkA] at h
  o := by intro G cl lv tx X W a e h; simp [chkP'] at h
  i := by intro G cl lv tx X W a e tg h; simp [chkI] at h
end
end MP
set_option Elab.async false
set_option linter.all false
set_option maxRecDepth 100000
set_option autoImplicit false
namespace MP
open PySem PySem.Spec PyProof.Rows L2
/-- what a set is at first -/
def eSet (w : World) : Obj := ⟨.type "set", none, .set #[] 0 (.fresh 0 0 (!w.params.followText "set-order")), #[]⟩
section
variable {P : Program} {w : World} {A : Around} {E : Value → Shared → Prop} {s : Shared}
set_option maxHeartbeats 4000000 in
theorem set_init_ints {l : Addr} {items : Array Value} {ns : List Int} (hh : A.handled = none) (il : s.heap.IsList l items) (ia : IntsAre items.toList ns) (hb : ns.length + 1 < scanBound) :
    codeAny (model P w) A.in1 (Code.call (.builtin "set.__init__") ⟨[.ref s.heap.objs.size, .ref l], []⟩)
      (wants (fun r t => r = .none ∧ ∃ h' tk c, t = { s with heap := h', toks := tk } ∧ SetR w h' s.heap.objs.size (fun j => decide (j ∈ ns)) c ∧ c ≤ ns.length ∧ ∀ b o, s.heap.get? b = some o → h'.get? b = some o) E)
      { s with heap := s.heap.push (eSet w) } := by
  have zn : items.size = ns.length := (Array.length_toList (xs := items)).symm.trans (IntsAre.length ia)
  have g1 : (s.heap.push (eSet w)).get? s.heap.objs.size = some (eSet w) := Heap.get?_push_size _ rfl
  have z1 : (s.heap.push (eSet w)).objs.size = s.heap.objs.size + 1 := Heap.size_push ..
  have t1 : Shared.TypeIs { s with heap := s.heap.push (eSet w) } (.ref s.heap.objs.size) "set" := ⟨_, g1, rfl⟩
  refine codeAny_call_builtin F.called_set.init.plain F.entry_set_init (check_set_init_1 t1 ?_)
  have ⟨⟨oc, od, odat, osl⟩, ol, hc, nl, hd⟩ := il
  dsimp only at hc hd; subst hc; subst hd
  have ll : l < s.heap.objs.size := Heap.lt_size ol
  have o1 := Heap.get?_push_of_some (eSet w) ol
  have il1 : (s.heap.push (eSet w)).IsList l items := ⟨_, o1, rfl, nl, rfl⟩
  have y1 := F.sub_list_set; have y2 := F.sub_list_frozenset
  have y3 : (Value.type "list" == Value.type "dict") = false := by decide
  unfold Builtin.«set.__init__» noKeywords Builtin.Frozenset.updateFrom
  generalize hp : pyIter = PI
  wp_walk
  subst hp
  refine wpAny_pyIter_list il1 (wpAny_bind (wpAny_runValue ?_))
  have h3 : A.in1.in1.in1.handled = none := by simp [hh]
  have nI : l ≠ (s.heap.push (eSet w)).objs.size := by rw [z1]; exact Nat.ne_of_lt (Nat.lt_succ_of_lt ll)
  have val : ∀ (i : Nat) (v : Value), items[i]? = some v → ∃ k t, ns[i]? = some k ∧ v = .int k t := fun i v e => by
    have li : i < ns.length := zn ▸ (Array.getElem?_eq_some_iff.mp e).1
    have ⟨t, et⟩ := IntsAre.int_at ia i v (Array.getElem?_toList ▸ e)
    exact ⟨ns[i], t, List.getElem?_eq_getElem li, by simpa [List.getD_eq_getElem?_getD, List.getElem?_eq_getElem li] using et⟩
  refine set_update_ints (Walks.list h3 _ l nI items).toS s.heap.objs.size (fun m => ?_) ns zn hb val items.size 0 _ rfl (Nat.zero_le _) ⟨⟨_, Heap.get?_push_size _ rfl, rfl, rfl⟩, il1.push _⟩ ⟨0, Nat.le_refl 0, setR_new_at (Heap.get?_push_of_some _ g1)⟩ ?_
  · rw [z1] at m
    simp only [List.mem_cons, List.not_mem_nil, or_false] at m
    exact m.elim (fun e => Nat.succ_ne_self _ e.symm) fun e => Nat.ne_of_gt ll e
  · intro t c mv lc sr
    have ⟨h', g2, d2, tk2, os2⟩ := t
    cases (show g2 = s.gens from mv.gens); cases (show d2 = s.drawn from mv.drawn); cases (show os2 = s.os from mv.os)
    refine wpAny_pure (wpAny_pure ⟨rfl, h', tk2, c, rfl, sr, zn ▸ lc, fun b o e => ?_⟩)
    have lb := Heap.lt_size e
    refine mv.heap b o (fun m => ?_) (Heap.get?_push_of_some _ (Heap.get?_push_of_some _ e))
    simp only [List.mem_cons, List.not_mem_nil, or_false, z1] at m
    exact m.elim (Nat.ne_of_lt lb) (Nat.ne_of_lt (Nat.lt_succ_of_lt lb))
set_option maxHeartbeats 4000000 in
theorem set_ints {l : Addr} {items : Array Value} {ns : List Int} {Q : Value → Shared → Prop} (hh : A.handled = none) (il : s.heap.IsList l items) (ia : IntsAre items.toList ns) (hb : ns.length + 1 < scanBound)
    (k : ∀ h' tk c, SetR w h' s.heap.objs.size (fun j => decide (j ∈ ns)) c → c ≤ ns.length → (∀ b o, s.heap.get? b = some o → h'.get? b = some o) → Q (.ref s.heap.objs.size) { s with heap := h', toks := tk }) :
    wpAny (model P w) A (call (.type "set") [.ref l]) Q E s := by
  have zn : items.size = ns.length := (Array.length_toList (xs := items)).symm.trans (IntsAre.length ia)
  have ⟨c, tl, m1⟩ := F.called_set.mro
  have m2 := F.called_set.made; have m3 := F.called_set.sub; have m4 := F.called_set.notType; have m5 := F.called_set.canCreate; have m6 := F.typeCall_set_1 (.ref l)
  apply wpAny_call; apply codeAny_of_tree; show wpAny _ _ (callAny (.type "set") _) _ _ _
  refine wpAny_pure ⟨Code.quiet_builtin _ (by decide +kernel), ?_⟩; apply codeAny_builtin F.entry_type_call
  rw [Around.under_plain (weight_type_call_type "set" [.ref l] []) rfl]
  repeat (any_goals (first | assumption | wp_step))
  let s1 : Shared := { s with heap := s.heap.push (eSet w) }
  have z1 : (s.heap.push (eSet w)).objs.size = s.heap.objs.size + 1 := Heap.size_push ..
  have g1 : (s.heap.push (eSet w)).get? s.heap.objs.size = some (eSet w) := Heap.get?_push_size _ rfl
  have t1 : s1.TypeIs (.ref s.heap.objs.size) "set" := ⟨_, g1, rfl⟩
  refine codeAny_mono (code_set_led1 (.ref l) (E := E) (Q₁ := fun o t => o = .ref s.heap.objs.size ∧ t = s1) ⟨rfl, rfl⟩) fun r t hr => ?_
  match r, hr with
  | .error e, hr => exact hr
  | .ok (.ret v), ⟨ev, et⟩ =>
    subst ev; subst et
    have n1 := F.called_set.init.lookup; have n2 := F.called_set.init.bind (.ref s.heap.objs.size)
    repeat (any_goals (first | assumption | wp_step))
    refine codeAny_mono (set_init_ints (P := P) (w := w) (A := A) (E := E) hh il ia hb) fun r2 t2 q2 => ?_
    match r2, q2 with
    | .error e, q2 => exact q2
    | .ok (.ret v2), ⟨e1, h', tk, c2, e2, sr, lc, kp⟩ =>
      subst e1; subst e2
      repeat (any_goals (first | assumption | wp_step))
      exact k _ _ _ sr lc kp
end
end MP
set_option Elab.async false
set_option linter.all false
set_option maxRecDepth 100000
set_option autoImplicit false
namespace MP
open PySem PySem.Spec PyProof.Rows L2
section
variable {P : Pg} {G : Sg} {cl : CallF} {lv : Nat} {tx : Tx} {X : Cx} {W : WX}
theorem snd_idx {a i : C} (sa : Snd P a) (si : Snd P i) : Snd P (.idx a i) where
  e := by
    intro G cl lv tx X W at_ e h
    simp only [chkE] at h
    split at h
    · rename_i x y pos
      simp only [Bool.and_eq_true] at h
      obtain ⟨⟨h1, h2⟩, h3⟩ := h
      have b : PE X (.Subscript x y pos) (tE P G cl W (.idx a i)) := by
        refine pe_imp (pe_ix (ixr_ex fun B => ix_idxM (G := G) (B := B) at_.fa.g at_.fa.hK (un1 at_.room)) (sa.e at_ x h2).1 (si.e at_ y h3).1 (plainIx_of h1)) ?_
        intro σ H Q ⟨B, A, h, e, F, re, p⟩
        simp only [evE] at p
        refine ⟨B, A, h, e, F, re, p.bind.imp fun v x h1 A1 H1 F1 n1 r1 p1 => ?_⟩
        refine ⟨B, A1, h1, e, F1, re.mono n1, p1.bind.imp fun w y h2 A2 H2 F2 n2 r2 p2 => ?_⟩
        exact ⟨B, A2, h2, v, w, F2, RV.mono n2 v r1, r2, toPV p2⟩
      exact ⟨b, pt_simple b rfl⟩
    · cases h
  a := by intro G cl lv tx X W a es h; simp [chkA] at h
  o := by intro G cl lv tx X W a e h; simp [chkP'] at h
  i := by intro G cl lv tx X W a e tg h; simp [chkI] at h
theorem snd_slc {z : Bool} {a lo hi : C} (sa : Snd P a) (sl : Snd P lo) (sh : Snd P hi) : Snd P (.slc z a lo hi) where
  e := by
    intro G cl lv tx X W at_ e h
    simp only [chkE] at h
    split at h
    · rename_i x l u p2 pos
      simp only [Bool.and_eq_true] at h
      obtain ⟨⟨h1, h2⟩, h3⟩ := h
      have b : PE X (.Subscript x (.Slice l u none p2) pos) (tE P G cl W (.slc z a lo hi)) := by
        refine pe_imp (pe_slice (slr_ex fun B => sl_slcM (G := G) (B := B) (z := z) at_.fa.hK) (sa.e at_ x h1).1 (sl.o at_ l h2) (sh.o at_ u h3)) ?_
        intro σ H Q ⟨B, A, h, e, F, re, p⟩
        simp only [evE] at p
        refine ⟨B, A, h, e, F, re, p.bind.imp fun v x h1 A1 H1 F1 n1 r1 p1 => ?_⟩
        refine ⟨B, A1, h1, e, F1, re.mono n1, p1.bind.imp fun w y h2 A2 H2 F2 n2 r2 p2 => ?_⟩
        refine ⟨B, A2, h2, e, F2, (re.mono n1).mono n2, p2.bind.imp fun w' y' h3 A3 H3 F3 n3 r3 p3 => ?_⟩
        obtain rfl : w = y := r2
        obtain rfl : w' = y' := r3
        exact ⟨B, A3, h3, v, F3, RV.mono n3 v (RV.mono n2 v r1), toPV p3⟩
      exact ⟨b, pt_simple b rfl⟩
    · cases h
  a := by intro G cl lv tx X W a es h; simp [chkA] at h
  o := by intro G cl lv tx X W a e h; simp [chkP'] at h
  i := by intro G cl lv tx X W a e tg h; simp [chkI] at h
theorem snd_rev {z : Bool} {a : C} (sa : Snd P a) : Snd P (.rev z a) where
  e := by
    intro G cl lv tx X W at_ e h
    simp only [chkE] at h
    split at h
    · rename_i x k p1 p2 p3 pos
      have b : PE X (.Subscript x (.Slice none none (some (.UnaryOp .USub (.Constant (.int 1) k p1) p2)) p3) pos) (tE P G cl W (.rev z a)) := by
        refine pe_imp (pe_revL (sa.e at_ x h).1) ?_
        intro σ H Q ⟨B, A, h, e, F, re, p⟩
        simp only [evE] at p
        refine ⟨B, A, h, e, F, re, p.bind.imp fun v x h1 A1 H1 F1 n1 r1 p1 => ?_⟩
        split at p1
        · rename_i vs ev
          obtain ⟨d, xs, rfl, hq, l, r⟩ := lstOf_ok F1 ev r1
          exact ⟨d, xs, rfl, by rw [at_.fa.hK]; exact hq, fun q hq => mkL_ok F1 (toPV p1) r.reverse (by rw [List.length_reverse]; exact l) hq⟩
        · exact p1.elim
      exact ⟨b, pt_simple b rfl⟩
    · cases h
  a := by intro G cl lv tx X W a es h; simp [chkA] at h
  o := by intro G cl lv tx X W a e h; simp [chkP'] at h
  i := by intro G cl lv tx X W a e tg h; simp [chkI] at h
theorem snd_fld {a : C} {f : Nat} (sa : Snd P a) : Snd P (.fld a f) where
  e := by
    intro G cl lv tx X W at_ e h
    simp only [chkE] at h
    split at h
    · rename_i x n pos
      simp only [Bool.and_eq_true, decide_eq_true_eq] at h
      obtain ⟨⟨h1, h2⟩, h3⟩ := h
      have b : PE X (.Attribute x n pos) (tE P G cl W (.fld a f)) := by
        refine pe_imp (pe_fld (sa.e at_ x h3).1 (base_of h2)) ?_
        intro σ H Q ⟨B, A, h, e, F, re, p⟩
        simp only [evE] at p
        refine ⟨B, A, h, e, F, re, p.bind.imp fun v x h1' A1 H1 F1 n1 r1 p1 => ?_⟩
        unfold fldM at p1
        split at p1
        · rename_i k fs vs ei
          split at p1
          · rename_i w ew
            obtain ⟨d, C, dx, fv, rfl, hd, ec, rf, rv⟩ := insOf_ok F1 ei r1
            obtain ⟨y, ey, ry⟩ := fld_rel at_.fa.g (by rw [at_.fa.fl]; exact h1) rf rv ew
            obtain ⟨c1, c2⟩ := at_.fa.ins k C ec
            exact ⟨d, C, dx, fv, y, rfl, hd, c1, c2 n (List.mem_of_getElem? h1), ey, post_ok p1 F1 .refl ry⟩
          · exact p1.elim
        · exact p1.elim
      exact ⟨b, pt_simple b rfl⟩
    · cases h
  a := by intro G cl lv tx X W a es h; simp [chkA] at h
  o := by intro G cl lv tx X W a e h; simp [chkP'] at h
  i := by intro G cl lv tx X W a e tg h; simp [chkI] at h
theorem snd_nil : Snd P .nil where
  a := by
    intro G cl lv tx X W at_ es h
    simp only [chkA] at h
    split at h
    · refine ⟨pa_imp pa_nil ?_, rfl⟩
      intro σ H Q ⟨B, A, h, e, F, re, p⟩
      simp only [evA] at p
      exact post_ok p F .refl RVs.nil
    · cases h
  e := by intro G cl lv tx X W a es h; simp [chkE] at h
  o := by intro G cl lv tx X W a e h; simp [chkP'] at h
  i := by intro G cl lv tx X W a e tg h; simp [chkI] at h
theorem snd_cons {a b : C} (sa : Snd P a) (sb : Snd P b) : Snd P (.cons a b) where
  a := by
    intro G cl lv tx X W at_ es h
    simp only [chkA] at h
    split at h
    · rename_i x xs
      simp only [Bool.and_eq_true] at h
      obtain ⟨h1, h2⟩ := h
      obtain ⟨hb1, hb2⟩ := sb.a at_ xs h2
      have ns : noStar (x :: xs) = true := noStar_of (fun y p e => by subst e; rw [chkE_star] at h1; cases h1) hb2
      refine ⟨pa_imp (pa_cons (sa.e at_ x h1).1 hb1 (star_cons ns).1) ?_, ns⟩
      intro σ H Q ⟨B, A, h, e, F, re, p⟩
      simp only [evA] at p
      refine ⟨B, A, h, e, F, re, p.bind.imp fun v x h1 A1 H1 F1 n1 r1 p1 => ?_⟩
      refine ⟨B, A1, h1, e, F1, re.mono n1, p1.bind.imp fun w y h2 A2 H2 F2 n2 r2 p2 => ?_⟩
      exact post_ok p2 F2 .refl (.cons (RV.mono n2 v r1) r2)
    · cases h
  e := by intro G cl lv tx X W a es h; simp [chkE] at h
  o := by intro G cl lv tx X W a e h; simp [chkP'] at h
  i := by intro G cl lv tx X W a e tg h; simp [chkI] at h
theorem snd_omit : Snd P .omit where
  o := by
    intro G cl lv tx X W at_ e h
    simp only [chkP'] at h
    split at h
    · refine ⟨fun pins s σ H Q I ⟨B, A, h, e, F, re, p⟩ => po_none.run pins s σ H Q I ?_⟩
      simp only [evP] at p
      exact post_ok p F .refl rfl
    · cases h
  e := by intro G cl lv tx X W a es h; simp [chkE] at h
  a := by intro G cl lv tx X W a e h; simp [chkA] at h
  i := by intro G cl lv tx X W a e tg h; simp [chkI] at h
theorem snd_part {a : C} (sa : Snd P a) : Snd P (.part a) where
  o := by
    intro G cl lv tx X W at_ e h
    simp only [chkP'] at h
    split at h
    · rename_i x
      refine ⟨fun pins s σ H Q I ⟨B, A, h', e, F, re, p⟩ => (po_some (sa.e at_ x h).1).run pins s σ H Q I ?_⟩
      simp only [evP] at p
      refine ⟨B, A, h', e, F, re, p.bind.imp fun v x h1 A1 H1 F1 n1 r1 p1 => ?_⟩
      split at p1
      · rename_i i
        unfold RV at r1
        exact ⟨i, r1, post_ok p1 F1 .refl rfl⟩
      · exact p1.elim
    · cases h
  e := by intro G cl lv tx X W a es h; simp [chkE] at h
  a := by intro G cl lv tx X W a e h; simp [chkA] at h
  i := by intro G cl lv tx X W a e tg h; simp [chkI] at h
theorem snd_tup {as : C} (sa : Snd P as) : Snd P (.tup as) where
  e := by
    intro G cl lv tx X W at_ e h
    simp only [chkE] at h
    split at h
    · rename_i es k pos
      have b : PE X (.Tuple es k pos) (tE P G cl W (.tup as)) := by
        refine pe_imp (pe_tup (sa.a at_ es h).1) ?_
        intro σ H Q ⟨B, A, h, e, F, re, p⟩
        simp only [evE] at p
        refine ⟨B, A, h, e, F, re, p.bind.imp fun v x h1 A1 H1 F1 n1 r1 p1 => ?_⟩
        split at p1
        · rename_i l
          have hl : x.length ≤ sizeLine := by rw [← RVs.length r1]; exact big_le l
          exact ⟨hl, fun q hq => tup_ok F1 (toPV p1) r1 hl hq⟩
        · exact p1.elim
      exact ⟨b, pt_simple b rfl⟩
    · cases h
  a := by intro G cl lv tx X W a es h; simp [chkA] at h
  o := by intro G cl lv tx X W a e h; simp [chkP'] at h
  i := by intro G cl lv tx X W a e tg h; simp [chkI] at h
theorem snd_lst {z : Bool} {as : C} (sa : Snd P as) : Snd P (.lst z as) where
  e := by
    intro G cl lv tx X W at_ e h
    simp only [chkE] at h
    split at h
    · rename_i es pos
      have b : PE X (.List es pos) (tE P G cl W (.lst z as)) := by
        refine pe_imp (pe_lst (sa.a at_ es h).1) ?_
        intro σ H Q ⟨B, A, h, e, F, re, p⟩
        simp only [evE] at p
        refine ⟨B, A, h, e, F, re, p.bind.imp fun v x h1 A1 H1 F1 n1 r1 p1 => ?_⟩
        split at p1
        · rename_i l
          have hl : x.length ≤ sizeLine := by rw [← RVs.length r1]; exact big_le l
          exact ⟨hl, fun q hq => mkL_ok F1 (toPV p1) r1 hl hq⟩
        · exact p1.elim
      exact ⟨b, pt_simple b rfl⟩
    · cases h
  a := by intro G cl lv tx X W a es h; simp [chkA] at h
  o := by intro G cl lv tx X W a e h; simp [chkP'] at h
  i := by intro G cl lv tx X W a e tg h; simp [chkI] at h
/-- {} -/
theorem snd_dct {ks : List MKey} {as : C} : Snd P (.dct ks as) where
  e := by
    intro G cl lv tx X W at_ e h
    simp only [chkE] at h
    split at h
    · rename_i pos
      cases as <;> simp only [isNil] at h <;> try (cases h; done)
      have b : PE X (.Dict [] [] pos) (tE P G cl W (.dct [] .nil)) := by
        refine pe_imp pe_dnewK ?_
        intro σ H Q ⟨B, A, h, e, F, re, p⟩
        simp only [evE, evA, R.bind] at p
        intro q hq
        refine (toPV p).ok (F.push hq ⟨[], upd_same, Nat.zero_le _, rfl, .nil⟩) (next_mine hq) ?_
        unfold RV
        exact ⟨q, rfl, by rw [← F.len]; simp⟩
      exact ⟨b, pt_simple b rfl⟩
    · cases h
  a := by intro G cl lv tx X W a es h; simp [chkA] at h
  o := by intro G cl lv tx X W a e h; simp [chkP'] at h
  i := by intro G cl lv tx X W a e tg h; simp [chkI] at h
/-- a known value called with written arguments -/
theorem callWith_any {pos : Pos} {f : Value} {first : List Value} {es : List Expr} {pins : List (Addr × Obj)} {s : Shared} {σ : L2.St} {H : Hp} {Q : Value → Shared → Prop} {t : TA} (hk : PySem.W.keepIn X.K f = true) (I : Inv X pins σ H s) (ha : PA X es t) (ns : noStar es = true)
    (h : t σ H fun vs H1 => ∀ us s1, Inv X pins σ H1 s1 → Vals vs us → wpAny (model X.prog X.w) X.A (PySem.call f (first ++ us)) Q X.xe s1) :
    wpAny (model X.prog X.w) X.A (callWith pos f first (backTo pos (starEach es X.env)) []) Q X.xe s := by
  have hA := ha.run pos pins s σ H _ I h
  cases es with
  | cons e es =>
    exact PySem.W.callWith_K (h₀ := X.base) I.ok.mod.kin hk (thn hA fun us s1 ⟨vs, H1, I1, r, q⟩ => ⟨I1.kIn, q us s1 I1 r⟩) (star_cons ns).1 (back_plain (star_cons (env := X.env) ns).2)
  | nil =>
    refine PySem.W.callWith_K0 I.kIn hk ?_
    have hA' : wpAny (model X.prog X.w) X.A (pure ([] : List Value)) (AP X pins σ fun vs H1 => ∀ us s1, Inv X pins σ H1 s1 → Vals vs us → wpAny (model X.prog X.w) X.A (PySem.call f (first ++ us)) Q X.xe s1) X.xe s := hA
    intro Γ p hΓ
    obtain ⟨vs, H1, I1, r, q⟩ := hA' Γ p hΓ
    exact q [] s I1 r Γ p hΓ
theorem snd_call {z : Md} {f : Nat} {as : C} (sa : Snd P as) : Snd P (.call z f as) where
  e := by
    intro G cl lv tx X W at_ e h
    simp only [chkE] at h
    split at h
    · rename_i x p es pos
      simp only [Bool.and_eq_true, decide_eq_true_eq] at h
      obtain ⟨⟨h1, h2⟩, h3⟩ := h
      obtain ⟨g1, g2, g3⟩ := at_.glob h1
      obtain ⟨fa, hm, fo⟩ := at_.fa.fn f x h2
      obtain ⟨ha, ns⟩ := sa.a at_ es h3
      have b : PE X (.Call (.Name x p) es [] pos) (tE P G cl W (.call z f as)) := by
        refine ⟨fun pins s σ H Q I ⟨B, A, h', e, F, re, p'⟩ => ?_⟩
        simp only [evE] at p'
        refine wpAny_Call_Name_kw (ld_glob I g1 hm ?_ g2)
        refine callWith_any (first := []) fo.1 I ha ns ⟨B, A, h', e, F, re, p'.bind.imp fun ms vs h1 A1 H1 F1 n1 r1 p1 us s1 I1 ru => ?_⟩
        exact run_callM (z := z) at_.fa (at_.room.mono (by omega)) at_.tk fo I1 ru F1 r1 p1
      exact ⟨b, pt_simple b rfl⟩
    · cases h
  a := by intro G cl lv tx X W a es h; simp [chkA] at h
  o := by intro G cl lv tx X W a e h; simp [chkP'] at h
  i := by intro G cl lv tx X W a e tg h; simp [chkI] at h
theorem snd_new {k : Nat} {as : C} (sa : Snd P as) : Snd P (.new k as) where
  e := by
    intro G cl lv tx X W at_ e h
    simp only [chkE] at h
    split at h
    · rename_i x p es pos
      simp only [Bool.and_eq_true, decide_eq_true_eq] at h
      obtain ⟨⟨h1, h2⟩, h3⟩ := h
      obtain ⟨g1, g2, g3⟩ := at_.glob h1
      obtain ⟨Ca, ec, hm⟩ := at_.fa.cls k x h2
      obtain ⟨ha, ns⟩ := sa.a at_ es h3
      have b : PE X (.Call (.Name x p) es [] pos) (tE P G cl W (.new k as)) := by
        refine ⟨fun pins s σ H Q I ⟨B, A, h', e, F, re, p'⟩ => ?_⟩
        simp only [evE] at p'
        refine wpAny_Call_Name_kw (ld_glob I g1 hm ?_ g2)
        refine callWith_any (first := []) (at_.fa.mkc k Ca ec).1 I ha ns ⟨B, A, h', e, F, re, p'.bind.imp fun ms vs h1 A1 H1 F1 n1 r1 p1 us s1 I1 ru => ?_⟩
        exact run_newM at_.fa (at_.room.mono (by omega)) at_.tk ec I1 ru F1 r1 p1
      exact ⟨b, pt_simple b rfl⟩
    · cases h
  a := by intro G cl lv tx X W a es h; simp [chkA] at h
  o := by intro G cl lv tx X W a e h; simp [chkP'] at h
  i := by intro G cl lv tx X W a e tg h; simp [chkI] at h
theorem boot_ty {b : BI} (h : isTyB b = true) : ∃ T, calB b = .type T ∧ bootBuiltins (nameB b) = some (.type T) := by
  cases b <;> simp [isTyB] at h
  · exact ⟨"list", rfl, PyProof.Rows.boot_list⟩
  · exact ⟨"tuple", rfl, PyProof.Rows.boot_tuple⟩
  · exact ⟨"int", rfl, PyProof.Rows.boot_int⟩
theorem boot_fn {b : BI} (h : isTyB b = false) (h2 : plainB b = true) : ∃ T, calB b = .builtin T ∧ bootBuiltins (nameB b) = some (.builtin T) := by
  cases b <;> simp [isTyB, plainB] at h h2
  · exact ⟨"len", rfl, by decide +kernel⟩
  · exact ⟨"max", rfl, by decide +kernel⟩
  · exact ⟨"max", rfl, by decide +kernel⟩
  · exact ⟨"min", rfl, by decide +kernel⟩
  · exact ⟨"abs", rfl, by decide +kernel⟩
  · exact ⟨"sum", rfl, by decide +kernel⟩
  · exact ⟨"all", rfl, by decide +kernel⟩
  · exact ⟨"any", rfl, by decide +kernel⟩
  · exact ⟨"sorted", rfl, by decide +kernel⟩
theorem nameB_blts (b : BI) : nameB b ∈ blts := by cases b <;> decide +kernel
theorem firstMet_mem (val : Nat → Int) : ∀ (n : Nat) (x : Int), x ∈ PyProof.Rows.firstMet val n ↔ ∃ i, i < n ∧ val i = x
  | 0, x => by rw [PyProof.Rows.firstMet_zero]; simp
  | n + 1, x => by
    rw [PyProof.Rows.firstMet_succ]
    have ih := firstMet_mem val n
    unfold PyProof.Rows.step_dedup
    have key : (∃ i, i < n + 1 ∧ val i = x) ↔ (∃ i, i < n ∧ val i = x) ∨ val n = x := by
      constructor
      · rintro ⟨i, hi, e⟩
        by_cases c : i = n
        · right; rw [← c]; exact e
        · left; exact ⟨i, by omega, e⟩
      · rintro (⟨i, hi, e⟩ | e)
        · exact ⟨i, by omega, e⟩
        · exact ⟨n, by omega, e⟩
    rw [key]
    split
    · rename_i c
      rw [ih]
      constructor
      · exact .inl
      · rintro (h | h)
        · exact h
        · obtain ⟨y, hy, ey⟩ := List.any_eq_true.mp c
          rw [beq_iff_eq] at ey
          rw [← h, ← ey]
          exact (firstMet_mem val n y).mp hy
    · rw [List.mem_append, ih, List.mem_singleton]
      constructor
      · rintro (h | h)
        · exact .inl h
        · exact .inr h.symm
      · rintro (h | h)
        · exact .inl h
        · exact .inr h.symm
theorem firstMet_nd (val : Nat → Int) : ∀ n : Nat, (PyProof.Rows.firstMet val n).Nodup
  | 0 => by rw [PyProof.Rows.firstMet_zero]; exact .nil
  | n + 1 => by
    rw [PyProof.Rows.firstMet_succ]
    have ih := firstMet_nd val n
    unfold PyProof.Rows.step_dedup
    split
    · exact ih
    · rename_i c
      rw [List.nodup_append]
      refine ⟨ih, by simp, fun a ha b hb => ?_⟩
      rw [List.mem_singleton.mp hb]
      intro e
      apply c
      exact List.any_eq_true.mpr ⟨a, ha, by rw [e]; simp⟩
theorem nubI_mem : ∀ (ns : List Int) (x : Int), x ∈ nubI ns ↔ x ∈ ns
  | [], x => by simp [nubI]
  | y :: ys, x => by
    unfold nubI
    split
    · rename_i c
      rw [nubI_mem ys x, List.mem_cons]
      constructor
      · exact .inr
      · rintro (h | h)
        · rw [h]; exact List.contains_iff_mem.mp c
        · exact h
    · rw [List.mem_cons, List.mem_cons, nubI_mem ys x]
theorem nubI_nd : ∀ ns : List Int, (nubI ns).Nodup
  | [] => by unfold nubI; exact .nil
  | y :: ys => by
    unfold nubI
    split
    · exact nubI_nd ys
    · rename_i c
      rw [List.nodup_cons, nubI_mem]
      exact ⟨fun h => c (List.contains_iff_mem.mpr h), nubI_nd ys⟩
theorem firstMet_nub (ns : List Int) : (PyProof.Rows.firstMet (fun i => ns.getD i 0) ns.length).length = (nubI ns).length := by
  refine List.Perm.length_eq ((List.perm_ext_iff_of_nodup (firstMet_nd _ _) (nubI_nd ns)).mpr fun x => ?_)
  rw [firstMet_mem, nubI_mem, List.mem_iff_getElem?]
  constructor
  · rintro ⟨i, hi, e⟩
    refine ⟨i, ?_⟩
    rw [List.getD_eq_getElem?_getD, List.getElem?_eq_getElem hi] at e
    rw [List.getElem?_eq_getElem hi]
    exact congrArg some e
  · rintro ⟨i, e⟩
    obtain ⟨hi, e2⟩ := List.getElem?_eq_some_iff.mp e
    refine ⟨i, hi, ?_⟩
    rw [List.getD_eq_getElem?_getD, e]
    rfl
theorem intsAre_of' : ∀ {ns : List Int} {us : List Value}, Vals (ns.map V.int) us → PyProof.Rows.IntsAre us ns
  | [], _, .nil => .nil
  | n :: ns, _, .cons r t => by
    obtain ⟨k, rfl⟩ := r
    exact .cons n k (intsAre_of' t)
/-- len(set(l)), l a list of ints -/
theorem pe_lenSetG {a : Expr} {ta : TA} {p p2 q pos : Pos} (hg : Gl X "len") (hm : X.mg "len" = none) (hg2 : Gl X "set") (hm2 : X.mg "set" = none) (ha : PA X [a] ta) (hc : X.calm = true)
    (na : starEach [a] X.env = [(false, eval a X.env)]) : PE X (.Call (.Name "len" p) [.Call (.Name "set" p2) [a] [] q] [] pos)
      (fun σ H Q => ta σ H fun xs H1 => ∃ (l : Addr) (ns : List Int), xs = [.ref l] ∧ SqL X.K H1 l (ns.map V.int) ∧ ns.length < 64 ∧ Q (.int ((nubI ns).length : Nat)) H1) := by
  refine ⟨fun pins s σ H Q I h => ?_⟩
  refine Call_ (ld_blt I hg hm PySem.boot_len ?_)
  refine PyProof.Rows.callWith_builtin1 (PyProof.Rows.args_cons ?_ rfl) rfl rfl
  refine Call_ (ld_blt I hg2 hm2 PyProof.Rows.boot_set ?_)
  refine PyProof.Rows.callWith_type1 (thn (ha.run q pins s σ H _ I h) fun us s1 ⟨vs, H1, I1, r0, q1⟩ => ?_) na rfl
  obtain ⟨l, ns, rfl, hq, hl, q1⟩ := q1
  cases r0 with
  | cons r1 rr =>
  cases rr
  cases r1
  obtain ⟨its, r, pl, hz⟩ := I1.list hq
  have hlen : its.toArray.size = ns.length := by rw [List.size_toArray, ← r.length, List.length_map]
  refine call_set_list (I1.ok.hd hc) pl.isList (by simpa using intsAre_of' r) (by rw [hlen]; unfold scanBound; omega) fun h' tk hS hk => ?_
  refine PyProof.Rows.args_nil ?_
  rw [hlen] at hS
  obtain ⟨o, es, ep, t, ho, hex, hd, _, _, _, hf, hn⟩ := hS
  have I2 : Inv X pins σ H1 { s1 with heap := h', toks := tk } := I1.kept fun b o e => hk b o (Heap.lt_size e) e
  have hn2 : (nubI ns).length ≤ ns.length := by
    rw [← firstMet_nub]
    exact PyProof.Rows.firstMet_length_le _ _
  refine call_len_set ho hex hd hf (by rw [hn, firstMet_nub] <;> omega) ⟨.int ((nubI ns).length : Nat), H1, I2.tok _, ⟨_, by rw [hn, firstMet_nub]⟩, q1⟩
theorem sorted_nub {ns zs : List Int} (h1 : zs.Pairwise (· < ·)) (h2 : ∀ k : Int, k ∈ zs ↔ k ∈ ns) : zs = sortI (nubI ns) := by
  have nd : zs.Nodup := h1.imp fun l e => by omega
  refine sorted_uniq (((List.perm_ext_iff_of_nodup nd (nubI_nd ns)).mpr fun x => by rw [h2, nubI_mem]).trans (sortI_perm _).symm) (h1.imp fun l => by omega) (sortI_sorted _)
/-- sorted(set(l)), l a list of ints -/
theorem pe_sortedSetG {a : Expr} {ta : TA} {p p2 q pos : Pos} (hg : Gl X "sorted") (hm : X.mg "sorted" = none) (hg2 : Gl X "set") (hm2 : X.mg "set" = none) (ha : PA X [a] ta) (hc : X.calm = true)
    (na : starEach [a] X.env = [(false, eval a X.env)]) : PE X (.Call (.Name "sorted" p) [.Call (.Name "set" p2) [a] [] q] [] pos)
      (fun σ H Q => ta σ H fun xs H1 => ∃ (l : Addr) (ns : List Int), xs = [.ref l] ∧ SqL X.K H1 l (ns.map V.int) ∧ ns.length < 64 ∧ ∀ d, H1 d = none → Q (.ref d) (upd H1 d (.lst ((sortI (nubI ns)).map V.int)))) := by
  refine ⟨fun pins s σ H Q I h => ?_⟩
  refine Call_ (ld_blt I hg hm PyProof.Rows.boot_sorted ?_)
  refine PyProof.Rows.callWith_builtin1 (PyProof.Rows.args_cons ?_ rfl) rfl rfl
  refine Call_ (ld_blt I hg2 hm2 PyProof.Rows.boot_set ?_)
  refine PyProof.Rows.callWith_type1 (thn (ha.run q pins s σ H _ I h) fun us s1 ⟨vs, H1, I1, r0, q1⟩ => ?_) na rfl
  obtain ⟨l, ns, rfl, hq, hl, q1⟩ := q1
  cases r0 with
  | cons r1 rr =>
  cases rr
  cases r1
  obtain ⟨its, r, pl, hz⟩ := I1.list hq
  refine set_ints (ns := ns) (I1.ok.hd hc) pl.isList (by simpa using intsAre_of' r) (by unfold scanBound; omega) fun h' tk c sr lc hk => ?_
  refine PyProof.Rows.args_nil ?_
  have I2 : Inv X pins σ H1 { s1 with heap := h', toks := tk } := I1.kept fun b o e => hk b o e
  refine sorted_set (s := { s1 with heap := h', toks := tk }) sr (I2.ok.hd hc) (by omega) fun t d out cc zs kp gg oo hd hgd hi hs hm3 hl3 => ?_
  have ez : zs = sortI (nubI ns) := sorted_nub hs fun k => by rw [hm3, decide_eq_true_eq]
  subst ez
  have fresh : H1 d = none := I2.hok.fresh hd
  have small : ((sortI (nubI ns)).map V.int).length ≤ sizeLine := by rw [List.length_map, hl3, sizeLine_eq]; omega
  have J : Inv X pins σ (upd H1 d (.lst ((sortI (nubI ns)).map V.int))) t := I2.call' (ch := []) oo (Un.laid kp hd fresh) (I2.hok.laid kp hd ⟨small, out.toList, cc, vals_of_ints hi, hgd⟩) (by rw [gg]; exact I2.bare) fun _ z => nomatch z
  exact ⟨.ref d, _, J, rfl, q1 d fresh⟩
theorem snd_bi {b : BI} {z : Bool} {as : C} (sa : Snd P as) : Snd P (.bi b z as) where
  e := by
    intro G cl lv tx X W at_ e h
    simp only [chkE] at h
    split at h
    · rename_i x p y es pos
      simp only [Bool.and_eq_true, decide_eq_true_eq] at h
      obtain ⟨⟨h1, h2⟩, h3⟩ := h
      subst h2
      obtain ⟨g1, g2, g3⟩ := at_.glob h1
      have hm := at_.fa.blt _ (nameB_blts b)
      split at h3
      · rename_i h2'
        obtain ⟨ha, ns⟩ := sa.a at_ _ h3
        have nb : b ≠ .sortedSet ∧ b ≠ .lenSet ∧ b ≠ .listRng := by cases b <;> simp [plainB] at h2' <;> simp
        have hc : CallR X (calB b) (fun xs H Q => ∃ B, rBi G B b z xs H Q) := callr_ex fun B => call_biM at_.fa.hK at_.sh.calm nb
        have key : ∀ σ H Q, tE P G cl W (.bi b z as) σ H Q → tCB (fun xs H Q => ∃ B, rBi G B b z xs H Q) (tAs P G cl W as) σ H Q := by
          intro σ H Q ⟨B, A, h, e, F, re, p⟩
          simp only [evE] at p
          exact ⟨B, A, h, e, F, re, p.bind.imp fun ms vs h1 A1 H1 F1 n1 r1 p1 => ⟨B, A1, h1, ms, F1, r1, toPV p1⟩⟩
        have b' : PE X (.Call (.Name (nameB b) p) (y :: es) [] pos) (tE P G cl W (.bi b z as)) := by
          cases et : isTyB b with
          | true =>
            obtain ⟨T, e1, e2⟩ := boot_ty et
            rw [e1] at hc
            exact pe_imp (pe_callTy hc g1 hm e2 ha g3 g2 (star_cons ns).1 (back_plain (star_cons (env := X.env) ns).2)) key
          | false =>
            obtain ⟨T, e1, e2⟩ := boot_fn et h2'
            rw [e1] at hc
            exact pe_imp (pe_callB hc g1 hm e2 ha g3 g2 (star_cons ns).1 (back_plain (star_cons (env := X.env) ns).2)) key
        exact ⟨b', pt_simple b' rfl⟩
      · split at h3
        · rename_i s ps u p2 hpb
          simp only [Bool.and_eq_true, decide_eq_true_eq] at h3
          obtain ⟨⟨k1, k2⟩, k3⟩ := h3
          subst k2
          obtain ⟨j1, _, _⟩ := at_.glob k1
          obtain ⟨ha, ns⟩ := sa.a at_ _ k3
          have b' : PE X (.Call (.Name (nameB .lenSet) p) [.Call (.Name "set" ps) [u] [] p2] [] pos) (tE P G cl W (.bi .lenSet z as)) := by
            refine pe_imp (pe_lenSetG g1 hm j1 (at_.fa.blt "set" (by decide +kernel)) ha at_.sh.calm (star_of ns)) ?_
            intro σ H Q ⟨B, A, h, e, F, re, p⟩
            simp only [evE] at p
            refine ⟨B, A, h, e, F, re, p.bind.imp fun ms vs h1 A1 H1 F1 n1 r1 p1 => ?_⟩
            unfold biM at p1
            split at p1 <;> try exact p1.elim
            all_goals rename_i e1 <;> try (cases e1; done)
            split at p1
            · rename_i ws ew
              split at p1
              · rename_i is ei
                split at p1
                · rename_i hl
                  obtain ⟨y, ys, rfl, r2, r3⟩ := RVs.uncons r1
                  cases r3.ofnil
                  obtain ⟨a, xs, rfl, hq, l, r⟩ := lstOf_ok F1 ew r2
                  rw [r.ints ei] at hq
                  exact ⟨a, is, rfl, by rw [at_.fa.hK]; exact hq, hl, post_ok p1 F1 .refl rv_int⟩
                · exact p1.elim
              · exact p1.elim
            · exact p1.elim
          exact ⟨b', pt_simple b' rfl⟩
        · rename_i s ps u p2 hpb
          simp only [Bool.and_eq_true, decide_eq_true_eq] at h3
          obtain ⟨⟨k1, k2⟩, k3⟩ := h3
          subst k2
          obtain ⟨j1, _, _⟩ := at_.glob k1
          obtain ⟨ha, ns⟩ := sa.a at_ _ k3
          have b' : PE X (.Call (.Name (nameB .sortedSet) p) [.Call (.Name "set" ps) [u] [] p2] [] pos) (tE P G cl W (.bi .sortedSet z as)) := by
            refine pe_imp (pe_sortedSetG g1 hm j1 (at_.fa.blt "set" (by decide +kernel)) ha at_.sh.calm (star_of ns)) ?_
            intro σ H Q ⟨B, A, h, e, F, re, p⟩
            simp only [evE] at p
            refine ⟨B, A, h, e, F, re, p.bind.imp fun ms vs h1 A1 H1 F1 n1 r1 p1 => ?_⟩
            unfold biM at p1
            split at p1 <;> try exact p1.elim
            all_goals rename_i e1 <;> try (cases e1; done)
            split at p1
            · rename_i ws ew
              split at p1
              · rename_i is ei
                split at p1
                · rename_i hl
                  obtain ⟨y, ys, rfl, r2, r3⟩ := RVs.uncons r1
                  cases r3.ofnil
                  obtain ⟨a, xs, rfl, hq, l, r⟩ := lstOf_ok F1 ew r2
                  rw [r.ints ei] at hq
                  refine ⟨a, is, rfl, by rw [at_.fa.hK]; exact hq, hl, fun d hd => ?_⟩
                  exact mkL_ok F1 (toPV p1) (RVs.ofInts _) (by
                    rw [List.length_map, (sortI_perm _).length_eq, ← firstMet_nub]
                    have := PyProof.Rows.firstMet_length_le (fun i => is.getD i 0) is.length
                    rw [sizeLine_eq]
                    omega) hd
                · exact p1.elim
              · exact p1.elim
            · exact p1.elim
          exact ⟨b', pt_simple b' rfl⟩
        · cases h3
    · cases h
  a := by intro G cl lv tx X W a es h; simp [chkA] at h
  o := by intro G cl lv tx X W a e h; simp [chkP'] at h
  i := by intro G cl lv tx X W a e tg h; simp [chkI] at h
theorem slotM (m : MI) (nc : m ≠ .count) : PlainAttrs (tyM m) ∧ Slot (tyM m) (nameM m) (idM m) ∧ typeOf (.builtin (idM m)) = pure (.type "method_descriptor") := by
  cases m
  · exact ⟨PySem.F.plainAttrs_list, PySem.F.slot_list_append, PySem.F.type_list_append⟩
  · exact ⟨PySem.F.plainAttrs_list, PySem.F.slot_list_extend, PySem.F.type_list_extend⟩
  · exact ⟨PySem.F.plainAttrs_list, PySem.F.slot_list_pop, PySem.F.type_list_pop⟩
  · exact ⟨PySem.F.plainAttrs_list, PySem.F.slot_list_reverse, PySem.F.type_list_reverse⟩
  · exact ⟨PySem.F.plainAttrs_list, PySem.F.slot_list_clear, PySem.F.type_list_clear⟩
  · exact ⟨PySem.F.plainAttrs_list, PySem.F.slot_list_index, PySem.F.type_list_index⟩
  · exact absurd rfl nc
  · exact ⟨PySem.F.plainAttrs_dict, PySem.F.slot_dict_get, PySem.F.type_dict_get⟩
theorem methK_ty {B : Bor} {A : List Addr} {H : Hp} {h : Hm} {m : MI} {v : Val} {x : V} (F : Fits G B A h H) (e : methK m h v = true) (r : RV G B A H v x) : tyV G.K (tyM m) x H := by
  have lst : (lstOf h v).isSome = true → tyV G.K "list" x H := fun e => by
    obtain ⟨vs, e⟩ := Option.isSome_iff_exists.mp e
    obtain ⟨a, xs, rfl, hq, _, _⟩ := lstOf_ok F e r
    exact .inl ⟨rfl, xs, hq⟩
  cases m
  case get =>
    obtain ⟨⟨ks, vs⟩, e⟩ := Option.isSome_iff_exists.mp (show (dctOf h v).isSome = true from e)
    obtain ⟨a, kvs, rfl, hq, _⟩ := dctOf_ok F e r
    exact .inr (.inr (.inl ⟨rfl, .inl ⟨kvs, hq⟩⟩))
  all_goals exact lst e
theorem snd_meth {m : MI} {o as : C} (so : Snd P o) (sa : Snd P as) : Snd P (.meth m o as) where
  e := by
    intro G cl lv tx X W at_ e h
    simp only [chkE] at h
    split at h
    · rename_i x n ap es pos
      simp only [Bool.and_eq_true, decide_eq_true_eq] at h
      obtain ⟨⟨⟨⟨⟨⟨h1, h2⟩, h3⟩, h4⟩, h5⟩, h6⟩, h7⟩ := h
      subst h1
      obtain ⟨ha, ns⟩ := sa.a at_ es h7
      obtain ⟨pa, sl, ty⟩ := slotM m h2
      have hm : MtR X (idM m) (fun x xs H Q => ∃ B, rMeth G B m x xs H Q) := mtr_ex fun B => mt_methM at_.fa.g at_.fa.hK (un65 at_.room) h2
      have key : ∀ σ H Q, tE P G cl W (.meth m o as) σ H Q → tBM X.K (tyM m) (fun x xs H Q => ∃ B, rMeth G B m x xs H Q) (tE P G cl W o) (tAs P G cl W as) σ H Q := by
        intro σ H Q ⟨B, A, h, e, F, re, p⟩
        simp only [evE] at p
        refine ⟨B, A, h, e, F, re, p.bind.imp fun v x h1 A1 H1 F1 n1 r1 p1 => ?_⟩
        split at p1
        · rename_i mk
          refine ⟨by rw [at_.fa.hK]; exact methK_ty F1 mk r1, B, A1, h1, e, F1, re.mono n1, p1.bind.imp fun ms vs h2 A2 H2 F2 n2 r2 p2 => ?_⟩
          exact ⟨B, A2, h2, v, ms, F2, RV.mono n2 v r1, r2, toPV p2⟩
        · exact p1.elim
      have b : PE X (.Call (.Attribute x (nameM m) ap) es [] pos) (tE P G cl W (.meth m o as)) := by
        cases es with
        | nil =>
          refine pe_imp (pe_bm0 pa sl ty hm (so.e at_ x h6).1 (base_of h3) h4) ?_
          intro σ H Q q
          obtain ⟨B, A, h, e, F, re, p⟩ := key σ H Q q
          refine ⟨B, A, h, e, F, re, p.imp fun v x h1 A1 H1 F1 n1 r1 ⟨q1, B', A', h', e', F', re', p'⟩ => ⟨q1, ?_⟩⟩
          have en : evA P.T cl as e' h' = .ok [] h' := by
            cases as <;> simp [chkA] at h7
            simp only [evA]
          rw [en] at p'
          exact post_ok p' F' .refl RVs.nil
        | cons y es =>
          exact pe_imp (pe_bm pa sl ty hm (so.e at_ x h6).1 ha (base_of h3) (few_of ns h5) h4 (star_cons ns).1 (back_plain (star_cons (env := X.env) ns).2)) key
      exact ⟨b, pt_simple b rfl⟩
    · cases h
  a := by intro G cl lv tx X W a es h; simp [chkA] at h
  o := by intro G cl lv tx X W a e h; simp [chkP'] at h
  i := by intro G cl lv tx X W a e tg h; simp [chkI] at h
theorem methcall_eq {o : Expr} {m : Str} {env : PySem.Env} {args : List Expr} {ap pos : Pos} (hb : notSuper o = true) (hl : (ap.endLine == pos.line) = true) (ns : noStar args = true) (hn : args.length < 30) :
    eval (.Call (.Attribute o m ap) args [] pos) env = (do
      let ov ← eval o env
      standAt ap.atName
      let (f, first) ← holding [ov] (getMethod ov m (do return (← importBound o env).getD true))
      callWith pos f first (backTo pos (starEach args env)) (backToKw pos (keywordEach [] env))) := by
  rw [arm_eval_Call, base_of hb]
  have fw : methodCallForm (args.length + ([] : List Keyword).length) (backTo pos (starEach args env)) (backToKw pos (keywordEach [] env)) = true := by
    unfold methodCallForm
    rw [back_all ns, Bool.true_and]
    have e1 : (backToKw pos (keywordEach [] env)).all (fun x => x.1.isSome) = true := rfl
    rw [e1, Bool.true_and, decide_eq_true_eq]
    exact hn
  unfold methodCall
  rw [fw]
  unfold calleeOf methodCallPos
  simp only [if_true, hl, Bool.not_true, Bool.false_or]
  rfl
theorem rfs_mem : ∀ {fs : List Nat} {ks : List Str} {n : Str}, RFs G fs ks → n ∈ ks → n ∈ G.fld
  | [], ks, n, r, h => by
    unfold RFs at r
    rw [r] at h
    cases h
  | f :: fs, ks, n, r, h => by
    unfold RFs at r
    obtain ⟨k, q, rfl, e, r⟩ := r
    rcases List.mem_cons.mp h with z | z
    · rw [z]
      exact List.mem_of_getElem? e
    · exact rfs_mem r z
theorem snd_ocall {z : Md} {m : Nat} {o as : C} (so : Snd P o) (sa : Snd P as) : Snd P (.ocall z m o as) where
  e := by
    intro G cl lv tx X W at_ e h
    simp only [chkE] at h
    split at h
    · rename_i x n ap es pos
      simp only [Bool.and_eq_true, decide_eq_true_eq] at h
      obtain ⟨⟨⟨⟨⟨h1, h3⟩, h4⟩, h5⟩, h6⟩, h7⟩ := h
      obtain ⟨ha, ns⟩ := sa.a at_ es h7
      have b : PE X (.Call (.Attribute x n ap) es [] pos) (tE P G cl W (.ocall z m o as)) := by
        refine ⟨fun pins s σ H Q I ⟨B, A, h', e, F, re, p⟩ => ?_⟩
        simp only [evE] at p
        refine methcall_of (so.e at_ x h6).1 I ?_ (methcall_eq h3 h4 ns h5)
        refine ⟨B, A, h', e, F, re, p.bind.imp fun v x h1' A1 H1 F1 n1 r1 p1 => ?_⟩
        split at p1
        · rename_i k ek
          split at p1
          · rename_i i em
            unfold clsOf at ek
            split at ek
            · rename_i k' fs vs ei
              cases ek
              obtain ⟨a, Ca, dx, fv, rfl, hd, ec, rf, rv⟩ := insOf_ok F1 ei r1
              obtain ⟨g, mt, fo⟩ := at_.fa.mt k Ca m n i ec h1 em
              refine ⟨a, Ca, dx, fv, g, rfl, hd, (at_.fa.ins k Ca ec).1, mt, ?_, fun s1 I1 => ?_⟩
              · have hn : n ∉ fv.map (·.1) := fun z => at_.fa.sep n (List.mem_of_getElem? h1) (by rw [← at_.fa.fl]; exact rfs_mem rf z)
                rw [List.lookup_eq_none_iff]
                intro q hq
                rw [bne_iff_ne]
                intro z
                exact hn (List.mem_map.mpr ⟨q, hq, z.symm⟩)
              · refine callWith_any (first := [.ref a]) mt.kp I1 ha ns ⟨B, A1, h1', e, F1, re.mono n1, p1.bind.imp fun ms us h2 A2 H2 F2 n2 r2 p2 ws s2 I2 ru => ?_⟩
                exact run_callM (z := z) at_.fa (at_.room.mono (by omega)) at_.tk fo I2 (.cons (show L2.RelV (.ref a) (.ref a) from rfl) ru) F2 (.cons (RV.mono n2 v r1) r2) p2
            · cases ek
          · exact p1.elim
        · exact p1.elim
      exact ⟨b, pt_simple b rfl⟩
    · cases h
  a := by intro G cl lv tx X W a es h; simp [chkA] at h
  o := by intro G cl lv tx X W a e h; simp [chkP'] at h
  i := by intro G cl lv tx X W a e tg h; simp [chkI] at h
end
end MP
set_option Elab.async false
set_option linter.all false
set_option maxRecDepth 100000
set_option autoImplicit false
namespace MP
open PySem PySem.Spec PyProof.Rows L2
section
variable {P : Pg} {G : Sg} {cl : CallF} {lv : Nat} {tx : Tx} {X : Cx} {W : WX}
theorem lst_ty {B : Bor} {A : List Addr} {H : Hp} {c : Fz} {a : Addr} {xs : List V} (l : LstOk G B A H c a xs) : TyX G.K H (.ref a) (.type "list") := by
  cases c with
  | scr =>
    rcases l with ⟨o, e, _⟩ | ⟨o, its, n, e, c, _⟩
    · exact .base (.frz e)
    · exact .kList e c
  | own => exact .base (.lst l.2.1)
  | bor => exact .base (.lst l.2.1)
theorem ty_of (fa : FactsX P G cl lv X) {B : Bor} {A : List Addr} {H : Hp} {h : Hm} {v : Val} {x : V} {d : Kd} (F : Fits G B A h H) (e : kdOf h v = some d) (r : RV G B A H v x) : ∃ t, kdV G.cls d = some t ∧ TyX G.K H x t := by
  have ins : ∀ {k : Nat} {a Ca dx : Addr} {fv : List (Str × V)}, G.cls k = some Ca → H a = some (.ins Ca dx fv) → TyX G.K H (.ref a) (.ref Ca) := fun {k a Ca dx fv} ec hd => by
    obtain ⟨c1, c2⟩ := fa.ins k Ca ec
    obtain ⟨k1, k2, k3, k4⟩ := fa.kin k Ca ec
    rw [fa.hK] at c1 k1 k2 k3 k4
    exact .base (.ins hd c1 k1 k2 k3 k4)
  cases v <;> simp only [kdOf, Option.some.injEq] at e
  case non => subst e; unfold RV at r; subst r; exact ⟨_, rfl, .base .non⟩
  case bl b => subst e; unfold RV at r; subst r; exact ⟨_, rfl, .base (.bl b)⟩
  case int i => subst e; unfold RV at r; subst r; exact ⟨_, rfl, .base (.int i)⟩
  case str n => subst e; unfold RV at r; obtain ⟨z, _, rfl⟩ := r; exact ⟨_, rfl, .base (.str z)⟩
  case tup vs => subst e; unfold RV at r; obtain ⟨a, xs, rfl, e, _⟩ := r; exact ⟨_, rfl, .base (.tup e)⟩
  case lst c vs => subst e; unfold RV at r; obtain ⟨a, xs, rfl, e, _⟩ := r; exact ⟨_, rfl, lst_ty e⟩
  case dct c ks vs => subst e; unfold RV at r; obtain ⟨a, kvs, rfl, e, _⟩ := r; exact ⟨_, rfl, .base (.dK e.2.1)⟩
  case obj c k fs vs =>
    subst e
    unfold RV at r
    obtain ⟨a, Ca, dx, fv, rfl, ec, e, _⟩ := r
    exact ⟨.ref Ca, by simp only [kdV, ec, Option.map_some], ins ec e.2.1⟩
  case ref i =>
    unfold RV at r
    obtain ⟨a, rfl, ea⟩ := r
    cases eo : h[i]? with
    | none => rw [eo] at e; cases e
    | some o =>
      have ro := F.ob i o a eo ea
      rw [eo] at e
      cases o with
      | lst vs => cases e; obtain ⟨xs, q, _⟩ := ro; exact ⟨_, rfl, .base (.lst q)⟩
      | dct ks vs => cases e; obtain ⟨xs, q, _⟩ := ro; exact ⟨_, rfl, .base (.dK q)⟩
      | ins k fs vs =>
        cases e
        obtain ⟨Ca, dx, fv, q, ec, _⟩ := ro
        exact ⟨.ref Ca, by simp only [kdV, ec, Option.map_some], ins ec q⟩
  case err k => cases e
  case clo l cs => cases e
theorem isi_kd {sup : Nat → List Nat} {h : Hm} {v : Val} {t : Ty} {b : Bool} (e : isiM sup h v t = some b) (ne : ∀ k, v ≠ .err k) : ∃ d, kdOf h v = some d ∧ kdIs sup d t = b := by
  cases v <;> simp only [isiM, Option.some.injEq] at e
  case err k => exact absurd rfl (ne k)
  case clo l cs => cases e
  case ref i =>
    cases eo : h[i]? with
    | none => rw [eo] at e; cases e
    | some o =>
      rw [eo] at e
      cases o <;> simp only [Option.some.injEq] at e <;> subst e <;> refine ⟨_, by simp only [kdOf, eo]; rfl, ?_⟩ <;> cases t <;> rfl
  all_goals (subst e; refine ⟨_, rfl, ?_⟩; cases t <;> rfl)
theorem chkT_ok (at_ : At P G cl lv tx X W) {t : Ty} {z : Expr} (h : chkT P tx t z = true) : ∃ c u, PE X z (tC c) ∧ ClsV c u ∧ tyV' G.cls t = some u ∧ (∀ x p, z ≠ .Starred x p) := by
  unfold chkT at h
  split at h
  · rename_i x pos
    simp only [Bool.and_eq_true, Bool.or_eq_true] at h
    obtain ⟨h1, h2⟩ := h
    obtain ⟨g1, g2, g3⟩ := at_.glob h1
    have bl : ∀ {n : String}, x ∈ blts → bootBuiltins x = some (.type n) → PE X (.Name x pos) (tC (.ty n)) := fun {n} m hb =>
      pe_bltn g1 (at_.fa.blt x m) hb rfl g3 g2
    cases t with
    | int =>
      obtain rfl : x = "int" := by simpa [kindsB] using h2
      exact ⟨.ty "int", _, bl (by decide +kernel) PyProof.Rows.boot_int, .ty "int", rfl, fun _ _ z => nomatch z⟩
    | bool =>
      obtain rfl : x = "bool" := by simpa [kindsB] using h2
      exact ⟨.ty "bool", _, pe_bltn g1 (at_.fa.blt "bool" (by decide +kernel)) PyProof.Rows.boot_bool rfl g3 g2, .ty "bool", rfl, fun _ _ z => nomatch z⟩
    | str =>
      obtain rfl : x = "str" := by simpa [kindsB] using h2
      exact ⟨.ty "str", _, pe_bltn g1 (at_.fa.blt "str" (by decide +kernel)) PyProof.Rows.boot_str rfl g3 g2, .ty "str", rfl, fun _ _ z => nomatch z⟩
    | list =>
      obtain rfl : x = "list" := by simpa [kindsB] using h2
      exact ⟨.ty "list", _, bl (by decide +kernel) PyProof.Rows.boot_list, .ty "list", rfl, fun _ _ z => nomatch z⟩
    | tuple =>
      obtain rfl : x = "tuple" := by simpa [kindsB] using h2
      exact ⟨.ty "tuple", _, bl (by decide +kernel) PyProof.Rows.boot_tuple, .ty "tuple", rfl, fun _ _ z => nomatch z⟩
    | cls k =>
      have h3 : P.clss[k]? = some (some x) := by simpa [kindsB] using h2
      obtain ⟨Ca, ec, hm⟩ := at_.fa.cls k x h3
      exact ⟨.ref Ca, .ref Ca, pe_glob g1 hm rfl g2, .own Ca, by simp only [tyV', ec, Option.map_some], fun _ _ z => nomatch z⟩
  · cases h
theorem snd_isi {a : C} {t : Ty} (sa : Snd P a) : Snd P (.isi a t) where
  e := by
    intro G cl lv tx X W at_ e h
    simp only [chkE] at h
    split at h
    · rename_i x p y z pos
      simp only [Bool.and_eq_true, decide_eq_true_eq] at h
      obtain ⟨⟨⟨h1, h2⟩, h3⟩, h4⟩ := h
      subst h2
      obtain ⟨g1, g2, g3⟩ := at_.glob h1
      obtain ⟨c, u, hc, cv, et, ns2⟩ := chkT_ok at_ h4
      have ns : noStar [y, z] = true := noStar_of (fun w p e => by subst e; rw [chkE_star] at h3; cases h3) (noStar_of ns2 rfl)
      have ha : PA X [y, z] (tCons (tE P G cl W a) (tCons (tC c) tNil)) := pa_cons (sa.e at_ y h3).1 (pa_cons hc pa_nil (star_cons (noStar_of ns2 rfl)).1) (star_cons ns).1
      have b : PE X (.Call (.Name "isinstance" p) [y, z] [] pos) (tE P G cl W (.isi a t)) := by
        refine pe_imp (pe_callB call_isi g1 (at_.fa.blt "isinstance" (by decide +kernel)) PyProof.Rows.boot_isinstance ha g3 g2 (star_cons ns).1 (back_plain (star_cons (env := X.env) ns).2)) ?_
        intro σ H Q ⟨B, A, h, e, F, re, p⟩
        simp only [evE] at p
        refine ⟨B, A, h, e, F, re, p.bind.imp fun v x h1 A1 H1 F1 n1 r1 p1 => ?_⟩
        split at p1
        · rename_i r er
          have ne : ∀ k, v ≠ .err k := fun k z => by subst z; unfold RV at r1; exact r1
          obtain ⟨d, ed, kd⟩ := isi_kd er ne
          obtain ⟨t', e1, ty⟩ := ty_of at_.fa F1 ed r1
          refine ⟨x, c, t', u, r, rfl, cv, by rw [at_.fa.hK]; exact ty, ?_, post_ok p1 F1 .refl rv_bl⟩
          rw [← kd]
          exact at_.fa.kit d t t' u e1 et
        · exact p1.elim
      exact ⟨b, pt_simple b rfl⟩
    · cases h
  a := by intro G cl lv tx X W a es h; simp [chkA] at h
  o := by intro G cl lv tx X W a e h; simp [chkP'] at h
  i := by intro G cl lv tx X W a e tg h; simp [chkI] at h
/-- a source that is a list, as it stands from now on -/
def SrcL (G : Sg) (B : Bor) (A : List Addr) (H : Hp) (s : Src) (a : Addr) : Prop := ∀ B' A' h' H', Fits G B' A' h' H' → Conv B A H B' A' H' → ∀ n, s.len h' = some n → ∃ vs xs, vs.length = n ∧ (∀ i, s.at h' i = vs[i]?) ∧ SqL G.K H' a xs ∧ xs.length ≤ sizeLine ∧ RVs G B' A' H' vs xs
def SrcT (G : Sg) (B : Bor) (A : List Addr) (H : Hp) (s : Src) (a : Addr) : Prop := ∀ B' A' h' H', Fits G B' A' h' H' → Conv B A H B' A' H' → ∀ n, s.len h' = some n → ∃ vs xs, vs.length = n ∧ (∀ i, s.at h' i = vs[i]?) ∧ SqT G.K H' a xs ∧ xs.length ≤ sizeLine ∧ RVs G B' A' H' vs xs
theorem SrcL.r {B : Bor} {A : List Addr} {H : Hp} {s : Src} {a : Addr} (k : SrcL G B A H s a) : SrcR G B A H s (Itl G.K a) := by
  intro B' A' h' H' F m n e
  obtain ⟨vs, xs, hl, hat, hq, l, r⟩ := k B' A' h' H' F m n e
  refine ⟨by rw [← hl, r.length]; exact l, fun i => ⟨fun hi => ?_, fun hi => ⟨xs, hq, by rw [← r.length, hl]; exact hi⟩⟩⟩
  have hv : vs[i]? = some vs[i] := List.getElem?_eq_getElem (by omega)
  obtain ⟨x, ex, rx⟩ := r.get hv
  refine ⟨⟨xs, x, hq, ex⟩, ?_⟩
  rintro y H2 ⟨rfl, hy⟩
  have ey : y = x := Option.some.inj ((hy xs hq).symm.trans ex)
  subst ey
  exact ⟨vs[i], by rw [hat]; exact hv, F, .refl, rx⟩
theorem SrcT.r {B : Bor} {A : List Addr} {H : Hp} {s : Src} {a : Addr} (k : SrcT G B A H s a) : SrcR G B A H s (Itt G.K a) := by
  intro B' A' h' H' F m n e
  obtain ⟨vs, xs, hl, hat, hq, l, r⟩ := k B' A' h' H' F m n e
  refine ⟨by rw [← hl, r.length]; exact l, fun i => ⟨fun hi => ?_, fun hi => ⟨xs, hq, by rw [← r.length, hl]; exact hi⟩⟩⟩
  have hv : vs[i]? = some vs[i] := List.getElem?_eq_getElem (by omega)
  obtain ⟨x, ex, rx⟩ := r.get hv
  refine ⟨⟨xs, x, hq, ex⟩, ?_⟩
  rintro y H2 ⟨rfl, hy⟩
  have ey : y = x := Option.some.inj ((hy xs hq).symm.trans ex)
  subst ey
  exact ⟨vs[i], by rw [hat]; exact hv, F, .refl, rx⟩
/-- a row made of a list -/
theorem SrcL.enum {B : Bor} {A : List Addr} {H : Hp} {s : Src} {a : Addr} (k : SrcL G B A H s a) : SrcR G B A H (.enum s) (Ite G.K a) := by
  intro B' A' h' H' F m n e
  obtain ⟨vs, xs, hl, hat, hq, l, r⟩ := k B' A' h' H' F m n e
  refine ⟨by rw [← hl, r.length]; exact l, fun i => ⟨fun hi => ?_, fun hi => ⟨xs, hq, by rw [← r.length, hl]; exact hi⟩⟩⟩
  have hv : vs[i]? = some vs[i] := List.getElem?_eq_getElem (by omega)
  obtain ⟨x, ex, rx⟩ := r.get hv
  refine ⟨⟨xs, x, hq, ex⟩, ?_⟩
  rintro y H2 ⟨T, x', rfl, hT, rfl, hy⟩
  have ey : x' = x := Option.some.inj ((hy xs hq).symm.trans ex)
  subst ey
  refine ⟨.tup [.int i, vs[i]], by simp only [Src.at, hat, hv], F.other hT, next_new hT, ?_⟩
  unfold RV
  exact ⟨T, _, rfl, upd_same, F.new hT, by rw [sizeLine_eq]; simp, .cons rv_int (.one (RV.mono (next_new hT) _ rx))⟩
theorem SrcL.zip {B : Bor} {A : List Addr} {H : Hp} {s t : Src} {a b : Addr} (k : SrcL G B A H s a) (k2 : SrcL G B A H t b) : SrcR G B A H (.zip s t) (Itz G.K a b) := by
  intro B' A' h' H' F m n e
  simp only [Src.len] at e
  split at e
  · rename_i n1 n2 e1 e2
    cases e
    obtain ⟨vs, xs, hl, hat, hq, l, r⟩ := k B' A' h' H' F m n1 e1
    obtain ⟨ws, ys, hl2, hat2, hq2, l2, r2⟩ := k2 B' A' h' H' F m n2 e2
    have lx := r.length
    have ly := r2.length
    refine ⟨by omega, fun i => ⟨fun hi => ?_, fun hi => ⟨xs, ys, hq, hq2, by omega⟩⟩⟩
    have hv : vs[i]? = some vs[i] := List.getElem?_eq_getElem (by omega)
    have hw : ws[i]? = some ws[i] := List.getElem?_eq_getElem (by omega)
    obtain ⟨x, ex, rx⟩ := r.get hv
    obtain ⟨y, ey, ry⟩ := r2.get hw
    refine ⟨⟨xs, ys, x, y, hq, hq2, ex, ey⟩, ?_⟩
    rintro z H2 ⟨T, x', y', rfl, hT, rfl, hx', hy'⟩
    have e1 : x' = x := Option.some.inj ((hx' xs hq).symm.trans ex)
    have e2 : y' = y := Option.some.inj ((hy' ys hq2).symm.trans ey)
    subst e1 e2
    refine ⟨.tup [vs[i], ws[i]], by simp only [Src.at, hat, hv, hat2, hw], F.other hT, next_new hT, ?_⟩
    unfold RV
    exact ⟨T, _, rfl, upd_same, F.new hT, by rw [sizeLine_eq]; simp, .cons (RV.mono (next_new hT) _ rx) (.one (RV.mono (next_new hT) _ ry))⟩
  · cases e
theorem SrcL.zip3 {B : Bor} {A : List Addr} {H : Hp} {s t u : Src} {a b c : Addr} (k : SrcL G B A H s a) (k2 : SrcL G B A H t b) (k3 : SrcL G B A H u c) : SrcR G B A H (.zip3 s t u) (Itz3 G.K a b c) := by
  intro B' A' h' H' F m n e
  simp only [Src.len] at e
  split at e
  · rename_i n1 n2 n3 e1 e2 e3
    cases e
    obtain ⟨vs, xs, hl, hat, hq, l, r⟩ := k B' A' h' H' F m n1 e1
    obtain ⟨ws, ys, hl2, hat2, hq2, l2, r2⟩ := k2 B' A' h' H' F m n2 e2
    obtain ⟨us, zs, hl3, hat3, hq3, l3, r3⟩ := k3 B' A' h' H' F m n3 e3
    have lx := r.length
    have ly := r2.length
    have lz := r3.length
    refine ⟨by omega, fun i => ⟨fun hi => ?_, fun hi => ⟨xs, ys, zs, hq, hq2, hq3, by omega⟩⟩⟩
    have hv : vs[i]? = some vs[i] := List.getElem?_eq_getElem (by omega)
    have hw : ws[i]? = some ws[i] := List.getElem?_eq_getElem (by omega)
    have hu : us[i]? = some us[i] := List.getElem?_eq_getElem (by omega)
    obtain ⟨x, ex, rx⟩ := r.get hv
    obtain ⟨y, ey, ry⟩ := r2.get hw
    obtain ⟨z, ez, rz⟩ := r3.get hu
    refine ⟨⟨xs, ys, zs, x, y, z, hq, hq2, hq3, ex, ey, ez⟩, ?_⟩
    rintro z0 H2 ⟨T, x', y', z', rfl, hT, rfl, hx', hy', hz'⟩
    have e1 : x' = x := Option.some.inj ((hx' xs hq).symm.trans ex)
    have e2 : y' = y := Option.some.inj ((hy' ys hq2).symm.trans ey)
    have e3 : z' = z := Option.some.inj ((hz' zs hq3).symm.trans ez)
    subst e1 e2 e3
    refine ⟨.tup [vs[i], ws[i], us[i]], by simp only [Src.at, hat, hv, hat2, hw, hat3, hu], F.other hT, next_new hT, ?_⟩
    unfold RV
    exact ⟨T, _, rfl, upd_same, F.new hT, by rw [sizeLine_eq]; simp, .cons (RV.mono (next_new hT) _ rx) (.cons (RV.mono (next_new hT) _ ry) (.one (RV.mono (next_new hT) _ rz)))⟩
  · cases e
theorem SrcT.zip {B : Bor} {A : List Addr} {H : Hp} {s t : Src} {a b : Addr} (k : SrcT G B A H s a) (k2 : SrcT G B A H t b) : SrcR G B A H (.zip s t) (RZ.ItzT G.K a b) := by
  intro B' A' h' H' F m n e
  simp only [Src.len] at e
  split at e
  · rename_i n1 n2 e1 e2
    cases e
    obtain ⟨vs, xs, hl, hat, hq, l, r⟩ := k B' A' h' H' F m n1 e1
    obtain ⟨ws, ys, hl2, hat2, hq2, l2, r2⟩ := k2 B' A' h' H' F m n2 e2
    have lx := r.length
    have ly := r2.length
    refine ⟨by omega, fun i => ⟨fun hi => ?_, fun hi => ⟨xs, ys, hq, hq2, by omega⟩⟩⟩
    have hv : vs[i]? = some vs[i] := List.getElem?_eq_getElem (by omega)
    have hw : ws[i]? = some ws[i] := List.getElem?_eq_getElem (by omega)
    obtain ⟨x, ex, rx⟩ := r.get hv
    obtain ⟨y, ey, ry⟩ := r2.get hw
    refine ⟨⟨xs, ys, x, y, hq, hq2, ex, ey⟩, ?_⟩
    rintro z H2 ⟨T, x', y', rfl, hT, rfl, hx', hy'⟩
    have e1 : x' = x := Option.some.inj ((hx' xs hq).symm.trans ex)
    have e2 : y' = y := Option.some.inj ((hy' ys hq2).symm.trans ey)
    subst e1 e2
    refine ⟨.tup [vs[i], ws[i]], by simp only [Src.at, hat, hv, hat2, hw], F.other hT, next_new hT, ?_⟩
    unfold RV
    exact ⟨T, _, rfl, upd_same, F.new hT, by rw [sizeLine_eq]; simp, .cons (RV.mono (next_new hT) _ rx) (.one (RV.mono (next_new hT) _ ry))⟩
  · cases e
theorem srcOf_ok {B : Bor} {A : List Addr} {H : Hp} {h : Hm} {v : Val} {x : V} {s : Src} (F : Fits G B A h H) (e : srcOf h v = some s) (r : RV G B A H v x) :
    ∃ a, x = .ref a ∧ ((isTup v = false ∧ (∃ xs, SqL G.K H a xs) ∧ SrcL G B A H s a) ∨ (isTup v = true ∧ (∃ xs, SqT G.K H a xs) ∧ SrcT G B A H s a)) := by
  cases v <;> simp only [srcOf, Option.some.injEq] at e <;> try cases e
  case tup vs =>
    unfold RV at r
    obtain ⟨a, xs, rfl, e, m, l, r⟩ := r
    refine ⟨a, rfl, .inr ⟨rfl, ⟨xs, SqT.of e⟩, fun B' A' h' H' F' n' n en => ?_⟩⟩
    simp only [Src.len, Option.some.injEq] at en
    exact ⟨vs, xs, en, fun i => rfl, SqT.of (n'.o _ _ e m).1, l, RVs.conv n' vs r⟩
  case lst c vs =>
    unfold RV at r
    obtain ⟨a, xs, rfl, e, l, r⟩ := r
    refine ⟨a, rfl, .inl ⟨rfl, ⟨xs, e.sq⟩, fun B' A' h' H' F' n' n en => ?_⟩⟩
    simp only [Src.len, Option.some.injEq] at en
    exact ⟨vs, xs, en, fun i => rfl, (e.conv n').sq, l, RVs.conv n' vs r⟩
  case ref i =>
    unfold RV at r
    obtain ⟨a, rfl, ea⟩ := r
    split at e
    · rename_i vs eo
      cases e
      obtain ⟨xs, q, _, _⟩ := F.ob i _ a eo ea
      refine ⟨a, rfl, .inl ⟨rfl, ⟨xs, SqL.of q⟩, fun B' A' h' H' F' n' n en => ?_⟩⟩
      simp only [Src.len] at en
      split at en
      · rename_i ws eo'
        cases en
        obtain ⟨ys, q', l', r'⟩ := F'.ob i _ a eo' (n'.g _ _ ea)
        exact ⟨ws, ys, rfl, fun j => by simp only [Src.at, eo'], SqL.of q', l', r'⟩
      · cases en
    · cases e
/-- a list or a tuple -/
theorem pi_seq {tg l : Expr} {tl : TE} (hl : PE X l tl) : PI X tg l (fun σ H R => tl σ H fun x H1 => ∃ a, x = .ref a ∧ (((∃ xs, SqL X.K H1 a xs) ∧ R (Itl X.K a) H1) ∨ ((∃ xs, SqT X.K H1 a xs) ∧ R (Itt X.K a) H1))) := by
  refine ⟨fun pins s σ H R I h => ?_⟩
  refine thn (hl.run pins s σ H _ I h) fun v s1 ⟨x, H1, I1, r1, q1⟩ => ?_
  obtain ⟨a, e, q1⟩ := q1
  subst e
  cases r1
  rcases q1 with ⟨⟨xs, hq⟩, q⟩ | ⟨⟨xs, hq⟩, q⟩
  · obtain ⟨its, rv, p, hz⟩ := I1.list hq
    refine wpAny_pyIter_list p.isList ?_
    refine ⟨s1.heap.objs.size, [s1.heap.objs.size], _, _, H1, rfl, I1.kept (t' := s1.toks) fun b o e => Heap.get?_push_of_some _ e, turn_list a _, ⟨_, Heap.get?_push_size _ rfl, rfl, rfl⟩, fun b hb => ?_, q⟩
    have e : b = s1.heap.objs.size := by simpa using hb
    subst e
    exact I1.fpOk (Nat.le_refl _) (I1.hok.fresh (Nat.le_refl _))
  · obtain ⟨its, rv, p, hz⟩ := I1.tuple hq
    refine wpAny_pyIter_tuple (show s1.heap.IsTuple a its.toArray from p) ?_
    refine ⟨s1.heap.objs.size, [s1.heap.objs.size], _, _, H1, rfl, I1.kept (t' := s1.toks) fun b o e => Heap.get?_push_of_some _ e, turn_tuple a _, ⟨_, Heap.get?_push_size _ rfl, rfl, rfl⟩, fun b hb => ?_, q⟩
    have e : b = s1.heap.objs.size := by simpa using hb
    subst e
    exact I1.fpOk (Nat.le_refl _) (I1.hok.fresh (Nat.le_refl _))
theorem pi_imp {tg it : Expr} {t t' : TI} (h : PI X tg it t) (i : ∀ σ H R, t' σ H R → t σ H R) : PI X tg it t' := ⟨fun pins s σ H R I q => h.run pins s σ H R I (i σ H R q)⟩
theorem snd_iSeq {a : C} (sa : Snd P a) : Snd P (.iSeq a) where
  i := by
    intro G cl lv tx X W at_ e tg h
    simp only [chkI] at h
    refine pi_imp (pi_seq (sa.e at_ e h).1) ?_
    intro σ H Z ⟨B, A, h', e, F, re, p⟩
    simp only [evI] at p
    refine ⟨B, A, h', e, F, re, p.bind.imp fun v x h1 A1 H1 F1 n1 r1 p1 => ?_⟩
    unfold R.of at p1
    split at p1
    · rename_i s es
      obtain ⟨a, rfl, q⟩ := srcOf_ok F1 es r1
      refine ⟨a, rfl, ?_⟩
      rw [at_.fa.hK]
      rcases q with ⟨_, hx, k⟩ | ⟨_, hx, k⟩
      · exact .inl ⟨hx, post_ok p1 F1 .refl k.r⟩
      · exact .inr ⟨hx, post_ok p1 F1 .refl k.r⟩
    · exact p1.elim
  e := by intro G cl lv tx X W a es h; simp [chkE] at h
  o := by intro G cl lv tx X W a e h; simp [chkP'] at h
  a := by intro G cl lv tx X W a e h; simp [chkA] at h
/-- ranges -/
theorem src_rng {B : Bor} {A : List Addr} {H : Hp} {f : Nat → Int} {m : Nat} {J : It} (hm : m ≤ 3000000) (g : ∀ i H, i < m → J.go i H) (y : ∀ i H x H', J.yld i H x H' → H' = H ∧ x = .int (f i)) (st : ∀ i H, m ≤ i → J.stop i H) :
    SrcR G B A H (.stat ((List.range m).map fun n => .int (f n))) J := by
  intro B' A' h' H' F k n e
  simp only [Src.len, Option.some.injEq, List.length_map, List.length_range] at e
  subst e
  refine ⟨by rw [sizeLine_eq]; omega, fun i => ⟨fun hi => ⟨g i _ hi, fun x H2 q => ?_⟩, fun hi => st i _ hi⟩⟩
  obtain ⟨rfl, rfl⟩ := y i _ _ _ q
  refine ⟨.int (f i), ?_, F, .refl, rv_int⟩
  simp only [Src.at, List.getElem?_map, List.getElem?_range hi, Option.map_some]
end
end MP
set_option Elab.async false
set_option linter.all false
set_option maxRecDepth 100000
set_option autoImplicit false
namespace MP
open PySem PySem.Spec PyProof.Rows L2
section
variable {P : Pg} {G : Sg} {cl : CallF} {lv : Nat} {tx : Tx} {X : Cx} {W : WX}
theorem evA_len {T : Tab} : ∀ (c : C) {es : List Expr} {e : En} {h h' : Hm} {vs : List Val}, chkA P c tx es = true → evA T cl c e h = .ok vs h' → vs.length = es.length := by
  intro c
  induction c with
  | nil =>
    intro es e h h' vs ch ev
    simp only [chkA] at ch
    split at ch
    · simp only [evA] at ev
      cases ev
      rfl
    · cases ch
  | cons a b iha ihb =>
    intro es e h h' vs ch ev
    simp only [chkA] at ch
    split at ch
    · rename_i x xs
      rw [Bool.and_eq_true] at ch
      simp only [evA] at ev
      cases ea : evE T cl a e h with
      | ok v h1 =>
        rw [ea] at ev
        simp only [R.bind] at ev
        cases eb : evA T cl b e h1 with
        | ok ws h2 =>
          rw [eb] at ev
          cases ev
          rw [List.length_cons, List.length_cons, ihb ch.2 eb]
        | exc k h2 => rw [eb] at ev; cases ev
        | bad => rw [eb] at ev; cases ev
      | exc k h2 => rw [ea] at ev; cases ev
      | bad => rw [ea] at ev; cases ev
    · cases ch
  | _ => intro es e h h' vs ch ev; simp [chkA] at ch
theorem Post.impE {α β : Type} {rl : Rl α β} {B : Bor} {A : List Addr} {H : Hp} {σ : L2.St} {r : R α} {k k' : α → β → Hm → List Addr → Hp → Prop} (p : Post G B W σ rl A H r k)
    (i : ∀ v x h' A' H', r = .ok v h' → Fits G B A' h' H' → Next A H A' H' → rl A' H' v x → k v x h' A' H' → k' v x h' A' H') : Post G B W σ rl A H r k' := by
  cases r with
  | ok v h' => exact fun A' H' x f m q => i v x h' A' H' rfl f m q (p A' H' x f m q)
  | exc c h' => exact p
  | bad => exact p
theorem len1 {α : Type} {l : List α} (h : l.length = 1) : ∃ a, l = [a] := by
  rcases l with _ | ⟨a, _ | ⟨b, r⟩⟩ <;> simp at h
  exact ⟨a, rfl⟩
theorem len2 {α : Type} {l : List α} (h : l.length = 2) : ∃ a b, l = [a, b] := by
  rcases l with _ | ⟨a, _ | ⟨b, _ | ⟨c, r⟩⟩⟩ <;> simp at h
  exact ⟨a, b, rfl⟩
theorem len3 {α : Type} {l : List α} (h : l.length = 3) : ∃ a b c, l = [a, b, c] := by
  rcases l with _ | ⟨a, _ | ⟨b, _ | ⟨c, _ | ⟨d, r⟩⟩⟩⟩ <;> simp at h
  exact ⟨a, b, c, rfl⟩
theorem size_c {i j c : Int} (hi : 0 ≤ i ∧ i ≤ 1000000) (hj : 0 ≤ j ∧ j ≤ 1000000) (hc : 0 < c ∧ c ≤ 1000) : RgC i j c ((j - i + c - 1) / c).toNat := by
  have e1 : (j - i + c - 1) / c = (j - i - 1) / c + 1 := by
    rw [show j - i + c - 1 = (j - i - 1) + 1 * c by omega, Int.add_mul_ediv_right _ _ (by omega)]
  have rs : Builtin.Range.rangeSize i j c = (((j - i + c - 1) / c).toNat : Int) := by
    unfold Builtin.Range.rangeSize
    rw [if_pos hc.1, e1]
    split
    · have := Int.ediv_nonneg (a := j - i - 1) (b := c) (by omega) (by omega)
      omega
    · have : (j - i - 1) / c < 0 := Int.ediv_neg_of_neg_of_pos (by omega) (by omega)
      omega
  refine ⟨by omega, by omega, ?_, rs⟩
  unfold Builtin.Range.small
  rw [rs]
  have hb : (j - i - 1) / c ≤ 1000000 := by
    by_cases z : 0 ≤ j - i - 1
    · have := Int.ediv_le_self c z
      omega
    · have : (j - i - 1) / c < 0 := Int.ediv_neg_of_neg_of_pos (by omega) (by omega)
      omega
  simp only [Builtin.Range.rangeFitsLong, Bool.and_eq_true, Bool.or_eq_true, decide_eq_true_eq, beq_iff_eq]
  rw [e1]
  rw [if_pos hc.1]
  simp only [Bool.and_eq_true, decide_eq_true_eq]
  generalize hq : (((j - i - 1) / c + 1).toNat : Int) = q
  have hq1 : 0 ≤ q := by omega
  have hq2 : q ≤ 1000001 := by omega
  clear hq hb rs e1
  omega
theorem snd_iRng {as : C} (sa : Snd P as) : Snd P (.iRng as) where
  i := by
    intro G cl lv tx X W at_ e tg h
    simp only [chkI] at h
    split at h
    · rename_i x p es pos
      simp only [Bool.and_eq_true, decide_eq_true_eq] at h
      obtain ⟨⟨⟨h1, h2⟩, h3⟩, h4⟩ := h
      subst h2
      obtain ⟨g1, g2, g3⟩ := at_.glob h1
      have hm := at_.fa.blt "range" (by decide +kernel)
      obtain ⟨ha, ns⟩ := sa.a at_ es h4
      have stp : ∀ {Q : List V → Hp → Prop} {Z : It → Hp → Prop} {σ : L2.St} {H : Hp}, tI P G cl W (.iRng as) σ H Z →
          (∀ B A1 h1 H1 vs ms s, Fits G B A1 h1 H1 → RVs G B A1 H1 ms vs → ms.length = es.length → rngM ms = some s → (∀ J, SrcR G B A1 H1 s J → Z J H1) → Q vs H1) → tAs P G cl W as σ H Q := by
        intro Q Z σ H ⟨B, A, h', e, F, re, p⟩ k
        simp only [evI] at p
        refine ⟨B, A, h', e, F, re, p.bind.impE fun v x h1 A1 H1 ee F1 n1 r1 p1 => ?_⟩
        unfold MP.R.of at p1
        split at p1
        · rename_i s es'
          exact k B A1 h1 H1 x v s F1 r1 (evA_len as h4 ee) es' fun J sr => post_ok p1 F1 .refl sr
        · exact p1.elim
      rcases es with _ | ⟨a, _ | ⟨b, _ | ⟨c, _ | ⟨d, r⟩⟩⟩⟩
      · exact absurd h3.1 (by simp)
      · refine pi_imp (pi_range1 g1 hm ha (star_of ns)) fun σ H Z q => stp q ?_
        intro B A1 h1 H1 vs ms s F1 r1 l es' k
        obtain ⟨m, rfl⟩ := len1 l
        unfold rngM at es'
        split at es' <;> rename_i e1
        · cases e1
          split at es'
          · rename_i j c
            cases es'
            obtain ⟨y, ys, rfl, r2, r3⟩ := r1.uncons
            cases r3.ofnil
            unfold RV at r2
            subst r2
            exact ⟨j, rfl, by omega, by omega, k _ (src_rng (f := fun n => ((n : Nat) : Int)) (by omega) (fun _ _ z => z) (fun i H x H' z => ⟨z.1, by rw [z.2, Int.zero_add]⟩) fun _ _ z => z)⟩
          · cases es'
        · cases e1
        · cases e1
        · cases es'
      · refine pi_imp (pi_range2 g1 hm ha (star_of ns) (star_of (star_cons (env := X.env) ns).2)) fun σ H Z q => stp q ?_
        intro B A1 h1 H1 vs ms s F1 r1 l es' k
        obtain ⟨m1, m2, rfl⟩ := len2 l
        unfold rngM at es'
        split at es' <;> rename_i e1
        · cases e1
        · cases e1
          split at es'
          · rename_i i j c
            cases es'
            obtain ⟨y, ys, rfl, r2, r3⟩ := r1.uncons
            obtain ⟨y', ys', rfl, r2', r3'⟩ := r3.uncons
            cases r3'.ofnil
            unfold RV at r2 r2'
            subst r2 r2'
            exact ⟨i, j, rfl, by omega, k _ (src_rng (f := fun n => i + ((n : Nat) : Int)) (by omega) (fun _ _ z => z) (fun i H x H' z => z) fun _ _ z => z)⟩
          · cases es'
        · cases e1
        · cases es'
      · refine pi_imp (pi_range3 g1 hm ha (star_cons ns).1 (back_plain (star_cons (env := X.env) ns).2)) fun σ H Z q => stp q ?_
        intro B A1 h1 H1 vs ms s F1 r1 l es' k
        unfold rngM at es'
        split at es'
        · simp at l
        · simp at l
        · rename_i i j c'
          split at es'
          · rename_i cc
            cases es'
            obtain ⟨y, ys, rfl, r2, r3⟩ := r1.uncons
            obtain ⟨y', ys', rfl, r2', r3'⟩ := r3.uncons
            obtain ⟨y'', ys'', rfl, r2'', r3''⟩ := r3'.uncons
            cases r3''.ofnil
            unfold RV at r2 r2' r2''
            subst r2 r2' r2''
            have hb : ((j - i + c' - 1) / c').toNat ≤ 3000000 := by
              have : (j - i + c' - 1) / c' ≤ j - i + c' - 1 ∨ (j - i + c' - 1) / c' ≤ 0 := by
                by_cases z : 0 ≤ j - i + c' - 1
                · left
                  exact Int.ediv_le_self _ z
                · right
                  exact Int.le_of_lt (Int.ediv_neg_of_neg_of_pos (by omega) (by omega))
              omega
            exact ⟨i, j, c', _, rfl, size_c ⟨cc.1, cc.2.1⟩ ⟨cc.2.2.1, cc.2.2.2.1⟩ cc.2.2.2.2, k _ (src_rng (f := fun n => i + ((n : Nat) : Int) * c') hb (fun _ _ z => z) (fun i H x H' z => z) fun _ _ z => z)⟩
          · cases es'
        · cases es'
      · exact absurd h3.2 (by simp)
    · cases h
  e := by intro G cl lv tx X W a es h; simp [chkE] at h
  o := by intro G cl lv tx X W a e h; simp [chkP'] at h
  a := by intro G cl lv tx X W a e h; simp [chkA] at h
theorem tuple_of {e : Expr} (h : isTuple e = true) : ∃ es k pos, e = .Tuple es k pos := by
  cases e <;> simp [isTuple] at h
  exact ⟨_, _, _, rfl⟩
theorem snd_iEnum {a : C} (sa : Snd P a) : Snd P (.iEnum a) where
  i := by
    intro G cl lv tx X W at_ e tg h
    simp only [chkI] at h
    split at h
    · rename_i x p y pos
      simp only [Bool.and_eq_true, decide_eq_true_eq] at h
      obtain ⟨⟨⟨h1, h2⟩, h3⟩, h4⟩ := h
      subst h2
      obtain ⟨g1, g2, g3⟩ := at_.glob h1
      obtain ⟨es, k, tp, rfl⟩ := tuple_of h3
      have ns : noStar [y] = true := noStar_of (fun w p e => by subst e; rw [chkE_star] at h4; cases h4) rfl
      refine pi_imp (pi_enum g1 (at_.fa.blt "enumerate" (by decide +kernel)) (pa_cons (sa.e at_ y h4).1 pa_nil (star_cons ns).1) (star_of ns)) ?_
      intro σ H Z ⟨B, A, h', e, F, re, p⟩
      simp only [evI] at p
      refine ⟨B, A, h', e, F, re, p.bind.imp fun v x h1 A1 H1 F1 n1 r1 p1 => ?_⟩
      split at p1
      · exact p1.elim
      · rename_i nt
        split at p1
        · rename_i s es
          obtain ⟨a, rfl, q⟩ := srcOf_ok F1 es r1
          rcases q with ⟨_, ⟨xs, hx⟩, k⟩ | ⟨q, _⟩
          · exact ⟨a, xs, rfl, by rw [at_.fa.hK]; exact hx, by rw [at_.fa.hK]; exact post_ok p1 F1 .refl k.enum⟩
          · exact absurd q nt
        · exact p1.elim
    · cases h
  e := by intro G cl lv tx X W a es h; simp [chkE] at h
  o := by intro G cl lv tx X W a e h; simp [chkP'] at h
  a := by intro G cl lv tx X W a e h; simp [chkA] at h
theorem snd_iZip {as : C} (sa : Snd P as) : Snd P (.iZip as) where
  i := by
    intro G cl lv tx X W at_ e tg h
    simp only [chkI] at h
    split at h
    · rename_i x p es pos
      simp only [Bool.and_eq_true, decide_eq_true_eq] at h
      obtain ⟨⟨⟨⟨h1, h2⟩, h3⟩, h4⟩, h5⟩ := h
      subst h2
      obtain ⟨g1, g2, g3⟩ := at_.glob h1
      obtain ⟨ts, k, tp, rfl⟩ := tuple_of h3
      obtain ⟨ha, ns⟩ := sa.a at_ es h5
      rcases h4 with h4 | h4
      rotate_left
      · obtain ⟨e1, e2, e3, rfl⟩ := len3 h4
        refine pi_imp (pi_zip3 g1 (at_.fa.blt "zip" (by decide +kernel)) ha (star_cons ns).1 (back_plain (star_cons (env := X.env) ns).2)) ?_
        intro σ H Z ⟨B, A, h', e, F, re, p⟩
        simp only [evI] at p
        refine ⟨B, A, h', e, F, re, p.bind.impE fun ms vs h1 A1 H1 ee F1 n1 r1 p1 => ?_⟩
        have l := evA_len as h5 ee
        obtain ⟨m1, m2, m3, rfl⟩ := len3 l
        obtain ⟨y, ys, rfl, r2, r3⟩ := RVs.uncons r1
        obtain ⟨y', ys', rfl, r2', r3'⟩ := r3.uncons
        obtain ⟨y'', ys'', rfl, r2'', r3''⟩ := r3'.uncons
        cases r3''.ofnil
        unfold MP.R.of at p1
        split at p1
        · rename_i s es
          simp only [zipM] at es
          split at es
          · cases es
          · rename_i tt
            simp only [Bool.or_eq_true, not_or, Bool.not_eq_true] at tt
            split at es
            · rename_i s1 s2 s3 q1 q2 q3
              cases es
              obtain ⟨a, rfl, k1⟩ := srcOf_ok F1 q1 r2
              obtain ⟨b, rfl, k2⟩ := srcOf_ok F1 q2 r2'
              obtain ⟨c, rfl, k3⟩ := srcOf_ok F1 q3 r2''
              rcases k1 with ⟨z1, ⟨xs, hx⟩, k1⟩ | ⟨z1, _⟩
              · rcases k2 with ⟨z2, ⟨ys, hy⟩, k2⟩ | ⟨z2, _⟩
                · rcases k3 with ⟨z3, ⟨zs, hz⟩, k3⟩ | ⟨z3, _⟩
                  · exact ⟨a, b, c, xs, ys, zs, rfl, by rw [at_.fa.hK]; exact hx, by rw [at_.fa.hK]; exact hy, by rw [at_.fa.hK]; exact hz, by rw [at_.fa.hK]; exact post_ok p1 F1 .refl (k1.zip3 k2 k3)⟩
                  · rw [tt.2] at z3; cases z3
                · rw [tt.1.2] at z2; cases z2
              · rw [tt.1.1] at z1; cases z1
            · cases es
        · exact p1.elim
      obtain ⟨e1, e2, rfl⟩ := len2 h4
      refine pi_imp (RZ.pi_zipA g1 (at_.fa.blt "zip" (by decide +kernel)) ha (star_cons ns).1 (back_plain (star_cons (env := X.env) ns).2)) ?_
      intro σ H Z ⟨B, A, h', e, F, re, p⟩
      simp only [evI] at p
      refine ⟨B, A, h', e, F, re, p.bind.impE fun ms vs h1 A1 H1 ee F1 n1 r1 p1 => ?_⟩
      have l := evA_len as h5 ee
      obtain ⟨m1, m2, rfl⟩ := len2 l
      obtain ⟨y, ys, rfl, r2, r3⟩ := RVs.uncons r1
      obtain ⟨y', ys', rfl, r2', r3'⟩ := r3.uncons
      cases r3'.ofnil
      unfold MP.R.of at p1
      split at p1
      · rename_i s es
        simp only [zipM] at es
        split at es
        · rename_i tt
          split at es
          · rename_i s1 s2 q1 q2
            cases es
            obtain ⟨a, rfl, k1⟩ := srcOf_ok F1 q1 r2
            obtain ⟨b, rfl, k2⟩ := srcOf_ok F1 q2 r2'
            rcases k1 with ⟨z1, ⟨xs, hx⟩, k1⟩ | ⟨z1, ⟨xs, hx⟩, k1⟩ <;> rcases k2 with ⟨z2, ⟨zs, hz⟩, k2⟩ | ⟨z2, ⟨zs, hz⟩, k2⟩
            · exact ⟨a, b, xs, zs, rfl, .inl ⟨by rw [at_.fa.hK]; exact hx, by rw [at_.fa.hK]; exact hz, by rw [at_.fa.hK]; exact post_ok p1 F1 .refl (k1.zip k2)⟩⟩
            · rw [z1, z2] at tt; cases tt
            · rw [z1, z2] at tt; cases tt
            · exact ⟨a, b, xs, zs, rfl, .inr ⟨by rw [at_.fa.hK]; exact hx, by rw [at_.fa.hK]; exact hz, by rw [at_.fa.hK]; exact post_ok p1 F1 .refl (k1.zip k2)⟩⟩
          · cases es
        · cases es
      · exact p1.elim
    · cases h
  e := by intro G cl lv tx X W a es h; simp [chkE] at h
  o := by intro G cl lv tx X W a e h; simp [chkP'] at h
  a := by intro G cl lv tx X W a e h; simp [chkA] at h
end
end MP
set_option Elab.async false
set_option linter.all false
set_option maxRecDepth 100000
set_option autoImplicit false
namespace MP
open PySem PySem.Spec PyProof.Rows L2
section
variable {P : Pg} {G : Sg} {cl : CallF} {lv : Nat} {tx : Tx} {X : Cx} {W : WX}
theorem pg_ex {e : Expr} {r : Bor → TG} (h : ∀ i, PG X e (r i)) : PG X e (fun v σ H Q => ∃ i, r i v σ H Q) := ⟨fun pins s σ H v u Q I r ⟨i, q⟩ => (h i).run pins s σ H v u Q I r q⟩
theorem At.blk (a : At P G cl lv tx X W) {scope : Scope} (hk : scope.kind = .function) (s : Shared) (H : Hp) (C : Addr) (cs : List (Str × Addr)) (fp : List Addr) : At P G cl lv (blkT tx scope) (X.blk s H scope (compEnvC scope cs C X.env) fp) W0 where
  sh := ⟨a.sh.N, a.sh.nd, by show relS scope X.env.scope = relS scope tx.sc; rw [a.sh.sc], hk, a.sh.calm, fun x h => h⟩
  fa := a.fa
  room := a.room
  tk := fun u s' ⟨_, _, _, _, _, _, _, _, _, _, _, _, _, _, _, _, w⟩ => w
  pass := PassesOwn.never
theorem ownOf_ix {N : List Str} {own : List Nat} : ∀ p ∈ ownOf N own, N[p.2]? = some p.1 := by
  intro p hp
  unfold ownOf at hp
  obtain ⟨i, _, hi⟩ := List.mem_filterMap.mp hp
  cases e : N[i]? with
  | none => rw [e] at hi; cases hi
  | some x =>
    rw [e] at hi
    cases hi
    exact e
theorem blk_ok {scope : Scope} {own : List Nat} (a : At P G cl lv tx X W) (h : blkB tx scope own = true) : BlkOk X.N X.env.scope scope (ownOf tx.N own) ∧ (ownOf tx.N own).map (·.2) = own := by
  unfold blkB at h
  simp only [Bool.and_eq_true, decide_eq_true_eq, List.all_eq_true] at h
  obtain ⟨⟨⟨⟨h1, h2⟩, h3⟩, h4⟩, h5⟩ := h
  refine ⟨⟨h1, h2, fun p hp => by rw [a.sh.N]; exact ownOf_ix p hp, fun y hy ey => ?_, fun y hy ey => ?_⟩, h3⟩
  · have := h4 y hy
    rw [if_pos ey] at this
    rw [a.sh.sc]
    simpa using this
  · have := h5 y hy
    rw [if_pos ey] at this
    rw [Bool.or_eq_true] at this
    rcases this with z | z
    · exact .inl (List.contains_iff_mem.mp z)
    · right
      rw [a.sh.N]
      intro m
      rw [List.contains_iff_mem.mpr m] at z
      cases z
theorem wipe_get : ∀ {vs : List Nat} {σ : L2.St} {j : Nat}, j ∉ vs → (wipe σ vs)[j]? = σ[j]?
  | [], _, _, _ => rfl
  | v :: vs, σ, j, h => by
    unfold wipe
    rw [List.getElem?_set_ne (fun e => h (by rw [e]; exact List.mem_cons_self)), wipe_get fun m => h (List.mem_cons_of_mem _ m)]
theorem wipe_in : ∀ {vs : List Nat} {σ : L2.St} {j : Nat}, j ∈ vs → j < σ.length → (wipe σ vs)[j]? = some none
  | [], _, _, h, _ => by cases h
  | v :: vs, σ, j, h, hl => by
    unfold wipe
    by_cases e : v = j
    · subst e
      rw [List.getElem?_set_self (by rw [wipe_length]; exact hl)]
    · rw [List.getElem?_set_ne e, wipe_in ((List.mem_cons.mp h).resolve_left (fun z => e z.symm)) hl]
theorem wipe_same {ns vs : List Nat} {σ σ' : L2.St} (s : Same ns (wipe σ vs) σ') (h : ∀ i ∈ ns, i ∈ vs) : wipe σ' vs = wipe σ vs := by
  have l : σ'.length = σ.length := by rw [s.1, wipe_length]
  apply List.ext_getElem?
  intro j
  by_cases m : j ∈ vs
  · by_cases hl : j < σ.length
    · rw [wipe_in m hl, wipe_in m (by rw [l]; exact hl)]
    · rw [List.getElem?_eq_none (by rw [wipe_length]; omega), List.getElem?_eq_none (by rw [wipe_length]; omega)]
  · rw [wipe_get m, s.2 j (fun z => m (h j z)), wipe_get m]
theorem wipeM_length (e : En) : ∀ vs : List Nat, (wipeM e vs).length = e.length
  | [] => rfl
  | v :: vs => by unfold wipeM; rw [List.length_set, wipeM_length e vs]
theorem RE.wipe {B : Bor} {A : List Addr} {H : Hp} {e : En} {σ : L2.St} (r : RE G B A H e σ) : ∀ vs : List Nat, RE G B A H (wipeM e vs) (L2.wipe σ vs)
  | [] => r
  | v :: vs => by
    have ih := RE.wipe r vs
    unfold wipeM L2.wipe
    refine ⟨by rw [List.length_set, List.length_set]; exact ih.1, fun j w ej => ?_⟩
    by_cases c : v = j
    · subst c
      rw [List.getElem?_set] at ej
      simp at ej
    · rw [List.getElem?_set_ne c] at ej
      rw [List.getElem?_set_ne c]
      exact ih.2 j w ej
theorem Next.poke {A A' : List Addr} {H H' : Hp} {D : Addr} {o : HO} (n : Next A H A' H') (e : H D = none) : Next A H A' (upd H' D o) :=
  ⟨n.pre, fun a u q m => by rw [upd_ne (ne_of_none q e)]; exact n.keep a u q m, fun a u q => by
    rw [upd_ne (ne_of_none q e)]
    exact n.still a u q⟩
/-- a Post that is known to end well -/
theorem post_of_ok {α β : Type} {rl : Rl α β} {B : Bor} {A : List Addr} {H : Hp} {σ : L2.St} {r : R α} {v : α} {h' : Hm} {k : α → β → Hm → List Addr → Hp → Prop} (e : r = .ok v h') (i : ∀ A' H' x, Fits G B A' h' H' → Next A H A' H' → rl A' H' v x → k v x h' A' H') : Post G B W σ rl A H r k := by
  subst e
  exact i
theorem comp_parts {z : Bool} {own : List Nat} {p : Pat} {it cd x : C} (si : Snd P it) (sc : Snd P cd) (sx : Snd P x) (at_ : At P G cl lv tx X W) {elt tg iter : Expr} {ifs : List Expr} {scope : Scope} {pos : Pos}
    (h : chkE P (.comp z own p it cd x) tx (.ListComp elt [⟨tg, iter, ifs, 0⟩] scope pos) = true) :
    ∃ tt : TT, PI X tg iter (tI P G cl W it) ∧ BlkOk X.N X.env.scope scope (ownOf tx.N own) ∧
      (∀ (s : Shared) (H : Hp) (C : Addr) (cs : List (Str × Addr)) (fp : List Addr), PG (X.blk s H scope (compEnvC scope cs C X.env) fp) tg (fun v σ H Q => ∃ B, gP G B p v σ H Q)) ∧
      (∀ (s : Shared) (H : Hp) (C : Addr) (cs : List (Str × Addr)) (fp : List Addr), PTs (X.blk s H scope (compEnvC scope cs C X.env) fp) ifs tt) ∧
      (∀ (s : Shared) (H : Hp) (C : Addr) (cs : List (Str × Addr)) (fp : List Addr), PE (X.blk s H scope (compEnvC scope cs C X.env) fp) elt (tE P G cl W0 x)) ∧
      (∀ v, foldedSetIterable iter X.env v = pure v) ∧
      ∀ σ H Q, tE P G cl W (.comp z own p it cd x) σ H Q → tLc (tI P G cl W it) (fun v σ H Q => ∃ B, gP G B p v σ H Q) tt (tE P G cl W0 x) ((ownOf tx.N own).map (·.2)) σ H Q := by
      simp only [chkE] at h
      simp only [Bool.and_eq_true] at h
      obtain ⟨⟨⟨⟨⟨⟨h1, h2⟩, h3⟩, h4⟩, h5⟩, h6⟩, h7⟩ := h
      obtain ⟨ok, eo⟩ := blk_ok at_ h1
      have hs : ∀ x, foldedSetIterable iter X.env x = pure x := by
        intro v
        cases iter <;> first | rfl | simp [notSet] at h2
      have hg : ∀ (s : Shared) (H : Hp) (C : Addr) (cs : List (Str × Addr)) (fp : List Addr), PG (X.blk s H scope (compEnvC scope cs C X.env) fp) tg (fun v σ H Q => ∃ B, gP G B p v σ H Q) := fun s H C cs fp =>
        pg_ex fun B => pg_P (G := G) (B := B) (X := X.blk s H scope (compEnvC scope cs C X.env) fp) at_.fa.hK (at_.blk (scope := scope) ok.kind s H C cs fp).sh p tg h4
      have hns : ∀ i ∈ slotsP p, i ∈ own := fun i hi => List.contains_iff_mem.mp (List.all_eq_true.mp h5 i hi)
      -- the tests
      have ht : ∃ tt : TT, (∀ (s : Shared) (H : Hp) (C : Addr) (cs : List (Str × Addr)) (fp : List Addr), PTs (X.blk s H scope (compEnvC scope cs C X.env) fp) ifs tt) ∧
          ∀ B A h e σ H (Q : Bool → Hp → Prop) (b : Bool) (h' : Hm), Fits G B A h H → RE G B A H e σ → evE P.T cl cd e h = .ok (.bl b) h' → (∀ A' H', Fits G B A' h' H' → Next A H A' H' → Q b H') → tt σ H Q := by
        split at h6
        · refine ⟨tYes, fun _ _ _ _ _ => pts_nil, fun B A h e σ H Q b h' F re ev k => ?_⟩
          unfold yes at h6
          split at h6
          · simp only [evE] at ev
            cases ev
            exact k A H F .refl
          · cases h6
        · rename_i c
          refine ⟨tB (tE P G cl W0 cd), fun s H C cs fp => pts_one (sc.e (at_.blk (scope := scope) ok.kind s H C cs fp) c h6).2, fun B A h e σ H Q b h' F re ev k => ?_⟩
          refine ⟨B, A, h, e, F, re, post_of_ok ev fun A' H' x F' n' r => ?_⟩
          unfold RV at r
          exact ⟨b, r, k A' H' F' n'⟩
        · cases h6
      obtain ⟨tt, ht, htt⟩ := ht
      have he : ∀ (s : Shared) (H : Hp) (C : Addr) (cs : List (Str × Addr)) (fp : List Addr), PE (X.blk s H scope (compEnvC scope cs C X.env) fp) elt (tE P G cl W0 x) := fun s H C cs fp => (sx.e (at_.blk (scope := scope) ok.kind s H C cs fp) elt h7).1
      refine ⟨tt, si.i at_ iter tg h3, ok, hg, ht, he, hs, ?_⟩
      · rw [eo]
        intro σ H Q ⟨B, A, h, e, F, re, pp⟩
        simp only [evE] at pp
        refine ⟨B, A, h, e, F, re, pp.bind.imp fun s J h1 A1 H1 F1 n1 sr p1 => ?_⟩
        intro D hD
        split at p1
        · rename_i n en
          generalize et : (fun (v : Val) (h : Hm) => (match bindP p v (wipeM e own) with
            | some e' => (evE P.T cl cd e' h).bind fun c h => match c with
              | .bl true => (evE P.T cl x e' h).bind fun w h => R.ok (some w) h
              | .bl false => .ok none h
              | _ => .bad
            | none => .bad : R (Option Val))) = turn at p1
          have cv1 : Conv B A1 H1 (B.and D) A1 (upd H1 D (.lst [])) := .hide hD
          refine ⟨fun i m H => m = n - i ∧ i ≤ n ∧ ∃ A2 h2 acc xs, H D = some (.lst xs) ∧ Fits G (B.and D) A2 h2 H ∧ Conv B A1 H1 (B.and D) A2 H ∧ Next A1 H1 A2 H ∧ RVs G (B.and D) A2 H acc xs ∧ xs.length ≤ i ∧ compM turn s n n [] h1 = compM turn s n (n - i) acc h2, ?_, ?_⟩
          · exact ⟨n, rfl, Nat.zero_le _, A1, h1, [], [], upd_same, F1.hide hD, cv1, next_new hD, RVs.nil, Nat.le_refl _, rfl⟩
          · rintro i m H2 ⟨rfl, hi, A2, h2, acc, xs, eD, F2, cv, n2, ra, hl, E⟩
            rw [E] at p1
            have mD : D ∉ A2 := (F2.bx D (.inr rfl)).1
            have xD : (B.and D).x D := .inr rfl
            have oD := F1.new hD
            cases em : s.len h2 with
            | none =>
              cases hk : n - i with
              | zero => rw [hk] at p1; simp only [compM, em] at p1; exact p1.elim
              | succ k => rw [hk] at p1; simp only [compM, em] at p1; exact p1.elim
            | some m =>
            by_cases c : m = n
            rotate_left
            · cases hk : n - i with
              | zero => rw [hk] at p1; simp only [compM, em, if_neg c] at p1; exact p1.elim
              | succ k => rw [hk] at p1; simp only [compM, em, if_neg c] at p1; exact p1.elim
            subst c
            obtain ⟨ln, sJ⟩ := sr _ _ _ _ F2 cv _ em
            by_cases hin : i = m
            · subst hin
              rw [Nat.sub_self] at p1
              simp only [compM, em, if_true] at p1
              refine .inl ⟨(sJ _).2 (Nat.le_refl _), ?_⟩
              have lx : xs.length ≤ sizeLine := Nat.le_trans hl ln
              simp only [R.bind, mkL] at p1
              cases z with
              | true =>
                rw [if_pos rfl] at p1
                refine post_ok p1 F2.show n2 ?_
                show RV G B A2 H2 (.lst .own acc) (.ref D)
                unfold RV
                exact ⟨D, xs, rfl, ⟨by decide, eD, ⟨mD, oD.2⟩, fun _ => F1.newB hD⟩, lx, RVs.conv .show acc ra⟩
              | false =>
                rw [if_neg Bool.false_ne_true] at p1
                refine post_ok p1 (F2.adopt oD.2 eD lx ra) ?_ ?_
                · obtain ⟨new, e1, e2⟩ := n2.pre
                  refine ⟨⟨new ++ [D], by rw [e1, List.append_assoc], fun a ma => ?_⟩, n2.keep, n2.still⟩
                  rcases List.mem_append.mp ma with ma | ma
                  · exact e2 a ma
                  · rw [List.mem_singleton.mp ma]
                    exact hD
                · show RV G B (A2 ++ [D]) H2 (.ref h2.length) (.ref D)
                  unfold RV
                  exact ⟨D, rfl, by rw [← F2.len]; simp⟩
            · have hlt : i < m := by omega
              obtain ⟨rem, hr⟩ : ∃ rem, m - i = rem + 1 := ⟨m - i - 1, by omega⟩
              have hri : m - (rem + 1) = i := by omega
              rw [hr] at p1 E
              simp only [compM, em, if_true, hri] at p1 E
              obtain ⟨go, yl⟩ := (sJ i).1 hlt
              refine .inr ⟨go, fun H' => ∃ A3 h3 acc' ys, H' D = some (.lst ys) ∧ Fits G (B.and D) A3 h3 H' ∧ Conv B A1 H1 (B.and D) A3 H' ∧ Next A1 H1 A3 H' ∧ RVs G (B.and D) A3 H' acc' ys ∧ ys.length ≤ i + 1 ∧ compM turn s m m [] h1 = compM turn s m rem acc' h3, ?_, ?_⟩
              · rintro H' ⟨A3, h3, acc', ys, q1, q2, q3, q4, q5, q6, q7⟩
                exact ⟨m - (i + 1), by omega, rfl, by omega, A3, h3, acc', ys, q1, q2, q3, q4, q5, q6, by rw [q7, show m - (i + 1) = rem by omega]⟩
              · intro y H' yy
                obtain ⟨v, ev, F3, n3, rv⟩ := yl y H' yy
                rw [ev] at p1 E
                simp only at p1 E
                have eD3 : H' D = some (.lst xs) := n3.keep _ _ eD mD
                have re3 : RE G (B.and D) A2 H' e σ := ((re.mono n1).conv cv).mono n3
                cases et2 : turn v h2 with
                | exc k hx => rw [et2] at p1; exact p1.elim
                | bad => rw [et2] at p1; exact p1.elim
                | ok ov h5 =>
                rw [et2] at E
                skip
                rw [← et] at et2
                simp only at et2
                cases eb : bindP p v (wipeM e own) with
                | none => rw [eb] at et2; cases et2
                | some e' =>
                rw [eb] at et2
                simp only at et2
                cases ec : evE P.T cl cd e' h2 with
                | exc k hx => rw [ec] at et2; cases et2
                | bad => rw [ec] at et2; cases et2
                | ok cv' h4 =>
                rw [ec] at et2
                simp only [R.bind] at et2
                refine ⟨B.and D, A2, h2, wipeM e own, v, F3, re3.wipe own, rv, e', eb, fun σ2 re2 sm => ⟨wipe_same sm hns, ?_⟩⟩
                have step : ∀ {A4 : List Addr} {H4 : Hp}, Next A2 H' A4 H4 → H4 D = some (.lst xs) ∧ Conv B A1 H1 (B.and D) A4 H4 ∧ Next A1 H1 A4 H4 ∧ RVs G (B.and D) A4 H4 acc xs := fun {A4 H4} n4 =>
                  ⟨n4.keep _ _ eD3 mD, cv.trans (.next (n3.trans n4)), n2.trans (n3.trans n4), RVs.mono (n3.trans n4) acc ra⟩
                cases cv' with
                | bl b =>
                  refine htt (B.and D) A2 h2 e' σ2 H' _ b h4 F3 re2 ec fun A4 H4 F4 n4 => ?_
                  cases b with
                  | false =>
                    rw [if_neg Bool.false_ne_true]
                    simp only at et2
                    cases et2
                    obtain ⟨q1, q2, q3, q4⟩ := step n4
                    exact ⟨A4, h5, acc, xs, q1, F4, q2, q3, q4, by omega, E⟩
                  | true =>
                    rw [if_pos rfl]
                    simp only at et2
                    cases ex : evE P.T cl x e' h4 with
                    | exc k hx => rw [ex] at et2; cases et2
                    | bad => rw [ex] at et2; cases et2
                    | ok w h6 =>
                    rw [ex] at et2
                    simp only at et2
                    cases et2
                    refine ⟨B.and D, A4, h4, e', F4, re2.mono n4, post_of_ok ex fun A5 H5 yv F5 n5 ry => ?_⟩
                    obtain ⟨q1, q2, q3, q4⟩ := step (n4.trans n5)
                    refine ⟨xs, q1, by omega, A5, h5, acc ++ [w], xs ++ [yv], upd_same, F5.poke xD, q2.trans (.poke xD), q3.poke hD, RVs.conv (.poke xD) _ (q4.append (.one ry)), by simp; omega, E⟩
                | _ => cases et2
        · exact p1.elim
theorem snd_comp {z : Bool} {own : List Nat} {p : Pat} {it cd x : C} (si : Snd P it) (sc : Snd P cd) (sx : Snd P x) : Snd P (.comp z own p it cd x) where
  e := by
    intro G cl lv tx X W at_ e h
    have h0 := h
    simp only [chkE] at h
    split at h
    · rename_i elt tg iter ifs scope pos
      obtain ⟨tt, hi, ok, hg, ht, he, hs, key⟩ := comp_parts si sc sx at_ h0
      have b : PE X (.ListComp elt [⟨tg, iter, ifs, 0⟩] scope pos) (tE P G cl W (.comp z own p it cd x)) := pe_imp (pe_lc at_.sh.calm (by rw [at_.sh.N]; exact at_.sh.nd) hi ok hg ht he hs) key
      exact ⟨b, pt_simple b rfl⟩
    · cases h
  a := by intro G cl lv tx X W a es h; simp [chkA] at h
  o := by intro G cl lv tx X W a e h; simp [chkP'] at h
  i := by intro G cl lv tx X W a e tg h; simp [chkI] at h
end
end MP
set_option Elab.async false
set_option linter.all false
set_option maxRecDepth 100000
set_option autoImplicit false
namespace MP
open PySem PySem.Spec PyProof.Rows L2
section
variable {P : Pg}
theorem snd_no (c : C) (h1 : ∀ tx e, chkE P c tx e = false) (h2 : ∀ tx e, chkA P c tx e = false) (h3 : ∀ tx e, chkP' P c tx e = false) (h4 : ∀ tx e t, chkI P c tx e t = false) : Snd P c where
  e := by intro G cl lv tx X W a es h; rw [h1] at h; cases h
  a := by intro G cl lv tx X W a e h; rw [h2] at h; cases h
  o := by intro G cl lv tx X W a e h; rw [h3] at h; cases h
  i := by intro G cl lv tx X W a e tg h; rw [h4] at h; cases h
theorem snd_all (c : C) : Snd P c := by
  induction c with
  | var i => exact snd_var i
  | cst v => exact snd_cst v
  | bin z o a b ha hb => exact snd_bin ha hb
  | neg a ha => exact snd_neg ha
  | cmp o a b ha hb => exact snd_cmp ha hb
  | cmp2 o p a b c ha hb hc => exact snd_cmp2 ha hb hc
  | cmp3 o p q a b c d ha hb hc hd => exact snd_cmp3 ha hb hc hd
  | not a ha => exact snd_not ha
  | and a b ha hb => exact snd_and ha hb
  | or a b ha hb => exact snd_or ha hb
  | ite t a b ht ha hb => exact snd_ite ht ha hb
  | idx a i ha hi => exact snd_idx ha hi
  | slc z a lo hi ha hl hh => exact snd_slc ha hl hh
  | rev z a ha => exact snd_rev ha
  | fld a f ha => exact snd_fld ha
  | nil => exact snd_nil
  | cons a b ha hb => exact snd_cons ha hb
  | «omit» => exact snd_omit
  | part a ha => exact snd_part ha
  | tup as ha => exact snd_tup ha
  | lst z as ha => exact snd_lst ha
  | dct ks as => exact snd_dct
  | call z f as ha => exact snd_call ha
  | bi b z as ha => exact snd_bi ha
  | meth m o as ho ha => exact snd_meth ho ha
  | ocall z m o as ho ha => exact snd_ocall ho ha
  | new k as ha => exact snd_new ha
  | comp z own p it cd e hi hc he => exact snd_comp hi hc he
  | isi a t ha => exact snd_isi ha
  | iSeq a ha => exact snd_iSeq ha
  | iRng as ha => exact snd_iRng ha
  | iEnum a ha => exact snd_iEnum ha
  | iZip as ha => exact snd_iZip ha
end
def notComp : Expr → Bool
  | .ListComp .. => false
  | .SetComp .. => false
  | .DictComp .. => false
  | _ => true
def isStar : Expr → Bool
  | .Starred .. => true
  | _ => false
def swNames (sc : Scope) (ts : List Expr) : List Str := ts.filterMap fun
  | .Name id pos => if sc.names.lookup id == some .local && pos.line == (ts.head?.map (·.pos.line)).getD 0 then some id else none
  | _ => none
/-- which names are stored from the right: none if it isn't known -/
def swR (sc : Scope) (tg e : Expr) : Option (Option (List Str)) := match tg, e with
  | .Tuple ts _ _, .Tuple vs _ _ =>
    if (!(ts.length == 2 || ts.length == 3) || vs.length != ts.length || sc.kind != .function) = true then some none
    else if (vs.any fun | .Starred .. => true | _ => false) = true then some none
    else if ((swNames sc ts).length != ts.length || (swNames sc ts).eraseDups.length != (swNames sc ts).length) = true then some none
    else if vs.all (foldedForSure 8) = true then some none
    else if vs.all (constantsAlone 8) = true then none
    else some (some (swNames sc ts))
  | .List .., _ => none
  | _, _ => some none
theorem swR_ok {sc : Scope} {env : PySem.Env} (hs : env.scope = sc) (hk : sc.kind = .function) {tg e : Expr} {r : Option (List Str)} (h : swR sc tg e = some r) : swappedStores [tg] e env = pure r := by
  have bk : env.blockKind = .function := by
    unfold Env.blockKind
    rw [hs, hk]
    rfl
  subst hs
  unfold swR at h
  split at h
  · rename_i ts k1 p1 vs k2 p2
    unfold swappedStores
    simp only [bk, hk] at h ⊢
    have en : (ts.filterMap fun
      | .Name id pos => if env.kindOf id == some .local && pos.line == (ts.head?.map (·.pos.line)).getD 0 then some id else none
      | _ => none) = swNames env.scope ts := rfl
    split at h
    · rename_i c
      cases h
      rw [if_pos c]
    · rename_i c
      rw [if_neg c]
      split at h
      · rename_i c
        cases h
        exact if_pos c
      · rename_i c
        refine (if_neg c).trans ?_
        split at h
        · rename_i c
          cases h
          exact if_pos c
        · rename_i c
          refine (if_neg c).trans ?_
          split at h
          · rename_i c
            cases h
            exact if_pos c
          · rename_i c
            refine (if_neg c).trans ?_
            split at h
            · cases h
            · rename_i c
              cases h
              exact (if_neg c)
  · cases h
  · rename_i h1 h2
    cases h
    cases tg <;> first | rfl | skip
    · exact (h1 _ _ rfl).elim
    · cases e <;> first | rfl | exact (h2 _ _ _ _ _ _ rfl rfl).elim
def lineIs (tg e : Expr) : Bool := tg.pos.line == e.pos.line
/-- a comprehension stored by one row at a plain local name -/
def lcLocal (sc : Scope) (tg e : Expr) : Bool := match tg, e with
  | .Name t pos, .ListComp _ _ s pos' => decide (sc.names.lookup t = some .local) && (pos.line == pos'.line) && !(s.names.any fun (n, k) => n == t && (k == .local || k == .cell))
  | _, _ => false
/-- swapsWith says no -/
def swNo (sc : Scope) (tg e : Expr) : Bool := match e with
  | .ListComp _ _ s pos' => match tg with
    | .Name t pos => !(sc.names.lookup t == some .local && pos.line == pos'.line && !(s.names.any fun (n, k) => n == t && (k == .local || k == .cell)))
    | _ => true
  | .SetComp .. => false
  | .DictComp .. => false
  | _ => true
def tsNames (ts : List Expr) : List Str := ts.filterMap fun
  | .Name x _ => some x
  | _ => none
/-- the names of a pair or triple, its slots -/
def parIs (tx : Tx) : List Nat → List Expr → Bool
  | [], [] => true
  | i :: is, .Name x _ :: ts => decide (tx.N[i]? = some x) && decide (tx.sc.names.lookup x = some .local) && parIs tx is ts
  | _, _ => false
mutual
def chkS (P : Pg) : S → Tx → Stmt → Bool
  | .pass, _, st => match st with
    | .Pass _ => true
    | _ => false
  | .asg p x, tx, st => match st with
    | .Assign [tg] e _ => chkP tx p tg && chkE P x tx e && ((decide (swR tx.sc tg e = some none) && swNo tx.sc tg e) || lcLocal tx.sc tg e)
    | _ => false
  | .par is as, tx, st => match st with
    | .Assign [.Tuple ts k p1] (.Tuple es k2 p2) _ => parIs tx is ts && decide (is.length = ts.length) && decide (is.Nodup) && chkA P as tx es && decide (swR tx.sc (.Tuple ts k p1) (.Tuple es k2 p2) = some (some (tsNames ts)))
    | _ => false
  | .setI o i x, tx, st => match st with
    | .Assign [.Subscript y z _] e _ => chkE P o tx y && chkE P i tx z && plainX z && chkE P x tx e && notComp e
    | _ => false
  | .setF o f x, tx, st => match st with
    | .Assign [.Attribute y n _] e _ => decide (P.flds[f]? = some n) && chkE P o tx y && chkE P x tx e && notComp e
    | _ => false
  | .aug i o x, tx, st => match st with
    | .AugAssign (.Name y _) op e _ => decide (tx.N[i]? = some y) && locB tx y && bopIs o op && decide (o = .add) && chkE P x tx e
    | _ => false
  | .augF o f b x, tx, st => match st with
    | .AugAssign (.Attribute y n _) op e _ => decide (P.flds[f]? = some n) && bopIs b op && decide (b = .add) && chkE P o tx y && chkE P x tx e
    | _ => false
  | .ex x, tx, st => match st with
    | .Expr e _ => chkE P x tx e && notComp e
    | _ => false
  | .ite c a b, tx, st => match st with
    | .If e s1 s2 _ => chkE P c tx e && chkB P a tx s1 && chkB P b tx s2
    | _ => false
  | .loop p it b, tx, st => match st with
    | .For tg iter s [] _ => notSet iter && chkI P it tx iter tg && chkP tx p tg && chkB P b tx s
    | _ => false
  | .whl c b, tx, st => match st with
    | .While e s [] _ => chkE P c tx e && chkB P b tx s
    | _ => false
  | .ret x, tx, st => match st with
    | .Return (some e) _ => chkE P x tx e
    | _ => false
  | .retN, _, st => match st with
    | .Return none _ => true
    | _ => false
  | .rais k, tx, st => match st with
    | .Raise (some (.Call (.Name x _) [.Constant (.str _) _ _] [] _)) none _ => globB tx.sc x && decide (P.excs[k]? = some (some x))
    | _ => false
  | .nil, _, _ => false
  | .seq _ _, _, _ => false
termination_by structural s => s
def chkB (P : Pg) : S → Tx → List Stmt → Bool
  | .nil, _, l => match l with
    | [] => true
    | _ => false
  | .seq a b, tx, l => match l with
    | s :: r => chkS P a tx s && chkB P b tx r
    | _ => false
  | _, _, _ => false
termination_by structural s => s
end
end MP
set_option Elab.async false
set_option linter.all false
set_option maxRecDepth 100000
set_option autoImplicit false
namespace MP
open PySem PySem.Spec PyProof.Rows L2
def PostS (G : Sg) (B : Bor) (W : WX) (D : Ends) (A : List Addr) (H : Hp) (r : RS) : Prop := match r with
  | .nx e h' => ∀ A' H' σ', Fits G B A' h' H' → Next A H A' H' → RE G B A' H' e σ' → D.nx σ' H'
  | .bk e h' => ∀ A' H' σ', Fits G B A' h' H' → Next A H A' H' → RE G B A' H' e σ' → D.bk σ' H'
  | .ct e h' => ∀ A' H' σ', Fits G B A' h' H' → Next A H A' H' → RE G B A' H' e σ' → D.ct σ' H'
  | .rt v h' => ∀ A' H' x, Fits G B A' h' H' → Next A H A' H' → RV G B A' H' v x → D.rt x H'
  | .exc k e h' => ∀ A' H' σ' C, Fits G B A' h' H' → Next A H A' H' → RE G B A' H' e σ' → G.exc k = some C → W (.ref C) none σ' H'
  | .bad => False
section
variable {P : Pg} {G : Sg} {cl : CallF} {lv : Nat} {tx : Tx} {X : Cx} {W : WX} {B : Bor} {A A' : List Addr} {H H' : Hp} {D D' : Ends} {r : RS} {σ : L2.St} {e : En}
theorem PostS.shift (p : PostS G B W D A H r) (n : Next A H A' H') : PostS G B W D A' H' r := by
  cases r with
  | nx e h' => exact fun A2 H2 s f m q => p A2 H2 s f (n.trans m) q
  | bk e h' => exact fun A2 H2 s f m q => p A2 H2 s f (n.trans m) q
  | ct e h' => exact fun A2 H2 s f m q => p A2 H2 s f (n.trans m) q
  | rt v h' => exact fun A2 H2 x f m q => p A2 H2 x f (n.trans m) q
  | exc k e h' => exact fun A2 H2 s C f m q => p A2 H2 s C f (n.trans m) q
  | bad => exact p
theorem PostS.on {α β : Type} {rl : Rl α β} {r : R α} {f : α → Hm → RS} (re : RE G B A H e σ) (p : PostS G B W D A H (RS.on r e f)) : Post G B W σ rl A H r fun v _ h' A' H' => PostS G B W D A' H' (f v h') := by
  cases r with
  | ok v h' => exact fun A' H' x F n _ => PostS.shift (r := f v h') p n
  | exc k h' => exact fun A' H' C F n ec => p A' H' σ C F n (re.mono n) ec
  | bad => exact p
def tS (P : Pg) (G : Sg) (cl : CallF) (W : WX) (s : S) : TS := fun D σ H => ∃ B A h e, Fits G B A h H ∧ RE G B A H e σ ∧ PostS G B W D A H (exS P.T cl s e h)
structure SndS (P : Pg) (s : S) : Prop where
  one : ∀ {G : Sg} {cl : CallF} {lv : Nat} {tx : Tx} {X : Cx} {W : WX}, At P G cl lv tx X W → ∀ st, chkS P s tx st = true → PS X st (tS P G cl W s)
  many : ∀ {G : Sg} {cl : CallF} {lv : Nat} {tx : Tx} {X : Cx} {W : WX}, At P G cl lv tx X W → ∀ l, chkB P s tx l = true → PSs X l (tS P G cl W s)
theorem ps_imp {st : Stmt} {t t' : TS} (h : PS X st t) (i : ∀ D σ H, t' D σ H → t D σ H) : PS X st t' := ⟨fun pins s σ H D I q => h.run pins s σ H D I (i D σ H q)⟩
theorem pss_imp {st : List Stmt} {t t' : TS} (h : PSs X st t) (i : ∀ D σ H, t' D σ H → t D σ H) : PSs X st t' := ⟨fun pins s σ H D I q => h.run pins s σ H D I (i D σ H q)⟩
theorem postS_nx {h' : Hm} (p : PostS G B W D A H (.nx e h')) (F : Fits G B A' h' H') (n : Next A H A' H') (re : RE G B A' H' e σ) : D.nx σ H' := p A' H' σ F n re
theorem sndS_nil : SndS P .nil where
  many := by
    intro G cl lv tx X W at_ l h
    simp only [chkB] at h
    split at h
    · refine pss_imp pss_nil fun D σ H ⟨B, A, h, e, F, re, p⟩ => ?_
      simp only [exS] at p
      exact postS_nx p F .refl re
    · cases h
  one := by intro G cl lv tx X W at_ l h; simp [chkS] at h
theorem sndS_seq {a b : S} (sa : SndS P a) (sb : SndS P b) : SndS P (.seq a b) where
  many := by
    intro G cl lv tx X W at_ l h
    simp only [chkB] at h
    split at h
    · rename_i s r
      rw [Bool.and_eq_true] at h
      refine pss_imp (pss_cons (sa.one at_ s h.1) (sb.many at_ r h.2)) fun D σ H ⟨B, A, h, e, F, re, p⟩ => ?_
      simp only [exS] at p
      refine ⟨B, A, h, e, F, re, ?_⟩
      cases ea : exS P.T cl a e h with
      | nx e' h' =>
        rw [ea] at p
        intro A' H' σ' F' n' re'
        exact ⟨B, A', h', e', F', re', PostS.shift (r := exS P.T cl b e' h') p n'⟩
      | bk e' h' => rw [ea] at p; exact p
      | ct e' h' => rw [ea] at p; exact p
      | rt v h' => rw [ea] at p; exact p
      | exc k e' h' => rw [ea] at p; exact p
      | bad => rw [ea] at p; exact p.elim
    · cases h
  one := by intro G cl lv tx X W at_ l h; simp [chkS] at h
theorem sndS_pass : SndS P .pass where
  one := by
    intro G cl lv tx X W at_ l h
    simp only [chkS] at h
    split at h
    · refine ps_imp ps_pass fun D σ H ⟨B, A, h, e, F, re, p⟩ => ?_
      simp only [exS] at p
      exact postS_nx p F .refl re
    · cases h
  many := by intro G cl lv tx X W at_ l h; simp [chkB] at h
theorem swNo_ok {sc : Scope} {env : PySem.Env} (hs : env.scope = sc) (hk : sc.kind = .function) {tg e : Expr} {n : Nat} (h : swNo sc tg e = true) : swapsWithSole [tg] e n env = pure false := by
  have bk : env.blockKind = .function := by
    unfold Env.blockKind
    rw [hs, hk]
    rfl
  subst hs
  show swapsWith e (some tg) n env = pure false
  unfold swNo at h
  split at h
  · rename_i a g s pos'
    split at h
    · rename_i t pos
      unfold swapsWith
      simp only [bk]
      rw [Bool.not_eq_true'] at h
      show pure _ = pure false
      congr 1
    · rename_i hn
      unfold swapsWith
      simp only
  · cases h
  · cases h
  · rename_i h1 h2 h3
    unfold swapsWith
    split
    · rename_i e1
      split at e1
      · exact (h1 _ _ _ _ rfl).elim
      · exact (h2 _ _ _ _ rfl).elim
      · exact (h3 _ _ _ _ _ rfl).elim
      · cases e1
    · rfl
theorem notComp_ok {env : PySem.Env} {o : Option Expr} {e : Expr} {n : Nat} (h : notComp e = true) : swapsWith e o n env = pure false := by
  cases e <;> first | rfl | simp [notComp] at h
theorem lcLocal_ok {sc : Scope} {env : PySem.Env} (hs : env.scope = sc) (hk : sc.kind = .function) {tg e : Expr} {n : Nat} (h : lcLocal sc tg e = true) : swapsWith e (some tg) n env = pure true ∧ ∃ t pos a g s pos', tg = .Name t pos ∧ e = .ListComp a g s pos' ∧ env.scope.names.lookup t = some .local := by
  have bk : env.blockKind = .function := by
    unfold Env.blockKind
    rw [hs, hk]
    rfl
  subst hs
  unfold lcLocal at h
  split at h
  · rename_i t pos a g s pos'
    simp only [Bool.and_eq_true, decide_eq_true_eq] at h
    refine ⟨?_, t, pos, a, g, s, pos', rfl, rfl, h.1.1⟩
    unfold swapsWith
    simp only [bk]
    show pure _ = pure true
    congr 1
    have e1 : env.kindOf t = some .local := h.1.1
    have e2 : (pos.line == (Expr.ListComp a g s pos').pos.line) = true := h.1.2
    rw [e1, e2, h.2]
    rfl
  · cases h
theorem sndS_asg {p : Pat} {x : C} : SndS P (.asg p x) where
  one := by
    intro G cl lv tx X W at_ st h
    simp only [chkS] at h
    split at h
    · rename_i tg e pos
      simp only [Bool.and_eq_true, Bool.or_eq_true, decide_eq_true_eq] at h
      obtain ⟨⟨h1, h2⟩, h3⟩ := h
      have hg : PG X tg (fun v σ H Q => ∃ B, gP G B p v σ H Q) := pg_ex fun B => pg_P (G := G) (B := B) at_.fa.hK at_.sh p tg h1
      have key : ∀ D σ H, tS P G cl W (.asg p x) D σ H → tAsg (tE P G cl W x) (fun v σ H Q => ∃ B, gP G B p v σ H Q) D σ H := by
        intro D σ H ⟨B, A, h, e, F, re, pp⟩
        simp only [exS] at pp
        refine ⟨B, A, h, e, F, re, (pp.on re).imp fun v x h1 A1 H1 F1 n1 r1 p1 => ?_⟩
        split at p1
        · rename_i e' eb
          exact ⟨B, A1, h1, e, v, F1, re.mono n1, r1, e', eb, fun σ' re' _ => postS_nx p1 F1 .refl re'⟩
        · exact p1.elim
      rcases h3 with ⟨h3, h4⟩ | h3
      · refine ps_imp (ps_asg ((snd_all x).e at_ e h2).1 hg (swNo_ok at_.sh.sc at_.sh.kd h4) (swR_ok at_.sh.sc at_.sh.kd h3) ?_) key
        rw [map_each (notStar_chkP h1)]
        rfl
      · obtain ⟨sw, t, pos', la, lg, lsc, lpos', rfl, hle, hl⟩ := lcLocal_ok (n := pos.line) at_.sh.sc at_.sh.kd h3
        cases p with
        | nm i =>
          cases x with
          | comp z own q it cd y =>
            have h0 := h2
            simp only [chkE] at h2
            split at h2
            · rename_i elt tg iter ifs scope lpos
              obtain ⟨tt, hi, ok, hg', ht, he, hs, kk⟩ := comp_parts (snd_all it) (snd_all cd) (snd_all y) at_ h0
              simp only [chkP, Bool.and_eq_true, decide_eq_true_eq] at h1
              refine ps_imp (ps_setLc at_.sh.calm (by rw [at_.sh.N]; exact at_.sh.nd) (by rw [at_.sh.N]; exact h1.1) hl sw hi ok hg' ht he hs) fun D σ H q => ?_
              refine kk σ H _ ?_
              obtain ⟨B, A, h, e, F, re, pp⟩ := key D σ H q
              refine ⟨B, A, h, e, F, re, pp.imp fun v x h1 A1 H1 F1 n1 r1 ⟨B', A', h', e', w, F', re', r', e'', eb, k⟩ => ?_⟩
              simp only [bindP] at eb
              split at eb
              · rename_i hl
                cases eb
                exact k _ (re'.set hl r') .set
              · cases eb
            · cases h2
          | _ => rw [hle] at h2; simp [chkE, chkC] at h2
        | _ => simp [chkP] at h1
    · cases h
  many := by intro G cl lv tx X W at_ l h; simp [chkB] at h
end
end MP
set_option Elab.async false
set_option linter.all false
set_option maxRecDepth 100000
set_option autoImplicit false
namespace MP
open PySem PySem.Spec PyProof.Rows L2
section
variable {P : Pg} {G : Sg} {cl : CallF} {lv : Nat} {tx : Tx} {X : Cx} {W : WX} {B : Bor} {A A' : List Addr} {H H' : Hp} {D D' : Ends} {r : RS} {σ : L2.St} {e : En}
theorem parIs2 {i j : Nat} {ts : List Expr} (h : parIs tx [i, j] ts = true) : ∃ x px y py, ts = [.Name x px, .Name y py] ∧ tx.N[i]? = some x ∧ tx.N[j]? = some y ∧ tx.sc.names.lookup x = some .local ∧ tx.sc.names.lookup y = some .local := by
  rcases ts with _ | ⟨a, _ | ⟨b, _ | ⟨c, r⟩⟩⟩ <;> try (simp [parIs] at h; done)
  · cases a <;> simp [parIs] at h
  · cases a <;> cases b <;> simp [parIs] at h
    exact ⟨_, _, _, _, rfl, h.1.1, h.2.1, h.1.2, h.2.2⟩
  · cases a <;> cases b <;> simp [parIs] at h
theorem parIs3 {i j k : Nat} {ts : List Expr} (h : parIs tx [i, j, k] ts = true) : ∃ x px y py z pz, ts = [.Name x px, .Name y py, .Name z pz] ∧ tx.N[i]? = some x ∧ tx.N[j]? = some y ∧ tx.N[k]? = some z ∧
    tx.sc.names.lookup x = some .local ∧ tx.sc.names.lookup y = some .local ∧ tx.sc.names.lookup z = some .local := by
  rcases ts with _ | ⟨a, _ | ⟨b, _ | ⟨c, _ | ⟨d, r⟩⟩⟩⟩ <;> try (simp [parIs] at h; done)
  · cases a <;> simp [parIs] at h
  · cases a <;> simp [parIs] at h
    rename_i x px
    cases b <;> simp [parIs] at h
  · cases a <;> simp [parIs] at h
    rename_i x px
    cases b <;> simp [parIs] at h
    rename_i y py
    cases c <;> simp [parIs] at h
    exact ⟨_, _, _, _, _, _, rfl, h.1.1, h.2.1.1, h.2.2.1, h.1.2, h.2.1.2, h.2.2.2⟩
  · cases a <;> simp [parIs] at h
    rename_i x px
    cases b <;> simp [parIs] at h
    rename_i y py
    cases c <;> simp [parIs] at h
theorem swR_len {sc : Scope} {ts vs : List Expr} {k k2 : Nat} {p p2 : Pos} {ns : List Str} (h : swR sc (.Tuple ts k p) (.Tuple vs k2 p2) = some (some ns)) : vs.length = ts.length ∧ (ts.length = 2 ∨ ts.length = 3) := by
  unfold swR at h
  simp only at h
  split at h
  · cases h
  · rename_i c
    simp only [Bool.or_eq_true, Bool.not_eq_true', bne_iff_ne, not_or, Bool.not_eq_false, beq_iff_eq, ne_eq, Decidable.not_not] at c
    exact ⟨c.1.2, by simpa using c.1.1⟩
theorem sndS_par {is : List Nat} {as : C} : SndS P (.par is as) where
  one := by
    intro G cl lv tx X W at_ st h
    simp only [chkS] at h
    split at h
    · rename_i ts k p1 es k2 p2 pos
      simp only [Bool.and_eq_true, decide_eq_true_eq] at h
      obtain ⟨⟨⟨⟨h1, h2⟩, h3⟩, h4⟩, h5⟩ := h
      obtain ⟨hl, hl2⟩ := swR_len h5
      obtain ⟨ha, ns⟩ := (snd_all as).a at_ es h4
      have hw := swR_ok (env := X.env) at_.sh.sc at_.sh.kd h5
      have hN : X.N.Nodup := by rw [at_.sh.N]; exact at_.sh.nd
      rcases hl2 with l2 | l3
      · obtain ⟨i, j, rfl⟩ := len2 (h2.trans l2)
        obtain ⟨x, px, y, py, rfl, q1, q2, q3, q4⟩ := parIs2 h1
        obtain ⟨a, b, rfl⟩ := len2 (hl.trans l2)
        have hij : i ≠ j := by simpa using h3
        refine ps_imp (ps_par (i := i) (j := j) at_.sh.calm hN (by rw [at_.sh.N]; exact q1) (by rw [at_.sh.N]; exact q2) hij (by rw [at_.sh.sc]; exact q3) (by rw [at_.sh.sc]; exact q4) ha hw) ?_
        intro D σ H ⟨B, A, h, e, F, re, pp⟩
        simp only [exS] at pp
        refine ⟨B, A, h, e, F, re, (pp.on re).impE fun ms vs h1 A1 H1 ee F1 n1 r1 p1 => ?_⟩
        have l := evA_len as h4 ee
        obtain ⟨m1, m2, rfl⟩ := len2 l
        obtain ⟨v, vs, rfl, r2, r3⟩ := RVs.uncons r1
        obtain ⟨w, ws, rfl, r4, r5⟩ := r3.uncons
        cases r5.ofnil
        refine ⟨v, w, rfl, ?_⟩
        simp only [setAll] at p1
        split at p1
        · rename_i e' ee'
          split at ee'
          · rename_i l1
            split at ee'
            · rename_i l2
              cases ee'
              exact postS_nx p1 F1 .refl (((re.mono n1).set l1 r2).set l2 r4)
            · cases ee'
          · cases ee'
        · exact p1.elim
      · obtain ⟨i, j, l, rfl⟩ : ∃ i j l, is = [i, j, l] := by
          rcases is with _ | ⟨i, _ | ⟨j, _ | ⟨l, _ | ⟨q, r⟩⟩⟩⟩ <;> (rw [l3] at h2; simp at h2)
          exact ⟨i, j, l, rfl⟩
        obtain ⟨x, px, y, py, z, pz, rfl, q1, q2, q5, q3, q4, q6⟩ := parIs3 h1
        obtain ⟨a, b, c, rfl⟩ : ∃ a b c, es = [a, b, c] := by
          rcases es with _ | ⟨i, _ | ⟨j, _ | ⟨l, _ | ⟨q, r⟩⟩⟩⟩ <;> (rw [l3] at hl; simp at hl)
          exact ⟨i, j, l, rfl⟩
        have hnd : (i ≠ j ∧ i ≠ l) ∧ j ≠ l := by simpa using h3
        refine ps_imp (ps_par3 (i := i) (j := j) (l := l) at_.sh.calm hN (by rw [at_.sh.N]; exact q1) (by rw [at_.sh.N]; exact q2) (by rw [at_.sh.N]; exact q5) hnd.1.1 hnd.1.2 hnd.2 (by rw [at_.sh.sc]; exact q3) (by rw [at_.sh.sc]; exact q4) (by rw [at_.sh.sc]; exact q6) ha hw) ?_
        intro D σ H ⟨B, A, h, e, F, re, pp⟩
        simp only [exS] at pp
        refine ⟨B, A, h, e, F, re, (pp.on re).impE fun ms vs h1 A1 H1 ee F1 n1 r1 p1 => ?_⟩
        have l := evA_len as h4 ee
        obtain ⟨m1, m2, m3, rfl⟩ : ∃ a b c, ms = [a, b, c] := by
          rcases ms with _ | ⟨i, _ | ⟨j, _ | ⟨l, _ | ⟨q, r⟩⟩⟩⟩ <;> simp at l
          exact ⟨i, j, _, rfl⟩
        obtain ⟨v, vs, rfl, r2, r3⟩ := RVs.uncons r1
        obtain ⟨w, ws, rfl, r4, r5⟩ := r3.uncons
        obtain ⟨u, us, rfl, r6, r7⟩ := r5.uncons
        cases r7.ofnil
        refine ⟨v, w, u, rfl, ?_⟩
        simp only [setAll] at p1
        split at p1
        · rename_i e' ee'
          split at ee'
          · rename_i l1
            split at ee'
            · rename_i l2
              split at ee'
              · rename_i l3
                cases ee'
                exact postS_nx p1 F1 .refl ((((re.mono n1).set l1 r2).set l2 r4).set l3 r6)
              · cases ee'
            · cases ee'
          · cases ee'
        · exact p1.elim
    · cases h
  many := by intro G cl lv tx X W at_ l h; simp [chkB] at h
theorem pset_ex {t : Bor → TSet} (h : ∀ i, PSet X (t i)) : PSet X (fun o i v H Q => ∃ b, t b o i v H Q) := fun pins s σ H o i v ov iv u Q I r1 r2 r3 ⟨b, q⟩ => h b pins s σ H o i v ov iv u Q I r1 r2 r3 q
theorem sndS_setI {o i x : C} : SndS P (.setI o i x) where
  one := by
    intro G cl lv tx X W at_ st h
    simp only [chkS] at h
    split at h
    · rename_i y z sp e pos
      simp only [Bool.and_eq_true] at h
      obtain ⟨⟨⟨⟨h1, h2⟩, h3⟩, h4⟩, h5⟩ := h
      have hs : PSet X (fun o i v H Q => ∃ B, rSetI G B o i v H Q) := pset_ex fun B => set_setIM at_.fa.g (un1 at_.room)
      have ha : ∀ v, assign (.Subscript y z sp) X.env v = (do
          let ov ← holding [v] (eval y X.env)
          let iv ← holding [v, ov] (eval z X.env)
          standAt sp
          holding [v, ov, iv] (setItem ov iv v)
          release [v, ov, iv] []) := by
        intro v
        cases z <;> first | rfl | simp [plainX] at h3
      refine ps_imp (ps_asg ((snd_all x).e at_ e h4).1 (pg_sub ((snd_all o).e at_ y h1).1 ((snd_all i).e at_ z h2).1 hs ha) (show swapsWith e (some (.Subscript y z sp)) pos.line X.env = pure false from notComp_ok h5) rfl rfl) ?_
      intro D σ H ⟨B, A, h, e, F, re, pp⟩
      simp only [exS] at pp
      refine ⟨B, A, h, e, F, re, (pp.on re).imp fun v y h1 A1 H1 F1 n1 r1 p1 => ?_⟩
      refine ⟨B, A1, h1, e, F1, re.mono n1, (p1.on (re.mono n1)).imp fun w y' h2 A2 H2 F2 n2 r2 p2 => ?_⟩
      have re2 := (re.mono n1).mono n2
      refine ⟨B, A2, h2, e, F2, re2, (p2.on re2).imp fun u z' h3 A3 H3 F3 n3 r3 p3 => ?_⟩
      split at p3
      · rename_i h4 e4
        exact ⟨B, A3, h3, w, u, v, h4, F3, RV.mono n3 w r2, r3, RV.mono n3 v (RV.mono n2 v r1), e4, fun H' F' n' => postS_nx p3 F' n' ((re2.mono n3).mono n')⟩
      · exact p3.elim
    · cases h
  many := by intro G cl lv tx X W at_ l h; simp [chkB] at h
theorem sndS_setF {o x : C} {f : Nat} : SndS P (.setF o f x) where
  one := by
    intro G cl lv tx X W at_ st h
    simp only [chkS] at h
    split at h
    · rename_i y n sp e pos
      simp only [Bool.and_eq_true, decide_eq_true_eq] at h
      obtain ⟨⟨⟨h1, h2⟩, h4⟩, h5⟩ := h
      refine ps_imp (ps_fld ((snd_all o).e at_ y h2).1 ((snd_all x).e at_ e h4).1 (notComp_ok h5)) ?_
      intro D σ H ⟨B, A, h, e, F, re, pp⟩
      simp only [exS] at pp
      refine ⟨B, A, h, e, F, re, (pp.on re).imp fun v y h1' A1 H1 F1 n1 r1 p1 => ?_⟩
      refine ⟨B, A1, h1', e, F1, re.mono n1, (p1.on (re.mono n1)).imp fun w y' h2 A2 H2 F2 n2 r2 p2 => ?_⟩
      split at p2
      · rename_i h3 e3
        obtain ⟨p, Ca, dx, fv, k, rfl, hp, ec, hl, F3, n3, _⟩ := setFM_ok at_.fa.g F2 (by rw [at_.fa.fl]; exact h1) e3 r2 (RV.mono n2 v r1)
        obtain ⟨c1, c2⟩ := at_.fa.ins k Ca ec
        exact ⟨p, Ca, dx, fv, rfl, hp, c1, c2 n (List.mem_of_getElem? h1), hl, postS_nx p2 F3 n3 (((re.mono n1).mono n2).mono n3)⟩
      · exact p2.elim
    · cases h
  many := by intro G cl lv tx X W at_ l h; simp [chkB] at h
theorem sndS_aug {i : Nat} {o : BOp} {x : C} : SndS P (.aug i o x) where
  one := by
    intro G cl lv tx X W at_ st h
    simp only [chkS] at h
    split at h
    · rename_i y sp op e pos
      simp only [Bool.and_eq_true, decide_eq_true_eq] at h
      obtain ⟨⟨⟨⟨h1, h2⟩, h3⟩, h4⟩, h5⟩ := h
      obtain rfl := bop_of h3
      subst h4
      obtain ⟨l1, l2⟩ := at_.sh.loc h2
      refine ps_imp (ps_aug (i := i) (by rw [at_.sh.N]; exact at_.sh.nd) (by rw [at_.sh.N]; exact h1) l1 ((snd_all x).e at_ e h5).1 ip_add l2) ?_
      intro D σ H ⟨B, A, h, e, F, re, pp⟩
      simp only [exS] at pp
      split at pp
      · rename_i a ea
        obtain ⟨y, ey, ry⟩ := re.2 i _ ea
        unfold RV at ry
        subst ry
        refine ⟨_, ey, B, A, h, e, F, re, (pp.on re).imp fun v y h1' A1 H1 F1 n1 r1 p1 => ?_⟩
        split at p1
        · rename_i b
          split at p1
          · rename_i k ek
            unfold RV at r1
            subst r1
            simp only [binI, Option.some.injEq] at ek
            subst ek
            exact ⟨a, b, rfl, rfl, postS_nx p1 F1 .refl ((re.mono n1).set (List.getElem?_eq_some_iff.mp ea).1 rv_int)⟩
          · exact p1.elim
        · exact p1.elim
      · exact pp.elim
    · cases h
  many := by intro G cl lv tx X W at_ l h; simp [chkB] at h
theorem sndS_ex {x : C} : SndS P (.ex x) where
  one := by
    intro G cl lv tx X W at_ st h
    simp only [chkS] at h
    split at h
    · rename_i e pos
      simp only [Bool.and_eq_true] at h
      refine ps_imp (ps_expr ((snd_all x).e at_ e h.1).1 (notComp_ok h.2)) ?_
      intro D σ H ⟨B, A, h, e, F, re, pp⟩
      simp only [exS] at pp
      exact ⟨B, A, h, e, F, re, (pp.on re).imp fun v y h1' A1 H1 F1 n1 r1 p1 => postS_nx p1 F1 .refl (re.mono n1)⟩
    · cases h
  many := by intro G cl lv tx X W at_ l h; simp [chkB] at h
theorem sndS_ret {x : C} : SndS P (.ret x) where
  one := by
    intro G cl lv tx X W at_ st h
    simp only [chkS] at h
    split at h
    · rename_i e pos
      refine ps_imp (ps_ret ((snd_all x).e at_ e h).1) ?_
      intro D σ H ⟨B, A, h, e, F, re, pp⟩
      simp only [exS] at pp
      exact ⟨B, A, h, e, F, re, (pp.on re).imp fun v y h1' A1 H1 F1 n1 r1 p1 => p1 A1 H1 y F1 .refl r1⟩
    · cases h
  many := by intro G cl lv tx X W at_ l h; simp [chkB] at h
theorem sndS_retN : SndS P .retN where
  one := by
    intro G cl lv tx X W at_ st h
    simp only [chkS] at h
    split at h
    · refine ps_imp ps_retN ?_
      intro D σ H ⟨B, A, h, e, F, re, pp⟩
      simp only [exS] at pp
      exact pp A H _ F .refl rv_non
    · cases h
  many := by intro G cl lv tx X W at_ l h; simp [chkB] at h
theorem sndS_rais {k : Nat} : SndS P (.rais k) where
  one := by
    intro G cl lv tx X W at_ st h
    simp only [chkS] at h
    split at h
    · rename_i x p m j p2 p3 pos
      simp only [Bool.and_eq_true, decide_eq_true_eq] at h
      obtain ⟨g1, g2, g3⟩ := at_.glob h.1
      obtain ⟨Ca, ec, hm⟩ := at_.fa.exn k x h.2
      obtain ⟨Bn, newId, initId, bmB, q1, q2, q3, q4, q5⟩ := at_.fa.exc k Ca ec
      refine ps_imp (ps_raise at_.sh.calm at_.tk (pmk_own q1 q2 hm q3 (raises_own q4 q5) g1 g2)) ?_
      intro D σ H ⟨B, A, h, e, F, re, pp⟩
      simp only [exS] at pp
      exact pp A H σ Ca F .refl re ec
    · cases h
  many := by intro G cl lv tx X W at_ l h; simp [chkB] at h
end
end MP
set_option Elab.async false
set_option linter.all false
set_option maxRecDepth 100000
set_option autoImplicit false
namespace MP
open PySem PySem.Spec PyProof.Rows L2
section
variable {P : Pg} {G : Sg} {cl : CallF} {lv : Nat} {tx : Tx} {X : Cx} {W : WX} {B : Bor} {A A' : List Addr} {H H' : Hp} {D D' : Ends} {r : RS} {σ : L2.St} {e : En}
theorem sndS_augF {o x : C} {f : Nat} {b : BOp} : SndS P (.augF o f b x) where
  one := by
    intro G cl lv tx X W at_ st h
    simp only [chkS] at h
    split at h
    · rename_i y n sp op e pos
      simp only [Bool.and_eq_true, decide_eq_true_eq] at h
      obtain ⟨⟨⟨⟨h1, h3⟩, h4⟩, h5⟩, h6⟩ := h
      obtain rfl := bop_of h3
      subst h4
      refine ps_imp (ps_fldaug ((snd_all o).e at_ y h5).1 ((snd_all x).e at_ e h6).1 in_add) ?_
      intro D σ H ⟨B, A, h, e, F, re, pp⟩
      simp only [exS] at pp
      refine ⟨B, A, h, e, F, re, (pp.on re).imp fun w x0 h1' A1 H1 F1 n1 r1 p1 => ?_⟩
      split at p1
      · rename_i a hh ef
        unfold fldM at ef
        split at ef
        · rename_i k fs vs ei
          split at ef
          · rename_i u eu
            cases ef
            obtain ⟨d, Ca, dx, fv, rfl, hd, ec, rf, rv⟩ := insOf_ok F1 ei r1
            obtain ⟨y, ey, ry⟩ := fld_rel at_.fa.g (by rw [at_.fa.fl]; exact h1) rf rv eu
            unfold RV at ry
            subst ry
            obtain ⟨c1, c2⟩ := at_.fa.ins k Ca ec
            refine ⟨d, Ca, dx, fv, _, rfl, hd, c1, c2 n (List.mem_of_getElem? h1), ey, B, A1, h1', e, F1, re.mono n1, (p1.on (re.mono n1)).imp fun v y' h2 A2 H2 F2 n2 r2 p2 => ?_⟩
            split at p2
            · rename_i b
              split at p2
              · rename_i c ec2
                split at p2
                · rename_i cc
                  split at p2
                  · rename_i h3 e3
                    unfold RV at r2
                    subst r2
                    simp only [binI, Option.some.injEq] at ec2
                    subst ec2
                    obtain ⟨p, Ca', dx', fv', k', ep, hp, ec', hl, F3, n3, kk⟩ := setFM_ok at_.fa.g F2 (by rw [at_.fa.fl]; exact h1) e3 (RV.mono n2 w r1) (rv_int (i := a + b))
                    cases ep
                    have : Ca' = Ca := by
                      have q1 : clsOf h1' w = some k := by simp only [clsOf, ei]
                      rw [q1, kk] at cc
                      cases cc
                      exact Option.some.inj (ec'.symm.trans ec)
                    subst this
                    exact ⟨a, b, rfl, rfl, dx', fv', hp, hl, postS_nx p2 F3 n3 (((re.mono n1).mono n2).mono n3)⟩
                  · exact p2.elim
                · exact p2.elim
              · exact p2.elim
            · exact p2.elim
          · cases ef
        · cases ef
      · exact p1.elim
    · cases h
  many := by intro G cl lv tx X W at_ l h; simp [chkB] at h
theorem sndS_ite {c : C} {a b : S} (sa : SndS P a) (sb : SndS P b) : SndS P (.ite c a b) where
  one := by
    intro G cl lv tx X W at_ st h
    simp only [chkS] at h
    split at h
    · rename_i e s1 s2 pos
      simp only [Bool.and_eq_true] at h
      obtain ⟨⟨h1, h2⟩, h3⟩ := h
      refine ps_imp (ps_if ((snd_all c).e at_ e h1).2 (sa.many at_ s1 h2) (sb.many at_ s2 h3)) ?_
      intro D σ H ⟨B, A, h, e, F, re, pp⟩
      simp only [exS] at pp
      refine ⟨B, A, h, e, F, re, (pp.on re).imp fun v y h1' A1 H1 F1 n1 r1 p1 => ?_⟩
      cases v <;> try exact p1.elim
      rename_i k
      unfold RV at r1
      refine ⟨k, r1, ?_⟩
      cases k with
      | true => exact ⟨B, A1, h1', e, F1, re.mono n1, p1⟩
      | false => exact ⟨B, A1, h1', e, F1, re.mono n1, p1⟩
    · cases h
  many := by intro G cl lv tx X W at_ l h; simp [chkB] at h
theorem sndS_loop {p : Pat} {it : C} {b : S} (sb : SndS P b) : SndS P (.loop p it b) where
  one := by
    intro G cl lv tx X W at_ st h
    simp only [chkS] at h
    split at h
    · rename_i tg iter body pos
      simp only [Bool.and_eq_true] at h
      obtain ⟨⟨⟨h1, h2⟩, h3⟩, h4⟩ := h
      have hs : ∀ x, foldedSetIterable iter X.env x = pure x := by
        intro v
        cases iter <;> first | rfl | simp [notSet] at h1
      have hg : PG X tg (fun v σ H Q => ∃ B, gP G B p v σ H Q) := pg_ex fun B => pg_P (G := G) (B := B) at_.fa.hK at_.sh p tg h3
      refine ps_imp (ps_for at_.pass at_.sh.calm ((snd_all it).i at_ iter tg h2) hg (sb.many at_ body h4) hs) ?_
      intro D σ H ⟨B, A, h, e, F, re, pp⟩
      simp only [exS] at pp
      refine ⟨B, A, h, e, F, re, (pp.on re).imp fun s J h1 A1 H1 F1 n1 sr p1 => ?_⟩
      split at p1
      · rename_i n en
        generalize et : (fun (v : Val) (e : En) (h : Hm) => (match bindP p v e with | some e' => exS P.T cl b e' h | none => .bad : RS)) = turn at p1
        refine ⟨fun i m σ H => m = n - i ∧ i ≤ n ∧ ∃ A2 h2 e2, Fits G B A2 h2 H ∧ Next A1 H1 A2 H ∧ RE G B A2 H e2 σ ∧ PostS G B W D A2 H (forM' turn s n (n - i) e2 h2), ⟨n, rfl, Nat.zero_le _, A1, h1, e, F1, .refl, re.mono n1, p1⟩, ?_⟩
        rintro i m σ2 H2 ⟨rfl, hi, A2, h2, e2, F2, n2, re2, p2⟩
        have em : s.len h2 = some n := by
          cases em : s.len h2 with
          | none => cases hk : n - i <;> rw [hk] at p2 <;> simp only [forM', em] at p2 <;> exact p2.elim
          | some m =>
            by_cases c : m = n
            · rw [c]
            · cases hk : n - i <;> rw [hk] at p2 <;> simp only [forM', em, if_neg c] at p2 <;> exact p2.elim
        obtain ⟨ln, sJ⟩ := sr _ _ _ _ F2 (.next n2) _ em
        by_cases hin : i = n
        · subst hin
          rw [Nat.sub_self] at p2
          simp only [forM', em, if_true] at p2
          exact .inl ⟨(sJ _).2 (Nat.le_refl _), postS_nx p2 F2 .refl re2⟩
        · have hlt : i < n := by omega
          obtain ⟨rem, hr⟩ : ∃ rem, n - i = rem + 1 := ⟨n - i - 1, by omega⟩
          have hri : n - (rem + 1) = i := by omega
          rw [hr] at p2
          simp only [forM', em, if_true, hri] at p2
          obtain ⟨go, yl⟩ := (sJ i).1 hlt
          refine .inr ⟨go, fun σ3 H3 => ∃ A3 h3 e3, Fits G B A3 h3 H3 ∧ Next A1 H1 A3 H3 ∧ RE G B A3 H3 e3 σ3 ∧ PostS G B W D A3 H3 (forM' turn s n rem e3 h3), ?_, ?_⟩
          · rintro σ3 H3 ⟨A3, h3, e3, q1, q2, q3, q4⟩
            exact ⟨n - (i + 1), by omega, rfl, by omega, A3, h3, e3, q1, q2, q3, by rw [show n - (i + 1) = rem by omega]; exact q4⟩
          · intro y H' yy
            obtain ⟨v, ev, F3, n3, rv⟩ := yl y H' yy
            rw [ev] at p2
            simp only at p2
            have et2 : turn v e2 h2 = (match bindP p v e2 with | some e' => exS P.T cl b e' h2 | none => .bad) := by rw [← et]
            cases eb : bindP p v e2 with
            | none => rw [et2, eb] at p2; exact p2.elim
            | some e' =>
            rw [et2, eb] at p2
            simp only at p2
            refine ⟨B, A2, h2, e2, v, F3, re2.mono n3, rv, e', eb, fun σ3 re3 _ => ⟨B, A2, h2, e', F3, re3, ?_⟩⟩
            cases ex : exS P.T cl b e' h2 with
            | nx e4 h4 =>
              rw [ex] at p2
              exact fun A' H' σ' F' n' re' => ⟨A', h4, e4, F', (n2.trans n3).trans n', re', PostS.shift p2 (n3.trans n')⟩
            | ct e4 h4 =>
              rw [ex] at p2
              exact fun A' H' σ' F' n' re' => ⟨A', h4, e4, F', (n2.trans n3).trans n', re', PostS.shift p2 (n3.trans n')⟩
            | bk e4 h4 =>
              rw [ex] at p2
              exact PostS.shift (r := .nx e4 h4) p2 n3
            | rt u h4 =>
              rw [ex] at p2
              exact PostS.shift (r := .rt u h4) p2 n3
            | exc k e4 h4 =>
              rw [ex] at p2
              exact PostS.shift (r := .exc k e4 h4) p2 n3
            | bad => rw [ex] at p2; exact p2.elim
      · exact p1.elim
    · cases h
  many := by intro G cl lv tx X W at_ l h; simp [chkB] at h
theorem sndS_whl {c : C} {b : S} (sb : SndS P b) : SndS P (.whl c b) where
  one := by
    intro G cl lv tx X W at_ st h
    simp only [chkS] at h
    split at h
    · rename_i te body pos
      simp only [Bool.and_eq_true] at h
      refine ps_imp (ps_while at_.pass ((snd_all c).e at_ te h.1).2 (sb.many at_ body h.2)) ?_
      intro D σ H ⟨B, A, h, e, F, re, pp⟩
      simp only [exS] at pp
      refine ⟨fun m σ H => ∃ A2 h2 e2, Fits G B A2 h2 H ∧ RE G B A2 H e2 σ ∧ PostS G B W D A2 H (whlM (evE P.T cl c) (exS P.T cl b) m e2 h2), ⟨fuelW, A, h, e, F, re, pp⟩, ?_⟩
      rintro m σ2 H2 ⟨A2, h2, e2, F2, re2, p2⟩
      cases m with
      | zero => exact p2.elim
      | succ m =>
        simp only [whlM] at p2
        refine ⟨B, A2, h2, e2, F2, re2, ?_⟩
        cases ec : evE P.T cl c e2 h2 with
        | exc k h3 =>
          rw [ec] at p2
          exact fun A' H' C F' n' q => p2 A' H' σ2 C F' n' (re2.mono n') q
        | bad => rw [ec] at p2; exact p2.elim
        | ok v h3 =>
          rw [ec] at p2
          intro A3 H3 y F3 n3 ry
          cases v <;> try exact p2.elim
          rename_i k
          unfold RV at ry
          refine ⟨k, ry, ?_⟩
          cases k with
          | false => exact postS_nx p2 F3 n3 (re2.mono n3)
          | true =>
            rw [if_pos rfl]
            simp only at p2
            refine ⟨fun σ4 H4 => ∃ A4 h4 e4, Fits G B A4 h4 H4 ∧ RE G B A4 H4 e4 σ4 ∧ PostS G B W D A4 H4 (whlM (evE P.T cl c) (exS P.T cl b) m e4 h4), fun σ' H' q => ⟨m, Nat.lt_succ_self m, q⟩, B, A3, h3, e2, F3, re2.mono n3, ?_⟩
            cases ex : exS P.T cl b e2 h3 with
            | nx e4 h4 =>
              rw [ex] at p2
              exact fun A' H' σ' F' n' re' => ⟨A', h4, e4, F', re', PostS.shift p2 (n3.trans n')⟩
            | ct e4 h4 =>
              rw [ex] at p2
              exact fun A' H' σ' F' n' re' => ⟨A', h4, e4, F', re', PostS.shift p2 (n3.trans n')⟩
            | bk e4 h4 =>
              rw [ex] at p2
              exact PostS.shift (r := .nx e4 h4) p2 n3
            | rt u h4 =>
              rw [ex] at p2
              exact PostS.shift (r := .rt u h4) p2 n3
            | exc k e4 h4 =>
              rw [ex] at p2
              exact PostS.shift (r := .exc k e4 h4) p2 n3
            | bad => rw [ex] at p2; exact p2.elim
    · cases h
  many := by intro G cl lv tx X W at_ l h; simp [chkB] at h
theorem sndS_all (s : S) : SndS P s := by
  induction s with
  | nil => exact sndS_nil
  | seq a b ha hb => exact sndS_seq ha hb
  | pass => exact sndS_pass
  | asg p x => exact sndS_asg
  | par is as => exact sndS_par
  | setI o i e => exact sndS_setI
  | setF o f e => exact sndS_setF
  | aug i o e => exact sndS_aug
  | augF x f o e => exact sndS_augF
  | ex e => exact sndS_ex
  | ite c a b ha hb => exact sndS_ite ha hb
  | loop p it b hb => exact sndS_loop hb
  | whl c b hb => exact sndS_whl hb
  | ret e => exact sndS_ret
  | retN => exact sndS_retN
  | rais k => exact sndS_rais
end
end MP
set_option Elab.async false
set_option linter.all false
set_option maxRecDepth 100000
set_option autoImplicit false
namespace MP
open PySem PySem.Spec PyProof.Rows L2
/-- a def of the text, and what it is in M -/
structure Dfn where
  x : Str
  qual : Str
  st : Stmt
  N : List Str
  ps : List Str
  fn : Fn
/-- what is seen of a def's text alone -/
structure Dfn.Ok (P : Pg) (i : Nat) (d : Dfn) : Prop where
  sc : FnScope d.N d.ps (defScope d.st)
  bd : ∀ (K : PySem.W.Frag) (f : Addr) (fd : FuncData), Fun K d.x d.qual d.st f fd → Binds K fd d.ps []
  np : d.fn.np = d.ps.length
  ns : d.fn.ns = d.N.length
  ar : P.ar i = d.ps.length
  ok : chkB P d.fn.body ⟨d.N, defScope d.st, fun _ => true⟩ (defBody d.st) = true
abbrev tab (D : List Dfn) : Nat → Option Fn := fun i => (D[i]?).map (·.fn)
/-- the i-th def stands at f -/
def FunL (D : List Dfn) (K : PySem.W.Frag) (i : Nat) (f : Addr) : Prop := ∃ d fd, D[i]? = some d ∧ Fun K d.x d.qual d.st f fd
/-- what stands behind the top, whatever the calls' depth -/
structure Base (P : Pg) (D : List Dfn) (G : Sg) (K : PySem.W.Frag) (mg : Str → Option Value) : Prop where
  hK : K = G.K
  g : G.Good
  tx : G.txts = P.txts
  fl : G.fld = P.flds
  sep : ∀ x ∈ P.meths, x ∉ P.flds
  blt : ∀ x ∈ blts, mg x = none
  con : ∀ p ∈ P.cons, ∃ t, mg p.1 = some (.int p.2 t)
  fn : ∀ (i : Nat) (x : Str), P.funs[i]? = some (some x) → ∃ f, mg x = some (.ref f) ∧ FunL D K i f
  cls : ∀ (k : Nat) (x : Str), P.clss[k]? = some (some x) → ∃ C, G.cls k = some C ∧ mg x = some (.ref C)
  exn : ∀ (k : Nat) (x : Str), P.excs[k]? = some (some x) → ∃ C, G.exc k = some C ∧ mg x = some (.ref C)
  ins : ∀ (k : Nat) (C : Addr), G.cls k = some C → Cls K C ∧ (∀ n ∈ P.flds, NoAttr K C n)
  mkc : ∀ (k : Nat) (C : Addr), G.cls k = some C → PySem.W.keepIn K (.ref C) = true ∧ PySem.W.makesIn K C = true ∧ match P.T.init k with
    | some i => ∃ f, PySem.W.findIn K (.ref C) "__init__" = some (some (.ref f)) ∧ PySem.W.isFn K (.ref f) = true ∧ FunL D K i f
    | none => PySem.W.findIn K (.ref C) "__init__" = some (some (.builtin "object.__init__"))
  mt : ∀ (k : Nat) (C : Addr) (m : Nat) (n : Str) (i : Nat), G.cls k = some C → P.meths[m]? = some n → P.T.meth k m = some i → ∃ f, Meth K C n f ∧ FunL D K i f
  kin : ∀ (k : Nat) (C : Addr), G.cls k = some C → PySem.W.findIn K (.ref C) "__class__" = some (some (.builtin "object.__class__")) ∧ PySem.W.specialIn K (.builtin "object.__class__") "__get__" = some (some (.builtin "getset_descriptor.__get__")) ∧
    PySem.W.takesIn K (.builtin "object.__class__") = some true ∧ PySem.W.mroIn K C (.type "object") = some true
  kit : ∀ (d : Kd) (t : Ty) (a b : Value), kdV G.cls d = some a → tyV' G.cls t = some b → PySem.W.kitOne K a b = some (kdIs P.T.sup d t)
  exc : ∀ (k : Nat) (C : Addr), G.exc k = some C → ∃ (B newId initId : String) (bmB : List Value), ExcBaseFacts B newId initId bmB ∧ PySem.W.excIn K C bmB newId = true ∧ PySem.W.keepIn K (.ref C) = true ∧
    PySem.W.subIn K (.ref C) (.type "BaseException") = some true ∧ PySem.W.typeIn K (.ref C) = some (.type "type")
def lvl (n : Nat) : Nat := 3 * n
section
variable {P : Pg} {D : List Dfn} {G : Sg} {prog : Program} {w : World} {K : PySem.W.Frag} {mg : Str → Option Value} {base : Heap}
theorem run_len (ok : ∀ (i : Nat) (d : Dfn), D[i]? = some d → Dfn.Ok P i d) (n i : Nat) (ms : List Val) (h : Hm) (l : ms.length ≠ P.ar i) : run P.T (tab D) n i ms h = .bad := by
  cases n with
  | zero => rfl
  | succ n =>
    unfold run
    cases e : D[i]? with
    | none => simp [tab, e]
    | some d =>
      have o := ok i d e
      simp only [tab, e, Option.map_some]
      rw [if_neg]
      intro z
      exact l (by rw [z.1, o.np, o.ar])
theorem Base.facts (b : Base P D G K mg) (ok : ∀ (i : Nat) (d : Dfn), D[i]? = some d → Dfn.Ok P i d) {n : Nat} (ih : ∀ i f, FunL D K i f → FunAt P G (run P.T (tab D) n) (lvl n) prog w K mg base i f) : Facts P G (run P.T (tab D) n) (lvl n) prog w K mg base where
  hK := b.hK
  g := b.g
  tx := b.tx
  fl := b.fl
  sep := b.sep
  len := fun i ms h l => run_len ok n i ms h l
  blt := b.blt
  con := b.con
  fn := fun i x e => by
    obtain ⟨f, h1, h2⟩ := b.fn i x e
    exact ⟨f, h1, ih i f h2⟩
  cls := b.cls
  exn := b.exn
  ins := b.ins
  mkc := fun k C e => by
    obtain ⟨h1, h2, h3⟩ := b.mkc k C e
    refine ⟨h1, h2, ?_⟩
    cases q : P.T.init k with
    | none =>
      rw [q] at h3
      exact h3
    | some i =>
      rw [q] at h3
      obtain ⟨f, g1, g2, g3⟩ := h3
      exact ⟨f, g1, g2, ih i f g3⟩
  mt := fun k C m x i e1 e2 e3 => by
    obtain ⟨f, h1, h2⟩ := b.mt k C m x i e1 e2 e3
    exact ⟨f, h1, ih i f h2⟩
  kin := b.kin
  kit := b.kit
  exc := b.exc
theorem re_start {B : Bor} {A : List Addr} {H : Hp} {N : List Str} : ∀ {ms : List Val} {vs : List V}, RVs G B A H ms vs → RE G B A H (ms.map some ++ List.replicate (N.length - ms.length) none) (L2.start N vs) := by
  intro ms vs r
  have l := r.length
  unfold L2.start
  refine ⟨by simp [l], fun i v e => ?_⟩
  by_cases hi : i < ms.length
  · rw [List.getElem?_append_left (by simpa using hi), List.getElem?_map] at e
    rw [List.getElem?_append_left (by simpa [← l] using hi), List.getElem?_map]
    cases q : ms[i]? with
    | none => rw [q] at e; cases e
    | some u =>
      rw [q] at e
      cases e
      obtain ⟨x, ex, rx⟩ := r.get q
      exact ⟨x, by rw [ex]; rfl, rx⟩
  · rw [List.getElem?_append_right (by simpa using hi), List.getElem?_replicate] at e
    split at e <;> cases e
theorem fun_one (b : Base P D G K mg) (ok : ∀ (i : Nat) (d : Dfn), D[i]? = some d → Dfn.Ok P i d) : ∀ (n i : Nat) (f : Addr) (d : Dfn) (fd : FuncData), D[i]? = some d → Fun K d.x d.qual d.st f fd → FnOk prog w K mg base (L2.CX prog w) (lvl n) f fd d.ps (spM G (run P.T (tab D) n) i d.ps.length) := by
  intro n
  induction n with
  | zero =>
    intro i f d fd e F
    have o := ok i d e
    refine ⟨fun vs H Q E h => ?_, fun A outer s H args us vs Q E _ _ _ _ h => ?_⟩
    · obtain ⟨_, _, _, _, _, _, l, _⟩ := h
      exact l
    · obtain ⟨_, _, _, _, _, _, _, p⟩ := h
      exact p.elim
  | succ n ih =>
    intro i f d fd e F
    have o := ok i d e
    have fa : Facts P G (run P.T (tab D) n) (lvl n) prog w K mg base := b.facts ok fun i f ⟨d, fd, e, F⟩ => ⟨F.kp, fd, d.ps, (ok i d e).bd K f fd F, (ok i d e).ar.symm, ih i f d fd e F⟩
    refine FnOk.mono (j := (lvl n + 2) + 1) (F.okX o.sc (fun vs H Q E h => ?_) fun cdv A outer s H vs Q E hr h => ?_) (by unfold lvl; omega)
    · obtain ⟨_, _, _, _, _, _, l, _⟩ := h
      exact l
    · obtain ⟨B, A', h', ms, Fi, rv, l, p⟩ := h
      have a : At P G (run P.T (tab D) n) (lvl n) ⟨d.N, defScope d.st, fun _ => true⟩ (cxOf (L2.CX prog w) prog w K mg base d.N d.qual (defScope d.st) f cdv A outer s H E) (fun c dd _ H => E c dd H) :=
        { sh := ⟨rfl, o.sc.nd, rfl, o.sc.kind, rfl, fun _ _ => rfl⟩
          fa := fa
          room := hr
          tk := takes_of rfl rfl rfl rfl
          pass := passes_of (X := cxOf (L2.CX prog w) prog w K mg base d.N d.qual (defScope d.st) f cdv A outer s H E) rfl }
      refine ⟨_, (sndS_all d.fn.body).many a _ o.ok, ?_⟩
      have lm : ms.length = d.ps.length := by rw [rv.length, l]
      unfold run at p
      simp only [tab, e, Option.map_some] at p
      rw [if_pos (by
        refine ⟨by rw [o.np, lm], ?_⟩
        rw [o.np, o.ns]
        have := congrArg List.length o.sc.pre
        rw [List.length_take] at this
        omega)] at p
      refine ⟨B, A', h', _, Fi, re_start rv, ?_⟩
      have ens : d.fn.ns - d.fn.np = d.N.length - ms.length := by rw [o.ns, o.np, lm]
      rw [ens] at p
      cases q : exS P.T (run P.T (tab D) n) d.fn.body (ms.map some ++ List.replicate (d.N.length - ms.length) none) h' with
      | nx e2 h2 =>
        rw [q] at p
        exact fun A2 H2 σ2 F2 n2 _ => p A2 H2 .non F2 n2 rv_non
      | rt v h2 =>
        rw [q] at p
        exact fun A2 H2 x F2 n2 r => p A2 H2 x F2 n2 r
      | exc k e2 h2 =>
        rw [q] at p
        exact fun A2 H2 σ2 C F2 n2 _ ec => p A2 H2 C F2 n2 ec
      | bk e2 h2 => rw [q] at p; exact p.elim
      | ct e2 h2 => rw [q] at p; exact p.elim
      | bad => rw [q] at p; exact p.elim
end
/-- the law in M: from its number and the table -/
def Says (P : Pg) (D : List Dfn) (n i : Nat) : Prop := ∀ ns : List Int, ns.length ≤ 63 → (∀ z ∈ ns, Builtin.Int.intBits z ≤ 1048576) → ∃ h, run P.T (tab D) n i [.lst .scr (ns.map .int)] [] = .ok (.bl true) h
/-- law's promise -/
def spLaw (K : PySem.W.Frag) : Sp := fun vs H Q E => ∃ (a : Addr) (ns : List Int), vs = [.ref a] ∧ ns.length ≤ 63 ∧ (∀ z ∈ ns, Builtin.Int.intBits z ≤ 1048576) ∧ Only H ∧ SqL K H a (ns.map V.int) ∧ ∀ H', Q (.bl true) H'
theorem law_fn {P : Pg} {D : List Dfn} {G : Sg} {prog : Program} {w : World} {K : PySem.W.Frag} {mg : Str → Option Value} {base : Heap} (b : Base P D G K mg) (ok : ∀ (i : Nat) (d : Dfn), D[i]? = some d → Dfn.Ok P i d) {n i : Nat} {f : Addr} {d : Dfn} {fd : FuncData}
    (ed : D[i]? = some d) (F : Fun K d.x d.qual d.st f fd) (ep : d.ps.length = 1) (sy : Says P D n i) : FnOk prog w K mg base (L2.CX prog w) (lvl n) f fd d.ps (spLaw K) := by
  refine FnOk.imp (fun_one (prog := prog) (w := w) (base := base) b ok n i f d fd ed F) ?_
  rintro vs H Q E ⟨a, ns, rfl, hl, hb, hO, hS, k⟩
  obtain ⟨h, hr⟩ := sy ns hl hb
  refine ⟨⟨fun _ => False, fun _ => False⟩, [], [], [.lst .scr (ns.map .int)], ⟨rfl, .nil, fun i o a e => by simp at e, fun a z => z.elim, fun a z => z.elim⟩, .one ?_, by rw [ep]; rfl, ?_⟩
  · unfold RV
    refine ⟨a, ns.map V.int, rfl, ?_, by rw [List.length_map, sizeLine_eq]; omega, RVs.ofInts ns⟩
    show (∃ o, _) ∨ _
    rcases hS with (hS | ⟨o, hS⟩) | hS
    · rcases hO a with z | ⟨o, xs, z⟩
      · rw [z] at hS; cases hS
      · rw [z] at hS; cases hS
    · exact .inl ⟨o, hS, by simp, fun z => z⟩
    · right
      rw [← b.hK]
      exact hS
  · rw [hr]
    intro A' H' x _ _ r
    unfold RV at r
    subst r
    exact k H'
/-- the law's end -/
theorem law_end {l : PySem.W.OpenLaw} {q : Program} {loose : List Str} {XP : (Str → Option Value) → Heap → Prop} {YP : World → Heap → Prop} {d : DefRec} {K : Params → PySem.W.Frag} {n : Nat} (hn : l.most = some 63) (hdf : d.params.defaults = []) (hr : Room (lvl n) callerA)
    (hY : ∀ (w : World) (h : Heap), YP w h → (K w.params).In h)
    (F : ∀ (w : World) (mg : Str → Option Value) (fa : Addr) (h : Heap), (K w.params).In h → h.Ns mainGlobals mg → mg d.name = some (.ref fa) →
      ∃ (x : Str) (fd : FuncData), x = "_law_script" ∧ (∀ (s : Shared) (u : Value), BindsTo s fd ⟨[u], []⟩ [(x, u)]) ∧ ∀ base : Heap, (K w.params).In base → base.Ns mainGlobals mg → FnOk l.prog w (K w.params) mg base (L2.CX l.prog w) (lvl n) fa fd [x] (spLaw (K w.params))) :
    PySem.W.WalkO q loose XP YP l.row.toRowW d [] (fun f vs => PySem.call f vs) := by
  refine L2.walk_ofB (n := 63) (k := lvl n) (x := "_law_script") (CX := fun w => L2.CX l.prog w) (sp := fun w => spLaw (K w.params)) hn (by rw [sizeLine_eq]; omega) hdf hr hY (fun w mg fa h KX G hm => ?_) (fun _ H a ns hl hb hO hS => ⟨a, ns, rfl, hl, hb, hO, hS, fun _ => rfl⟩) fun w H s e s' z => ?_
  · obtain ⟨x, fd, rfl, h1, h2⟩ := F w mg fa h KX G hm
    exact ⟨fd, h1, h2⟩
  · obtain ⟨_, _, _, _, _, _, _, _, _, _, _, _, z⟩ := z
    exact z.elim
end MP
set_option Elab.async false
set_option linter.all false
set_option maxRecDepth 100000
set_option autoImplicit false
namespace MP
/-- 0 -/
def c_day_of : Fn := ⟨3, 4, (.seq (.ite (.cmp .eq (.idx (.var 0) (.cst (.int 0))) (.cst (.str 0))) (.seq (.ret (.idx (.var 0) (.cst (.int 1))))
    .nil) .nil)
    (.seq (.asg (.nm 3) (.ite (.cmp .eq (.idx (.var 0) (.cst (.int 0))) (.cst (.str 1))) (.idx (.var 1) (.idx (.var 0) (.cst (.int 1)))) (.idx (.var 2) (.idx (.var 0) (.cst (.int 1))))))
    (.seq (.ret (.ite (.cmp .is (.var 3) (.cst .non)) (.cst .non) (.bin true .add (.var 3) (.idx (.var 0) (.cst (.int 2))))))
    .nil)))⟩
/-- 1 -/
def c_dues_of : Fn := ⟨2, 7, (.seq (.asg (.nm 2) (.lst false .nil))
    (.seq (.loop (.tp (.cons (.nm 3) (.cons (.nm 4) .nil))) (.iSeq (.var 0)) (.seq (.asg (.nm 5) (.comp true [6] (.nm 6) (.iSeq (.var 4)) (.cst (.bl true)) (.call .pur 0 (.cons (.var 6) (.cons (.var 1) (.cons (.var 2) .nil))))))
    (.seq (.ex (.meth .append (.var 2) (.cons (.ite (.cmp .inn (.cst .non) (.var 5)) (.cst .non) (.bi .max1 true (.cons (.var 5) .nil))) .nil)))
    .nil)))
    (.seq (.ret (.var 2))
    .nil)))⟩
/-- 2 -/
def c_is_whole : Fn := ⟨1, 1, (.seq (.ret (.and (.isi (.var 0) .int) (.not (.isi (.var 0) .bool))))
    .nil)⟩
/-- 3 -/
def c_is_between : Fn := ⟨3, 3, (.seq (.ret (.and (.call .pur 2 (.cons (.var 0) .nil)) (.cmp2 .le .le (.var 1) (.var 0) (.var 2))))
    .nil)⟩
/-- 4 -/
def c_are_heirs : Fn := ⟨1, 2, (.seq (.ite (.or (.not (.isi (.var 0) .list)) (.not (.cmp2 .le .le (.cst (.int 1)) (.bi .len true (.cons (.var 0) .nil)) (.cst (.int 3))))) (.seq (.ret (.cst (.bl false)))
    .nil) .nil)
    (.seq (.ret (.and (.bi .all true (.cons (.comp true [1] (.nm 1) (.iSeq (.var 0)) (.cst (.bl true)) (.call .pur 3 (.cons (.var 1) (.cons (.cst (.int 0)) (.cons (.cst (.int 9)) .nil))))) .nil)) (.cmp .eq (.bi .lenSet true (.cons (.var 0) .nil)) (.bi .len true (.cons (.var 0) .nil)))))
    .nil))⟩
/-- 5 -/
def c_is_term : Fn := ⟨2, 2, (.seq (.ite (.or (.not (.isi (.var 0) .tuple)) (.cmp .lt (.bi .len true (.cons (.var 0) .nil)) (.cst (.int 2)))) (.seq (.ret (.cst (.bl false)))
    .nil) .nil)
    (.seq (.ite (.cmp .eq (.idx (.var 0) (.cst (.int 0))) (.cst (.str 0))) (.seq (.ret (.and (.cmp .eq (.bi .len true (.cons (.var 0) .nil)) (.cst (.int 2))) (.call .pur 3 (.cons (.idx (.var 0) (.cst (.int 1))) (.cons (.cst (.int 0)) (.cons (.cst (.int 60)) .nil))))))
    .nil) .nil)
    (.seq (.ite (.or (.cmp .ne (.bi .len true (.cons (.var 0) .nil)) (.cst (.int 3))) (.not (.call .pur 3 (.cons (.idx (.var 0) (.cst (.int 2))) (.cons (.cst (.int 0)) (.cons (.cst (.int 20)) .nil)))))) (.seq (.ret (.cst (.bl false)))
    .nil) .nil)
    (.seq (.ite (.cmp .eq (.idx (.var 0) (.cst (.int 0))) (.cst (.str 1))) (.seq (.ret (.call .pur 3 (.cons (.idx (.var 0) (.cst (.int 1))) (.cons (.cst (.int 0)) (.cons (.bin true .sub (.cst (.int 6)) (.cst (.int 1))) .nil)))))
    .nil) .nil)
    (.seq (.ret (.and (.cmp .eq (.idx (.var 0) (.cst (.int 0))) (.cst (.str 2))) (.call .pur 3 (.cons (.idx (.var 0) (.cst (.int 1))) (.cons (.cst (.int 0)) (.cons (.bin true .sub (.var 1) (.cst (.int 1))) .nil))))))
    .nil)))))⟩
/-- 6 -/
def c_is_letter : Fn := ⟨2, 3, (.seq (.ite (.or (.not (.isi (.var 0) .tuple)) (.or (.cmp .ne (.bi .len true (.cons (.var 0) .nil)) (.cst (.int 2))) (.not (.call .pur 4 (.cons (.idx (.var 0) (.cst (.int 0))) .nil))))) (.seq (.ret (.cst (.bl false)))
    .nil) .nil)
    (.seq (.ite (.or (.not (.isi (.idx (.var 0) (.cst (.int 1))) .list)) (.not (.cmp2 .le .le (.cst (.int 1)) (.bi .len true (.cons (.idx (.var 0) (.cst (.int 1))) .nil)) (.cst (.int 4))))) (.seq (.ret (.cst (.bl false)))
    .nil) .nil)
    (.seq (.ret (.bi .all true (.cons (.comp true [2] (.nm 2) (.iSeq (.idx (.var 0) (.cst (.int 1)))) (.cst (.bl true)) (.call .pur 5 (.cons (.var 2) (.cons (.var 1) .nil)))) .nil)))
    .nil)))⟩
/-- 7 -/
def c_check_letters : Fn := ⟨1, 3, (.seq (.ite (.or (.not (.isi (.var 0) .list)) (.not (.cmp2 .le .le (.cst (.int 1)) (.bi .len true (.cons (.var 0) .nil)) (.cst (.int 40))))) (.seq (.rais 1)
    .nil) .nil)
    (.seq (.ite (.not (.bi .all true (.cons (.comp true [1, 2] (.tp (.cons (.nm 1) (.cons (.nm 2) .nil))) (.iEnum (.var 0)) (.cst (.bl true)) (.call .pur 6 (.cons (.var 2) (.cons (.var 1) .nil)))) .nil))) (.seq (.rais 1)
    .nil) .nil)
    .nil))⟩
/-- 8 -/
def c_are_days : Fn := ⟨2, 3, (.seq (.ite (.or (.not (.isi (.var 0) .list)) (.cmp .ne (.bi .len true (.cons (.var 0) .nil)) (.var 1))) (.seq (.ret (.cst (.bl false)))
    .nil) .nil)
    (.seq (.ret (.bi .all true (.cons (.comp true [2] (.nm 2) (.iSeq (.var 0)) (.cst (.bl true)) (.or (.cmp .is (.var 2) (.cst .non)) (.call .pur 3 (.cons (.var 2) (.cons (.cst (.int 0)) (.cons (.cst (.int 60)) .nil)))))) .nil)))
    .nil))⟩
/-- 9 -/
def c_check_days : Fn := ⟨2, 2, (.seq (.ex (.call .pur 7 (.cons (.var 0) .nil)))
    (.seq (.ite (.not (.call .pur 8 (.cons (.var 1) (.cons (.cst (.int 6)) .nil)))) (.seq (.rais 2)
    .nil) .nil)
    .nil))⟩
/-- 10 -/
def c_due_days : Fn := ⟨2, 2, (.seq (.ex (.call .pur 9 (.cons (.var 0) (.cons (.var 1) .nil))))
    (.seq (.ret (.call .top 1 (.cons (.var 0) (.cons (.var 1) .nil))))
    .nil))⟩
/-- 11 -/
def c_chain_to : Fn := ⟨3, 9, (.seq (.asg (.tp (.cons (.nm 3) (.cons (.nm 4) .nil))) (.tup (.cons (.lst false .nil) (.cons (.call .pur 1 (.cons (.var 0) (.cons (.var 1) .nil))) .nil))))
    (.seq (.whl (.cst (.bl true)) (.seq (.asg (.nm 5) (.idx (.idx (.var 0) (.var 2)) (.cst (.int 1))))
    (.seq (.asg (.nm 6) (.comp true [7] (.nm 7) (.iSeq (.var 5)) (.cst (.bl true)) (.call .pur 0 (.cons (.var 7) (.cons (.var 1) (.cons (.var 4) .nil))))))
    (.seq (.asg (.nm 8) (.ite (.cmp .inn (.cst .non) (.var 6)) (.meth .index (.var 6) (.cons (.cst .non) .nil)) (.meth .index (.var 6) (.cons (.bi .max1 true (.cons (.var 6) .nil)) .nil))))
    (.seq (.ex (.meth .append (.var 3) (.cons (.tup (.cons (.var 2) (.cons (.var 8) .nil))) .nil)))
    (.seq (.ite (.cmp .ne (.idx (.idx (.var 5) (.var 8)) (.cst (.int 0))) (.cst (.str 2))) (.seq (.ret (.var 3))
    .nil) .nil)
    (.seq (.asg (.nm 2) (.idx (.idx (.var 5) (.var 8)) (.cst (.int 1))))
    .nil)))))))
    .nil))⟩
/-- 12 -/
def c_chain_day : Fn := ⟨4, 9, (.seq (.asg (.nm 4) (.cst (.int 0)))
    (.seq (.loop (.tp (.cons (.nm 5) (.cons (.tp (.cons (.nm 6) (.cons (.nm 7) .nil))) .nil))) (.iEnum (.var 3)) (.seq (.ite (.or (.cmp .ne (.var 6) (.var 2)) (.not (.cmp2 .le .lt (.cst (.int 0)) (.var 7) (.bi .len true (.cons (.idx (.idx (.var 0) (.var 6)) (.cst (.int 1))) .nil))))) (.seq (.ret (.neg (.cst (.int 1))))
    .nil) .nil)
    (.seq (.asg (.nm 8) (.idx (.idx (.idx (.var 0) (.var 6)) (.cst (.int 1))) (.var 7)))
    (.seq (.ite (.cmp .ne (.cmp .eq (.idx (.var 8) (.cst (.int 0))) (.cst (.str 2))) (.cmp .lt (.bin true .add (.var 5) (.cst (.int 1))) (.bi .len true (.cons (.var 3) .nil)))) (.seq (.ret (.neg (.cst (.int 1))))
    .nil) .nil)
    (.seq (.ite (.cmp .eq (.idx (.var 8) (.cst (.int 0))) (.cst (.str 0))) (.seq (.ret (.bin true .add (.idx (.var 8) (.cst (.int 1))) (.var 4)))
    .nil) .nil)
    (.seq (.ite (.cmp .eq (.idx (.var 8) (.cst (.int 0))) (.cst (.str 1))) (.seq (.ret (.ite (.cmp .is (.idx (.var 1) (.idx (.var 8) (.cst (.int 1)))) (.cst .non)) (.cst .non) (.bin true .add (.bin true .add (.idx (.var 1) (.idx (.var 8) (.cst (.int 1)))) (.idx (.var 8) (.cst (.int 2)))) (.var 4))))
    .nil) .nil)
    (.seq (.aug 4 .add (.idx (.var 8) (.cst (.int 2))))
    (.seq (.asg (.nm 2) (.idx (.var 8) (.cst (.int 1))))
    .nil))))))))
    (.seq (.ret (.neg (.cst (.int 1))))
    .nil)))⟩
/-- 13 -/
def c_ends_of : Fn := ⟨2, 3, (.seq (.ret (.comp false [2] (.nm 2) (.iSeq (.var 0)) (.cst (.bl true)) (.ite (.cmp .is (.var 2) (.cst .non)) (.cst .non) (.idx (.var 2) (.bi .toInt true (.cons (.var 1) .nil))))))
    .nil)⟩
/-- 14 -/
def c_is_ahead : Fn := ⟨3, 3, (.seq (.ret (.cmp .lt (.tup (.cons (.idx (.var 0) (.var 1)) (.cons (.var 1) .nil))) (.tup (.cons (.idx (.var 0) (.var 2)) (.cons (.var 2) .nil)))))
    .nil)⟩
/-- 15 -/
def c_lists_to_try : Fn := ⟨1, 5, (.seq (.asg (.nm 1) (.lst false (.cons (.call .pur 13 (.cons (.var 0) (.cons (.cst (.bl false)) .nil))) .nil)))
    (.seq (.loop (.tp (.cons (.nm 2) (.cons (.nm 3) .nil))) (.iEnum (.var 0)) (.seq (.ite (.cmp .isn (.var 3) (.cst .non)) (.seq (.asg (.nm 4) (.call .top 13 (.cons (.var 0) (.cons (.cst (.bl false)) .nil))))
    (.seq (.setI (.var 4) (.var 2) (.idx (.var 3) (.cst (.int 1))))
    (.seq (.ex (.meth .append (.var 1) (.cons (.var 4) .nil)))
    .nil))) .nil)
    .nil))
    (.seq (.ret (.var 1))
    .nil)))⟩
/-- 16 -/
def c_why : Fn := ⟨3, 4, (.seq (.ex (.call .pur 9 (.cons (.var 0) (.cons (.var 1) .nil))))
    (.seq (.ite (.not (.call .pur 3 (.cons (.var 2) (.cons (.cst (.int 0)) (.cons (.bin true .sub (.bi .len true (.cons (.var 0) .nil)) (.cst (.int 1))) .nil))))) (.seq (.rais 3)
    .nil) .nil)
    (.seq (.asg (.nm 3) (.call .pur 11 (.cons (.var 0) (.cons (.var 1) (.cons (.var 2) .nil)))))
    (.seq (.ret (.ite (.cmp .is (.idx (.call .pur 1 (.cons (.var 0) (.cons (.var 1) .nil))) (.var 2)) (.cst .non)) (.new 2 (.cons (.var 3) .nil)) (.new 1 (.cons (.var 3) .nil))))
    .nil))))⟩
/-- 17 -/
def c_Why___init__ : Fn := ⟨2, 2, (.seq (.setF (.var 0) 0 (.bi .list false (.cons (.var 1) .nil)))
    .nil)⟩
/-- 18 -/
def c_Why_shows : Fn := ⟨4, 5, (.seq (.asg (.nm 4) (.idx (.call .pur 1 (.cons (.var 1) (.cons (.var 2) .nil))) (.var 3)))
    (.seq (.ret (.and (.cmp .isn (.var 4) (.cst .non)) (.cmp .eq (.call .pur 12 (.cons (.var 1) (.cons (.var 2) (.cons (.var 3) (.cons (.fld (.var 0) 0) .nil))))) (.var 4))))
    .nil))⟩
/-- 19 -/
def c_Waits___init__ : Fn := ⟨2, 2, (.seq (.setF (.var 0) 0 (.bi .list false (.cons (.var 1) .nil)))
    .nil)⟩
/-- 20 -/
def c_Waits_shows : Fn := ⟨4, 4, (.seq (.ret (.cmp .is (.call .pur 12 (.cons (.var 1) (.cons (.var 2) (.cons (.var 3) (.cons (.fld (.var 0) 0) .nil))))) (.cst .non)))
    .nil)⟩
/-- 21 -/
def c_Ahead_shows : Fn := ⟨5, 6, (.seq (.ret (.bi .all true (.cons (.comp true [5] (.nm 5) (.iSeq (.call .pur 15 (.cons (.var 2) .nil))) (.cst (.bl true)) (.call .pur 14 (.cons (.call .pur 1 (.cons (.var 1) (.cons (.var 5) .nil))) (.cons (.var 3) (.cons (.var 4) .nil))))) .nil)))
    .nil)⟩
/-- 22 -/
def c_Perhaps___init__ : Fn := ⟨2, 2, (.seq (.setF (.var 0) 1 (.bi .list false (.cons (.var 1) .nil)))
    .nil)⟩
/-- 23 -/
def c_Perhaps_shows : Fn := ⟨5, 7, (.seq (.ite (.cmp .ne (.bi .len true (.cons (.fld (.var 0) 1) .nil)) (.bi .len true (.cons (.var 2) .nil))) (.seq (.ret (.cst (.bl false)))
    .nil) .nil)
    (.seq (.loop (.tp (.cons (.nm 5) (.cons (.nm 6) .nil))) (.iZip (.cons (.var 2) (.cons (.fld (.var 0) 1) .nil))) (.seq (.ite (.or (.cmp .ne (.cmp .is (.var 5) (.cst .non)) (.cmp .is (.var 6) (.cst .non))) (.and (.cmp .isn (.var 5) (.cst .non)) (.not (.cmp2 .le .le (.idx (.var 5) (.cst (.int 0))) (.var 6) (.idx (.var 5) (.cst (.int 1))))))) (.seq (.ret (.cst (.bl false)))
    .nil) .nil)
    .nil))
    (.seq (.ret (.not (.call .pur 14 (.cons (.call .pur 1 (.cons (.var 1) (.cons (.fld (.var 0) 1) .nil))) (.cons (.var 3) (.cons (.var 4) .nil))))))
    .nil)))⟩
/-- 24 -/
def c_heir_of : Fn := ⟨3, 4, (.seq (.loop (.nm 3) (.iSeq (.var 0)) (.seq (.ite (.or (.cmp .is (.idx (.var 1) (.var 3)) (.cst .non)) (.cmp .gt (.idx (.var 1) (.var 3)) (.var 2))) (.seq (.ret (.var 3))
    .nil) .nil)
    .nil))
    (.seq (.ret (.cst .non))
    .nil))⟩
/-- 25 -/
def c_check_gone : Fn := ⟨1, 1, (.seq (.ite (.not (.call .pur 8 (.cons (.var 0) (.cons (.bin true .add (.cst (.int 9)) (.cst (.int 1))) .nil)))) (.seq (.rais 4)
    .nil) .nil)
    .nil)⟩
/-- 26 -/
def c_handed_out : Fn := ⟨3, 7, (.seq (.ex (.call .pur 9 (.cons (.var 0) (.cons (.var 1) .nil))))
    (.seq (.ex (.call .pur 25 (.cons (.var 2) .nil)))
    (.seq (.asg (.nm 3) (.call .pur 1 (.cons (.var 0) (.cons (.var 1) .nil))))
    (.seq (.asg (.nm 4) (.bi .sorted true (.cons (.comp true [5, 6] (.tp (.cons (.nm 5) (.cons (.nm 6) .nil))) (.iEnum (.var 3)) (.cmp .isn (.var 6) (.cst .non)) (.tup (.cons (.var 6) (.cons (.var 5) .nil)))) .nil)))
    (.seq (.ret (.comp false [5, 6] (.tp (.cons (.nm 6) (.cons (.nm 5) .nil))) (.iSeq (.var 4)) (.cst (.bl true)) (.tup (.cons (.var 6) (.cons (.var 5) (.cons (.call .pur 24 (.cons (.idx (.idx (.var 0) (.var 5)) (.cst (.int 0))) (.cons (.var 2) (.cons (.var 6) .nil)))) .nil))))))
    .nil)))))⟩
/-- 27 -/
def c_is_span : Fn := ⟨1, 1, (.seq (.ite (.or (.not (.isi (.var 0) .tuple)) (.or (.cmp .ne (.bi .len true (.cons (.var 0) .nil)) (.cst (.int 2))) (.not (.call .pur 3 (.cons (.idx (.var 0) (.cst (.int 0))) (.cons (.cst (.int 0)) (.cons (.cst (.int 60)) .nil))))))) (.seq (.ret (.cst (.bl false)))
    .nil) .nil)
    (.seq (.ret (.call .pur 3 (.cons (.idx (.var 0) (.cst (.int 1))) (.cons (.idx (.var 0) (.cst (.int 0))) (.cons (.cst (.int 60)) .nil)))))
    .nil))⟩
/-- 28 -/
def c_check_spans : Fn := ⟨2, 3, (.seq (.ex (.call .pur 7 (.cons (.var 0) .nil)))
    (.seq (.ite (.or (.not (.isi (.var 1) .list)) (.cmp .ne (.bi .len true (.cons (.var 1) .nil)) (.cst (.int 6)))) (.seq (.rais 5)
    .nil) .nil)
    (.seq (.ite (.not (.bi .all true (.cons (.comp true [2] (.nm 2) (.iSeq (.var 1)) (.cst (.bl true)) (.or (.cmp .is (.var 2) (.cst .non)) (.call .pur 27 (.cons (.var 2) .nil)))) .nil))) (.seq (.rais 5)
    .nil) .nil)
    .nil)))⟩
/-- 29 -/
def c_between : Fn := ⟨2, 6, (.seq (.ex (.call .pur 28 (.cons (.var 0) (.cons (.var 1) .nil))))
    (.seq (.par [2, 3] (.cons (.call .pur 1 (.cons (.var 0) (.cons (.call .pur 13 (.cons (.var 1) (.cons (.cst (.bl false)) .nil))) .nil))) (.cons (.call .pur 1 (.cons (.var 0) (.cons (.call .pur 13 (.cons (.var 1) (.cons (.cst (.bl true)) .nil))) .nil))) .nil)))
    (.seq (.ret (.comp false [4, 5] (.tp (.cons (.nm 4) (.cons (.nm 5) .nil))) (.iZip (.cons (.var 2) (.cons (.var 3) .nil))) (.cst (.bl true)) (.ite (.cmp .is (.var 4) (.cst .non)) (.cst .non) (.tup (.cons (.var 4) (.cons (.var 5) .nil))))))
    .nil)))⟩
/-- 30 -/
def c_surely : Fn := ⟨4, 6, (.seq (.ex (.call .pur 28 (.cons (.var 0) (.cons (.var 1) .nil))))
    (.seq (.ite (.or (.not (.call .pur 3 (.cons (.var 2) (.cons (.cst (.int 0)) (.cons (.bin true .sub (.bi .len true (.cons (.var 0) .nil)) (.cst (.int 1))) .nil))))) (.or (.not (.call .pur 3 (.cons (.var 3) (.cons (.cst (.int 0)) (.cons (.bin true .sub (.bi .len true (.cons (.var 0) .nil)) (.cst (.int 1))) .nil))))) (.cmp .eq (.var 2) (.var 3)))) (.seq (.rais 3)
    .nil) .nil)
    (.seq (.asg (.nm 4) (.call .pur 1 (.cons (.var 0) (.cons (.call .pur 13 (.cons (.var 1) (.cons (.cst (.bl false)) .nil))) .nil))))
    (.seq (.ite (.or (.cmp .is (.idx (.var 4) (.var 2)) (.cst .non)) (.cmp .is (.idx (.var 4) (.var 3)) (.cst .non))) (.seq (.rais 10)
    .nil) .nil)
    (.seq (.loop (.nm 5) (.iSeq (.call .pur 15 (.cons (.var 1) .nil))) (.seq (.ite (.not (.call .pur 14 (.cons (.call .pur 1 (.cons (.var 0) (.cons (.var 5) .nil))) (.cons (.var 2) (.cons (.var 3) .nil))))) (.seq (.ret (.new 4 (.cons (.var 5) .nil)))
    .nil) .nil)
    .nil))
    (.seq (.ret (.new 3 .nil))
    .nil))))))⟩
/-- 31 -/
def c_Keeper___init__ : Fn := ⟨1, 1, (.seq (.setF (.var 0) 2 (.lst false .nil))
    (.seq (.setF (.var 0) 3 (.dct [] .nil))
    (.seq (.setF (.var 0) 1 (.bin false .mul (.lst false (.cons (.cst .non) .nil)) (.cst (.int 6))))
    (.seq (.setF (.var 0) 4 (.bin false .mul (.lst false (.cons (.cst .non) .nil)) (.bin false .add (.cst (.int 9)) (.cst (.int 1)))))
    (.seq (.setF (.var 0) 5 (.cst (.int 0)))
    .nil)))))⟩
/-- 32 -/
def c_Keeper_copied : Fn := ⟨3, 3, (.seq (.ite (.not (.call .pur 6 (.cons (.var 1) (.cons (.var 2) .nil)))) (.seq (.rais 6)
    .nil) .nil)
    (.seq (.ret (.tup (.cons (.bi .list true (.cons (.idx (.var 1) (.cst (.int 0))) .nil)) (.cons (.bi .list true (.cons (.idx (.var 1) (.cst (.int 1))) .nil)) .nil))))
    .nil))⟩
/-- 33 -/
def c_Keeper_put : Fn := ⟨2, 3, (.seq (.asg (.nm 2) (.ocall .pur 1 (.var 0) (.cons (.var 1) (.cons (.bi .len true (.cons (.fld (.var 0) 2) .nil)) .nil))))
    (.seq (.ite (.cmp .eq (.bi .len true (.cons (.fld (.var 0) 2) .nil)) (.cst (.int 40))) (.seq (.rais 12)
    .nil) .nil)
    (.seq (.ex (.meth .append (.fld (.var 0) 2) (.cons (.var 2) .nil)))
    (.seq (.ret (.bin true .sub (.bi .len true (.cons (.fld (.var 0) 2) .nil)) (.cst (.int 1))))
    .nil))))⟩
/-- 34 -/
def c_Keeper_check_left : Fn := ⟨2, 2, (.seq (.ite (.or (.not (.call .pur 3 (.cons (.var 1) (.cons (.cst (.int 0)) (.cons (.bin true .sub (.bi .len true (.cons (.fld (.var 0) 2) .nil)) (.cst (.int 1))) .nil))))) (.cmp .inn (.var 1) (.fld (.var 0) 3))) (.seq (.rais 3)
    .nil) .nil)
    .nil)⟩
/-- 35 -/
def c_Keeper_change : Fn := ⟨3, 3, (.seq (.ex (.ocall .pur 3 (.var 0) (.cons (.var 1) .nil)))
    (.seq (.setI (.fld (.var 0) 2) (.var 1) (.ocall .pur 1 (.var 0) (.cons (.var 2) (.cons (.var 1) .nil))))
    .nil))⟩
/-- 36 -/
def c_Keeper_take_back : Fn := ⟨2, 2, (.seq (.ex (.ocall .pur 3 (.var 0) (.cons (.var 1) .nil)))
    (.seq (.setI (.fld (.var 0) 3) (.var 1) (.cst (.bl false)))
    .nil))⟩
/-- 37 -/
def c_Keeper_tell : Fn := ⟨3, 3, (.seq (.ite (.not (.call .pur 3 (.cons (.var 1) (.cons (.cst (.int 0)) (.cons (.bin true .sub (.cst (.int 6)) (.cst (.int 1))) .nil))))) (.seq (.rais 7)
    .nil) .nil)
    (.seq (.ret (.ocall .dir 8 (.var 0) (.cons (.fld (.var 0) 1) (.cons (.var 1) (.cons (.var 2) .nil)))))
    .nil))⟩
/-- 38 -/
def c_Keeper_leave : Fn := ⟨3, 3, (.seq (.ite (.not (.call .pur 3 (.cons (.var 1) (.cons (.cst (.int 0)) (.cons (.cst (.int 9)) .nil))))) (.seq (.rais 9)
    .nil) .nil)
    (.seq (.ret (.ocall .dir 8 (.var 0) (.cons (.fld (.var 0) 4) (.cons (.var 1) (.cons (.var 2) .nil)))))
    .nil))⟩
/-- 39 -/
def c_Keeper_noted : Fn := ⟨4, 5, (.seq (.ite (.not (.call .pur 3 (.cons (.var 3) (.cons (.cst (.int 0)) (.cons (.cst (.int 60)) .nil))))) (.seq (.rais 8)
    .nil) .nil)
    (.seq (.ite (.and (.cmp .isn (.idx (.var 1) (.var 2)) (.cst .non)) (.cmp .ne (.idx (.var 1) (.var 2)) (.var 3))) (.seq (.rais 11)
    .nil) .nil)
    (.seq (.asg (.nm 4) (.cmp .is (.idx (.var 1) (.var 2)) (.cst .non)))
    (.seq (.setI (.var 1) (.var 2) (.var 3))
    (.seq (.ret (.var 4))
    .nil)))))⟩
/-- 40 -/
def c_Keeper_due_by_now : Fn := ⟨1, 7, (.seq (.asg (.nm 1) (.lst false .nil))
    (.seq (.loop (.tp (.cons (.nm 2) (.cons (.tp (.cons (.nm 3) (.cons (.nm 4) .nil))) .nil))) (.iEnum (.fld (.var 0) 2)) (.seq (.asg (.nm 5) (.comp true [6] (.nm 6) (.iSeq (.var 4)) (.cst (.bl true)) (.call .pur 0 (.cons (.var 6) (.cons (.fld (.var 0) 1) (.cons (.var 1) .nil))))))
    (.seq (.ex (.meth .append (.var 1) (.cons (.ite (.or (.cmp .inn (.cst .non) (.var 5)) (.cmp .is (.meth .get (.fld (.var 0) 3) (.cons (.var 2) .nil)) (.cst (.bl false)))) (.cst .non) (.bi .max1 true (.cons (.var 5) .nil))) .nil)))
    .nil)))
    (.seq (.ret (.var 1))
    .nil)))⟩
/-- 41 -/
def c_Keeper_hand : Fn := ⟨1, 6, (.seq (.par [1, 2] (.cons (.ocall .pur 9 (.var 0) .nil) (.cons (.lst false .nil) .nil)))
    (.seq (.loop (.tp (.cons (.nm 3) (.cons (.nm 4) .nil))) (.iEnum (.var 1)) (.seq (.ite (.and (.cmp .nin (.var 3) (.fld (.var 0) 3)) (.and (.cmp .isn (.var 4) (.cst .non)) (.cmp .le (.var 4) (.fld (.var 0) 5)))) (.seq (.ex (.meth .append (.var 2) (.cons (.tup (.cons (.var 4) (.cons (.var 3) .nil))) .nil)))
    .nil) .nil)
    .nil))
    (.seq (.loop (.tp (.cons (.nm 4) (.cons (.nm 3) .nil))) (.iSeq (.bi .sorted true (.cons (.var 2) .nil))) (.seq (.setI (.fld (.var 0) 3) (.var 3) (.cst (.bl true)))
    .nil))
    (.seq (.asg (.nm 5) (.lst false .nil))
    (.seq (.loop (.tp (.cons (.nm 4) (.cons (.nm 3) .nil))) (.iSeq (.bi .sorted true (.cons (.var 2) .nil))) (.seq (.ex (.meth .append (.var 5) (.cons (.tup (.cons (.var 3) (.cons (.call .pur 24 (.cons (.idx (.idx (.fld (.var 0) 2) (.var 3)) (.cst (.int 0))) (.cons (.fld (.var 0) 4) (.cons (.var 4) .nil)))) (.cons (.bin true .sub (.fld (.var 0) 5) (.var 4)) .nil)))) .nil)))
    .nil))
    (.seq (.ret (.var 5))
    .nil))))))⟩
/-- 42 -/
def c_Keeper_pass_day : Fn := ⟨1, 1, (.seq (.augF (.var 0) 5 .add (.cst (.int 1)))
    (.seq (.ret (.fld (.var 0) 5))
    .nil))⟩
/-- 43 -/
def c_Keeper_kept : Fn := ⟨1, 2, (.seq (.ret (.comp true [1] (.nm 1) (.iRng (.cons (.bi .len true (.cons (.fld (.var 0) 2) .nil)) .nil)) (.cmp .nin (.var 1) (.fld (.var 0) 3)) (.var 1)))
    .nil)⟩
/-- 44 -/
def c_Keeper_all_letters : Fn := ⟨1, 3, (.seq (.ret (.comp true [1, 2] (.tp (.cons (.nm 1) (.cons (.nm 2) .nil))) (.iSeq (.fld (.var 0) 2)) (.cst (.bl true)) (.tup (.cons (.bi .list true (.cons (.var 1) .nil)) (.cons (.bi .list true (.cons (.var 2) .nil)) .nil)))))
    .nil)⟩
/-- 45 -/
def c__wall : Fn := ⟨1, 1, (.seq (.whl (.cst (.bl true)) (.seq .pass
    .nil))
    .nil)⟩
/-- 46 _law_number -/
def cl46 : Fn := ⟨3, 5, (.seq (.ite (.cmp .ge (.var 0) (.bin true .pow (.cst (.int 10)) (.cst (.int 18)))) (.seq (.ret (.var 0))
    .nil) .nil)
    (.seq (.asg (.nm 3) (.bin true .mod (.bin true .add (.bin true .mul (.bin true .add (.var 0) (.bin true .mul (.cst (.int 977)) (.var 1))) (.cst (.int 48271))) (.var 2)) (.cst (.int 2147483647))))
    (.seq (.asg (.nm 4) (.bin true .mul (.bin true .mul (.var 3) (.bin true .add (.bin true .add (.var 3) (.bin true .mul (.cst (.int 31)) (.var 1))) (.cst (.int 7)))) (.bin true .add (.bin true .add (.var 3) (.var 0)) (.cst (.int 5)))))
    (.seq (.ret (.bin true .fdiv (.bin true .mul (.var 4) (.bin true .add (.var 4) (.cst (.int 48271)))) (.cst (.int 1009))))
    .nil))))⟩
/-- 47 _law_whole -/
def cl47 : Fn := ⟨1, 1, (.seq (.ret (.and (.isi (.var 0) .int) (.not (.isi (.var 0) .bool))))
    .nil)⟩
/-- 48 _law_term -/
def cl48 : Fn := ⟨3, 5, (.seq (.par [3, 4] (.cons (.idx (.tup (.cons (.bin true .mod (.var 0) (.cst (.int 4))) (.cons (.cst (.int 0)) (.cons (.cst (.int 1)) (.cons (.bin true .mod (.var 0) (.cst (.int 2))) .nil))))) (.var 2)) (.cons (.bin true .fdiv (.var 0) (.cst (.int 4))) .nil)))
    (.seq (.ite (.and (.cmp .eq (.var 3) (.cst (.int 0))) (.cmp .gt (.var 1) (.cst (.int 0)))) (.seq (.ret (.tup (.cons (.cst (.str 2)) (.cons (.idx (.tup (.cons (.bin true .mod (.var 4) (.var 1)) (.cons (.bin true .sub (.var 1) (.cst (.int 1))) .nil))) (.bin true .mod (.bin true .fdiv (.var 4) (.cst (.int 40))) (.cst (.int 2)))) (.cons (.bin true .mod (.bin true .fdiv (.var 4) (.cst (.int 80))) (.cst (.int 21))) .nil)))))
    .nil) .nil)
    (.seq (.ite (.cmp .lt (.var 3) (.cst (.int 3))) (.seq (.ret (.tup (.cons (.cst (.str 1)) (.cons (.bin true .mod (.var 4) (.cst (.int 6))) (.cons (.bin true .mod (.bin true .fdiv (.var 4) (.cst (.int 80))) (.cst (.int 21))) .nil)))))
    .nil) .nil)
    (.seq (.ret (.tup (.cons (.cst (.str 0)) (.cons (.bin true .mod (.var 4) (.cst (.int 61))) .nil))))
    .nil))))⟩
/-- 49 _law_letter -/
def cl49 : Fn := ⟨3, 8, (.seq (.par [3, 4, 5] (.cons (.lst false .nil) (.cons (.lst false .nil) (.cons (.bin true .fdiv (.var 0) (.cst (.int 12))) .nil))))
    (.seq (.loop (.nm 6) (.iRng (.cons (.bin true .add (.cst (.int 1)) (.bin true .mod (.var 0) (.cst (.int 3)))) .nil)) (.seq (.asg (.nm 7) (.bin true .mod (.bin true .add (.bin true .fdiv (.var 0) (.cst (.int 36))) (.bin true .mul (.cst (.int 3)) (.var 6))) (.cst (.int 10))))
    (.seq (.ex (.meth .append (.var 3) (.cons (.var 7) .nil)))
    .nil)))
    (.seq (.loop (.nm 6) (.iRng (.cons (.idx (.tup (.cons (.cst (.int 1)) (.cons (.cst (.int 2)) (.cons (.cst (.int 1)) (.cons (.cst (.int 4)) .nil))))) (.bin true .mod (.bin true .fdiv (.var 0) (.cst (.int 3))) (.cst (.int 4)))) .nil)) (.seq (.ex (.meth .append (.var 4) (.cons (.call .pur 48 (.cons (.bin true .add (.bin true .fdiv (.var 5) (.idx (.tup (.cons (.cst (.int 1)) (.cons (.cst (.int 7)) (.cons (.cst (.int 49)) (.cons (.cst (.int 343)) .nil))))) (.var 6))) (.var 6)) (.cons (.var 1) (.cons (.var 2) .nil)))) .nil)))
    .nil))
    (.seq (.ret (.tup (.cons (.var 3) (.cons (.var 4) .nil))))
    .nil))))⟩
/-- 50 _law_letters -/
def cl50 : Fn := ⟨3, 9, (.seq (.asg (.nm 3) (.ite (.cmp .ne (.var 0) (.lst true .nil)) (.slc true (.var 0) .omit (.part (.cst (.int 63)))) (.lst true (.cons (.cst (.int 5)) .nil))))
    (.seq (.par [4, 5] (.cons (.bin true .add (.bi .sum true (.cons (.var 3) .nil)) (.var 1)) (.cons (.lst false .nil) .nil)))
    (.seq (.par [6, 7] (.cons (.bin true .add (.cst (.int 1)) (.bin true .mod (.bin true .fdiv (.call .pur 46 (.cons (.var 4) (.cons (.bin true .add (.var 1) (.cst (.int 1))) (.cons (.cst (.int 3)) .nil)))) (.cst (.int 9))) (.var 2))) (.cons (.bin true .mod (.bin true .fdiv (.call .pur 46 (.cons (.var 4) (.cons (.bin true .add (.var 1) (.cst (.int 1))) (.cons (.cst (.int 3)) .nil)))) (.cst (.int 360))) (.cst (.int 4))) .nil)))
    (.seq (.loop (.nm 8) (.iRng (.cons (.var 6) .nil)) (.seq (.ex (.meth .append (.var 5) (.cons (.call .pur 49 (.cons (.bin true .fdiv (.call .pur 46 (.cons (.bin true .add (.idx (.var 3) (.bin true .mod (.bin true .add (.var 8) (.var 1)) (.bi .len true (.cons (.var 3) .nil)))) (.var 8)) (.cons (.bin true .add (.var 8) (.var 1)) (.cons (.var 4) .nil)))) (.cst (.int 3))) (.cons (.var 8) (.cons (.var 7) .nil)))) .nil)))
    .nil))
    (.seq (.ret (.var 5))
    .nil)))))⟩
/-- 51 _law_days -/
def cl51 : Fn := ⟨2, 8, (.seq (.asg (.nm 2) (.ite (.cmp .ne (.var 0) (.lst true .nil)) (.slc true (.var 0) .omit (.part (.cst (.int 63)))) (.lst true (.cons (.cst (.int 5)) .nil))))
    (.seq (.par [3, 4] (.cons (.bin true .add (.bi .sum true (.cons (.var 2) .nil)) (.var 1)) (.cons (.lst false .nil) .nil)))
    (.seq (.asg (.nm 5) (.bin true .mod (.bin true .fdiv (.call .pur 46 (.cons (.var 3) (.cons (.bin true .add (.var 1) (.cst (.int 1))) (.cons (.cst (.int 3)) .nil)))) (.cst (.int 1440))) (.cst (.int 4))))
    (.seq (.loop (.nm 6) (.iRng (.cons (.cst (.int 6)) .nil)) (.seq (.asg (.nm 7) (.bin true .fdiv (.call .pur 46 (.cons (.bin true .add (.idx (.var 2) (.bin true .mod (.bin true .add (.var 6) (.var 1)) (.bi .len true (.cons (.var 2) .nil)))) (.bin true .mul (.cst (.int 11)) (.var 6))) (.cons (.bin true .add (.var 6) (.var 1)) (.cons (.var 3) .nil)))) (.cst (.int 3))))
    (.seq (.ex (.meth .append (.var 4) (.cons (.idx (.tup (.cons (.bin true .mod (.var 7) (.cst (.int 61))) (.cons (.ite (.cmp .gt (.bin true .mod (.bin true .fdiv (.var 7) (.cst (.int 61))) (.cst (.int 4))) (.cst (.int 0))) (.bin true .mod (.var 7) (.cst (.int 61))) (.cst .non)) (.cons (.cst .non) (.cons (.bin true .mod (.var 3) (.cst (.int 61))) .nil))))) (.var 5)) .nil)))
    .nil)))
    (.seq (.ret (.var 4))
    .nil)))))⟩
/-- 52 _law_copied -/
def cl52 : Fn := ⟨1, 3, (.seq (.ret (.comp false [1, 2] (.tp (.cons (.nm 1) (.cons (.nm 2) .nil))) (.iSeq (.var 0)) (.cst (.bl true)) (.tup (.cons (.bi .list false (.cons (.var 1) .nil)) (.cons (.bi .list false (.cons (.var 2) .nil)) .nil)))))
    .nil)⟩
/-- 53 _law_dues -/
def cl53 : Fn := ⟨2, 10, (.seq (.asg (.nm 2) (.lst false .nil))
    (.seq (.loop (.tp (.cons (.nm 3) (.cons (.nm 4) .nil))) (.iSeq (.var 0)) (.seq (.asg (.nm 5) (.cst (.int 0)))
    (.seq (.loop (.nm 6) (.iSeq (.var 4)) (.seq (.asg (.tp (.cons (.nm 7) (.cons (.nm 8) .nil))) (.ite (.cmp .eq (.idx (.var 6) (.cst (.int 0))) (.cst (.str 2))) (.tup (.cons (.var 2) (.cons (.idx (.var 6) (.neg (.cst (.int 1)))) .nil))) (.tup (.cons (.var 1) (.cons (.idx (.var 6) (.neg (.cst (.int 1)))) .nil)))))
    (.seq (.asg (.nm 9) (.ite (.cmp .eq (.idx (.var 6) (.cst (.int 0))) (.cst (.str 0))) (.cst (.int 0)) (.idx (.var 7) (.idx (.var 6) (.cst (.int 1))))))
    (.seq (.asg (.nm 5) (.ite (.or (.cmp .is (.var 9) (.cst .non)) (.cmp .is (.var 5) (.cst .non))) (.cst .non) (.bi .max2 true (.cons (.var 5) (.cons (.bin true .add (.var 9) (.var 8)) .nil)))))
    .nil))))
    (.seq (.ex (.meth .append (.var 2) (.cons (.var 5) .nil)))
    .nil))))
    (.seq (.ret (.var 2))
    .nil)))⟩
/-- 55 _law_says -/
def cl55 : Fn := ⟨2, 2, (.seq (.ret (.and (.isi (.var 0) .bool) (.cmp .eq (.var 0) (.var 1))))
    .nil)⟩
/-- 56 _law_comes -/
def cl56 : Fn := ⟨4, 11, (.seq (.par [4, 5] (.cons (.cst (.int 0)) (.cons (.var 2) .nil)))
    (.seq (.loop (.tp (.cons (.nm 6) (.cons (.tp (.cons (.nm 7) (.cons (.nm 8) .nil))) .nil))) (.iEnum (.var 3)) (.seq (.asg (.nm 9) (.cmp .eq (.bin true .add (.var 6) (.cst (.int 1))) (.bi .len true (.cons (.var 3) .nil))))
    (.seq (.ite (.or (.cmp .ne (.var 7) (.var 5)) (.not (.cmp2 .le .lt (.cst (.int 0)) (.var 8) (.bi .len true (.cons (.idx (.idx (.var 0) (.var 5)) (.cst (.int 1))) .nil))))) (.seq (.ret (.neg (.cst (.int 1))))
    .nil) .nil)
    (.seq (.asg (.nm 10) (.idx (.idx (.idx (.var 0) (.var 5)) (.cst (.int 1))) (.var 8)))
    (.seq (.ite (.cmp .eq (.var 9) (.cmp .eq (.idx (.var 10) (.cst (.int 0))) (.cst (.str 2)))) (.seq (.ret (.neg (.cst (.int 1))))
    .nil) .nil)
    (.seq (.ite (.cmp .eq (.idx (.var 10) (.cst (.int 0))) (.cst (.str 0))) (.seq (.ret (.bin true .add (.var 4) (.idx (.var 10) (.cst (.int 1)))))
    .nil) .nil)
    (.seq (.asg (.nm 4) (.bin true .add (.var 4) (.idx (.var 10) (.cst (.int 2)))))
    (.seq (.ite (.var 9) (.seq (.ret (.ite (.cmp .is (.idx (.var 1) (.idx (.var 10) (.cst (.int 1)))) (.cst .non)) (.cst .non) (.bin true .add (.var 4) (.idx (.var 1) (.idx (.var 10) (.cst (.int 1)))))))
    .nil) .nil)
    (.seq (.asg (.nm 5) (.idx (.var 10) (.cst (.int 1))))
    .nil)))))))))
    (.seq (.ret (.neg (.cst (.int 1))))
    .nil)))⟩
/-- 57 _law_is_chain -/
def cl57 : Fn := ⟨5, 7, (.seq (.par [5, 6] (.cons (.call .pur 56 (.cons (.var 0) (.cons (.var 1) (.cons (.var 2) (.cons (.var 3) .nil))))) (.cons (.idx (.call .pur 53 (.cons (.var 0) (.cons (.var 1) .nil))) (.var 2)) .nil)))
    (.seq (.ret (.ite (.var 4) (.and (.cmp .isn (.var 6) (.cst .non)) (.cmp .eq (.var 5) (.var 6))) (.cmp .is (.var 5) (.cst .non))))
    .nil))⟩
/-- 67 _law_spans -/
def cl67 : Fn := ⟨3, 11, (.seq (.asg (.nm 3) (.ite (.cmp .ne (.var 0) (.lst true .nil)) (.slc true (.var 0) .omit (.part (.cst (.int 63)))) (.lst true (.cons (.cst (.int 5)) .nil))))
    (.seq (.par [4, 5] (.cons (.bin true .add (.bi .sum true (.cons (.var 3) .nil)) (.var 1)) (.cons (.lst false .nil) .nil)))
    (.seq (.asg (.nm 6) (.bin true .mod (.bin true .fdiv (.call .pur 46 (.cons (.var 4) (.cons (.bin true .add (.var 1) (.cst (.int 1))) (.cons (.cst (.int 3)) .nil)))) (.cst (.int 5760))) (.cst (.int 3))))
    (.seq (.loop (.nm 7) (.iRng (.cons (.cst (.int 6)) .nil)) (.seq (.asg (.nm 8) (.bin true .fdiv (.call .pur 46 (.cons (.bin true .add (.idx (.var 3) (.bin true .mod (.bin true .add (.var 7) (.var 1)) (.bi .len true (.cons (.var 3) .nil)))) (.bin true .mul (.cst (.int 13)) (.var 7))) (.cons (.bin true .add (.var 7) (.var 1)) (.cons (.var 4) .nil)))) (.cst (.int 3))))
    (.seq (.asg (.nm 9) (.bin true .mod (.var 8) (.cst (.int 61))))
    (.seq (.asg (.nm 10) (.bi .min2 true (.cons (.cst (.int 60)) (.cons (.bin true .add (.var 9) (.bin true .mod (.bin true .fdiv (.var 8) (.cst (.int 61))) (.bin true .add (.var 2) (.cst (.int 1))))) .nil))))
    (.seq (.ex (.meth .append (.var 5) (.cons (.idx (.tup (.cons (.tup (.cons (.var 9) (.cons (.var 10) .nil))) (.cons (.ite (.cmp .gt (.bin true .mod (.bin true .fdiv (.var 8) (.cst (.int 1000))) (.cst (.int 3))) (.cst (.int 0))) (.tup (.cons (.var 9) (.cons (.var 10) .nil))) (.cst .non)) (.cons (.tup (.cons (.var 9) (.cons (.var 9) .nil))) .nil)))) (.var 6)) .nil)))
    .nil)))))
    (.seq (.ret (.var 5))
    .nil)))))⟩
/-- 68 _law_firsts -/
def cl68 : Fn := ⟨1, 2, (.seq (.ret (.comp true [1] (.nm 1) (.iSeq (.var 0)) (.cst (.bl true)) (.ite (.cmp .is (.var 1) (.cst .non)) (.cst .non) (.idx (.var 1) (.cst (.int 0))))))
    .nil)⟩
/-- 75 _law_is_ahead -/
def cl75 : Fn := ⟨3, 3, (.seq (.ite (.cmp .eq (.idx (.var 0) (.var 1)) (.idx (.var 0) (.var 2))) (.seq (.ret (.cmp .lt (.var 1) (.var 2)))
    .nil) .nil)
    (.seq (.ret (.cmp .lt (.idx (.var 0) (.var 1)) (.idx (.var 0) (.var 2))))
    .nil))⟩
/-- 76 _law_within -/
def cl76 : Fn := ⟨2, 4, (.seq (.ite (.cmp .ne (.bi .len true (.cons (.var 1) .nil)) (.bi .len true (.cons (.var 0) .nil))) (.seq (.ret (.cst (.bl false)))
    .nil) .nil)
    (.seq (.loop (.tp (.cons (.nm 2) (.cons (.nm 3) .nil))) (.iZip (.cons (.var 0) (.cons (.var 1) .nil))) (.seq (.ite (.or (.cmp .ne (.cmp .is (.var 2) (.cst .non)) (.cmp .is (.var 3) (.cst .non))) (.and (.cmp .isn (.var 2) (.cst .non)) (.not (.cmp2 .le .le (.idx (.var 2) (.cst (.int 0))) (.var 3) (.idx (.var 2) (.cst (.int 1))))))) (.seq (.ret (.cst (.bl false)))
    .nil) .nil)
    .nil))
    (.seq (.ret (.cst (.bl true)))
    .nil)))⟩
/-- 77 _law_surely -/
def cl77 : Fn := ⟨4, 8, (.seq (.asg (.nm 4) (.call .pur 68 (.cons (.var 1) .nil)))
    (.seq (.ite (.not (.call .pur 75 (.cons (.call .pur 53 (.cons (.var 0) (.cons (.var 4) .nil))) (.cons (.var 2) (.cons (.var 3) .nil))))) (.seq (.ret (.cst (.bl false)))
    .nil) .nil)
    (.seq (.loop (.tp (.cons (.nm 5) (.cons (.nm 6) .nil))) (.iEnum (.var 1)) (.seq (.ite (.cmp .isn (.var 6) (.cst .non)) (.seq (.asg (.nm 7) (.bi .list false (.cons (.var 4) .nil)))
    (.seq (.setI (.var 7) (.var 5) (.idx (.var 6) (.cst (.int 1))))
    (.seq (.ite (.not (.call .pur 75 (.cons (.call .pur 53 (.cons (.var 0) (.cons (.var 7) .nil))) (.cons (.var 2) (.cons (.var 3) .nil))))) (.seq (.ret (.cst (.bl false)))
    .nil) .nil)
    .nil))) .nil)
    .nil))
    (.seq (.ret (.cst (.bl true)))
    .nil))))⟩
/-- 110 _law_state -/
def cl110 : Fn := ⟨1, 1, (.seq (.ret (.lst true (.cons (.ocall .pur 12 (.var 0) .nil) (.cons (.ocall .pur 13 (.var 0) .nil) (.cons (.ocall .pur 9 (.var 0) .nil) .nil)))))
    .nil)⟩
end MP
set_option Elab.async false
set_option linter.all false
set_option maxRecDepth 100000
set_option autoImplicit false
namespace MP
section
variable {T : Tab} {F : Nat → Option Fn}
theorem run_at {n f : Nat} {d : Fn} {vs : List Val} {h : Hm} (e : F f = some d) (l : vs.length = d.np) (k : d.np ≤ d.ns) : run T F (n + 1) f vs h = (exS T (run T F n) d.body (vs.map some ++ List.replicate (d.ns - d.np) none) h).fin := by
  show (match F f with
    | some d => if vs.length = d.np ∧ d.np ≤ d.ns then (exS T (run T F n) d.body (vs.map some ++ List.replicate (d.ns - d.np) none) h).fin else .bad
    | none => .bad) = _
  rw [e]
  exact if_pos ⟨l, k⟩
/-- a source that does not change: its items -/
def Static (s : Src) (l : List Val) : Prop := ∀ h, s.len h = some l.length ∧ ∀ k, s.at h k = l[k]?
theorem static_stat (vs : List Val) : Static (.stat vs) vs := fun h => ⟨rfl, fun k => rfl⟩
theorem static_enum {s : Src} {l : List Val} (st : Static s l) : Static (.enum s) (l.mapIdx fun i v => .tup [.int i, v]) := fun h => by
  refine ⟨by simp only [Src.len, (st h).1, List.length_mapIdx], fun k => ?_⟩
  simp only [Src.at, (st h).2, List.getElem?_mapIdx]
  cases l[k]? <;> rfl
theorem static_zip {s t : Src} {l m : List Val} (st : Static s l) (tt : Static t m) : Static (.zip s t) (List.zipWith (fun a b => .tup [a, b]) l m) := fun h => by
  refine ⟨by simp only [Src.len, (st h).1, (tt h).1, List.length_zipWith], fun k => ?_⟩
  simp only [Src.at, (st h).2, (tt h).2, List.getElem?_zipWith]
  cases l[k]? <;> cases m[k]? <;> rfl
/-- a for over items -/
def forS (turn : Val → En → Hm → RS) : List Val → En → Hm → RS
  | [], e, h => .nx e h
  | v :: vs, e, h => match turn v e h with
    | .nx e' h' => forS turn vs e' h'
    | .ct e' h' => forS turn vs e' h'
    | .bk e' h' => .nx e' h'
    | .rt v h' => .rt v h'
    | .exc k e' h' => .exc k e' h'
    | .bad => .bad
theorem for_stat {turn : Val → En → Hm → RS} {s : Src} {l : List Val} (st : Static s l) : ∀ (rem : Nat), rem ≤ l.length → ∀ (e : En) (h : Hm), forM' turn s l.length rem e h = forS turn (l.drop (l.length - rem)) e h
  | 0, _, e, h => by
    rw [Nat.sub_zero, List.drop_length]
    simp only [forM', (st h).1, if_true, forS]
  | rem + 1, hr, e, h => by
    have hi : l.length - (rem + 1) < l.length := by omega
    rw [List.drop_eq_getElem_cons hi]
    simp only [forM', (st h).1, if_true, forS, (st h).2, List.getElem?_eq_getElem hi]
    have e2 : l.length - (rem + 1) + 1 = l.length - rem := by omega
    rw [e2]
    cases turn l[l.length - (rem + 1)] e h <;> simp only [for_stat st rem (by omega)]
theorem loop_stat {turn : Val → En → Hm → RS} {s : Src} {l : List Val} (st : Static s l) (e : En) (h : Hm) : forM' turn s l.length l.length e h = forS turn l e h := by
  rw [for_stat st l.length (Nat.le_refl _), Nat.sub_self, List.drop_zero]
/-- a comprehension over items -/
def compS (turn : Val → Hm → R (Option Val)) : List Val → List Val → Hm → R (List Val)
  | [], acc, h => .ok acc h
  | v :: vs, acc, h => match turn v h with
    | .ok (some w) h' => compS turn vs (acc ++ [w]) h'
    | .ok none h' => compS turn vs acc h'
    | .exc _ _ => .bad
    | .bad => .bad
theorem comp_stat {turn : Val → Hm → R (Option Val)} {s : Src} {l : List Val} (st : Static s l) : ∀ (rem : Nat), rem ≤ l.length → ∀ (acc : List Val) (h : Hm), compM turn s l.length rem acc h = compS turn (l.drop (l.length - rem)) acc h
  | 0, _, acc, h => by
    rw [Nat.sub_zero, List.drop_length]
    simp only [compM, (st h).1, if_true, compS]
  | rem + 1, hr, acc, h => by
    have hi : l.length - (rem + 1) < l.length := by omega
    rw [List.drop_eq_getElem_cons hi]
    simp only [compM, (st h).1, if_true, compS, (st h).2, List.getElem?_eq_getElem hi]
    have e2 : l.length - (rem + 1) + 1 = l.length - rem := by omega
    rw [e2]
    cases turn l[l.length - (rem + 1)] h with
    | ok o h' => cases o <;> simp only [comp_stat st rem (by omega)]
    | exc k h' => rfl
    | bad => rfl
theorem comp_all {turn : Val → Hm → R (Option Val)} {s : Src} {l : List Val} (st : Static s l) (h : Hm) : compM turn s l.length l.length [] h = compS turn l [] h := by
  rw [comp_stat st l.length (Nat.le_refl _), Nat.sub_self, List.drop_zero]
/-- each item gives one -/
theorem compS_map {turn : Val → Hm → R (Option Val)} {h : Hm} (f : Val → Val) : ∀ (l : List Val), (∀ v ∈ l, turn v h = .ok (some (f v)) h) → ∀ acc, compS turn l acc h = .ok (acc ++ l.map f) h
  | [], _, acc => by simp [compS]
  | v :: l, k, acc => by
    unfold compS
    rw [k v List.mem_cons_self]
    simp only
    rw [compS_map f l (fun v m => k v (List.mem_cons_of_mem _ m))]
    simp
variable {cl : CallF}
theorem get_last {h : Hm} {o : Ob} : (h ++ [o])[h.length]? = some o := by simp
theorem set_last {h : Hm} {o p : Ob} : (h ++ [o]).set h.length p = h ++ [p] := by simp
theorem exS_seq {a b : S} {e e' : En} {h h' : Hm} (q : exS T cl a e h = .nx e' h') : exS T cl (.seq a b) e h = exS T cl b e' h' := by
  simp only [exS, q, RS.then]
theorem exS_asg {p : Pat} {x : C} {e e' : En} {h h' : Hm} {v : Val} (q : evE T cl x e h = .ok v h') (b : bindP p v e = some e') : exS T cl (.asg p x) e h = .nx e' h' := by
  simp only [exS, q, RS.on, b]
theorem exS_ret {x : C} {e : En} {h h' : Hm} {v : Val} (q : evE T cl x e h = .ok v h') : exS T cl (.ret x) e h = .rt v h' := by
  simp only [exS, q, RS.on]
mutual
theorem deep_closed {lk : Nat → Option Val} : ∀ (v : Val), closed v = true → deep lk v = some v
  | .non, _ => by simp [deep]
  | .bl _, _ => by simp [deep]
  | .int _, _ => by simp [deep]
  | .str _, _ => by simp [deep]
  | .err _, _ => by simp [deep]
  | .tup vs, c => by unfold closed at c; simp [deep, deepL_closed vs c]
  | .lst _ vs, c => by unfold closed at c; simp [deep, deepL_closed vs c]
  | .dct _ _ vs, c => by unfold closed at c; simp [deep, deepL_closed vs c]
  | .obj _ _ _ vs, c => by unfold closed at c; simp [deep, deepL_closed vs c]
  | .ref _, c => by simp [closed] at c
  | .clo _ _, c => by simp [closed] at c
theorem deepL_closed {lk : Nat → Option Val} : ∀ (vs : List Val), closedL vs = true → deepL lk vs = some vs
  | [], _ => by simp [deepL]
  | v :: vs, c => by
    unfold closedL at c
    rw [Bool.and_eq_true] at c
    simp [deepL, deep_closed v c.1, deepL_closed vs c.2]
end
theorem snapL_closed {h : Hm} {vs : List Val} (c : closedL vs = true) : snapL h vs = some vs := deepL_closed vs c
theorem snap_closed {h : Hm} {v : Val} (c : closed v = true) : snap h v = some v := deep_closed v c
theorem froz_closed {h : Hm} {v : Val} (c : closed v = true) : froz h v = some v := deep_closed v c
/-- a call by values, told by what the callee gives -/
theorem pure_ok {cl : CallF} {f : Nat} {vs ws : List Val} {h h' : Hm} {v w : Val} (s : snapL h vs = some ws) (r : cl f ws [] = .ok v h') (z : froz h' v = some w) (c : clean w = true) : callM cl .pur f vs h = .ok w h := by
  simp only [callM, pureM, s, r, z, if_pos c]
theorem pure_exc {cl : CallF} {f : Nat} {vs ws : List Val} {h h' : Hm} {k : Nat} (s : snapL h vs = some ws) (r : cl f ws [] = .exc k h') : callM cl .pur f vs h = .exc k h := by
  simp only [callM, pureM, s, r]
theorem top_call {cl : CallF} {f i : Nat} {vs ws us ts : List Val} {h h' : Hm} (s : snapL h vs = some ws) (r : cl f ws [] = .ok (.ref i) h') (e : h'[i]? = some (.lst us)) (z : deepL (followX i 9 .own h') us = some ts) (c : cleanL ts = true) : callM cl .top f vs h = .ok (.ref h.length) (h ++ [.lst ts]) := by
  simp only [callM, topM, s, r, e, z, if_pos c]
end
section
variable {T : Tab} {F : Nat → Option Fn} {n : Nat} {h : Hm}
def intB : Val → Bool
  | .int _ => true
  | _ => false
/-- what isinstance can be asked of without a look at the heap -/
def shown : Val → Bool
  | .ref _ => false
  | .clo _ _ => false
  | _ => true
theorem run_is_whole (e : F 2 = some c_is_whole) {v : Val} (s : shown v = true) : run T F (n + 1) 2 [v] h = .ok (.bl (intB v)) h := by
  rw [run_at e rfl (by decide)]
  cases v <;> simp [shown] at s <;> simp [c_is_whole, exS, evE, RS.on, R.bind, RS.then, RS.fin, isiM, intB]
end
end MP
set_option Elab.async false
set_option linter.all false
set_option maxRecDepth 100000
set_option autoImplicit false
namespace MP
open PySem L2
/-- a run that ends well ends so; with an exception: so -/
def E {α : Type} (r : R α) (Q : α → Hm → Prop) (X : Nat → Hm → Prop) : Prop := match r with
  | .ok a h => Q a h
  | .exc k h => X k h
  | .bad => False
def W (r : RS) (N : En → Hm → Prop) (V : Val → Hm → Prop) (X : Nat → En → Hm → Prop) : Prop := match r with
  | .nx e h => N e h
  | .rt v h => V v h
  | .exc k e h => X k e h
  | _ => False
def OE {α : Type} (o : Option α) (Q : α → Prop) : Prop := match o with
  | some a => Q a
  | none => False
def lkV (o : Option (Option Val)) (Q : Val → Prop) : Prop := match o with
  | some (some v) => Q v
  | _ => False
def brV (v : Val) (A B : Prop) : Prop := match v with
  | .bl true => A
  | .bl false => B
  | _ => False
def asI (v : Val) (Q : Int → Prop) : Prop := match v with
  | .int i => Q i
  | _ => False
theorem E_congr {α : Type} {r r' : R α} {Q : α → Hm → Prop} {X : Nat → Hm → Prop} (h : r = r') : E r Q X = E r' Q X := by rw [h]
theorem W_congr {r r' : RS} {N : En → Hm → Prop} {V : Val → Hm → Prop} {X : Nat → En → Hm → Prop} (h : r = r') : W r N V X = W r' N V X := by rw [h]
theorem OE_congr {α : Type} {r r' : Option α} {Q : α → Prop} (h : r = r') : OE r Q = OE r' Q := by rw [h]
theorem lkV_congr {r r' : Option (Option Val)} {Q : Val → Prop} (h : r = r') : lkV r Q = lkV r' Q := by rw [h]
theorem brV_congr {v v' : Val} {A B : Prop} (h : v = v') : brV v A B = brV v' A B := by rw [h]
theorem asI_congr {v v' : Val} {Q : Int → Prop} (h : v = v') : asI v Q = asI v' Q := by rw [h]
theorem brV_if {b : Bool} {A B : Prop} (h1 : b = true → A) (h2 : b = false → B) : brV (.bl b) A B := by
  cases b with
  | true => exact h1 rfl
  | false => exact h2 rfl
theorem brV_t {b : Bool} {A B : Prop} (h : b = true) : brV (.bl b) A B = A := by rw [h]; rfl
theorem brV_f {b : Bool} {A B : Prop} (h : b = false) : brV (.bl b) A B = B := by rw [h]; rfl
theorem E_bind {α β : Type} {r : R α} {f : α → Hm → R β} {Q : β → Hm → Prop} {X : Nat → Hm → Prop} : E (r.bind f) Q X = E r (fun a h => E (f a h) Q X) X := by cases r <;> rfl
theorem W_on {α : Type} {r : R α} {e : En} {f : α → Hm → RS} {N : En → Hm → Prop} {V : Val → Hm → Prop} {X : Nat → En → Hm → Prop} : W (.on r e f) N V X = E r (fun a h => W (f a h) N V X) (fun k h => X k e h) := by cases r <;> rfl
theorem W_then {r : RS} {f : En → Hm → RS} {N : En → Hm → Prop} {V : Val → Hm → Prop} {X : Nat → En → Hm → Prop} : W (r.then f) N V X = W r (fun e h => W (f e h) N V X) V X := by cases r <;> rfl
theorem E_fin {r : RS} {Q : Val → Hm → Prop} {X : Nat → Hm → Prop} : E r.fin Q X = W r (fun _ h => Q .non h) Q (fun k _ h => X k h) := by cases r <;> rfl
theorem E_mono {α : Type} {r : R α} {Q Q' : α → Hm → Prop} {X X' : Nat → Hm → Prop} (h : E r Q X) (q : ∀ a h, Q a h → Q' a h) (x : ∀ k h, X k h → X' k h) : E r Q' X' := by
  cases r with
  | ok a h' => exact q _ _ h
  | exc k h' => exact x _ _ h
  | bad => exact h
theorem W_mono {r : RS} {N N' : En → Hm → Prop} {V V' : Val → Hm → Prop} {X X' : Nat → En → Hm → Prop} (h : W r N V X) (n : ∀ e h, N e h → N' e h) (v : ∀ a h, V a h → V' a h) (x : ∀ k e h, X k e h → X' k e h) : W r N' V' X' := by
  cases r with
  | nx e h' => exact n _ _ h
  | rt a h' => exact v _ _ h
  | exc k e h' => exact x _ _ _ h
  | bk e h' => exact h
  | ct e h' => exact h
  | bad => exact h
/-- no exception -/
abbrev nox : Nat → Hm → Prop := fun _ _ => False
abbrev noX : Nat → En → Hm → Prop := fun _ _ _ => False
theorem ok_of_E {α : Type} {r : R α} {a : α} {h : Hm} (p : E r (fun x g => x = a ∧ g = h) nox) : r = .ok a h := by
  cases r with
  | ok x g => obtain ⟨rfl, rfl⟩ := p; rfl
  | exc k g => exact p.elim
  | bad => exact p.elim
theorem exc_of_E {α : Type} {r : R α} {k : Nat} (p : E r (fun _ _ => False) (fun j _ => j = k)) : ∃ h, r = .exc k h := by
  cases r with
  | ok x g => exact p.elim
  | exc j g => exact ⟨g, by rw [show j = k from p]⟩
  | bad => exact p.elim
theorem ex_of_E {α : Type} {r : R α} {Q : α → Hm → Prop} (p : E r Q nox) : ∃ a h, r = .ok a h ∧ Q a h := by
  cases r with
  | ok x g => exact ⟨x, g, rfl, p⟩
  | exc k g => exact p.elim
  | bad => exact p.elim
theorem E_ok {α : Type} {r : R α} {a : α} {h : Hm} {Q : α → Hm → Prop} {X : Nat → Hm → Prop} (e : r = .ok a h) (q : Q a h) : E r Q X := by rw [e]; exact q
theorem E_exc {α : Type} {r : R α} {k : Nat} {h : Hm} {Q : α → Hm → Prop} {X : Nat → Hm → Prop} (e : r = .exc k h) (q : X k h) : E r Q X := by rw [e]; exact q
theorem OE_of {α : Type} {o : Option α} {a : α} {Q : α → Prop} (e : o = some a) (q : Q a) : OE o Q := by rw [e]; exact q
section
variable {T : Tab} {cl : CallF} {e : En} {h : Hm} {Q : Val → Hm → Prop} {X : Nat → Hm → Prop}
theorem e_var {i : Nat} : E (evE T cl (.var i) e h) Q X = lkV e[i]? (fun v => Q v h) := by
  simp only [evE]
  cases e[i]? with
  | none => rfl
  | some o => cases o <;> rfl
theorem e_cst {v : Val} : E (evE T cl (.cst v) e h) Q X = Q v h := by simp only [evE]; rfl
theorem e_bin {z : Bool} {o : BOp} {a b : C} : E (evE T cl (.bin z o a b) e h) Q X = E (evE T cl a e h) (fun x h => E (evE T cl b e h) (fun y h => E (binM z o x y h) Q X) X) X := by simp only [evE, E_bind]
theorem e_neg {a : C} : E (evE T cl (.neg a) e h) Q X = E (evE T cl a e h) (fun x h => asI x fun i => Q (.int (-i)) h) X := by
  simp only [evE, E_bind]
  congr; funext x h; cases x <;> rfl
theorem oe_match {o : Option Bool} : E (match o with | some r => R.ok (Val.bl r) h | none => .bad) Q X = OE o (fun r => Q (.bl r) h) := by cases o <;> rfl
theorem e_cmp {o : COp} {a b : C} : E (evE T cl (.cmp o a b) e h) Q X = E (evE T cl a e h) (fun x h => E (evE T cl b e h) (fun y h => OE (cmpM o h x y) fun r => Q (.bl r) h) X) X := by
  simp only [evE, E_bind]
  congr; funext x h; congr; funext y h
  cases cmpM o h x y <;> rfl
theorem e_cmp2 {o p : COp} {a b c : C} : E (evE T cl (.cmp2 o p a b c) e h) Q X = E (evE T cl a e h) (fun x h => E (evE T cl b e h) (fun y h => OE (cmpM o h x y) fun r =>
    brV (.bl r) (E (evE T cl c e h) (fun w h => OE (cmpM p h y w) fun r => Q (.bl r) h) X) (Q (.bl false) h)) X) X := by
  simp only [evE, E_bind]
  congr; funext x h; congr; funext y h
  cases cmpM o h x y with
  | none => rfl
  | some r =>
    cases r with
    | false => rfl
    | true =>
      simp only [OE, brV, E_bind]
      congr; funext w h; cases cmpM p h y w <;> rfl
theorem e_cmp3 {o p q : COp} {a b c d : C} : E (evE T cl (.cmp3 o p q a b c d) e h) Q X = E (evE T cl a e h) (fun x h => E (evE T cl b e h) (fun y h => OE (cmpM o h x y) fun r =>
    brV (.bl r) (E (evE T cl c e h) (fun w h => OE (cmpM p h y w) fun r => brV (.bl r) (E (evE T cl d e h) (fun u h => OE (cmpM q h w u) fun r => Q (.bl r) h) X) (Q (.bl false) h)) X) (Q (.bl false) h)) X) X := by
  simp only [evE, E_bind]
  congr; funext x h; congr; funext y h
  cases cmpM o h x y with
  | none => rfl
  | some r =>
    cases r with
    | false => rfl
    | true =>
      simp only [OE, brV, E_bind]
      congr; funext w h
      cases cmpM p h y w with
      | none => rfl
      | some r =>
        cases r with
        | false => rfl
        | true =>
          simp only [OE, brV, E_bind]
          congr; funext u h; cases cmpM q h w u <;> rfl
theorem e_not {a : C} : E (evE T cl (.not a) e h) Q X = E (evE T cl a e h) (fun x h => brV x (Q (.bl false) h) (Q (.bl true) h)) X := by
  simp only [evE, E_bind]
  congr; funext x h
  cases x with
  | bl b => cases b <;> rfl
  | _ => rfl
theorem e_and {a b : C} : E (evE T cl (.and a b) e h) Q X = E (evE T cl a e h) (fun x h => brV x (E (evE T cl b e h) Q X) (Q (.bl false) h)) X := by
  simp only [evE, E_bind]
  congr; funext x h
  cases x with
  | bl b => cases b <;> rfl
  | _ => rfl
theorem e_or {a b : C} : E (evE T cl (.or a b) e h) Q X = E (evE T cl a e h) (fun x h => brV x (Q (.bl true) h) (E (evE T cl b e h) Q X)) X := by
  simp only [evE, E_bind]
  congr; funext x h
  cases x with
  | bl b => cases b <;> rfl
  | _ => rfl
theorem e_ite {t a b : C} : E (evE T cl (.ite t a b) e h) Q X = E (evE T cl t e h) (fun x h => brV x (E (evE T cl a e h) Q X) (E (evE T cl b e h) Q X)) X := by
  simp only [evE, E_bind]
  congr; funext x h
  cases x with
  | bl b => cases b <;> rfl
  | _ => rfl
theorem e_idx {a i : C} : E (evE T cl (.idx a i) e h) Q X = E (evE T cl a e h) (fun x h => E (evE T cl i e h) (fun y h => E (idxM x y h) Q X) X) X := by simp only [evE, E_bind]
theorem e_slc {z : Bool} {a lo hi : C} : E (evE T cl (.slc z a lo hi) e h) Q X = E (evE T cl a e h) (fun x h => E (evP T cl lo e h) (fun l h => E (evP T cl hi e h) (fun u h => E (slcM z x l u h) Q X) X) X) X := by simp only [evE, E_bind]
theorem e_rev {z : Bool} {a : C} : E (evE T cl (.rev z a) e h) Q X = E (evE T cl a e h) (fun x h => OE (lstOf h x) fun vs => E (mkL z vs.reverse h) Q X) X := by
  simp only [evE, E_bind]
  congr; funext x h
  cases lstOf h x <;> rfl
theorem e_fld {a : C} {f : Nat} : E (evE T cl (.fld a f) e h) Q X = E (evE T cl a e h) (fun x h => E (fldM x f h) Q X) X := by simp only [evE, E_bind]
theorem e_tup {as : C} : E (evE T cl (.tup as) e h) Q X = E (evA T cl as e h) (fun vs h => vs.length ≤ big ∧ Q (.tup vs) h) X := by
  simp only [evE, E_bind]
  congr; funext vs h
  split
  · rename_i k; simp [E, k]
  · rename_i k; simp [E, k]
theorem e_lst {z : Bool} {as : C} : E (evE T cl (.lst z as) e h) Q X = E (evA T cl as e h) (fun vs h => vs.length ≤ big ∧ E (mkL z vs h) Q X) X := by
  simp only [evE, E_bind]
  congr; funext vs h
  split
  · rename_i k; simp [k]
  · rename_i k; simp [E, k]
theorem e_dct {ks : List MKey} {as : C} : E (evE T cl (.dct ks as) e h) Q X = E (evA T cl as e h) (fun vs h => (vs.length = ks.length ∧ ks.length < 16) ∧ Q (.ref h.length) (h ++ [.dct ks vs])) X := by
  simp only [evE, E_bind]
  congr; funext vs h
  split
  · rename_i k; simp [E, k]
  · rename_i k; simp [E, k]
theorem e_call {z : Md} {f : Nat} {as : C} : E (evE T cl (.call z f as) e h) Q X = E (evA T cl as e h) (fun vs h => E (callM cl z f vs h) Q X) X := by simp only [evE, E_bind]
theorem e_bi {b : BI} {z : Bool} {as : C} : E (evE T cl (.bi b z as) e h) Q X = E (evA T cl as e h) (fun vs h => E (biM b z vs h) Q X) X := by simp only [evE, E_bind]
theorem e_meth {m : MI} {o as : C} : E (evE T cl (.meth m o as) e h) Q X = E (evE T cl o e h) (fun x h => methK m h x = true ∧ E (evA T cl as e h) (fun vs h => E (methM m x vs h) Q X) X) X := by
  simp only [evE, E_bind]
  congr; funext x h
  split
  · rename_i k; simp only [k, true_and, E_bind]
  · rename_i k; simp [E, k]
theorem e_ocall {z : Md} {m : Nat} {o as : C} : E (evE T cl (.ocall z m o as) e h) Q X = E (evE T cl o e h) (fun x h => OE (clsOf h x) fun k => OE (T.meth k m) fun f => E (evA T cl as e h) (fun vs h => E (callM cl z f (x :: vs) h) Q X) X) X := by
  simp only [evE, E_bind]
  congr; funext x h
  cases clsOf h x with
  | none => rfl
  | some k =>
    simp only [OE]
    cases T.meth k m with
    | none => rfl
    | some f => simp only [E_bind]
theorem e_new {k : Nat} {as : C} : E (evE T cl (.new k as) e h) Q X = E (evA T cl as e h) (fun vs h => E (newM T cl k vs h) Q X) X := by simp only [evE, E_bind]
theorem e_isi {a : C} {t : Ty} : E (evE T cl (.isi a t) e h) Q X = E (evE T cl a e h) (fun x h => OE (isiM T.sup h x t) fun r => Q (.bl r) h) X := by
  simp only [evE, E_bind]
  congr; funext x h; cases isiM T.sup h x t <;> rfl
theorem a_nil {Q : List Val → Hm → Prop} : E (evA T cl .nil e h) Q X = Q [] h := by simp only [evA]; rfl
theorem a_cons {a b : C} {Q : List Val → Hm → Prop} : E (evA T cl (.cons a b) e h) Q X = E (evE T cl a e h) (fun x h => E (evA T cl b e h) (fun xs h => Q (x :: xs) h) X) X := by
  simp only [evA, E_bind]; rfl
theorem p_omit {Q : Option Int → Hm → Prop} : E (evP T cl .omit e h) Q X = Q none h := by simp only [evP]; rfl
theorem p_part {a : C} {Q : Option Int → Hm → Prop} : E (evP T cl (.part a) e h) Q X = E (evE T cl a e h) (fun x h => asI x fun i => Q (some i) h) X := by
  simp only [evP, E_bind]
  congr; funext x h; cases x <;> rfl
theorem i_seq {a : C} {Q : Src → Hm → Prop} : E (evI T cl (.iSeq a) e h) Q X = E (evE T cl a e h) (fun x h => OE (srcOf h x) fun s => Q s h) X := by
  simp only [evI, E_bind]
  congr; funext x h; cases srcOf h x <;> rfl
theorem i_rng {as : C} {Q : Src → Hm → Prop} : E (evI T cl (.iRng as) e h) Q X = E (evA T cl as e h) (fun vs h => OE (rngM vs) fun s => Q s h) X := by
  simp only [evI, E_bind]
  congr; funext x h; cases rngM x <;> rfl
theorem i_enum {a : C} {Q : Src → Hm → Prop} : E (evI T cl (.iEnum a) e h) Q X = E (evE T cl a e h) (fun x h => isTup x = false ∧ OE (srcOf h x) fun s => Q (.enum s) h) X := by
  simp only [evI, E_bind]
  congr; funext x h
  cases isTup x with
  | true => simp [E]
  | false => cases srcOf h x <;> simp [E, OE]
theorem i_zip {as : C} {Q : Src → Hm → Prop} : E (evI T cl (.iZip as) e h) Q X = E (evA T cl as e h) (fun vs h => OE (zipM h vs) fun s => Q s h) X := by
  simp only [evI, E_bind]
  congr; funext x h; cases zipM h x <;> rfl
end
section
variable {T : Tab} {cl : CallF} {e : En} {h : Hm} {N : En → Hm → Prop} {V : Val → Hm → Prop} {X : Nat → En → Hm → Prop}
theorem s_nil : W (exS T cl .nil e h) N V X = N e h := by simp only [exS]; rfl
theorem s_pass : W (exS T cl .pass e h) N V X = N e h := by simp only [exS]; rfl
theorem s_seq {a b : S} : W (exS T cl (.seq a b) e h) N V X = W (exS T cl a e h) (fun e h => W (exS T cl b e h) N V X) V X := by simp only [exS, W_then]
theorem s_asg {p : Pat} {x : C} : W (exS T cl (.asg p x) e h) N V X = E (evE T cl x e h) (fun v h => OE (bindP p v e) fun e' => N e' h) (fun k h => X k e h) := by
  simp only [exS, W_on]
  congr; funext v h; cases bindP p v e <;> rfl
theorem s_par {is : List Nat} {as : C} : W (exS T cl (.par is as) e h) N V X = E (evA T cl as e h) (fun vs h => OE (setAll is vs e) fun e' => N e' h) (fun k h => X k e h) := by
  simp only [exS, W_on]
  congr; funext v h; cases setAll is v e <;> rfl
theorem s_setI {o i x : C} : W (exS T cl (.setI o i x) e h) N V X = E (evE T cl x e h) (fun v h => E (evE T cl o e h) (fun w h => E (evE T cl i e h) (fun u h => OE (setIM w u v h) fun h' => N e h') (fun k h => X k e h)) (fun k h => X k e h)) (fun k h => X k e h) := by
  simp only [exS, W_on]
  congr; funext v h; congr; funext w h; congr; funext u h; cases setIM w u v h <;> rfl
theorem s_setF {o : C} {f : Nat} {x : C} : W (exS T cl (.setF o f x) e h) N V X = E (evE T cl x e h) (fun v h => E (evE T cl o e h) (fun w h => OE (setFM w f v h) fun h' => N e h') (fun k h => X k e h)) (fun k h => X k e h) := by
  simp only [exS, W_on]
  congr; funext v h; congr; funext w h; cases setFM w f v h <;> rfl
theorem s_aug {i : Nat} {o : BOp} {x : C} : W (exS T cl (.aug i o x) e h) N V X = lkV e[i]? (fun a => asI a fun a => E (evE T cl x e h) (fun v h => asI v fun b => OE (binI o a b) fun k => N (e.set i (some (.int k))) h) (fun k h => X k e h)) := by
  simp only [exS]
  cases e[i]? with
  | none => rfl
  | some q =>
    cases q with
    | none => rfl
    | some v =>
      cases v with
      | int a =>
        simp only [lkV, asI, W_on]
        congr; funext v h
        cases v with
        | int b => simp only [asI]; cases binI o a b <;> rfl
        | _ => rfl
      | _ => rfl
theorem s_augF {x y : C} {f : Nat} {o : BOp} : W (exS T cl (.augF x f o y) e h) N V X = E (evE T cl x e h) (fun w h => E (fldM w f h) (fun a _ => asI a fun a => E (evE T cl y e h) (fun v h2 => asI v fun b => OE (binI o a b) fun k => clsOf h w = clsOf h2 w ∧ OE (setFM w f (.int k) h2) fun h' => N e h') (fun k h => X k e h)) (fun _ _ => False)) (fun k h => X k e h) := by
  simp only [exS, W_on]
  congr; funext w h
  cases fldM w f h with
  | exc k g => rfl
  | bad => rfl
  | ok a g =>
    cases a with
    | int a =>
      simp only [E, asI, W_on]
      congr; funext v h2
      cases v with
      | int b =>
        simp only [asI]
        cases binI o a b with
        | none => rfl
        | some k =>
          simp only [OE]
          split
          · rename_i z; cases setFM w f (.int k) h2 <;> simp [W, z]
          · rename_i z; simp [W, z]
      | _ => rfl
    | _ => rfl
theorem s_ex {x : C} : W (exS T cl (.ex x) e h) N V X = E (evE T cl x e h) (fun _ h => N e h) (fun k h => X k e h) := by
  simp only [exS, W_on]; rfl
theorem s_ite {c : C} {a b : S} : W (exS T cl (.ite c a b) e h) N V X = E (evE T cl c e h) (fun v h => brV v (W (exS T cl a e h) N V X) (W (exS T cl b e h) N V X)) (fun k h => X k e h) := by
  simp only [exS, W_on]
  congr; funext v h
  cases v with
  | bl b => cases b <;> rfl
  | _ => rfl
theorem s_ret {x : C} : W (exS T cl (.ret x) e h) N V X = E (evE T cl x e h) V (fun k h => X k e h) := by
  simp only [exS, W_on]; rfl
theorem s_retN : W (exS T cl .retN e h) N V X = V .non h := by simp only [exS]; rfl
theorem s_rais {k : Nat} : W (exS T cl (.rais k) e h) N V X = X k e h := by simp only [exS]; rfl
end
end MP
set_option Elab.async false
set_option linter.all false
set_option maxRecDepth 100000
set_option autoImplicit false
namespace MP
open PySem L2
/-- what a source gives at this heap -/
def StAt (s : Src) (l : List Val) (h : Hm) : Prop := s.len h = some l.length ∧ ∀ k, s.at h k = l[k]?
theorem Static.st {s : Src} {l : List Val} (a : Static s l) (h : Hm) : StAt s l h := a h
theorem stAt_stat (vs : List Val) (h : Hm) : StAt (.stat vs) vs h := ⟨rfl, fun _ => rfl⟩
theorem stAt_live {i : Nat} {vs : List Val} {h : Hm} (e : h[i]? = some (.lst vs)) : StAt (.live i) vs h := ⟨by simp only [Src.len, e], fun k => by simp only [Src.at, e]⟩
theorem stAt_enum {s : Src} {α : Type} {xs : List α} {g : α → Val} {h : Hm} (st : StAt s (xs.map g) h) : StAt (.enum s) (xs.zipIdx.map fun p => .tup [.int (p.2 : Nat), g p.1]) h := by
  refine ⟨by simp only [Src.len, st.1, List.length_map, List.length_zipIdx], fun k => ?_⟩
  simp only [Src.at, st.2, List.getElem?_map, List.getElem?_zipIdx]
  cases xs[k]? <;> simp
theorem stAt_zip {s t : Src} {α β : Type} {xs : List α} {ys : List β} {g : α → Val} {f : β → Val} {h : Hm} (st : StAt s (xs.map g) h) (tt : StAt t (ys.map f) h) : StAt (.zip s t) ((xs.zip ys).map fun p => .tup [g p.1, f p.2]) h := by
  refine ⟨by simp only [Src.len, st.1, tt.1, List.length_map, List.length_zip], fun k => ?_⟩
  simp only [Src.at, st.2, tt.2, List.getElem?_map, List.getElem?_zip_eq_some, List.zip]
  rw [List.getElem?_zipWith]
  cases xs[k]? <;> cases ys[k]? <;> rfl
section
variable {T : Tab} {cl : CallF}
theorem w_forL {N : En → Hm → Prop} {V : Val → Hm → Prop} {X : Nat → En → Hm → Prop} {α : Type} {p : Pat} {it : C} {b : S} {e : En} {h : Hm} {xs : List α} {g : α → Val} (Inv : List α → En → Hm → Prop)
    (ei : E (evI T cl it e h) (fun s h1 => (∀ pre e h, Inv pre e h → StAt s (xs.map g) h) ∧ Inv [] e h1) (fun k h => X k e h))
    (step : ∀ pre a post, xs = pre ++ a :: post → ∀ e h, Inv pre e h → OE (bindP p (g a) e) fun e' => W (exS T cl b e' h) (Inv (pre ++ [a])) V X)
    (fin : ∀ e h, Inv xs e h → N e h) : W (exS T cl (.loop p it b) e h) N V X := by
  simp only [exS, W_on]
  refine E_mono ei (fun s h1 q => ?_) fun _ _ x => x
  obtain ⟨st, i0⟩ := q
  rw [(st _ _ _ i0).1]
  simp only
  have key : ∀ (post pre : List α) (e : En) (h : Hm), xs = pre ++ post → Inv pre e h → W (forM' (fun v e h => match bindP p v e with | some e' => exS T cl b e' h | none => .bad) s (xs.map g).length post.length e h) N V X := by
    intro post
    induction post with
    | nil =>
      intro pre e h ex i
      rw [List.append_nil] at ex
      subst ex
      simp only [List.length_nil, forM', (st _ _ _ i).1, if_true, W]
      exact fin _ _ i
    | cons a post ih =>
      intro pre e h ex i
      have sa := st _ _ _ i
      simp only [List.length_cons, forM', sa.1, if_true, sa.2]
      have e1 : (xs.map g).length - (post.length + 1) = pre.length := by rw [ex]; simp
      rw [e1]
      have e2 : (xs.map g)[pre.length]? = some (g a) := by
        rw [List.getElem?_map, ex, List.getElem?_append_right (Nat.le_refl _), Nat.sub_self]
        rfl
      rw [e2]
      simp only
      have q := step pre a post ex e h i
      cases hb : bindP p (g a) e with
      | none => rw [hb] at q; exact q.elim
      | some e' =>
        rw [hb] at q
        simp only [OE] at q ⊢
        cases hr : exS T cl b e' h with
        | nx e2 h2 =>
          rw [hr] at q
          exact ih (pre ++ [a]) e2 h2 (by rw [ex]; simp) q
        | ct e2 h2 => rw [hr] at q; exact q.elim
        | bk e2 h2 => rw [hr] at q; exact q.elim
        | rt v h2 => rw [hr] at q; exact q
        | exc k e2 h2 => rw [hr] at q; exact q
        | bad => rw [hr] at q; exact q.elim
  have := key xs [] e h1 rfl i0
  rw [List.length_map] at this ⊢
  exact this
theorem w_for {N : En → Hm → Prop} {V : Val → Hm → Prop} {X : Nat → En → Hm → Prop} {α : Type} {p : Pat} {it : C} {b : S} {e : En} {h : Hm} {xs : List α} {g : α → Val} (Inv : List α → En → Hm → Prop)
    (ei : E (evI T cl it e h) (fun s h1 => (∀ h, StAt s (xs.map g) h) ∧ Inv [] e h1) (fun k h => X k e h))
    (step : ∀ pre a post, xs = pre ++ a :: post → ∀ e h, Inv pre e h → OE (bindP p (g a) e) fun e' => W (exS T cl b e' h) (Inv (pre ++ [a])) V X)
    (fin : ∀ e h, Inv xs e h → N e h) : W (exS T cl (.loop p it b) e h) N V X :=
  w_forL Inv (E_mono ei (fun _ _ q => ⟨fun _ _ h _ => q.1 h, q.2⟩) fun _ _ x => x) step fin
theorem w_whl {N : En → Hm → Prop} {V : Val → Hm → Prop} {X : Nat → En → Hm → Prop} {c : C} {b : S} {e : En} {h : Hm} {m : Nat} (Inv : Nat → En → Hm → Prop) (i0 : Inv m e h) (hm : m < fuelW)
    (step : ∀ m e h, Inv m e h → E (evE T cl c e h) (fun v h' => brV v (W (exS T cl b e h') (fun e' h'' => ∃ j, j < m ∧ Inv j e' h'') V X) (N e h')) (fun k h => X k e h)) : W (exS T cl (.whl c b) e h) N V X := by
  simp only [exS]
  have key : ∀ (n m : Nat) (e : En) (h : Hm), m < n → Inv m e h → W (whlM (evE T cl c) (exS T cl b) n e h) N V X := by
    intro n
    induction n with
    | zero => intro m e h l; omega
    | succ n ih =>
      intro m e h l i
      have q := step m e h i
      unfold whlM
      cases hr : evE T cl c e h with
      | ok v h' =>
        rw [hr] at q
        cases v with
        | bl b' =>
          cases b' with
          | false => exact q
          | true =>
            have q : W (exS T cl b e h') (fun e' h'' => ∃ j, j < m ∧ Inv j e' h'') V X := q
            simp only
            cases hs : exS T cl b e h' with
            | nx e2 h2 =>
              rw [hs] at q
              obtain ⟨j, lj, ij⟩ := q
              exact ih j e2 h2 (by omega) ij
            | ct e2 h2 => rw [hs] at q; exact q.elim
            | bk e2 h2 => rw [hs] at q; exact q.elim
            | rt v h2 => rw [hs] at q; exact q
            | exc k e2 h2 => rw [hs] at q; exact q
            | bad => rw [hs] at q; exact q.elim
        | _ => exact q.elim
      | exc k h' => rw [hr] at q; exact q
      | bad => rw [hr] at q; exact q.elim
  exact key fuelW m e h hm i0
/-- a comprehension, by what holds on the way -/
theorem e_compI {Q : Val → Hm → Prop} {X : Nat → Hm → Prop} {α : Type} {z : Bool} {own : List Nat} {p : Pat} {it cd x : C} {e : En} {h : Hm} {xs : List α} {g : α → Val} (Inv : List α → List Val → Hm → Prop)
    (ei : E (evI T cl it e h) (fun s h1 => (∀ pre acc h, Inv pre acc h → StAt s (xs.map g) h) ∧ Inv [] [] h1) X)
    (step : ∀ pre a post, xs = pre ++ a :: post → ∀ acc h, Inv pre acc h → OE (bindP p (g a) (wipeM e own)) fun e' => E (evE T cl cd e' h) (fun v h' => brV v (E (evE T cl x e' h') (fun w h'' => Inv (pre ++ [a]) (acc ++ [w]) h'') nox) (Inv (pre ++ [a]) acc h')) nox)
    (fin : ∀ acc h, Inv xs acc h → E (mkL z acc h) Q X) : E (evE T cl (.comp z own p it cd x) e h) Q X := by
  simp only [evE, E_bind]
  refine E_mono ei (fun s h1 q => ?_) fun _ _ x => x
  obtain ⟨st, i0⟩ := q
  rw [(st _ _ _ i0).1]
  simp only [E_bind]
  have key : ∀ (post pre : List α) (acc : List Val) (h : Hm), xs = pre ++ post → Inv pre acc h → E (compM (fun v h => match bindP p v (wipeM e own) with
        | some e' => (evE T cl cd e' h).bind fun c h => match c with
          | .bl true => (evE T cl x e' h).bind fun w h => .ok (some w) h
          | .bl false => .ok none h
          | _ => .bad
        | none => .bad) s (xs.map g).length post.length acc h) (fun vs h => E (mkL z vs h) Q X) X := by
    intro post
    induction post with
    | nil =>
      intro pre acc h ex i
      rw [List.append_nil] at ex
      subst ex
      simp only [List.length_nil, compM, (st _ _ _ i).1, if_true, E]
      exact fin _ _ i
    | cons a post ih =>
      intro pre acc h ex i
      have sa := st _ _ _ i
      simp only [List.length_cons, compM, sa.1, if_true, sa.2]
      have e1 : (xs.map g).length - (post.length + 1) = pre.length := by rw [ex]; simp
      rw [e1]
      have e2 : (xs.map g)[pre.length]? = some (g a) := by
        rw [List.getElem?_map, ex, List.getElem?_append_right (Nat.le_refl _), Nat.sub_self]
        rfl
      rw [e2]
      simp only
      have q := step pre a post ex acc h i
      cases hb : bindP p (g a) (wipeM e own) with
      | none => rw [hb] at q; exact q.elim
      | some e' =>
        rw [hb] at q
        simp only [OE] at q ⊢
        cases hr : evE T cl cd e' h with
        | exc k h2 => rw [hr] at q; exact q.elim
        | bad => rw [hr] at q; exact q.elim
        | ok v h2 =>
          rw [hr] at q
          cases v with
          | bl b =>
            cases b with
            | false => exact ih (pre ++ [a]) acc h2 (by rw [ex]; simp) q
            | true =>
              have q : E (evE T cl x e' h2) (fun w h'' => Inv (pre ++ [a]) (acc ++ [w]) h'') nox := q
              simp only [R.bind]
              cases hs : evE T cl x e' h2 with
              | exc k h3 => rw [hs] at q; exact q.elim
              | bad => rw [hs] at q; exact q.elim
              | ok w h3 =>
                rw [hs] at q
                exact ih (pre ++ [a]) (acc ++ [w]) h3 (by rw [ex]; simp) q
          | _ => exact q.elim
  have := key xs [] [] h1 rfl i0
  rw [List.length_map] at this ⊢
  exact this
/-- each item gives one, told; the heap stays -/
theorem e_compF {Q : Val → Hm → Prop} {X : Nat → Hm → Prop} {α : Type} {z : Bool} {own : List Nat} {p : Pat} {it cd x : C} {e : En} {h h1 : Hm} {xs : List α} {g : α → Val} (c : α → Bool) (f : α → Val)
    (ei : E (evI T cl it e h) (fun s h2 => StAt s (xs.map g) h1 ∧ h2 = h1) X)
    (step : ∀ a ∈ xs, OE (bindP p (g a) (wipeM e own)) fun e' => E (evE T cl cd e' h1) (fun v h' => v = .bl (c a) ∧ h' = h1) nox ∧ (c a = true → E (evE T cl x e' h1) (fun w h' => w = f a ∧ h' = h1) nox))
    (q : E (mkL z ((xs.filter c).map f) h1) Q X) : E (evE T cl (.comp z own p it cd x) e h) Q X := by
  refine e_compI (xs := xs) (g := g) (fun pre acc h => acc = (pre.filter c).map f ∧ h = h1) (E_mono ei (fun s h2 r => ⟨?_, rfl, r.2⟩) fun _ _ x => x) ?_ ?_
  · rintro _ _ _ ⟨_, rfl⟩
    exact r.1
  · rintro pre a post ex acc h ⟨rfl, rfl⟩
    have q := step a (by rw [ex]; simp)
    cases hb : bindP p (g a) (wipeM e own) with
    | none => rw [hb] at q; exact q.elim
    | some e' =>
      rw [hb] at q
      obtain ⟨q1, q2⟩ := q
      refine E_mono q1 (fun v h' r => ?_) fun _ _ x => x
      obtain ⟨rfl, rfl⟩ := r
      refine brV_if (fun t => E_mono (q2 t) (fun w h'' r => ?_) fun _ _ x => x) fun t => ?_
      · obtain ⟨rfl, rfl⟩ := r
        exact ⟨by simp [t], rfl⟩
      · exact ⟨by simp [t], rfl⟩
  · rintro acc h ⟨rfl, rfl⟩
    exact q
theorem filter_true' {α : Type} (xs : List α) : xs.filter (fun _ => true) = xs := by simp
theorem e_compM {Q : Val → Hm → Prop} {X : Nat → Hm → Prop} {α : Type} {z : Bool} {own : List Nat} {p : Pat} {it x : C} {e : En} {h h1 : Hm} {xs : List α} {g : α → Val} (f : α → Val)
    (ei : E (evI T cl it e h) (fun s h2 => StAt s (xs.map g) h1 ∧ h2 = h1) X)
    (step : ∀ a ∈ xs, OE (bindP p (g a) (wipeM e own)) fun e' => E (evE T cl x e' h1) (fun w h' => w = f a ∧ h' = h1) nox)
    (q : E (mkL z (xs.map f) h1) Q X) : E (evE T cl (.comp z own p it (.cst (.bl true)) x) e h) Q X := by
  refine e_compF (fun _ => true) f ei (fun a m => ?_) (by rw [filter_true']; exact q)
  have s := step a m
  cases hb : bindP p (g a) (wipeM e own) with
  | none => rw [hb] at s; exact s.elim
  | some e' =>
    rw [hb] at s
    exact ⟨by rw [e_cst]; exact ⟨rfl, rfl⟩, fun _ => s⟩
/-- item and what it gives, side by side -/
inductive All2 {α β : Type} (P : α → β → Prop) : List α → List β → Prop
  | nil : All2 P [] []
  | cons {a : α} {b : β} {as : List α} {bs : List β} : P a b → All2 P as bs → All2 P (a :: as) (b :: bs)
theorem All2.snoc {α β : Type} {P : α → β → Prop} {as : List α} {bs : List β} {a : α} {b : β} (q : All2 P as bs) (p : P a b) : All2 P (as ++ [a]) (bs ++ [b]) := by
  induction q with
  | nil => exact .cons p .nil
  | cons x _ ih => exact .cons x ih
theorem All2.length {α β : Type} {P : α → β → Prop} {as : List α} {bs : List β} (q : All2 P as bs) : as.length = bs.length := by
  induction q with
  | nil => rfl
  | cons x _ ih => simp [ih]
theorem All2.get {α β : Type} {P : α → β → Prop} {as : List α} {bs : List β} (q : All2 P as bs) {i : Nat} {a : α} (h : as[i]? = some a) : ∃ b, bs[i]? = some b ∧ P a b := by
  induction q generalizing i with
  | nil => cases h
  | cons x _ ih =>
    cases i with
    | zero => cases h; exact ⟨_, rfl, x⟩
    | succ i => exact ih h
theorem e_compR {Q : Val → Hm → Prop} {X : Nat → Hm → Prop} {α : Type} {z : Bool} {own : List Nat} {p : Pat} {it x : C} {e : En} {h h1 : Hm} {xs : List α} {g : α → Val} (P : α → Val → Prop)
    (ei : E (evI T cl it e h) (fun s h2 => StAt s (xs.map g) h1 ∧ h2 = h1) X)
    (step : ∀ a ∈ xs, OE (bindP p (g a) (wipeM e own)) fun e' => E (evE T cl x e' h1) (fun w h' => P a w ∧ h' = h1) nox)
    (q : ∀ ws, All2 P xs ws → E (mkL z ws h1) Q X) : E (evE T cl (.comp z own p it (.cst (.bl true)) x) e h) Q X := by
  refine e_compI (xs := xs) (g := g) (fun pre acc h => All2 P pre acc ∧ h = h1) (E_mono ei (fun s h2 r => ⟨?_, .nil, r.2⟩) fun _ _ x => x) ?_ ?_
  · rintro _ _ _ ⟨_, rfl⟩
    exact r.1
  · rintro pre a post ex acc h ⟨al, rfl⟩
    have s := step a (by rw [ex]; simp)
    cases hb : bindP p (g a) (wipeM e own) with
    | none => rw [hb] at s; exact s.elim
    | some e' =>
      rw [hb] at s
      simp only [OE, e_cst, brV]
      exact E_mono s (fun w h'' r => ⟨al.snoc r.1, r.2⟩) fun _ _ x => x
  · rintro acc h ⟨al, rfl⟩
    exact q acc al
end
section
variable {h : Hm} {Q : Val → Hm → Prop} {X : Nat → Hm → Prop}
theorem b_add {z : Bool} {i j : Int} : E (binM z .add (.int i) (.int j) h) Q X = Q (.int (i + j)) h := rfl
theorem b_sub {z : Bool} {i j : Int} : E (binM z .sub (.int i) (.int j) h) Q X = Q (.int (i - j)) h := rfl
theorem b_mul {z : Bool} {i j : Int} (k : i.natAbs.log2 + j.natAbs.log2 < 100000000) : E (binM z .mul (.int i) (.int j) h) Q X = Q (.int (i * j)) h := by
  simp only [binM, binI, k, if_true]; rfl
theorem b_fdiv {z : Bool} {i j : Int} (k : 0 < j) (l : j < 1000000000) : E (binM z .fdiv (.int i) (.int j) h) Q X = Q (.int (i / j)) h := by
  simp only [binM, binI, k, l, true_and, if_true]; rfl
theorem b_mod {z : Bool} {i j : Int} (k : 0 < j) : E (binM z .mod (.int i) (.int j) h) Q X = Q (.int (i % j)) h := by
  simp only [binM, binI, k, if_true]; rfl
theorem i_add {i j : Int} {Q : Int → Prop} : OE (binI .add i j) Q = Q (i + j) := rfl
theorem i_sub {i j : Int} {Q : Int → Prop} : OE (binI .sub i j) Q = Q (i - j) := rfl
theorem eqM_int {i j : Int} : eqM h (.int i) (.int j) = some (decide (i = j)) := by
  simp only [eqM, snap, deep, isData, eqV, Bool.and_self, if_true]
  congr 1
theorem eqM_str {i j : Nat} : eqM h (.str i) (.str j) = some (decide (i = j)) := by
  simp only [eqM, snap, deep, isData, eqV, Bool.and_self, if_true]
  congr 1
theorem c_lt {i j : Int} : cmpM .lt h (.int i) (.int j) = some (decide (i < j)) := rfl
theorem c_le {i j : Int} : cmpM .le h (.int i) (.int j) = some (decide (i ≤ j)) := rfl
theorem c_gt {i j : Int} : cmpM .gt h (.int i) (.int j) = some (decide (j < i)) := rfl
theorem c_ge {i j : Int} : cmpM .ge h (.int i) (.int j) = some (decide (j ≤ i)) := rfl
theorem c_eq {i j : Int} : cmpM .eq h (.int i) (.int j) = some (decide (i = j)) := eqM_int (h := h)
theorem c_ne {i j : Int} : cmpM .ne h (.int i) (.int j) = some (!decide (i = j)) := by simp only [cmpM, eqM_int]; rfl
theorem c_eqs {i j : Nat} : cmpM .eq h (.str i) (.str j) = some (decide (i = j)) := eqM_str (h := h)
theorem c_nes {i j : Nat} : cmpM .ne h (.str i) (.str j) = some (!decide (i = j)) := by simp only [cmpM, eqM_str]; rfl
theorem c_eqM {x y : Val} : cmpM .eq h x y = eqM h x y := rfl
theorem c_neM {x y : Val} : cmpM .ne h x y = (eqM h x y).map (!·) := rfl
theorem c_is {x y : Val} : cmpM .is h x y = isM x y := rfl
theorem c_isn {x y : Val} : cmpM .isn h x y = (isM x y).map (!·) := rfl
theorem c_inn {x y : Val} : cmpM .inn h x y = inM h x y := rfl
theorem c_nin {x y : Val} : cmpM .nin h x y = (inM h x y).map (!·) := rfl
theorem is_non : isM .non .non = some true := rfl
theorem is_int {i : Int} : isM (.int i) .non = some false := rfl
theorem is_tup {vs : List Val} : isM (.tup vs) .non = some false := rfl
theorem is_lst {c : Fz} {vs : List Val} : isM (.lst c vs) .non = some false := rfl
theorem is_ref {i : Nat} : isM (.ref i) .non = some false := rfl
theorem is_bl {a b : Bool} : isM (.bl a) (.bl b) = some (a == b) := rfl
theorem map_not {b : Bool} : (some b).map (!·) = some (!b) := rfl
theorem oe_some {α : Type} {a : α} {Q : α → Prop} : OE (some a) Q = Q a := rfl
theorem oe_none {α : Type} {Q : α → Prop} : OE none Q = False := rfl
theorem lk_some {v : Val} {Q : Val → Prop} : lkV (some (some v)) Q = Q v := rfl
theorem br_t {A B : Prop} : brV (.bl true) A B = A := rfl
theorem br_f {A B : Prop} : brV (.bl false) A B = B := rfl
theorem asI_int {i : Int} {Q : Int → Prop} : asI (.int i) Q = Q i := rfl
theorem E_ok' {α : Type} {a : α} {Q : α → Hm → Prop} : E (.ok a h) Q X = Q a h := rfl
theorem x_int {x : Val} {j : Int} : E (idxM x (.int j) h) Q X = OE (seqOf h x) fun vs => OE (atI vs j) fun v => Q v h := by
  simp only [idxM]
  cases seqOf h x with
  | none => rfl
  | some vs => simp only [OE]; cases atI vs j <;> rfl
theorem so_tup {vs : List Val} : seqOf h (.tup vs) = some vs := rfl
theorem so_lst {c : Fz} {vs : List Val} : seqOf h (.lst c vs) = some vs := rfl
theorem lo_lst {c : Fz} {vs : List Val} : lstOf h (.lst c vs) = some vs := rfl
theorem so_ref {i : Nat} {vs : List Val} (e : h[i]? = some (.lst vs)) : seqOf h (.ref i) = some vs := by simp only [seqOf, e]
theorem lo_ref {i : Nat} {vs : List Val} (e : h[i]? = some (.lst vs)) : lstOf h (.ref i) = some vs := by simp only [lstOf, e]
theorem src_tup {vs : List Val} : srcOf h (.tup vs) = some (.stat vs) := rfl
theorem src_lst {c : Fz} {vs : List Val} : srcOf h (.lst c vs) = some (.stat vs) := rfl
theorem src_ref {i : Nat} {vs : List Val} (e : h[i]? = some (.lst vs)) : srcOf h (.ref i) = some (.live i) := by simp only [srcOf, e]
theorem mk_t {vs : List Val} : E (mkL true vs h) Q X = Q (.lst .own vs) h := rfl
theorem mk_f {vs : List Val} : E (mkL false vs h) Q X = Q (.ref h.length) (h ++ [.lst vs]) := rfl
theorem at0 {α : Type} {x : α} {l : List α} : atI (x :: l) 0 = some x := by
  unfold atI ixN
  rw [if_pos (Int.le_refl _)]
  simp
theorem at1 {α : Type} {x y : α} {l : List α} : atI (x :: y :: l) 1 = some y := by
  unfold atI ixN
  rw [if_pos (by omega), if_pos (by simp only [List.length_cons]; omega)]
  rfl
theorem at2 {α : Type} {x y z : α} {l : List α} : atI (x :: y :: z :: l) 2 = some z := by
  unfold atI ixN
  rw [if_pos (by omega), if_pos (by simp only [List.length_cons]; omega)]
  rfl
theorem at3 {α : Type} {x y z w : α} {l : List α} : atI (x :: y :: z :: w :: l) 3 = some w := by
  unfold atI ixN
  rw [if_pos (by omega), if_pos (by simp only [List.length_cons]; omega)]
  rfl
theorem atm2 {α : Type} {x y : α} : atI [x, y] (-1) = some y := by
  unfold atI ixN
  simp
theorem atm3 {α : Type} {x y z : α} : atI [x, y, z] (-1) = some z := by
  unfold atI ixN
  simp
theorem atm1 {α : Type} {x : α} : atI [x] (-1) = some x := by
  unfold atI ixN
  simp
theorem f_len {z : Bool} {x : Val} : E (biM .len z [x] h) Q X = OE (seqOf h x) fun ws => Q (.int ws.length) h := by
  simp only [biM]
  cases seqOf h x <;> rfl
theorem f_max1 {z : Bool} {x : Val} : E (biM .max1 z [x] h) Q X = OE (lstOf h x) fun ws => OE (intsOf ws) fun is => OE (maxI is) fun m => Q (.int m) h := by
  simp only [biM]
  cases lstOf h x with
  | none => rfl
  | some ws =>
    simp only [OE]
    cases intsOf ws with
    | none => rfl
    | some is => simp only []; cases maxI is <;> rfl
theorem f_max2 {z : Bool} {i j : Int} : E (biM .max2 z [.int i, .int j] h) Q X = Q (.int (if j > i then j else i)) h := rfl
theorem f_min2 {z : Bool} {i j : Int} : E (biM .min2 z [.int i, .int j] h) Q X = Q (.int (if j < i then j else i)) h := rfl
theorem f_abs {z : Bool} {i : Int} : E (biM .abs z [.int i] h) Q X = Q (.int (if i < 0 then -i else i)) h := rfl
theorem f_sum {z : Bool} {x : Val} : E (biM .sum z [x] h) Q X = OE (lstOf h x) fun ws => OE (intsOf ws) fun is => Q (.int is.sum) h := by
  simp only [biM]
  cases lstOf h x with
  | none => rfl
  | some ws => simp only [OE]; cases intsOf ws <;> rfl
theorem f_all {z : Bool} {x : Val} : E (biM .all z [x] h) Q X = OE (lstOf h x) fun ws => OE (blsOf ws) fun bs => Q (.bl (bs.all id)) h := by
  simp only [biM]
  cases lstOf h x with
  | none => rfl
  | some ws => simp only [OE]; cases blsOf ws <;> rfl
theorem f_any {z : Bool} {x : Val} : E (biM .any z [x] h) Q X = OE (lstOf h x) fun ws => OE (blsOf ws) fun bs => Q (.bl (bs.any id)) h := by
  simp only [biM]
  cases lstOf h x with
  | none => rfl
  | some ws => simp only [OE]; cases blsOf ws <;> rfl
theorem f_sorted {z : Bool} {x : Val} : E (biM .sorted z [x] h) Q X = OE (lstOf h x) fun ws => OE (sortM ws) fun r => E (mkL z r h) Q X := by
  simp only [biM]
  cases lstOf h x with
  | none => rfl
  | some ws => simp only [OE]; cases sortM ws <;> rfl
theorem f_list {z : Bool} {x : Val} : E (biM .list z [x] h) Q X = OE (seqOf h x) fun ws => E (mkL z ws h) Q X := by
  simp only [biM]
  cases seqOf h x <;> rfl
theorem f_tuple {z : Bool} {x : Val} : E (biM .tuple z [x] h) Q X = OE (lstOf h x) fun ws => Q (.tup ws) h := by
  simp only [biM]
  cases lstOf h x <;> rfl
theorem f_toIntb {z b : Bool} : E (biM .toInt z [.bl b] h) Q X = Q (.int (if b then 1 else 0)) h := rfl
theorem f_toInti {z : Bool} {i : Int} : E (biM .toInt z [.int i] h) Q X = Q (.int i) h := rfl
theorem f_sortedSet {z : Bool} {x : Val} : E (biM .sortedSet z [x] h) Q X = OE (lstOf h x) fun ws => OE (intsOf ws) fun is => is.length < 64 ∧ E (mkL z ((sortI (nubI is)).map .int) h) Q X := by
  simp only [biM]
  cases lstOf h x with
  | none => rfl
  | some ws =>
    simp only [OE]
    cases intsOf ws with
    | none => rfl
    | some is =>
      simp only []
      split
      · rename_i k; simp [k]
      · rename_i k; simp [k, E]
theorem f_lenSet {z : Bool} {x : Val} : E (biM .lenSet z [x] h) Q X = OE (lstOf h x) fun ws => OE (intsOf ws) fun is => is.length < 64 ∧ Q (.int (nubI is).length) h := by
  simp only [biM]
  cases lstOf h x with
  | none => rfl
  | some ws =>
    simp only [OE]
    cases intsOf ws with
    | none => rfl
    | some is =>
      simp only []
      split
      · rename_i k; simp [k, E]
      · rename_i k; simp [k, E]
theorem m_append {i : Nat} {vs : List Val} {y : Val} (e : h[i]? = some (.lst vs)) (l : vs.length < big) : E (methM .append (.ref i) [y] h) Q X = Q .non (h.set i (.lst (vs ++ [y]))) := by
  simp only [methM, e, l, if_true]; rfl
theorem m_pop {i : Nat} {vs : List Val} {y : Val} (e : h[i]? = some (.lst (vs ++ [y]))) : E (methM .pop (.ref i) [] h) Q X = Q y (h.set i (.lst vs)) := by
  simp only [methM, e, List.getLast?_append, List.getLast?_singleton, Option.some_or, List.dropLast_concat]; rfl
theorem m_reverse {i : Nat} {vs : List Val} (e : h[i]? = some (.lst vs)) : E (methM .reverse (.ref i) [] h) Q X = Q .non (h.set i (.lst vs.reverse)) := by
  simp only [methM, e]; rfl
theorem k_lst {m : MI} {i : Nat} {vs : List Val} (e : h[i]? = some (.lst vs)) (l : m ≠ .get) : methK m h (.ref i) = true := by
  cases m <;> simp [methK, lstOf, e] at l ⊢
end
/-- a def, asked by values alone, tells w -/
def Pf (cl : CallF) (f : Nat) (ws : List Val) (w : Val) : Prop := (∃ v h, cl f ws [] = .ok v h ∧ froz h v = some w) ∧ clean w = true
/-- it refuses -/
def Px (cl : CallF) (f : Nat) (ws : List Val) (k : Nat) : Prop := ∃ h, cl f ws [] = .exc k h
mutual
theorem closed_of_clean : ∀ (v : Val), clean v = true → closed v = true
  | .non, _ => rfl
  | .bl _, _ => rfl
  | .int _, _ => rfl
  | .str _, _ => rfl
  | .err _, _ => rfl
  | .tup vs, c => by unfold clean at c; unfold closed; exact closedL_of_clean vs c
  | .lst _ vs, c => by unfold clean at c; rw [Bool.and_eq_true] at c; unfold closed; exact closedL_of_clean vs c.2
  | .dct _ _ vs, c => by unfold clean at c; rw [Bool.and_eq_true] at c; unfold closed; exact closedL_of_clean vs c.2
  | .obj _ _ _ vs, c => by unfold clean at c; rw [Bool.and_eq_true] at c; unfold closed; exact closedL_of_clean vs c.2
  | .ref _, c => by unfold clean at c; exact absurd c (by decide)
  | .clo _ _, c => by unfold clean at c; exact absurd c (by decide)
theorem closedL_of_clean : ∀ (vs : List Val), cleanL vs = true → closedL vs = true
  | [], _ => rfl
  | v :: vs, c => by
    unfold cleanL at c
    rw [Bool.and_eq_true] at c
    unfold closedL
    rw [closed_of_clean v c.1, closedL_of_clean vs c.2]
    rfl
end
theorem Pf.closed {cl : CallF} {f : Nat} {ws : List Val} {w : Val} (p : Pf cl f ws w) : closed w = true := closed_of_clean w p.2
theorem Pf.of_ok {cl : CallF} {f : Nat} {ws : List Val} {w : Val} {h : Hm} (r : cl f ws [] = .ok w h) (c : clean w = true) : Pf cl f ws w := ⟨⟨w, h, r, froz_closed (closed_of_clean w c)⟩, c⟩
theorem Pf.of_E {cl : CallF} {f : Nat} {ws : List Val} {w : Val} (r : E (cl f ws []) (fun v h => froz h v = some w) nox) (c : clean w = true) : Pf cl f ws w := by
  obtain ⟨v, h, e, q⟩ := ex_of_E r
  exact ⟨⟨v, h, e, q⟩, c⟩
theorem Pf.uniq {cl : CallF} {f : Nat} {ws : List Val} {w w' : Val} (p : Pf cl f ws w) (q : Pf cl f ws w') : w = w' := by
  obtain ⟨⟨v, h, e, z⟩, _⟩ := p
  obtain ⟨⟨v', h', e', z'⟩, _⟩ := q
  rw [e] at e'
  cases e'
  rw [z] at z'
  exact Option.some.inj z'
theorem e_pur {cl : CallF} {f : Nat} {vs ws : List Val} {h : Hm} {w : Val} {Q : Val → Hm → Prop} {X : Nat → Hm → Prop} (s : snapL h vs = some ws) (p : Pf cl f ws w) (q : Q w h) : E (callM cl .pur f vs h) Q X := by
  obtain ⟨⟨v, h', r, z⟩, c⟩ := p
  rw [pure_ok s r z c]
  exact q
theorem e_purx {cl : CallF} {f : Nat} {vs ws : List Val} {h : Hm} {k : Nat} {Q : Val → Hm → Prop} {X : Nat → Hm → Prop} (s : snapL h vs = some ws) (p : Px cl f ws k) (q : X k h) : E (callM cl .pur f vs h) Q X := by
  obtain ⟨h', r⟩ := p
  rw [pure_exc s r]
  exact q
/-- closed arguments -/
theorem e_pc {cl : CallF} {f : Nat} {vs : List Val} {h : Hm} {w : Val} {Q : Val → Hm → Prop} {X : Nat → Hm → Prop} (p : Pf cl f vs w) (c : closedL vs = true) (q : Q w h) : E (callM cl .pur f vs h) Q X := e_pur (snapL_closed c) p q
theorem e_run {T : Tab} {F : Nat → Option Fn} {n f : Nat} {d : Fn} {vs : List Val} {h : Hm} {Q : Val → Hm → Prop} {X : Nat → Hm → Prop} (e : F f = some d) (l : vs.length = d.np) (k : d.np ≤ d.ns)
    (w : W (exS T (run T F n) d.body (vs.map some ++ List.replicate (d.ns - d.np) none) h) (fun _ h => Q .non h) Q (fun k _ h => X k h)) : E (run T F (n + 1) f vs h) Q X := by
  rw [run_at e l k, E_fin]
  exact w
def wp := And.intro @e_var <| And.intro @e_cst <| And.intro @e_bin <| And.intro @e_neg <| And.intro @e_cmp <| And.intro @e_cmp2 <| And.intro @e_cmp3 <| And.intro @e_not <| And.intro @e_and <| And.intro @e_or <| And.intro @e_ite <| And.intro @e_idx <| And.intro @e_slc <| And.intro @e_rev <| And.intro @e_fld <| And.intro @e_tup <| And.intro @e_lst <| And.intro @e_dct <| And.intro @e_call <| And.intro @e_bi <| And.intro @e_meth <| And.intro @e_ocall <| And.intro @e_new <| And.intro @e_isi <| And.intro @a_nil <| And.intro @a_cons <| And.intro @p_omit <| And.intro @p_part <| And.intro @i_seq <| And.intro @i_rng <| And.intro @i_enum <| And.intro @i_zip <| And.intro @s_nil <| And.intro @s_pass <| And.intro @s_seq <| And.intro @s_asg <| And.intro @s_par <| And.intro @s_setI <| And.intro @s_setF <| And.intro @s_aug <| And.intro @s_augF <| And.intro @s_ex <| And.intro @s_ite <| And.intro @s_ret <| And.intro @s_retN <| @s_rais
def wo := And.intro @b_add <| And.intro @b_sub <| And.intro @i_add <| And.intro @i_sub <| And.intro @c_lt <| And.intro @c_le <| And.intro @c_gt <| And.intro @c_ge <| And.intro @c_eq <| And.intro @c_ne <| And.intro @c_eqs <| And.intro @c_nes <| And.intro @c_is <| And.intro @c_isn <| And.intro @is_non <| And.intro @is_int <| And.intro @is_tup <| And.intro @is_lst <| And.intro @is_ref <| And.intro @is_bl <| And.intro @map_not <| And.intro @oe_some <| And.intro @oe_none <| And.intro @lk_some <| And.intro @br_t <| And.intro @br_f <| And.intro @asI_int <| And.intro @E_ok' <| And.intro @x_int <| And.intro @so_tup <| And.intro @so_lst <| And.intro @lo_lst <| And.intro @src_tup <| And.intro @src_lst <| And.intro @mk_t <| And.intro @mk_f <| And.intro @at0 <| And.intro @at1 <| And.intro @at2 <| And.intro @at3 <| And.intro @atm1 <| And.intro @atm2 <| And.intro @atm3 <| And.intro @f_len <| And.intro @f_max1 <| And.intro @f_max2 <| And.intro @f_min2 <| And.intro @f_abs <| And.intro @f_sum <| And.intro @f_all <| And.intro @f_any <| And.intro @f_sorted <| And.intro @f_list <| And.intro @f_tuple <| And.intro @f_toIntb <| And.intro @f_toInti <| And.intro @f_sortedSet <| @f_lenSet
theorem Pf.of_v {cl : CallF} {f : Nat} {ws : List Val} {w : Val} (c : clean w = true) (r : E (cl f ws []) (fun v _ => v = w) nox) : Pf cl f ws w := .of_E (E_mono r (fun v h e => by rw [e]; exact froz_closed (closed_of_clean w c)) fun _ _ x => x) c

theorem bp_nm {i : Nat} {v : Val} {e : En} {Q : En → Prop} : OE (bindP (.nm i) v e) Q = (i < e.length ∧ Q (e.set i (some v))) := by
  unfold bindP
  split
  · rename_i k; simp [OE, k]
  · rename_i k; simp [OE, k]
theorem bp_tp {q : Pat} {vs : List Val} {e : En} {Q : En → Prop} : OE (bindP (.tp q) (.tup vs) e) Q = OE (bindPs q vs e) Q := by rw [bindP]
theorem bp_nil {e : En} {Q : En → Prop} : OE (bindPs .nil [] e) Q = Q e := by rw [bindPs]; rfl
theorem bp_cons {p q : Pat} {v : Val} {vs : List Val} {e : En} {Q : En → Prop} : OE (bindPs (.cons p q) (v :: vs) e) Q = OE (bindP p v e) fun e' => OE (bindPs q vs e') Q := by
  rw [bindPs]
  cases bindP p v e <;> rfl
theorem sa_nil {e : En} {Q : En → Prop} : OE (setAll [] [] e) Q = Q e := rfl
theorem sa_cons {i : Nat} {is : List Nat} {v : Val} {vs : List Val} {e : En} {Q : En → Prop} : OE (setAll (i :: is) (v :: vs) e) Q = (i < e.length ∧ OE (setAll is vs (e.set i (some v))) Q) := by
  show OE (if i < e.length then setAll is vs (e.set i (some v)) else none) Q = _
  split
  · rename_i k; simp [k]
  · rename_i k; simp [OE, k]
theorem sz_set {i : Nat} {v : Option Val} {e : En} : (e.set i v).length = e.length := List.length_set
theorem wm_nil {e : En} : wipeM e [] = e := rfl
theorem wm_cons {e : En} {v : Nat} {vs : List Nat} : wipeM e (v :: vs) = (wipeM e vs).set v none := rfl
def wl := And.intro @bp_nm <| And.intro @bp_tp <| And.intro @bp_nil <| And.intro @bp_cons <| And.intro @sa_nil <| And.intro @sa_cons <| And.intro @wm_nil <| And.intro @wm_cons <| And.intro @List.map_cons.{0,0} <| And.intro @List.map_nil.{0,0} <| And.intro @List.cons_append.{0} <| And.intro @List.nil_append.{0} <| And.intro @List.getElem?_cons_zero.{0} <| And.intro @List.getElem?_cons_succ.{0} <| And.intro @List.set_cons_zero.{0} <| And.intro @List.set_cons_succ.{0} <| And.intro @List.length_cons.{0} <| @List.length_nil.{0}
theorem isi_non_int {sup : Nat → List Nat} {h : Hm} : isiM sup h .non .int = some false := rfl
theorem isi_non_bool {sup : Nat → List Nat} {h : Hm} : isiM sup h .non .bool = some false := rfl
theorem isi_non_str {sup : Nat → List Nat} {h : Hm} : isiM sup h .non .str = some false := rfl
theorem isi_non_list {sup : Nat → List Nat} {h : Hm} : isiM sup h .non .list = some false := rfl
theorem isi_non_tuple {sup : Nat → List Nat} {h : Hm} : isiM sup h .non .tuple = some false := rfl
theorem isi_non_cls {sup : Nat → List Nat} {h : Hm} {j : Nat} : isiM sup h .non (.cls j) = some false := rfl
theorem isi_bl_int {sup : Nat → List Nat} {h : Hm} {b : Bool} : isiM sup h (.bl b) .int = some true := rfl
theorem isi_bl_bool {sup : Nat → List Nat} {h : Hm} {b : Bool} : isiM sup h (.bl b) .bool = some true := rfl
theorem isi_bl_str {sup : Nat → List Nat} {h : Hm} {b : Bool} : isiM sup h (.bl b) .str = some false := rfl
theorem isi_bl_list {sup : Nat → List Nat} {h : Hm} {b : Bool} : isiM sup h (.bl b) .list = some false := rfl
theorem isi_bl_tuple {sup : Nat → List Nat} {h : Hm} {b : Bool} : isiM sup h (.bl b) .tuple = some false := rfl
theorem isi_bl_cls {sup : Nat → List Nat} {h : Hm} {j : Nat} {b : Bool} : isiM sup h (.bl b) (.cls j) = some false := rfl
theorem isi_int_int {sup : Nat → List Nat} {h : Hm} {i : Int} : isiM sup h (.int i) .int = some true := rfl
theorem isi_int_bool {sup : Nat → List Nat} {h : Hm} {i : Int} : isiM sup h (.int i) .bool = some false := rfl
theorem isi_int_str {sup : Nat → List Nat} {h : Hm} {i : Int} : isiM sup h (.int i) .str = some false := rfl
theorem isi_int_list {sup : Nat → List Nat} {h : Hm} {i : Int} : isiM sup h (.int i) .list = some false := rfl
theorem isi_int_tuple {sup : Nat → List Nat} {h : Hm} {i : Int} : isiM sup h (.int i) .tuple = some false := rfl
theorem isi_int_cls {sup : Nat → List Nat} {h : Hm} {j : Nat} {i : Int} : isiM sup h (.int i) (.cls j) = some false := rfl
theorem isi_str_int {sup : Nat → List Nat} {h : Hm} {n : Nat} : isiM sup h (.str n) .int = some false := rfl
theorem isi_str_bool {sup : Nat → List Nat} {h : Hm} {n : Nat} : isiM sup h (.str n) .bool = some false := rfl
theorem isi_str_str {sup : Nat → List Nat} {h : Hm} {n : Nat} : isiM sup h (.str n) .str = some true := rfl
theorem isi_str_list {sup : Nat → List Nat} {h : Hm} {n : Nat} : isiM sup h (.str n) .list = some false := rfl
theorem isi_str_tuple {sup : Nat → List Nat} {h : Hm} {n : Nat} : isiM sup h (.str n) .tuple = some false := rfl
theorem isi_str_cls {sup : Nat → List Nat} {h : Hm} {j : Nat} {n : Nat} : isiM sup h (.str n) (.cls j) = some false := rfl
theorem isi_tup_int {sup : Nat → List Nat} {h : Hm} {vs : List Val} : isiM sup h (.tup vs) .int = some false := rfl
theorem isi_tup_bool {sup : Nat → List Nat} {h : Hm} {vs : List Val} : isiM sup h (.tup vs) .bool = some false := rfl
theorem isi_tup_str {sup : Nat → List Nat} {h : Hm} {vs : List Val} : isiM sup h (.tup vs) .str = some false := rfl
theorem isi_tup_list {sup : Nat → List Nat} {h : Hm} {vs : List Val} : isiM sup h (.tup vs) .list = some false := rfl
theorem isi_tup_tuple {sup : Nat → List Nat} {h : Hm} {vs : List Val} : isiM sup h (.tup vs) .tuple = some true := rfl
theorem isi_tup_cls {sup : Nat → List Nat} {h : Hm} {j : Nat} {vs : List Val} : isiM sup h (.tup vs) (.cls j) = some false := rfl
theorem isi_lst_int {sup : Nat → List Nat} {h : Hm} {c : Fz} {vs : List Val} : isiM sup h (.lst c vs) .int = some false := rfl
theorem isi_lst_bool {sup : Nat → List Nat} {h : Hm} {c : Fz} {vs : List Val} : isiM sup h (.lst c vs) .bool = some false := rfl
theorem isi_lst_str {sup : Nat → List Nat} {h : Hm} {c : Fz} {vs : List Val} : isiM sup h (.lst c vs) .str = some false := rfl
theorem isi_lst_list {sup : Nat → List Nat} {h : Hm} {c : Fz} {vs : List Val} : isiM sup h (.lst c vs) .list = some true := rfl
theorem isi_lst_tuple {sup : Nat → List Nat} {h : Hm} {c : Fz} {vs : List Val} : isiM sup h (.lst c vs) .tuple = some false := rfl
theorem isi_lst_cls {sup : Nat → List Nat} {h : Hm} {j : Nat} {c : Fz} {vs : List Val} : isiM sup h (.lst c vs) (.cls j) = some false := rfl
theorem isi_dct_int {sup : Nat → List Nat} {h : Hm} {c : Fz} {ks : List MKey} {vs : List Val} : isiM sup h (.dct c ks vs) .int = some false := rfl
theorem isi_dct_bool {sup : Nat → List Nat} {h : Hm} {c : Fz} {ks : List MKey} {vs : List Val} : isiM sup h (.dct c ks vs) .bool = some false := rfl
theorem isi_dct_str {sup : Nat → List Nat} {h : Hm} {c : Fz} {ks : List MKey} {vs : List Val} : isiM sup h (.dct c ks vs) .str = some false := rfl
theorem isi_dct_list {sup : Nat → List Nat} {h : Hm} {c : Fz} {ks : List MKey} {vs : List Val} : isiM sup h (.dct c ks vs) .list = some false := rfl
theorem isi_dct_tuple {sup : Nat → List Nat} {h : Hm} {c : Fz} {ks : List MKey} {vs : List Val} : isiM sup h (.dct c ks vs) .tuple = some false := rfl
theorem isi_dct_cls {sup : Nat → List Nat} {h : Hm} {j : Nat} {c : Fz} {ks : List MKey} {vs : List Val} : isiM sup h (.dct c ks vs) (.cls j) = some false := rfl
theorem isi_obj_int {sup : Nat → List Nat} {h : Hm} {c : Fz} {k : Nat} {fs : List Nat} {vs : List Val} : isiM sup h (.obj c k fs vs) .int = some false := rfl
theorem isi_obj_bool {sup : Nat → List Nat} {h : Hm} {c : Fz} {k : Nat} {fs : List Nat} {vs : List Val} : isiM sup h (.obj c k fs vs) .bool = some false := rfl
theorem isi_obj_str {sup : Nat → List Nat} {h : Hm} {c : Fz} {k : Nat} {fs : List Nat} {vs : List Val} : isiM sup h (.obj c k fs vs) .str = some false := rfl
theorem isi_obj_list {sup : Nat → List Nat} {h : Hm} {c : Fz} {k : Nat} {fs : List Nat} {vs : List Val} : isiM sup h (.obj c k fs vs) .list = some false := rfl
theorem isi_obj_tuple {sup : Nat → List Nat} {h : Hm} {c : Fz} {k : Nat} {fs : List Nat} {vs : List Val} : isiM sup h (.obj c k fs vs) .tuple = some false := rfl
theorem isi_obj_cls {sup : Nat → List Nat} {h : Hm} {j : Nat} {c : Fz} {k : Nat} {fs : List Nat} {vs : List Val} : isiM sup h (.obj c k fs vs) (.cls j) = some ((sup k).contains j) := rfl
theorem isi_err_int {sup : Nat → List Nat} {h : Hm} {k : Nat} : isiM sup h (.err k) .int = some false := rfl
theorem isi_err_bool {sup : Nat → List Nat} {h : Hm} {k : Nat} : isiM sup h (.err k) .bool = some false := rfl
theorem isi_err_str {sup : Nat → List Nat} {h : Hm} {k : Nat} : isiM sup h (.err k) .str = some false := rfl
theorem isi_err_list {sup : Nat → List Nat} {h : Hm} {k : Nat} : isiM sup h (.err k) .list = some false := rfl
theorem isi_err_tuple {sup : Nat → List Nat} {h : Hm} {k : Nat} : isiM sup h (.err k) .tuple = some false := rfl
theorem isi_ref_lst {sup : Nat → List Nat} {h : Hm} {i : Nat} {vs : List Val} {t : Ty} (e : h[i]? = some (.lst vs)) : isiM sup h (.ref i) t = some (decide (t = .list)) := by simp only [isiM, e]
def wi := And.intro @isi_err_int <| And.intro @isi_err_bool <| And.intro @isi_err_str <| And.intro @isi_err_list <| And.intro @isi_err_tuple <| And.intro @isi_non_int <| And.intro @isi_non_bool <| And.intro @isi_non_str <| And.intro @isi_non_list <| And.intro @isi_non_tuple <| And.intro @isi_non_cls <| And.intro @isi_bl_int <| And.intro @isi_bl_bool <| And.intro @isi_bl_str <| And.intro @isi_bl_list <| And.intro @isi_bl_tuple <| And.intro @isi_bl_cls <| And.intro @isi_int_int <| And.intro @isi_int_bool <| And.intro @isi_int_str <| And.intro @isi_int_list <| And.intro @isi_int_tuple <| And.intro @isi_int_cls <| And.intro @isi_str_int <| And.intro @isi_str_bool <| And.intro @isi_str_str <| And.intro @isi_str_list <| And.intro @isi_str_tuple <| And.intro @isi_str_cls <| And.intro @isi_tup_int <| And.intro @isi_tup_bool <| And.intro @isi_tup_str <| And.intro @isi_tup_list <| And.intro @isi_tup_tuple <| And.intro @isi_tup_cls <| And.intro @isi_lst_int <| And.intro @isi_lst_bool <| And.intro @isi_lst_str <| And.intro @isi_lst_list <| And.intro @isi_lst_tuple <| And.intro @isi_lst_cls <| And.intro @isi_dct_int <| And.intro @isi_dct_bool <| And.intro @isi_dct_str <| And.intro @isi_dct_list <| And.intro @isi_dct_tuple <| And.intro @isi_dct_cls <| And.intro @isi_obj_int <| And.intro @isi_obj_bool <| And.intro @isi_obj_str <| And.intro @isi_obj_list <| And.intro @isi_obj_tuple <| @isi_obj_cls
theorem len_big1 : (1 : Nat) ≤ big := by decide
theorem le_big {n : Nat} (h : n ≤ 1000) : n ≤ big := by unfold big; omega
end MP
set_option Elab.async false
set_option linter.all false
set_option maxRecDepth 100000
set_option autoImplicit false
namespace MP
open PySem L2
/-- what is `is_between` -/
def btw (v : Val) (a b : Int) : Bool := match v with
  | .int i => decide (a ≤ i) && decide (i ≤ b)
  | _ => false
def inL (vs : List Val) : List Int := vs.filterMap intOf
def heirsOk (v : Val) : Bool := match v with
  | .lst _ vs => decide (1 ≤ vs.length) && decide (vs.length ≤ 3) && vs.all (btw · 0 9) && decide ((nubI (inL vs)).length = vs.length)
  | _ => false
def termOk (v : Val) (k : Int) : Bool := match v with
  | .tup [.str 0, x] => btw x 0 60
  | .tup [.str 1, x, y] => btw y 0 20 && btw x 0 5
  | .tup [.str 2, x, y] => btw y 0 20 && btw x 0 (k - 1)
  | _ => false
def letterOk (v : Val) (k : Int) : Bool := match v with
  | .tup [a, .lst _ ts] => heirsOk a && decide (1 ≤ ts.length) && decide (ts.length ≤ 4) && ts.all (termOk · k)
  | _ => false
def lettersOk (v : Val) : Bool := match v with
  | .lst _ vs => decide (1 ≤ vs.length) && decide (vs.length ≤ 40) && vs.zipIdx.all fun p => letterOk p.1 (p.2 : Nat)
  | _ => false
def dayOk (v : Val) : Bool := match v with
  | .non => true
  | v => btw v 0 60
def daysOk (v : Val) (k : Int) : Bool := match v with
  | .lst _ vs => decide ((vs.length : Int) = k) && vs.all dayOk
  | _ => false
def spanOk (v : Val) : Bool := match v with
  | .tup [.int a, b] => btw (.int a) 0 60 && btw b a 60
  | _ => false
def spanOrOk (v : Val) : Bool := match v with
  | .non => true
  | v => spanOk v
def spansOk (v : Val) : Bool := match v with
  | .lst _ vs => decide (vs.length = 6) && vs.all spanOrOk
  | _ => false
section
variable {T : Tab} {F : Nat → Option Fn} {n : Nat} {h : Hm}
theorem shown_closed {v : Val} (s : closed v = true) : shown v = true := by cases v <;> simp_all [shown, closed]
theorem closedL_iff {vs : List Val} : closedL vs = true ↔ ∀ v ∈ vs, closed v = true := by
  induction vs with
  | nil => simp [closedL]
  | cons v vs ih => simp [closedL, ih]
theorem cleanL_iff {vs : List Val} : cleanL vs = true ↔ ∀ v ∈ vs, clean v = true := by
  induction vs with
  | nil => simp [cleanL]
  | cons v vs ih => simp [cleanL, ih]
mutual
theorem closed_data : ∀ (v : Val) (n : Nat), isData n v = true → closed v = true
  | .non, n, _ => rfl
  | .bl _, n, _ => rfl
  | .int _, n, _ => rfl
  | .str _, n, _ => rfl
  | .err _, n, _ => rfl
  | .tup vs, n, d => by
    cases n with
    | zero => simp [isData] at d
    | succ n =>
      unfold isData at d
      unfold closed
      exact closedL_data vs n d
  | .lst _ vs, n, d => by
    cases n with
    | zero => simp [isData] at d
    | succ n =>
      unfold isData at d
      unfold closed
      exact closedL_data vs n d
  | .dct _ _ vs, n, d => by cases n <;> simp [isData] at d
  | .obj _ _ _ vs, n, d => by cases n <;> simp [isData] at d
  | .ref _, n, d => by cases n <;> simp [isData] at d
  | .clo _ _, n, d => by cases n <;> simp [isData] at d
theorem closedL_data : ∀ (vs : List Val) (n : Nat), vs.all (isData n) = true → closedL vs = true
  | [], n, _ => rfl
  | v :: vs, n, d => by
    rw [List.all_cons, Bool.and_eq_true] at d
    unfold closedL
    rw [closed_data v n d.1, closedL_data vs n d.2]
    rfl
end
theorem isData_le : ∀ {v : Val} {n m : Nat}, n ≤ m → isData n v = true → isData m v = true
  | .non, n, m, _, _ => by cases m <;> rfl
  | .bl _, n, m, _, _ => by cases m <;> rfl
  | .int _, n, m, _, _ => by cases m <;> rfl
  | .str _, n, m, _, _ => by cases m <;> rfl
  | .err _, n, m, _, d => by cases n <;> simp [isData] at d
  | .tup vs, n, m, l, d => by
    cases n with
    | zero => simp [isData] at d
    | succ n =>
      obtain ⟨m, rfl⟩ : ∃ k, m = k + 1 := ⟨m - 1, by omega⟩
      simp only [isData, List.all_eq_true] at d ⊢
      exact fun x hx => isData_le (by omega) (d x hx)
  | .lst _ vs, n, m, l, d => by
    cases n with
    | zero => simp [isData] at d
    | succ n =>
      obtain ⟨m, rfl⟩ : ∃ k, m = k + 1 := ⟨m - 1, by omega⟩
      simp only [isData, List.all_eq_true] at d ⊢
      exact fun x hx => isData_le (by omega) (d x hx)
  | .dct _ _ vs, n, m, _, d => by cases n <;> simp [isData] at d
  | .obj _ _ _ vs, n, m, _, d => by cases n <;> simp [isData] at d
  | .ref _, n, m, _, d => by cases n <;> simp [isData] at d
  | .clo _ _, n, m, _, d => by cases n <;> simp [isData] at d
theorem pf_is_whole (e : F 2 = some c_is_whole) {v : Val} (s : closed v = true) : Pf (run T F (n + 1)) 2 [v] (.bl (intB v)) := Pf.of_ok (run_is_whole e (shown_closed s)) rfl
theorem pf_is_between (e2 : F 2 = some c_is_whole) (e3 : F 3 = some c_is_between) {v : Val} {a b : Int} (s : closed v = true) : Pf (run T F (n + 2)) 3 [v, .int a, .int b] (.bl (btw v a b)) := by
  refine .of_v rfl (e_run e3 rfl (by decide) ?_)
  simp only [c_is_between, ↓wp, wo, wl, List.replicate]
  refine e_pc (pf_is_whole e2 s) (by simp [closedL, s]) ?_
  cases v <;> simp only [intB, btw, ↓wp, wo]
  rename_i i
  exact brV_if (fun t => by simp [t, oe_some, lk_some, c_le]) fun t => by simp [t]
theorem blsOf_map {α : Type} (f : α → Bool) : ∀ l : List α, blsOf (l.map fun a => .bl (f a)) = some (l.map f)
  | [] => rfl
  | a :: l => by simp [blsOf, blsOf_map f l]
theorem bls_map {α : Type} {f : α → Bool} {l : List α} {Q : List Bool → Prop} : OE (blsOf (l.map fun a => .bl (f a))) Q = Q (l.map f) := by rw [blsOf_map]; rfl
theorem intsOf_ints : ∀ {vs : List Val}, vs.all intB = true → intsOf vs = some (inL vs) ∧ (inL vs).length = vs.length
  | [], _ => ⟨rfl, rfl⟩
  | v :: vs, d => by
    rw [List.all_cons, Bool.and_eq_true] at d
    cases v <;> simp only [intB, Bool.false_eq_true, false_and] at d
    obtain ⟨h1, h2⟩ := intsOf_ints (vs := vs) d.2
    constructor
    · simp [intsOf, h1, inL, intOf]
    · simp [inL, intOf] at h2 ⊢; exact h2
theorem intB_btw {v : Val} {a b : Int} (d : btw v a b = true) : intB v = true := by cases v <;> simp_all [btw, intB]
theorem stat_id {vs : List Val} {h : Hm} : StAt (.stat vs) (vs.map id) h := by rw [List.map_id]; exact stAt_stat vs h
theorem mem_closed {v : Val} {vs : List Val} (s : closedL vs = true) (m : v ∈ vs) : closed v = true := closedL_iff.mp s v m
theorem all_id {α : Type} {f : α → Bool} {l : List α} : (l.map f).all id = l.all f := by
  rw [List.all_map]; rfl
theorem pf_are_heirs (e2 : F 2 = some c_is_whole) (e3 : F 3 = some c_is_between) (e4 : F 4 = some c_are_heirs) {v : Val} (s : closed v = true) : Pf (run T F (n + 3)) 4 [v] (.bl (heirsOk v)) := by
  refine .of_v rfl (e_run e4 rfl (by decide) ?_)
  cases v <;> simp only [c_are_heirs, ↓wp, wo, wl, wi, List.replicate, Bool.not_false, Bool.not_true, heirsOk]
  case ref => simp [closed] at s
  case clo => simp [closed] at s
  case lst c vs =>
    unfold closed at s
    refine brV_if (fun t1 => brV_if (fun t2 => ?_) fun t2 => ?_) fun t1 => ?_
    · rw [decide_eq_true_eq] at t1 t2
      refine e_compM (xs := vs) (g := id) (h1 := []) (fun v => .bl (btw v 0 9)) (by simp only [↓wp, wo, wl]; exact ⟨stat_id, trivial⟩) (fun a m => ?_) ?_
      · simp only [↓wp, wo, wl, List.set_nil, id, Nat.reduceAdd, Nat.reduceLT, true_and]
        exact e_pc (pf_is_between e2 e3 (mem_closed s m)) (by simp [closedL, closed, mem_closed s m]) ⟨rfl, rfl⟩
      · simp only [wo, bls_map, all_id]
        refine brV_if (fun t => ?_) fun t => by simp [t]
        obtain ⟨h1, h2⟩ := intsOf_ints (vs := vs) (by rw [List.all_eq_true] at t ⊢; exact fun x m => intB_btw (t x m))
        simp only [h1, wo]
        refine ⟨by omega, ?_⟩
        have q1 : 1 ≤ vs.length := by omega
        have q2 : vs.length ≤ 3 := by omega
        simp only [t, q1, q2, decide_true, Bool.true_and, Int.ofNat_inj]
    · simp at t2 ⊢; omega
    · simp at t1 ⊢; omega
/-- a text, or not -/
def isStr (k : Nat) (v : Val) : Bool := match v with
  | .str n => decide (n = k)
  | _ => false
theorem isStr_t {k : Nat} {v : Val} (t : isStr k v = true) : v = .str k := by
  cases v <;> simp_all [isStr]
theorem isStr_f {k j : Nat} (n : j ≠ k) : isStr k (.str j) = false := by simp [isStr, n]
theorem eq_str {h : Hm} {v : Val} {k : Nat} (d : isData 30 v = true) : eqM h v (.str k) = some (isStr k v) := by
  have c := closed_data v 30 d
  have s : snap h v = some v := snap_closed c
  simp only [eqM, s, snap_closed (h := h) (v := .str k) rfl, d, show isData 30 (.str k) = true from rfl, Bool.and_self, if_true]
  cases v <;> rfl
theorem cq_str {h : Hm} {v : Val} {k : Nat} (d : isData 30 v = true) : cmpM .eq h v (.str k) = some (isStr k v) := eq_str d
theorem cn_str {h : Hm} {v : Val} {k : Nat} (d : isData 30 v = true) : cmpM .ne h v (.str k) = some (!isStr k v) := by simp only [cmpM, eq_str d, map_not]
theorem termOk_not {v : Val} {vs : List Val} {k : Int} (n0 : isStr 0 v = false) (n1 : isStr 1 v = false) (n2 : isStr 2 v = false) : termOk (.tup (v :: vs)) k = false := by
  unfold termOk
  split
  · rename_i e; cases e; simp [isStr] at n0
  · rename_i e; cases e; simp [isStr] at n1
  · rename_i e; cases e; simp [isStr] at n2
  · rfl
theorem termOk_2 {v w : Val} {k : Int} (n0 : isStr 0 v = false) : termOk (.tup [v, w]) k = false := by
  unfold termOk
  split
  · rename_i e; cases e; simp [isStr] at n0
  · rename_i e; cases e
  · rename_i e; cases e
  · rfl
theorem termOk_4 {a b c d : Val} {l : List Val} {k : Int} : termOk (.tup (a :: b :: c :: d :: l)) k = false := by
  unfold termOk
  split
  · rename_i e; cases e
  · rename_i e; cases e
  · rename_i e; cases e
  · rfl
theorem pf_is_term (e2 : F 2 = some c_is_whole) (e3 : F 3 = some c_is_between) (e5 : F 5 = some c_is_term) {v : Val} {k : Int} (s : isData 25 v = true) : Pf (run T F (n + 3)) 5 [v, .int k] (.bl (termOk v k)) := by
  refine .of_v rfl (e_run e5 rfl (by decide) ?_)
  have sc := closed_data v 25 s
  cases v with
  | ref => simp [closed] at sc
  | clo => simp [closed] at sc
  | tup vs =>
    simp only [isData, List.all_eq_true] at s
    unfold closed at sc
    rw [closedL_iff] at sc
    match vs with
    | [] => simp only [c_is_term, ↓wp, wo, wl, wi, List.replicate, Bool.not_false, Bool.not_true]; exact rfl
    | [a] => simp only [c_is_term, ↓wp, wo, wl, wi, List.replicate, Bool.not_false, Bool.not_true]; simp [brV, termOk]
    | [a, b] =>
      have da : isData 30 a = true := isData_le (by omega) (s a (by simp))
      have cb : closed b = true := sc b (by simp)
      simp only [c_is_term, ↓wp, wo, wl, wi, List.replicate, Bool.not_false, Bool.not_true, cq_str da, cn_str da]
      refine brV_if (fun t => by simp at t) fun _ => brV_if (fun t => ?_) fun t => ?_
      · cases isStr_t t
        exact brV_if (fun _ => e_pc (pf_is_between e2 e3 cb) (by simp [closedL, closed, cb]) rfl) fun t => by simp at t
      · rw [termOk_2 t]
        exact brV_if (fun _ => rfl) fun t => by simp at t
    | [a, b, c] =>
      have da : isData 30 a = true := isData_le (by omega) (s a (by simp))
      have cb : closed b = true := sc b (by simp)
      have cc : closed c = true := sc c (by simp)
      simp only [c_is_term, ↓wp, wo, wl, wi, List.replicate, Bool.not_false, Bool.not_true, cq_str da, cn_str da]
      refine brV_if (fun t => by simp at t) fun _ => brV_if (fun t => ?_) fun t => ?_
      · cases isStr_t t
        exact brV_if (fun t => by simp at t) fun _ => rfl
      · refine brV_if (fun t => by simp at t) fun _ => e_pc (pf_is_between e2 e3 cc) (by simp [closedL, closed, cc]) ?_
        refine brV_if (fun t3 => brV_if (fun t1 => ?_) fun t1 => brV_if (fun t2 => ?_) fun t2 => ?_) fun t3 => ?_
        · cases isStr_t t1
          exact e_pc (pf_is_between e2 e3 cb) (by simp [closedL, closed, cb]) (by simp [termOk, t3])
        · cases isStr_t t2
          exact e_pc (pf_is_between e2 e3 cb) (by simp [closedL, closed, cb]) (by simp [termOk, t3])
        · rw [termOk_not t t1 t2]
        · unfold termOk
          split
          · rename_i e; cases e
          · rename_i e; cases e; simp [t3]
          · rename_i e; cases e; simp [t3]
          · rfl
    | a :: b :: c :: d :: l =>
      have da : isData 30 a = true := isData_le (by omega) (s a (by simp))
      simp only [c_is_term, ↓wp, wo, wl, wi, List.replicate, Bool.not_false, Bool.not_true, cq_str da, cn_str da, termOk_4]
      refine brV_if (fun t => trivial) fun _ => brV_if (fun t => ?_) fun t => ?_
      · exact brV_if (fun t => by simp at t; omega) fun _ => trivial
      · exact brV_if (fun t => trivial) fun t => by simp at t; omega
  | _ => simp only [c_is_term, ↓wp, wo, wl, wi, List.replicate, Bool.not_false, Bool.not_true, termOk]
theorem clean_lst {vs : List Val} : clean (.lst .own vs) = cleanL vs := by simp [clean]
theorem data_mem {n : Nat} {c : Fz} {vs : List Val} (s : isData (n + 1) (.lst c vs) = true) {v : Val} (m : v ∈ vs) : isData n v = true := by
  simp only [isData, List.all_eq_true] at s
  exact s v m
theorem data_memt {n : Nat} {vs : List Val} (s : isData (n + 1) (.tup vs) = true) {v : Val} (m : v ∈ vs) : isData n v = true := by
  simp only [isData, List.all_eq_true] at s
  exact s v m
theorem pf_is_letter (e2 : F 2 = some c_is_whole) (e3 : F 3 = some c_is_between) (e4 : F 4 = some c_are_heirs) (e5 : F 5 = some c_is_term) (e6 : F 6 = some c_is_letter) {v : Val} {k : Int} (s : isData 27 v = true) : Pf (run T F (n + 4)) 6 [v, .int k] (.bl (letterOk v k)) := by
  refine .of_v rfl (e_run e6 rfl (by decide) ?_)
  have sc := closed_data v 27 s
  cases v with
  | ref => simp [closed] at sc
  | clo => simp [closed] at sc
  | tup vs =>
    simp only [c_is_letter, ↓wp, wo, wl, wi, List.replicate, Bool.not_false, Bool.not_true]
    match vs with
    | [] => exact rfl
    | [a] => exact rfl
    | a :: b :: c :: l =>
      refine brV_if (fun t => ?_) fun t => by simp at t; omega
      unfold letterOk
      split
      · rename_i e; cases e
      · rfl
    | [a, b] =>
      have ca : closed a = true := closed_data a 26 (data_memt s (by simp))
      have db : isData 26 b = true := data_memt s (by simp)
      have cb : closed b = true := closed_data b 26 db
      refine brV_if (fun t => by simp at t) fun t => ?_
      simp only [wo]
      refine e_pc (pf_are_heirs e2 e3 e4 ca) (by simp [closedL, closed, ca]) ?_
      refine brV_if (fun th => ?_) fun th => by simp only [letterOk]; split <;> simp_all
      cases b with
      | ref => simp [closed] at cb
      | clo => simp [closed] at cb
      | lst c ts =>
        simp only [wi, wo]
        refine brV_if (fun t1 => brV_if (fun t2 => ?_) fun t2 => ?_) fun t1 => ?_
        · rw [decide_eq_true_eq] at t1 t2
          refine e_compM (xs := ts) (g := id) (h1 := []) (fun v => .bl (termOk v k)) (by simp only [↓wp, wo, wl]; exact ⟨stat_id, trivial⟩) (fun x m => ?_) ?_
          · simp only [↓wp, wo, wl, List.set_nil, id, Nat.reduceAdd, Nat.reduceLT, true_and]
            have dx := data_mem db m
            exact e_pc (pf_is_term e2 e3 e5 dx) (by simp [closedL, closed, closed_data x _ dx]) ⟨rfl, rfl⟩
          · simp only [wo, bls_map, all_id, letterOk, th]
            have q1 : 1 ≤ ts.length := by omega
            have q2 : ts.length ≤ 4 := by omega
            simp [q1, q2]
        · rw [decide_eq_false_iff_not] at t2
          rw [show letterOk (.tup [a, .lst c ts]) k = false by simp [letterOk]; intros; omega]
        · rw [decide_eq_false_iff_not] at t1
          rw [show letterOk (.tup [a, .lst c ts]) k = false by simp [letterOk]; intros; omega]
      | _ => simp only [wi, wo, letterOk]
  | _ => simp only [c_is_letter, ↓wp, wo, wl, wi, List.replicate, Bool.not_false, Bool.not_true, letterOk]
/-- a look that refuses or goes by -/
def Gate (cl : CallF) (f : Nat) (vs : List Val) (o : Option Nat) : Prop := match o with
  | none => Pf cl f vs .non
  | some k => Px cl f vs k
theorem Gate.of {cl : CallF} {f : Nat} {vs : List Val} {o : Option Nat} (r : E (cl f vs []) (fun w _ => w = .non ∧ o = none) (fun j _ => o = some j)) : Gate cl f vs o := by
  cases q : cl f vs [] with
  | ok w g =>
    rw [q] at r
    obtain ⟨rfl, rfl⟩ := r
    exact Pf.of_ok q rfl
  | exc j g =>
    rw [q] at r
    have r : o = some j := r
    subst r
    exact ⟨g, q⟩
  | bad => rw [q] at r; exact r.elim
theorem e_gate {cl : CallF} {f : Nat} {vs : List Val} {o : Option Nat} {h : Hm} {Q : Val → Hm → Prop} {X : Nat → Hm → Prop} (l : Gate cl f vs o) (c : closedL vs = true) (q : o = none → Q .non h) (x : ∀ k, o = some k → X k h) : E (callM cl .pur f vs h) Q X := by
  cases o with
  | none => exact e_pc l c (q rfl)
  | some k => exact e_purx (snapL_closed c) l (x k rfl)
def gLetters (v : Val) : Option Nat := if lettersOk v then none else some 1
def gDays (v d : Val) : Option Nat := if lettersOk v then (if daysOk d 6 then none else some 2) else some 1
def gGone (d : Val) : Option Nat := if daysOk d 10 then none else some 4
def gSpans (v d : Val) : Option Nat := if lettersOk v then (if spansOk d then none else some 5) else some 1
theorem ga_check_letters (e2 : F 2 = some c_is_whole) (e3 : F 3 = some c_is_between) (e4 : F 4 = some c_are_heirs) (e5 : F 5 = some c_is_term) (e6 : F 6 = some c_is_letter) (e7 : F 7 = some c_check_letters) {v : Val} (s : isData 28 v = true) : Gate (run T F (n + 5)) 7 [v] (gLetters v) := by
  have sc := closed_data v 28 s
  refine .of (E_mono (?_ : E (run T F (n + 5) 7 [v] []) (fun w _ => w = .non ∧ lettersOk v = true) (fun k _ => k = 1 ∧ lettersOk v = false)) (fun w _ p => ⟨p.1, by simp [gLetters, p.2]⟩) fun k _ p => by simp [gLetters, p.1, p.2])
  refine e_run e7 rfl (by decide) ?_
  cases v with
  | ref => simp [closed] at sc
  | clo => simp [closed] at sc
  | lst c vs =>
    simp only [c_check_letters, ↓wp, wo, wl, wi, List.replicate, Bool.not_false, Bool.not_true]
    refine brV_if (fun t1 => brV_if (fun t2 => ?_) fun t2 => ?_) fun t1 => ?_
    · rw [decide_eq_true_eq] at t1 t2
      refine e_compM (xs := vs.zipIdx) (g := fun p => .tup [.int (p.2 : Nat), id p.1]) (h1 := []) (fun p => .bl (letterOk p.1 (p.2 : Nat))) (by simp only [↓wp, wo, wl, isTup]; exact ⟨trivial, stAt_enum stat_id, trivial⟩) (fun p m => ?_) ?_
      · have m2 : p.1 ∈ vs := List.fst_mem_of_mem_zipIdx m
        simp only [↓wp, wo, wl, List.set_nil, id, Nat.reduceAdd, Nat.reduceLT, true_and]
        have dx := data_mem s m2
        exact e_pc (pf_is_letter e2 e3 e4 e5 e6 dx) (by simp [closedL, closed, closed_data p.1 _ dx]) ⟨rfl, rfl⟩
      · simp only [wo, bls_map, all_id]
        have q1 : 1 ≤ vs.length := by omega
        have q2 : vs.length ≤ 40 := by omega
        exact brV_if (fun t => by simpa [lettersOk, q1, q2] using t) fun t => by simpa [lettersOk, q1, q2] using t
    · rw [decide_eq_false_iff_not] at t2
      exact ⟨trivial, by simp [lettersOk]; intros; omega⟩
    · rw [decide_eq_false_iff_not] at t1
      exact ⟨trivial, by simp [lettersOk]; intros; omega⟩
  | _ => simp only [c_check_letters, ↓wp, wo, wl, wi, List.replicate, Bool.not_false, Bool.not_true, lettersOk, and_self, true_and]

theorem pf_are_days (e2 : F 2 = some c_is_whole) (e3 : F 3 = some c_is_between) (e8 : F 8 = some c_are_days) {v : Val} {k : Int} (d : isData 28 v = true) : Pf (run T F (n + 3)) 8 [v, .int k] (.bl (daysOk v k)) := by
  refine .of_v rfl (e_run e8 rfl (by decide) ?_)
  have s := closed_data v _ d
  cases v with
  | ref => simp [closed] at s
  | clo => simp [closed] at s
  | lst c vs =>
    unfold closed at s
    simp only [c_are_days, ↓wp, wo, wl, wi, List.replicate, Bool.not_false, Bool.not_true]
    refine brV_if (fun t => ?_) fun t => ?_
    · simp at t; simp [daysOk, t]
    · simp at t
      refine e_compM (xs := vs) (g := id) (h1 := []) (fun v => .bl (dayOk v)) (by simp only [↓wp, wo, wl]; exact ⟨stat_id, trivial⟩) (fun x m => ?_) ?_
      · have cx := mem_closed s m
        have dx := data_mem d m
        simp only [↓wp, wo, wl, List.set_nil, id, Nat.reduceAdd, Nat.reduceLT, true_and]
        cases x with
        | ref => simp [closed] at cx
        | clo => simp [closed] at cx
        | err => simp [isData] at dx
        | non => simp only [wo, dayOk, and_self]
        | _ => simp only [wo, isM]; exact e_pc (pf_is_between e2 e3 cx) (by simpa [closedL, closed] using cx) ⟨rfl, rfl⟩
      · simp only [wo, bls_map, all_id, daysOk, t, decide_true, Bool.true_and]
  | _ => simp only [c_are_days, ↓wp, wo, wl, wi, List.replicate, Bool.not_false, Bool.not_true, daysOk]
theorem ga_check_days (e2 : F 2 = some c_is_whole) (e3 : F 3 = some c_is_between) (e4 : F 4 = some c_are_heirs) (e5 : F 5 = some c_is_term) (e6 : F 6 = some c_is_letter) (e7 : F 7 = some c_check_letters) (e8 : F 8 = some c_are_days) (e9 : F 9 = some c_check_days) {v d : Val} (s : isData 28 v = true) (sd : isData 28 d = true) : Gate (run T F (n + 6)) 9 [v, d] (gDays v d) := by
  refine .of (e_run e9 rfl (by decide) ?_)
  have sc := closed_data v 28 s
  have dc := closed_data d 28 sd
  simp only [c_check_days, ↓wp, wo, wl, List.replicate]
  refine e_gate (ga_check_letters e2 e3 e4 e5 e6 e7 s) (by simp [closedL, sc]) (fun o => ?_) fun k o => ?_
  · have l : lettersOk v = true := by revert o; unfold gLetters; split <;> simp_all
    refine e_pc (pf_are_days (n := n + 2) e2 e3 e8 sd) (by simp [closedL, closed, dc]) ?_
    exact brV_if (fun t => by simp [brV, gDays, l, t]) fun t => by simp [brV, gDays, l, t]
  · have l : lettersOk v = false ∧ k = 1 := by revert o; unfold gLetters; split <;> simp_all
    simp [gDays, l]
theorem ga_check_gone (e2 : F 2 = some c_is_whole) (e3 : F 3 = some c_is_between) (e8 : F 8 = some c_are_days) (e25 : F 25 = some c_check_gone) {d : Val} (sd : isData 28 d = true) : Gate (run T F (n + 4)) 25 [d] (gGone d) := by
  refine .of (e_run e25 rfl (by decide) ?_)
  have dc := closed_data d 28 sd
  simp only [c_check_gone, ↓wp, wo, wl, List.replicate]
  refine e_pc (pf_are_days (n := n) e2 e3 e8 sd) (by simp [closedL, closed, dc]) ?_
  exact brV_if (fun t => by simpa [brV, gGone] using t) fun t => by simpa [brV, gGone] using t
theorem pf_is_span (e2 : F 2 = some c_is_whole) (e3 : F 3 = some c_is_between) (e27 : F 27 = some c_is_span) {v : Val} (s : closed v = true) : Pf (run T F (n + 3)) 27 [v] (.bl (spanOk v)) := by
  refine .of_v rfl (e_run e27 rfl (by decide) ?_)
  cases v with
  | ref => simp [closed] at s
  | clo => simp [closed] at s
  | tup vs =>
    simp only [c_is_span, ↓wp, wo, wl, wi, List.replicate, Bool.not_false, Bool.not_true]
    unfold closed at s
    match vs with
    | [] => exact rfl
    | [a] => exact brV_if (fun t => by simp [spanOk]) fun t => by simp at t
    | a :: b :: c :: l =>
      refine brV_if (fun t => ?_) fun t => by simp at t; omega
      unfold spanOk
      split
      · rename_i e; cases e
      · rfl
    | [a, b] =>
      have ca : closed a = true := mem_closed s (by simp)
      have cb : closed b = true := mem_closed s (by simp)
      refine brV_if (fun t => by simp at t) fun t => ?_
      simp only [wo]
      refine e_pc (pf_is_between e2 e3 ca) (by simp [closedL, closed, ca]) ?_
      refine brV_if (fun t => ?_) fun t => ?_
      · cases a <;> simp only [btw, Bool.false_eq_true] at t
        exact e_pc (pf_is_between e2 e3 cb) (by simp [closedL, closed, cb]) (by simp [spanOk, btw] at t ⊢; simp [t])
      · cases a with
        | int i => simp [spanOk, t]
        | _ => rfl
  | _ => simp only [c_is_span, ↓wp, wo, wl, wi, List.replicate, Bool.not_false, Bool.not_true, spanOk]
theorem ga_check_spans (e2 : F 2 = some c_is_whole) (e3 : F 3 = some c_is_between) (e4 : F 4 = some c_are_heirs) (e5 : F 5 = some c_is_term) (e6 : F 6 = some c_is_letter) (e7 : F 7 = some c_check_letters) (e27 : F 27 = some c_is_span) (e28 : F 28 = some c_check_spans) {v d : Val} (s : isData 28 v = true) (sd : isData 28 d = true) : Gate (run T F (n + 6)) 28 [v, d] (gSpans v d) := by
  refine .of (e_run e28 rfl (by decide) ?_)
  have sc := closed_data v 28 s
  have dc := closed_data d 28 sd
  simp only [c_check_spans, ↓wp, wo, wl, List.replicate]
  refine e_gate (ga_check_letters e2 e3 e4 e5 e6 e7 s) (by simp [closedL, sc]) (fun o => ?_) fun k o => ?_
  · have l : lettersOk v = true := by revert o; unfold gLetters; split <;> simp_all
    cases d with
    | ref => simp [closed] at dc
    | clo => simp [closed] at dc
    | lst c vs =>
      simp only [↓wp, wo, wl, wi, Bool.not_true]
      refine brV_if (fun t => ?_) fun t => ?_
      · simp at t
        simp [gSpans, l, spansOk]
        omega
      · simp at t
        refine e_compM (xs := vs) (g := id) (h1 := []) (fun v => .bl (spanOrOk v)) (by simp only [↓wp, wo, wl]; exact ⟨stat_id, trivial⟩) (fun x m => ?_) ?_
        · have dx := data_mem sd m
          have cx := closed_data x _ dx
          simp only [↓wp, wo, wl, List.set_nil, id, Nat.reduceAdd, Nat.reduceLT, true_and]
          cases x with
          | ref => simp [closed] at cx
          | clo => simp [closed] at cx
          | err => simp [isData] at dx
          | non => simp only [wo, spanOrOk, and_self]
          | _ => simp only [wo, isM]; exact e_pc (pf_is_span (n := n + 2) e2 e3 e27 cx) (by simpa [closedL, closed] using cx) ⟨rfl, rfl⟩
        · simp only [wo, bls_map, all_id]
          have t6 : vs.length = 6 := by omega
          exact brV_if (fun t2 => by simpa [brV, gSpans, l, spansOk, t6] using t2) fun t2 => by simpa [brV, gSpans, l, spansOk, t6] using t2
    | _ => simp only [↓wp, wo, wl, wi, Bool.not_false, gSpans, l, spansOk]; simp
  · have l : lettersOk v = false ∧ k = 1 := by revert o; unfold gLetters; split <;> simp_all
    simp [gSpans, l]
end
end MP
set_option Elab.async false
set_option linter.all false
set_option maxRecDepth 100000
set_option autoImplicit false
namespace MP
open PySem L2
mutual
def er : Val → Val
  | .tup vs => .tup (erL vs)
  | .lst _ vs => .lst .own (erL vs)
  | .dct _ ks vs => .dct .own ks (erL vs)
  | .obj _ k fs vs => .obj .own k fs (erL vs)
  | .non => .non
  | .bl b => .bl b
  | .int i => .int i
  | .str n => .str n
  | .ref i => .ref i
  | .err k => .err k
  | .clo l c => .clo l c
def erL : List Val → List Val
  | [] => []
  | v :: vs => er v :: erL vs
end
theorem erL_map : ∀ vs : List Val, erL vs = vs.map er
  | [] => by simp [erL]
  | v :: vs => by simp [erL, erL_map vs]
theorem er_lst {v : Val} {ws : List Val} (h : er v = .lst .own ws) : ∃ c vs, v = .lst c vs ∧ vs.map er = ws := by
  cases v <;> simp [er, erL_map] at h
  exact ⟨_, _, rfl, h⟩
theorem er_tup {v : Val} {ws : List Val} (h : er v = .tup ws) : ∃ vs, v = .tup vs ∧ vs.map er = ws := by
  cases v <;> simp [er, erL_map] at h
  exact ⟨_, rfl, h⟩
theorem er_int {v : Val} {i : Int} (h : er v = .int i) : v = .int i := by cases v <;> simp_all [er]
theorem er_non {v : Val} (h : er v = .non) : v = .non := by cases v <;> simp_all [er]
theorem er_str {v : Val} {i : Nat} (h : er v = .str i) : v = .str i := by cases v <;> simp_all [er]
theorem er_bl {v : Val} {b : Bool} (h : er v = .bl b) : v = .bl b := by cases v <;> simp_all [er]
theorem map_er {α : Type} {f : α → Val} (k : ∀ v a, er v = f a → v = f a) : ∀ {vs : List Val} {as : List α}, vs.map er = as.map f → vs = as.map f
  | [], [], _ => rfl
  | [], _ :: _, h => by simp at h
  | _ :: _, [], h => by simp at h
  | v :: vs, a :: as, h => by
    simp only [List.map_cons, List.cons.injEq] at h ⊢
    exact ⟨k v a h.1, map_er k h.2⟩
mutual
theorem er_er : ∀ v : Val, er (er v) = er v
  | .tup vs => by simp [er, erL_erL vs]
  | .lst _ vs => by simp [er, erL_erL vs]
  | .dct _ _ vs => by simp [er, erL_erL vs]
  | .obj _ _ _ vs => by simp [er, erL_erL vs]
  | .non => rfl
  | .bl _ => rfl
  | .int _ => rfl
  | .str _ => rfl
  | .ref _ => rfl
  | .err _ => rfl
  | .clo _ _ => rfl
theorem erL_erL : ∀ vs : List Val, erL (erL vs) = erL vs
  | [] => rfl
  | v :: vs => by simp [erL, er_er v, erL_erL vs]
end
mutual
theorem eqV_er : ∀ a b : Val, eqV (er a) (er b) = eqV a b
  | .tup vs, b => by cases b <;> simp [er, eqV, eqVs_er]
  | .lst _ vs, b => by cases b <;> simp [er, eqV, eqVs_er]
  | .dct _ _ vs, b => by cases b <;> simp [er, eqV]
  | .obj _ _ _ vs, b => by cases b <;> simp [er, eqV]
  | .non, b => by cases b <;> simp [er, eqV]
  | .bl _, b => by cases b <;> simp [er, eqV]
  | .int _, b => by cases b <;> simp [er, eqV]
  | .str _, b => by cases b <;> simp [er, eqV]
  | .ref _, b => by cases b <;> simp [er, eqV]
  | .err _, b => by cases b <;> simp [er, eqV]
  | .clo _ _, b => by cases b <;> simp [er, eqV]
theorem eqVs_er : ∀ a b : List Val, eqVs (erL a) (erL b) = eqVs a b
  | [], [] => rfl
  | [], _ :: _ => rfl
  | _ :: _, [] => rfl
  | a :: as, b :: bs => by simp [erL, eqVs, eqV_er a b, eqVs_er as bs]
end
mutual
theorem isData_er : ∀ (v : Val) (n : Nat), isData n (er v) = isData n v
  | .tup vs, n => by cases n <;> simp [er, isData, isDataL_er]
  | .lst _ vs, n => by cases n <;> simp [er, isData, isDataL_er]
  | .dct _ _ vs, n => by cases n <;> simp [er, isData]
  | .obj _ _ _ vs, n => by cases n <;> simp [er, isData]
  | .non, n => rfl
  | .bl _, n => rfl
  | .int _, n => rfl
  | .str _, n => rfl
  | .ref _, n => rfl
  | .err _, n => rfl
  | .clo _ _, n => rfl
theorem isDataL_er : ∀ (vs : List Val) (n : Nat), (erL vs).all (isData n) = vs.all (isData n)
  | [], n => rfl
  | v :: vs, n => by simp only [erL, List.all_cons, isData_er v n, isDataL_er vs n]
end
mutual
theorem eqV_refl : ∀ (v : Val) (n : Nat), isData n v = true → eqV v v = true
  | .tup vs, n, d => by
    cases n with
    | zero => simp [isData] at d
    | succ n => unfold isData at d; unfold eqV; exact eqVs_refl vs n d
  | .lst _ vs, n, d => by
    cases n with
    | zero => simp [isData] at d
    | succ n => unfold isData at d; unfold eqV; exact eqVs_refl vs n d
  | .dct _ _ vs, n, d => by cases n <;> simp [isData] at d
  | .obj _ _ _ vs, n, d => by cases n <;> simp [isData] at d
  | .non, n, d => rfl
  | .bl _, n, d => by simp [eqV]
  | .int _, n, d => by simp [eqV]
  | .str _, n, d => by simp [eqV]
  | .ref _, n, d => by cases n <;> simp [isData] at d
  | .err _, n, d => by cases n <;> simp [isData] at d
  | .clo _ _, n, d => by cases n <;> simp [isData] at d
theorem eqVs_refl : ∀ (vs : List Val) (n : Nat), vs.all (isData n) = true → eqVs vs vs = true
  | [], n, d => rfl
  | v :: vs, n, d => by
    rw [List.all_cons, Bool.and_eq_true] at d
    unfold eqVs
    rw [eqV_refl v n d.1, eqVs_refl vs n d.2]
    rfl
end
/-- the same data, whosever the lists -/
theorem eqV_same {a b : Val} {n : Nat} (e : er a = er b) (d : isData n a = true) : eqV a b = true := by
  rw [← eqV_er, ← e]
  exact eqV_refl _ n (by rw [isData_er]; exact d)
theorem eqM_same {h : Hm} {x y a b : Val} (sa : snap h x = some a) (sb : snap h y = some b) (e : er a = er b) (d : isData 30 a = true) : eqM h x y = some true := by
  have d2 : isData 30 b = true := by rw [← isData_er, ← e, isData_er]; exact d
  simp only [eqM, sa, sb, d, d2, Bool.and_self, if_true, eqV_same e d]
mutual
theorem closed_er : ∀ (v : Val), closed (er v) = closed v
  | .tup vs => by simp [er, closed, closedL_er vs]
  | .lst _ vs => by simp [er, closed, closedL_er vs]
  | .dct _ _ vs => by simp [er, closed, closedL_er vs]
  | .obj _ _ _ vs => by simp [er, closed, closedL_er vs]
  | .non => rfl
  | .bl _ => rfl
  | .int _ => rfl
  | .str _ => rfl
  | .ref _ => rfl
  | .err _ => rfl
  | .clo _ _ => rfl
theorem closedL_er : ∀ (vs : List Val), closedL (erL vs) = closedL vs
  | [] => rfl
  | v :: vs => by simp [erL, closedL, closed_er v, closedL_er vs]
end
inductive Term where
  | day (d : Int) | when (j d : Int) | after (j d : Int)
  deriving DecidableEq
def encT : Term → Val
  | .day d => .tup [.str 0, .int d]
  | .when j d => .tup [.str 1, .int j, .int d]
  | .after j d => .tup [.str 2, .int j, .int d]
def encO : Option Int → Val
  | none => .non
  | some d => .int d
structure Letter where
  heirs : List Int
  terms : List Term
  deriving DecidableEq
def encL (l : Letter) : Val := .tup [.lst .own (l.heirs.map .int), .lst .own (l.terms.map encT)]
def encLs (ls : List Letter) : Val := .lst .own (ls.map encL)
def encR (row : List (Option Int)) : Val := .lst .own (row.map encO)
def encSp : Option (Int × Int) → Val
  | none => .non
  | some (a, b) => .tup [.int a, .int b]
def encSs (row : List (Option (Int × Int))) : Val := .lst .own (row.map encSp)
theorem er_encO {v : Val} {o : Option Int} (h : er v = encO o) : v = encO o := by
  cases o with
  | none => exact er_non h
  | some d => exact er_int h
theorem er_encSp {v : Val} {o : Option (Int × Int)} (h : er v = encSp o) : v = encSp o := by
  cases o with
  | none => exact er_non h
  | some p =>
    obtain ⟨vs, rfl, e⟩ := er_tup h
    rw [show [Val.int p.1, Val.int p.2] = [p.1, p.2].map .int from rfl] at e
    rw [map_er (f := Val.int) (fun v a => er_int) e]
    rfl
theorem map2 {vs : List Val} {x y : Val} (e : vs.map er = [x, y]) : ∃ a b, vs = [a, b] ∧ er a = x ∧ er b = y := by
  match vs, e with
  | [], e => cases e
  | [_], e => simp at e
  | [a, b], e => simp at e; exact ⟨a, b, rfl, e.1, e.2⟩
  | _ :: _ :: _ :: _, e => simp at e
theorem map3 {vs : List Val} {x y z : Val} (e : vs.map er = [x, y, z]) : ∃ a b c, vs = [a, b, c] ∧ er a = x ∧ er b = y ∧ er c = z := by
  match vs, e with
  | [], e => cases e
  | [_], e => simp at e
  | [_, _], e => simp at e
  | [a, b, c], e => simp at e; exact ⟨a, b, c, rfl, e.1, e.2.1, e.2.2⟩
  | _ :: _ :: _ :: _ :: _, e => simp at e
theorem er_encT {v : Val} {t : Term} (h : er v = encT t) : v = encT t := by
  cases t with
  | day d =>
    obtain ⟨vs, rfl, e⟩ := er_tup h
    obtain ⟨a, b, rfl, e1, e2⟩ := map2 e
    rw [er_str e1, er_int e2]; rfl
  | when j d =>
    obtain ⟨vs, rfl, e⟩ := er_tup h
    obtain ⟨a, b, c, rfl, e1, e2, e3⟩ := map3 e
    rw [er_str e1, er_int e2, er_int e3]; rfl
  | after j d =>
    obtain ⟨vs, rfl, e⟩ := er_tup h
    obtain ⟨a, b, c, rfl, e1, e2, e3⟩ := map3 e
    rw [er_str e1, er_int e2, er_int e3]; rfl
theorem er_ints {v : Val} {is : List Int} (h : er v = .lst .own (is.map .int)) : ∃ c, v = .lst c (is.map .int) := by
  obtain ⟨c, vs, rfl, e⟩ := er_lst h
  rw [map_er (fun v a => er_int) e]
  exact ⟨c, rfl⟩
theorem er_row {v : Val} {row : List (Option Int)} (h : er v = encR row) : ∃ c, v = .lst c (row.map encO) := by
  obtain ⟨c, vs, rfl, e⟩ := er_lst h
  rw [map_er (fun v a => er_encO) e]
  exact ⟨c, rfl⟩
theorem er_spans {v : Val} {row : List (Option (Int × Int))} (h : er v = encSs row) : ∃ c, v = .lst c (row.map encSp) := by
  obtain ⟨c, vs, rfl, e⟩ := er_lst h
  rw [map_er (fun v a => er_encSp) e]
  exact ⟨c, rfl⟩
theorem er_terms {v : Val} {ts : List Term} (h : er v = .lst .own (ts.map encT)) : ∃ c, v = .lst c (ts.map encT) := by
  obtain ⟨c, vs, rfl, e⟩ := er_lst h
  rw [map_er (fun v a => er_encT) e]
  exact ⟨c, rfl⟩
theorem er_letter {v : Val} {l : Letter} (h : er v = encL l) : ∃ c c', v = .tup [.lst c (l.heirs.map .int), .lst c' (l.terms.map encT)] := by
  obtain ⟨vs, rfl, e⟩ := er_tup h
  obtain ⟨a, b, rfl, e1, e2⟩ := map2 e
  obtain ⟨c, rfl⟩ := er_ints e1
  obtain ⟨c', rfl⟩ := er_terms e2
  exact ⟨c, c', rfl⟩
theorem er_letters {v : Val} {ls : List Letter} (h : er v = encLs ls) : ∃ c vs, v = .lst c vs ∧ vs.map er = ls.map encL := er_lst h
theorem encO_inj {a b : Option Int} (h : encO a = encO b) : a = b := by cases a <;> cases b <;> simp_all [encO]
theorem er_encO' (o : Option Int) : er (encO o) = encO o := by cases o <;> rfl
theorem er_encT' (t : Term) : er (encT t) = encT t := by cases t <;> rfl
theorem er_encSp' (o : Option (Int × Int)) : er (encSp o) = encSp o := by rcases o with _ | ⟨a, b⟩ <;> rfl
theorem map_er_of {α : Type} {f : α → Val} (k : ∀ a, er (f a) = f a) (l : List α) : (l.map f).map er = l.map f := by
  rw [List.map_map]
  exact List.map_congr_left fun a _ => k a
theorem er_lst_of {α : Type} {f : α → Val} (k : ∀ a, er (f a) = f a) (c : Fz) (l : List α) : er (.lst c (l.map f)) = .lst .own (l.map f) := by
  simp only [er, erL_map, map_er_of k]
theorem er_encR' {c : Fz} {row : List (Option Int)} : er (.lst c (row.map encO)) = encR row := er_lst_of er_encO' c row
theorem er_encSs' {c : Fz} {row : List (Option (Int × Int))} : er (.lst c (row.map encSp)) = encSs row := er_lst_of er_encSp' c row
theorem er_encL' (l : Letter) : er (encL l) = encL l := by
  simp only [encL, er, erL, erL_map, map_er_of er_encT', map_er_of (f := Val.int) (fun _ => rfl)]
theorem er_encLs' {c : Fz} {ls : List Letter} : er (.lst c (ls.map encL)) = encLs ls := er_lst_of er_encL' c ls
theorem data_lst {n : Nat} {c : Fz} {vs : List Val} (h : ∀ v ∈ vs, isData n v = true) : isData (n + 1) (.lst c vs) = true := by
  simp only [isData, List.all_eq_true]; exact h
theorem data_tup {n : Nat} {vs : List Val} (h : ∀ v ∈ vs, isData n v = true) : isData (n + 1) (.tup vs) = true := by
  simp only [isData, List.all_eq_true]; exact h
theorem data_map {α : Type} {n : Nat} {c : Fz} {f : α → Val} {l : List α} (h : ∀ a, isData n (f a) = true) : isData (n + 1) (.lst c (l.map f)) = true := by
  refine data_lst fun v m => ?_
  obtain ⟨a, _, rfl⟩ := List.mem_map.mp m
  exact h a
theorem data_encT (t : Term) : isData 1 (encT t) = true := by cases t <;> simp [encT, isData]
theorem data_encO (n : Nat) (t : Option Int) : isData n (encO t) = true := by cases t <;> cases n <;> rfl
theorem data_encSp (t : Option (Int × Int)) : isData 1 (encSp t) = true := by rcases t with _ | ⟨a, b⟩ <;> simp [encSp, isData]
theorem data_int (n : Nat) (i : Int) : isData n (.int i) = true := by cases n <;> rfl
theorem data_encL (l : Letter) : isData 3 (encL l) = true := by
  refine data_tup fun v m => ?_
  simp only [List.mem_cons, List.not_mem_nil, or_false] at m
  rcases m with rfl | rfl
  · exact data_map fun a => data_int _ a
  · exact data_map data_encT
theorem data_encLs (ls : List Letter) : isData 4 (encLs ls) = true := data_map data_encL
theorem data_encR (r : List (Option Int)) : isData 1 (encR r) = true := data_map (data_encO 0)
theorem data_encSs (r : List (Option (Int × Int))) : isData 2 (encSs r) = true := data_map data_encSp
theorem data_of {v w : Val} {n m : Nat} (e : er v = w) (d : isData n w = true) (l : n ≤ m) : isData m v = true := by
  rw [← isData_er, e]
  exact isData_le l d
theorem closed_of {v w : Val} {n : Nat} (e : er v = w) (d : isData n w = true) : closed v = true := closed_data v n (data_of e d (Nat.le_refl _))
def VT (k : Int) : Term → Prop
  | .day d => 0 ≤ d ∧ d ≤ 60
  | .when j d => (0 ≤ j ∧ j ≤ 5) ∧ 0 ≤ d ∧ d ≤ 20
  | .after j d => (0 ≤ j ∧ j ≤ k - 1) ∧ 0 ≤ d ∧ d ≤ 20
structure VLet (k : Int) (l : Letter) : Prop where
  h1 : 1 ≤ l.heirs.length
  h3 : l.heirs.length ≤ 3
  hb : ∀ x ∈ l.heirs, 0 ≤ x ∧ x ≤ 9
  hn : l.heirs.Nodup
  t1 : 1 ≤ l.terms.length
  t4 : l.terms.length ≤ 4
  tt : ∀ t ∈ l.terms, VT k t
structure VL (ls : List Letter) : Prop where
  l1 : 1 ≤ ls.length
  l40 : ls.length ≤ 40
  ok : ∀ (k : Nat) (l : Letter), ls[k]? = some l → VLet k l
def VO (o : Option Int) : Prop := ∀ d, o = some d → 0 ≤ d ∧ d ≤ 60
structure VD (n : Nat) (row : List (Option Int)) : Prop where
  len : row.length = n
  ok : ∀ o ∈ row, VO o
def VS1 (o : Option (Int × Int)) : Prop := ∀ a b, o = some (a, b) → 0 ≤ a ∧ a ≤ b ∧ b ≤ 60
structure VS (row : List (Option (Int × Int))) : Prop where
  len : row.length = 6
  ok : ∀ o ∈ row, VS1 o
theorem nubI_nodup : ∀ {is : List Int}, is.Nodup → nubI is = is
  | [], _ => rfl
  | x :: xs, h => by
    rw [List.nodup_cons] at h
    unfold nubI
    rw [if_neg (by simpa using h.1), nubI_nodup h.2]
theorem nubI_le : ∀ is : List Int, (nubI is).length ≤ is.length
  | [] => Nat.le_refl _
  | x :: xs => by
    unfold nubI
    have := nubI_le xs
    split <;> simp <;> omega
theorem nodup_nubI : ∀ {is : List Int}, (nubI is).length = is.length → is.Nodup
  | [], _ => List.nodup_nil
  | x :: xs, h => by
    unfold nubI at h
    have l := nubI_le xs
    split at h
    · simp at h; omega
    · rename_i n
      simp at h
      rw [List.nodup_cons]
      exact ⟨by simpa using n, nodup_nubI h⟩
theorem inL_ints (is : List Int) : inL (is.map .int) = is := by
  unfold inL
  induction is with
  | nil => rfl
  | cons a l ih => simp [intOf, ih]
theorem btw_int {i a b : Int} : btw (.int i) a b = true ↔ a ≤ i ∧ i ≤ b := by simp [btw]
theorem heirsOk_of {c : Fz} {is : List Int} (h1 : 1 ≤ is.length) (h3 : is.length ≤ 3) (hb : ∀ x ∈ is, 0 ≤ x ∧ x ≤ 9) (hn : is.Nodup) : heirsOk (.lst c (is.map .int)) = true := by
  simp only [heirsOk, List.length_map, h1, h3, decide_true, Bool.true_and, inL_ints, nubI_nodup hn, Bool.and_true, List.all_map, List.all_eq_true]
  intro x m
  exact btw_int.mpr (hb x m)
theorem termOk_of {k : Int} {t : Term} (v : VT k t) : termOk (encT t) k = true := by
  cases t <;> simp_all [VT, termOk, encT, btw]
theorem letterOk_of {v : Val} {k : Int} {l : Letter} (e : er v = encL l) (q : VLet k l) : letterOk v k = true := by
  obtain ⟨c, c', rfl⟩ := er_letter e
  simp only [letterOk, heirsOk_of q.h1 q.h3 q.hb q.hn, List.length_map, q.t1, q.t4, decide_true, Bool.true_and, List.all_map, List.all_eq_true]
  intro t m
  exact termOk_of (q.tt t m)
theorem lettersOk_of {v : Val} {ls : List Letter} (e : er v = encLs ls) (q : VL ls) : lettersOk v = true := by
  obtain ⟨c, vs, rfl, em⟩ := er_letters e
  have hl : vs.length = ls.length := by have := congrArg List.length em; simpa using this
  simp only [lettersOk, hl, q.l1, q.l40, decide_true, Bool.true_and, List.all_eq_true]
  rintro ⟨x, i⟩ m
  have g := List.mk_mem_zipIdx_iff_getElem?.mp m
  have e2 : (vs.map er)[i]? = some (er x) := by rw [List.getElem?_map, g]; rfl
  rw [em, List.getElem?_map] at e2
  cases z : ls[i]? with
  | none => rw [z] at e2; cases e2
  | some l =>
    rw [z] at e2
    have e3 : er x = encL l := (Option.some.inj e2).symm
    exact letterOk_of e3 (q.ok i l z)
theorem dayOk_of {o : Option Int} (v : VO o) : dayOk (encO o) = true := by
  cases o with
  | none => rfl
  | some d => exact btw_int.mpr (v d rfl)
theorem daysOk_of {v : Val} {row : List (Option Int)} {n : Nat} (e : er v = encR row) (q : VD n row) : daysOk v n = true := by
  obtain ⟨c, rfl⟩ := er_row e
  simp only [daysOk, List.length_map, q.len, decide_true, Bool.true_and, List.all_map, List.all_eq_true]
  intro t m
  exact dayOk_of (q.ok t m)
theorem spansOk_of {v : Val} {row : List (Option (Int × Int))} (e : er v = encSs row) (q : VS row) : spansOk v = true := by
  obtain ⟨c, rfl⟩ := er_spans e
  simp only [spansOk, List.length_map, q.len, decide_true, Bool.true_and, List.all_map, List.all_eq_true]
  intro t m
  have := q.ok t m
  rcases t with _ | ⟨a, b⟩
  · rfl
  · have := this a b rfl
    simp [spanOrOk, encSp, spanOk, btw]
    omega
end MP
set_option Elab.async false
set_option linter.all false
set_option maxRecDepth 100000
set_option autoImplicit false
namespace MP
open PySem L2
/-- the place in a row, a day or None -/
def rowAt (row : List (Option Int)) (j : Int) : Option Int := (row[j.toNat]?).getD none
def dayOf (days found : List (Option Int)) : Term → Option Int
  | .day d => some d
  | .when j d => (rowAt days j).map (· + d)
  | .after j d => (rowAt found j).map (· + d)
/-- may be told at these rows -/
def Term.fits (m n : Nat) : Term → Prop
  | .day _ => True
  | .when j _ => 0 ≤ j ∧ j < m
  | .after j _ => 0 ≤ j ∧ j < n
/-- the latest of the terms, if all have a day -/
def latest (l : List (Option Int)) : Option Int := if l.all (·.isSome) then maxI (l.filterMap id) else none
def duesFrom (days : List (Option Int)) : List (Option Int) → List Letter → List (Option Int)
  | acc, [] => acc
  | acc, l :: ls => duesFrom days (acc ++ [latest (l.terms.map (dayOf days acc))]) ls
def dues (days : List (Option Int)) (ls : List Letter) : List (Option Int) := duesFrom days [] ls
theorem duesFrom_snoc (days : List (Option Int)) (l : Letter) : ∀ (ls : List Letter) (acc : List (Option Int)), duesFrom days acc (ls ++ [l]) = duesFrom days acc ls ++ [latest (l.terms.map (dayOf days (duesFrom days acc ls)))]
  | [], acc => rfl
  | a :: ls, acc => by simp only [List.cons_append, duesFrom, duesFrom_snoc days l ls]
theorem dues_snoc (days : List (Option Int)) (l : Letter) (ls : List Letter) : dues days (ls ++ [l]) = dues days ls ++ [latest (l.terms.map (dayOf days (dues days ls)))] := duesFrom_snoc days l ls []
theorem duesFrom_len (days : List (Option Int)) : ∀ (ls : List Letter) (acc : List (Option Int)), (duesFrom days acc ls).length = acc.length + ls.length
  | [], acc => rfl
  | a :: ls, acc => by simp only [duesFrom, duesFrom_len days ls, List.length_append, List.length_cons, List.length_nil]; omega
theorem dues_len (days : List (Option Int)) (ls : List Letter) : (dues days ls).length = ls.length := by simp [dues, duesFrom_len]
theorem VT.fits {k : Nat} {t : Term} (v : VT k t) : t.fits 6 k := by
  cases t <;> simp only [VT, Term.fits] at v ⊢ <;> omega
theorem atI_of {α : Type} {l : List α} {j : Int} (h0 : 0 ≤ j) : atI l j = l[j.toNat]? := by
  unfold atI ixN
  rw [if_pos h0]
  split
  · rfl
  · rw [List.getElem?_eq_none (by omega)]
    rfl
theorem atI_nat {α : Type} {l : List α} {j : Nat} : atI l (j : Int) = l[j]? := by
  rw [atI_of (by omega)]; rfl
theorem encO_non (o : Option Int) : isM (encO o) .non = some o.isNone := by
  cases o <;> rfl
theorem encO_at {row : List (Option Int)} {j : Int} (h0 : 0 ≤ j) (h1 : j < row.length) : atI (row.map encO) j = some (encO (rowAt row j)) := by
  rw [atI_of h0, List.getElem?_map]
  have hl : j.toNat < row.length := by omega
  unfold rowAt
  rw [List.getElem?_eq_getElem hl]
  rfl
theorem closed_encT (t : Term) : closed (encT t) = true := by cases t <;> rfl
theorem closed_encO (t : Option Int) : closed (encO t) = true := by cases t <;> rfl
theorem closed_encSp (t : Option (Int × Int)) : closed (encSp t) = true := by rcases t with _ | ⟨a, b⟩ <;> rfl
theorem closed_map {α : Type} {f : α → Val} (k : ∀ a, closed (f a) = true) {c : Fz} {l : List α} : closed (.lst c (l.map f)) = true := by
  unfold closed
  rw [closedL_iff]
  intro v m
  obtain ⟨a, _, rfl⟩ := List.mem_map.mp m
  exact k a
theorem clean_map {α : Type} {f : α → Val} (k : ∀ a, clean (f a) = true) {l : List α} : clean (.lst .own (l.map f)) = true := by
  rw [clean_lst, cleanL_iff]
  intro v m
  obtain ⟨a, _, rfl⟩ := List.mem_map.mp m
  exact k a
theorem closed_row {c : Fz} {row : List (Option Int)} : closed (.lst c (row.map encO)) = true := closed_map closed_encO
theorem closed_spans {c : Fz} {row : List (Option (Int × Int))} : closed (.lst c (row.map encSp)) = true := closed_map closed_encSp
theorem closed_ints {c : Fz} {l : List Int} : closed (.lst c (l.map .int)) = true := closed_map fun _ => rfl
theorem closed_terms {c : Fz} {l : List Term} : closed (.lst c (l.map encT)) = true := closed_map closed_encT
theorem closed_int {i : Int} : closed (.int i) = true := rfl
theorem closed_bl {i : Bool} : closed (.bl i) = true := rfl
theorem closed_non : closed .non = true := rfl
theorem closed_str {i : Nat} : closed (.str i) = true := rfl
theorem closedL_nil : closedL [] = true := rfl
theorem closedL_cons {v : Val} {vs : List Val} : closedL (v :: vs) = (closed v && closedL vs) := by simp [closedL]
theorem clean_encO (t : Option Int) : clean (encO t) = true := by cases t <;> rfl
theorem clean_encT (t : Term) : clean (encT t) = true := by cases t <;> rfl
theorem clean_encSp (t : Option (Int × Int)) : clean (encSp t) = true := by rcases t with _ | ⟨a, b⟩ <;> rfl
theorem clean_encR (row : List (Option Int)) : clean (encR row) = true := clean_map clean_encO
theorem flat_encO (t : Option Int) : flat (encO t) = true := by cases t <;> rfl
/-- what is closed, for simp -/
def wc := And.intro @closed_int <| And.intro @closed_bl <| And.intro @closed_non <| And.intro @closed_str <| And.intro @closedL_nil <| And.intro @closedL_cons <| And.intro @closed_row <| And.intro @closed_spans <| And.intro @closed_ints <| And.intro @closed_terms <| And.intro @closed_encT <| And.intro @closed_encO <| And.intro @closed_encSp <| And.intro @Bool.and_self <| And.intro @Bool.true_and <| @Bool.and_true
section
variable {T : Tab} {F : Nat → Option Fn} {n : Nat} {h : Hm}
theorem run_day_of (e : F 0 = some c_day_of) {t : Term} {days found : List (Option Int)} {c c' : Fz} (hd : t.fits days.length found.length) :
    Pf (run T F (n + 1)) 0 [encT t, .lst c (days.map encO), .lst c' (found.map encO)] (encO (dayOf days found t)) := by
  refine .of_v (clean_encO _) (e_run e rfl (by decide) ?_)
  cases t with
  | day d =>
    simp only [c_day_of, ↓wp, wo, wl, List.replicate, encT, dayOf, encO, decide_true]
  | when j d =>
    simp only [c_day_of, ↓wp, wo, wl, List.replicate, encT, dayOf, encO, decide_true, decide_false, Nat.reduceEqDiff, Nat.succ_ne_self, Nat.one_ne_zero, Nat.reduceLT, true_and, encO_at hd.1 hd.2, encO_non, Nat.reduceAdd]
    cases rowAt days j <;> rfl
  | after j d =>
    simp only [c_day_of, ↓wp, wo, wl, List.replicate, encT, dayOf, encO, decide_true, decide_false, Nat.reduceEqDiff, Nat.reduceLT, true_and, encO_at hd.1 hd.2, encO_non, Nat.reduceAdd]
    cases rowAt found j <;> rfl
/-- letters as values, whosever the lists -/
abbrev LV := Fz × Fz × Letter
def gL (x : LV) : Val := .tup [.lst x.1 (x.2.2.heirs.map .int), .lst x.2.1 (x.2.2.terms.map encT)]
theorem letters_list : ∀ {vs : List Val} {ls : List Letter}, vs.map er = ls.map encL → ∃ xs : List LV, vs = xs.map gL ∧ xs.map (·.2.2) = ls
  | [], [], _ => ⟨[], rfl, rfl⟩
  | [], _ :: _, h => by simp at h
  | _ :: _, [], h => by simp at h
  | v :: vs, l :: ls, h => by
    simp only [List.map_cons, List.cons.injEq] at h
    obtain ⟨c, c', rfl⟩ := er_letter h.1
    obtain ⟨xs, rfl, rfl⟩ := letters_list h.2
    exact ⟨(c, c', l) :: xs, rfl, rfl⟩
theorem any_non (l : List (Option Int)) : ((l.map encO).any fun v => eqV v .non) = !(l.all (·.isSome)) := by
  induction l with
  | nil => rfl
  | cons a l ih =>
    rw [List.map_cons, List.any_cons, ih, List.all_cons]
    cases a <;> simp [encO, eqV]
theorem intsOf_some : ∀ {l : List (Option Int)}, l.all (·.isSome) = true → intsOf (l.map encO) = some (l.filterMap id)
  | [], _ => rfl
  | none :: l, h => by simp at h
  | some a :: l, h => by
    have h2 : l.all (·.isSome) = true := by simpa using h
    simp [encO, intsOf, intsOf_some h2]
theorem intsOf_map : ∀ l : List Int, intsOf (l.map .int) = some l
  | [] => rfl
  | a :: l => by simp [intsOf, intsOf_map l]
theorem all_flat_encO (l : List (Option Int)) : (l.map encO).all flat = true := by
  rw [List.all_map, List.all_eq_true]
  intro x _
  exact flat_encO x
/-- `None in some` -/
theorem latest_in (h : Hm) (c : Fz) (l : List (Option Int)) : inM h .non (.lst c (l.map encO)) = some (!(l.all (·.isSome))) := by
  have e0 : flat .non = true := rfl
  simp only [inM, seqOf, e0, all_flat_encO, Bool.and_self, if_true, any_non]
theorem c_latest (h : Hm) (c : Fz) (l : List (Option Int)) : cmpM .inn h .non (.lst c (l.map encO)) = some (!(l.all (·.isSome))) := latest_in h c l
theorem maxI_some : ∀ {l : List Int}, l ≠ [] → ∃ m, maxI l = some m
  | [], h => absurd rfl h
  | [x], _ => ⟨x, rfl⟩
  | x :: y :: l, _ => by
    obtain ⟨m, e⟩ := maxI_some (l := y :: l) (by simp)
    unfold maxI
    rw [e]
    exact ⟨_, rfl⟩
/-- `None if None in some else max(some)` -/
theorem latest_max {row : List (Option Int)} (ne : row ≠ []) (hs : row.all (·.isSome) = true) : ∃ m, maxI (row.filterMap id) = some m ∧ latest row = some m := by
  obtain ⟨m, em⟩ : ∃ m, maxI (row.filterMap id) = some m := by
    refine maxI_some fun z => ?_
    cases row with
    | nil => exact ne rfl
    | cons t ts =>
      rw [List.all_cons, Bool.and_eq_true] at hs
      obtain ⟨d, ed⟩ := Option.isSome_iff_exists.mp hs.1
      subst ed
      simp at z
  exact ⟨m, em, by simp only [latest, hs, if_true, em]⟩
theorem latest_none {row : List (Option Int)} (hs : row.all (·.isSome) = false) : latest row = none := by
  simp [latest, hs]
theorem froz_ref0 {vs : List Val} (c : closedL vs = true) {tl : Hm} : froz (.lst vs :: tl) (.ref 0) = some (.lst .own vs) := by
  simp only [froz, deep, follow, List.getElem?_cons_zero, deepL_closed vs c]
theorem snapL_ref0 {vs : List Val} {tl : Hm} (c : closedL vs = true) : snap (.lst vs :: tl) (.ref 0) = some (.lst .bor vs) := by
  simp only [snap, deep, follow, List.getElem?_cons_zero, deepL_closed vs c]
theorem snapL_cons {h : Hm} {v w : Val} {vs ws : List Val} (a : snap h v = some w) (b : snapL h vs = some ws) : snapL h (v :: vs) = some (w :: ws) := by
  unfold snap at a
  unfold snapL at b ⊢
  simp only [deepL, a, b]
theorem snapL_nil {h : Hm} : snapL h [] = some [] := rfl
theorem closedL_row {row : List (Option Int)} : closedL (row.map encO) = true := closedL_iff.mpr fun v m => by obtain ⟨a, _, rfl⟩ := List.mem_map.mp m; exact closed_encO a
/-- a def that gives a new list, ours to change -/
def Rf (cl : CallF) (f : Nat) (ws us : List Val) : Prop := ∃ i h, cl f ws [] = .ok (.ref i) h ∧ h[i]? = some (.lst us)
theorem Rf.of {cl : CallF} {f : Nat} {ws us : List Val} (r : E (cl f ws []) (fun v h => ∃ i, v = .ref i ∧ h[i]? = some (.lst us)) nox) : Rf cl f ws us := by
  obtain ⟨v, h, e, i, rfl, q⟩ := ex_of_E r
  exact ⟨i, h, e, q⟩
theorem Rf.ex {cl : CallF} {f : Nat} {ws : List Val} {α : Type} {g : α → List Val} {P : α → Prop} (r : E (cl f ws []) (fun v h => ∃ a, ∃ i, v = .ref i ∧ h[i]? = some (.lst (g a)) ∧ P a) nox) : ∃ a, Rf cl f ws (g a) ∧ P a := by
  obtain ⟨v, h, e, a, i, rfl, q, p⟩ := ex_of_E r
  exact ⟨a, ⟨i, h, e, q⟩, p⟩
theorem Rf.pf {cl : CallF} {f : Nat} {ws us : List Val} (r : Rf cl f ws us) (c : cleanL us = true) : Pf cl f ws (.lst .own us) := by
  obtain ⟨i, h, e, q⟩ := r
  refine ⟨⟨_, h, e, ?_⟩, by rw [clean_lst]; exact c⟩
  simp only [froz, deep, follow, q, deepL_closed us (closedL_of_clean us c)]
theorem e_top {cl : CallF} {f : Nat} {vs ws us : List Val} {h : Hm} {Q : Val → Hm → Prop} {X : Nat → Hm → Prop} (s : snapL h vs = some ws) (r : Rf cl f ws us) (c : cleanL us = true) (q : Q (.ref h.length) (h ++ [.lst us])) : E (callM cl .top f vs h) Q X := by
  obtain ⟨i, h', e, z⟩ := r
  rw [top_call s e z (deepL_closed us (closedL_of_clean us c)) c]
  exact q
theorem cleanL_map {α : Type} {f : α → Val} (k : ∀ a, clean (f a) = true) (l : List α) : cleanL (l.map f) = true := cleanL_iff.mpr fun v m => by obtain ⟨a, _, rfl⟩ := List.mem_map.mp m; exact k a
theorem rf_dues_of (e0 : F 0 = some c_day_of) (e1 : F 1 = some c_dues_of) {d v : Val} {days : List (Option Int)} {ls : List Letter} (hv : er v = encLs ls) (hd : er d = encR days) (len : days.length = 6) (ok : ∀ (k : Nat) (l : Letter), ls[k]? = some l → VLet k l) (hb : ls.length ≤ 1000) :
    Rf (run T F (n + 2)) 1 [v, d] ((dues days ls).map encO) := by
  obtain ⟨c2, vs, rfl, em⟩ := er_letters hv
  obtain ⟨c, rfl⟩ := er_row hd
  obtain ⟨xs, rfl, rfl⟩ := letters_list em
  refine .of (e_run e1 rfl (by decide) ?_)
  simp only [c_dues_of, ↓wp, wo, wl, List.replicate, Nat.zero_le, true_and, Nat.reduceAdd, Nat.reduceLT]
  refine w_for (xs := xs) (g := gL) (fun pre e h => ∃ x3 x4 x5 x6, e = [some (.lst c2 (xs.map gL)), some (.lst c (days.map encO)), some (.ref 0), x3, x4, x5, x6] ∧ h = [.lst ((dues days (pre.map (·.2.2))).map encO)]) ?_ ?_ ?_
  · simp only [↓wp, wo, wl]
    exact ⟨fun h => stAt_stat _ h, _, _, _, _, rfl, rfl⟩
  · rintro pre ⟨c3, c4, l⟩ post ex e h ⟨x3, x4, x5, x6, rfl, rfl⟩
    have hl : (xs.map (·.2.2))[pre.length]? = some l := by rw [ex]; simp
    have vl := ok _ _ hl
    simp only [gL, ↓wp, wo, wl, Nat.reduceAdd, Nat.reduceLT, true_and]
    generalize hacc : dues days (pre.map (·.2.2)) = acc
    have la : acc.length = pre.length := by rw [← hacc, dues_len]; simp
    refine e_compM (xs := l.terms) (g := encT) (h1 := [.lst (acc.map encO)]) (fun t => encO (dayOf days acc t)) (by simp only [↓wp, wo, wl]; exact ⟨stAt_stat _ _, trivial⟩) (fun t m => ?_) ?_
    · simp only [↓wp, wo, wl, Nat.reduceAdd, Nat.reduceLT, true_and]
      refine e_pur (ws := [encT t, .lst c (days.map encO), .lst .bor (acc.map encO)]) ?_ (run_day_of e0 (by rw [len, la]; exact VT.fits (vl.tt t m))) ⟨rfl, rfl⟩
      exact snapL_cons (snap_closed (closed_encT t)) (snapL_cons (snap_closed closed_row) (snapL_cons (snapL_ref0 closedL_row) snapL_nil))
    · have er2 : l.terms.map (fun t => encO (dayOf days acc t)) = (l.terms.map (dayOf days acc)).map encO := by simp
      rw [er2]
      have hne : l.terms.map (dayOf days acc) ≠ [] := by
        intro z
        have := vl.t1
        rw [List.map_eq_nil_iff] at z
        simp [z] at this
      have es : dues days ((pre ++ [(c3, c4, l)]).map (·.2.2)) = acc ++ [latest (l.terms.map (dayOf days acc))] := by
        rw [List.map_append, List.map_cons, List.map_nil, dues_snoc, hacc]
      rw [es]
      generalize l.terms.map (dayOf days acc) = row at hne ⊢
      have lb : (acc.map encO).length < big := by
        have : xs.length ≤ 1000 := by simpa using hb
        have : pre.length ≤ xs.length := by rw [ex]; simp
        rw [List.length_map, la]; unfold big; omega
      simp only [↓wp, wo, wl, Nat.reduceAdd, Nat.reduceLT, true_and, c_latest]
      refine ⟨rfl, ?_⟩
      refine brV_if (fun t => ?_) fun t => ?_
      · rw [m_append (vs := acc.map encO) rfl lb]
        rw [latest_none (by simpa using t)]
        exact ⟨_, _, _, _, rfl, by simp [encO]⟩
      · have hs : row.all (·.isSome) = true := by simpa using t
        obtain ⟨m, e1, e2⟩ := latest_max hne hs
        simp only [intsOf_some hs, e1, wo]
        rw [m_append (vs := acc.map encO) rfl lb, e2]
        exact ⟨_, _, _, _, rfl, by simp [encO]⟩
  · rintro e h ⟨x3, x4, x5, x6, rfl, rfl⟩
    simp only [↓wp, wo, wl]
    exact ⟨0, rfl, rfl⟩
theorem pf_dues_of (e0 : F 0 = some c_day_of) (e1 : F 1 = some c_dues_of) {d v : Val} {days : List (Option Int)} {ls : List Letter} (hv : er v = encLs ls) (hd : er d = encR days) (len : days.length = 6) (ok : ∀ (k : Nat) (l : Letter), ls[k]? = some l → VLet k l) (hb : ls.length ≤ 1000) :
    Pf (run T F (n + 2)) 1 [v, d] (encR (dues days ls)) := (rf_dues_of e0 e1 hv hd len ok hb).pf (cleanL_map clean_encO _)
theorem rf_due_days (e0 : F 0 = some c_day_of) (e1 : F 1 = some c_dues_of) (e9 : ∀ {n : Nat} {v d : Val}, isData 28 v = true → isData 28 d = true → Gate (run T F (n + 6)) 9 [v, d] (gDays v d)) (e10 : F 10 = some c_due_days) {d v : Val} {days : List (Option Int)} {ls : List Letter} (hv : er v = encLs ls) (hd : er d = encR days) (vd : VD 6 days) (vl : VL ls) :
    Rf (run T F (n + 7)) 10 [v, d] ((dues days ls).map encO) := by
  refine .of (e_run e10 rfl (by decide) ?_)
  have dk : daysOk d 6 = true := daysOk_of (n := 6) hd vd
  have g : gDays v d = none := by unfold gDays; rw [if_pos (lettersOk_of hv vl), if_pos dk]
  have dv := data_of (m := 28) hv (data_encLs ls) (by omega)
  have dd := data_of (m := 28) hd (data_encR days) (by omega)
  simp only [c_due_days, ↓wp, wo, wl, List.replicate]
  refine e_gate (e9 dv dd) (by simp [closedL, closed_data _ _ dv, closed_data _ _ dd]) (fun _ => ?_) fun k o => by rw [g] at o; cases o
  exact e_top (snapL_closed (by simp [closedL, closed_data _ _ dv, closed_data _ _ dd])) (rf_dues_of (n := n + 4) e0 e1 hv hd vd.len vl.ok (by have := vl.l40; omega)) (cleanL_map clean_encO _) ⟨0, rfl, rfl⟩
theorem pf_due_days (e0 : F 0 = some c_day_of) (e1 : F 1 = some c_dues_of) (e9 : ∀ {n : Nat} {v d : Val}, isData 28 v = true → isData 28 d = true → Gate (run T F (n + 6)) 9 [v, d] (gDays v d)) (e10 : F 10 = some c_due_days) {d v : Val} {days : List (Option Int)} {ls : List Letter} (hv : er v = encLs ls) (hd : er d = encR days) (vd : VD 6 days) (vl : VL ls) :
    Pf (run T F (n + 7)) 10 [v, d] (encR (dues days ls)) := (rf_due_days e0 e1 e9 e10 hv hd vd vl).pf (cleanL_map clean_encO _)
end
end MP
set_option Elab.async false
set_option linter.all false
set_option maxRecDepth 100000
set_option autoImplicit false
namespace MP
open PySem L2
def Bd (k : Nat) (i : Int) : Prop := i.natAbs < 2 ^ k
theorem Bd.mono {k l : Nat} {i : Int} (h : Bd k i) (q : k ≤ l) : Bd l i := Nat.lt_of_lt_of_le h (Nat.pow_le_pow_right (by decide) q)
theorem Bd.add {k : Nat} {i j : Int} (a : Bd k i) (b : Bd k j) : Bd (k + 1) (i + j) := by
  unfold Bd at *
  have := Int.natAbs_add_le i j
  rw [Nat.pow_succ]
  omega
theorem Bd.mul {k l : Nat} {i j : Int} (a : Bd k i) (b : Bd l j) : Bd (k + l) (i * j) := by
  unfold Bd at *
  rw [Int.natAbs_mul, Nat.pow_add]
  exact Nat.mul_lt_mul'' a b
theorem Bd.log {k : Nat} {i : Int} (a : Bd k i) : i.natAbs.log2 ≤ k := by
  by_cases z : i.natAbs = 0
  · rw [z]; simp
  · exact Nat.le_of_lt ((Nat.log2_lt z).mpr a)
theorem Bd.lt {k : Nat} {i : Int} (h0 : 0 ≤ i) (h1 : i < 2 ^ k) : Bd k i := by
  unfold Bd
  have : (i.natAbs : Int) < ((2 ^ k : Nat) : Int) := by
    rw [Int.natAbs_of_nonneg h0]
    simpa using h1
  exact Int.ofNat_lt.mp this
theorem Bd.div {k : Nat} {i : Int} (a : Bd k i) (m : Int) : Bd k (i / m) := Nat.lt_of_le_of_lt (Int.natAbs_ediv_le_natAbs i m) a
theorem Bd.lit {k : Nat} (i : Int) (h : i.natAbs < 1024) (q : 10 ≤ k) : Bd k i := Bd.mono (k := 10) (show i.natAbs < 2 ^ 10 from h) q
theorem Bd.lit20 {k : Nat} (i : Int) (h : i.natAbs < 1048576) (q : 20 ≤ k) : Bd k i := Bd.mono (k := 20) (show i.natAbs < 2 ^ 20 from h) q
section
variable {T : Tab} {F : Nat → Option Fn} {n : Nat} {h : Hm}
theorem b_mulB {z : Bool} {i j : Int} {k l : Nat} {Q : Val → Hm → Prop} {X : Nat → Hm → Prop} (a : Bd k i) (b : Bd l j) (q : k + l < 100000000) : E (binM z .mul (.int i) (.int j) h) Q X = Q (.int (i * j)) h :=
  b_mul (by have := a.log; have := b.log; omega)
theorem b_pow18 {z : Bool} {Q : Val → Hm → Prop} {X : Nat → Hm → Prop} : E (binM z .pow (.int 10) (.int 18) h) Q X = Q (.int 1000000000000000000) h := rfl
theorem pf_number (e : F 46 = some cl46) {cell at' whole : Int} {K : Nat} (hK : 64 ≤ K) (hK2 : K ≤ 10000000) (h1 : Bd K cell) (h2 : Bd K at') (h3 : Bd K whole) : ∃ r, Pf (run T F (n + 1)) 46 [.int cell, .int at', .int whole] (.int r) ∧ Bd (4 * K + 400) r := by
  by_cases hc : cell ≥ 1000000000000000000
  · refine ⟨cell, .of_v rfl (e_run e rfl (by decide) ?_), h1.mono (by omega)⟩
    simp only [cl46, ↓wp, wo, wl, List.replicate, b_pow18]
    exact brV_if (fun _ => trivial) fun t => by simp at t; omega
  · have a1 : Bd (10 + K) (977 * at') := (Bd.lit 977 (by decide) (by decide)).mul h2
    have a2 : Bd (10 + K + 1) (cell + 977 * at') := (h1.mono (by omega)).add a1
    have c1 : Bd 20 48271 := .lit20 _ (by decide) (by decide)
    have a3 := a2.mul c1
    have a5 : Bd 31 (((cell + 977 * at') * 48271 + whole) % 2147483647) := .lt (Int.emod_nonneg _ (by decide)) (Int.lt_of_lt_of_le (Int.emod_lt_of_pos _ (by decide)) (by decide))
    generalize hm : ((cell + 977 * at') * 48271 + whole) % 2147483647 = m at a5
    have b1 : Bd (10 + K) (31 * at') := (Bd.lit 31 (by decide) (by decide)).mul h2
    have b2 : Bd (10 + K + 1 + 1) (m + 31 * at' + 7) := ((a5.mono (by omega)).add b1).add (.lit 7 (by decide) (by omega))
    have b3 := a5.mul b2
    have b4 : Bd (K + 1 + 1) (m + cell + 5) := ((a5.mono (by omega)).add h1).add (.lit 5 (by decide) (by omega))
    have b5 := b3.mul b4
    have b6 : Bd (31 + (10 + K + 1 + 1) + (K + 1 + 1) + 1) (m * (m + 31 * at' + 7) * (m + cell + 5) + 48271) := b5.add (.lit20 _ (by decide) (by omega))
    have b7 := b5.mul b6
    refine ⟨_, .of_v rfl (e_run e rfl (by decide) ?_), (b7.div 1009).mono (by omega)⟩
    simp only [cl46, ↓wp, wo, wl, List.replicate, b_pow18]
    refine brV_if (fun t => by simp at t; omega) fun _ => ?_
    rw [b_mulB (Bd.lit (k := 10) 977 (by decide) (by decide)) h2 (by omega)]
    simp only [wo]
    rw [b_mulB a2 c1 (by omega)]
    simp only [wo]
    rw [b_mod (by decide)]
    simp only [wo, wl, Nat.reduceAdd, Nat.reduceLT, true_and, hm]
    rw [b_mulB (Bd.lit (k := 10) 31 (by decide) (by decide)) h2 (by omega)]
    simp only [wo]
    rw [b_mulB a5 b2 (by omega)]
    rw [b_mulB b3 b4 (by omega), b_add, b_mulB b5 b6 (by omega)]
    rw [b_fdiv (by decide) (by decide)]
theorem b_fdivL {z : Bool} {i : Int} {j : Int} {Q : Val → Hm → Prop} {X : Nat → Hm → Prop} (k : (decide (0 < j) && decide (j < 1000000000)) = true) : E (binM z .fdiv (.int i) (.int j) h) Q X = Q (.int (i / j)) h := by
  simp at k
  exact b_fdiv k.1 k.2
theorem b_modL {z : Bool} {i : Int} {j : Int} {Q : Val → Hm → Prop} {X : Nat → Hm → Prop} (k : decide (0 < j) = true) : E (binM z .mod (.int i) (.int j) h) Q X = Q (.int (i % j)) h := by
  simp at k
  exact b_mod k
theorem pf_whole (e : F 47 = some cl47) {v : Val} (s : closed v = true) : Pf (run T F (n + 1)) 47 [v] (.bl (intB v)) := by
  refine .of_v rfl (e_run e rfl (by decide) ?_)
  cases v with
  | ref => simp [closed] at s
  | clo => simp [closed] at s
  | _ => simp only [cl47, ↓wp, wo, wl, wi, List.replicate, intB, Bool.not_true, Bool.not_false]
def tmSort (num kind : Int) : Int := if kind = 0 then num % 4 else if kind = 1 then 0 else if kind = 2 then 1 else num % 2
def tmOf (s r k : Int) : Term := if s = 0 ∧ 0 < k then .after (if r / 40 % 2 = 0 then r % k else k - 1) (r / 80 % 21) else if s < 3 then .when (r % 6) (r / 80 % 21) else .day (r % 61)
theorem VT_tmOf (s r k : Int) (hk : 0 ≤ k) : VT k (tmOf s r k) := by
  have p3 : 0 ≤ r / 80 % 21 := Int.emod_nonneg _ (by decide)
  have p4 : r / 80 % 21 < 21 := Int.emod_lt_of_pos _ (by decide)
  have q1 := Int.emod_nonneg r (b := 6) (by decide)
  have q2 := Int.emod_lt_of_pos r (b := 6) (by decide)
  have q3 := Int.emod_nonneg r (b := 61) (by decide)
  have q4 := Int.emod_lt_of_pos r (b := 61) (by decide)
  unfold tmOf
  split
  · rename_i c
    have m3 : 0 ≤ r % k := Int.emod_nonneg _ (by omega)
    have m4 : r % k < k := Int.emod_lt_of_pos _ c.2
    refine ⟨⟨?_, ?_⟩, p3, by omega⟩ <;> split <;> omega
  · split
    · unfold VT; omega
    · unfold VT; omega
theorem tm_aux {s r k : Int} : brV (.bl (decide (s = 0)))
    (brV (.bl (decide (0 < k)))
      (E (binM true .mod (.int r) (.int k) []) (fun x h => OE (atI [x, .int (k - 1)] (r / 40 % 2)) fun v => Val.tup [.str 2, v, .int (r / 80 % 21)] = encT (tmOf s r k)) fun k h => nox k h)
      (brV (.bl (decide (s < 3))) (Val.tup [.str 1, .int (r % 6), .int (r / 80 % 21)] = encT (tmOf s r k)) (Val.tup [.str 0, .int (r % 61)] = encT (tmOf s r k))))
    (brV (.bl (decide (s < 3))) (Val.tup [.str 1, .int (r % 6), .int (r / 80 % 21)] = encT (tmOf s r k)) (Val.tup [.str 0, .int (r % 61)] = encT (tmOf s r k))) := by
  have m1 : 0 ≤ r / 40 % 2 := Int.emod_nonneg _ (by decide)
  have m2 : r / 40 % 2 < 2 := Int.emod_lt_of_pos _ (by decide)
  refine brV_if (fun t1 => brV_if (fun t2 => ?_) fun t2 => ?_) fun t1 => ?_
  · rw [decide_eq_true_eq] at t1 t2
    rw [b_mod t2]
    rcases (show r / 40 % 2 = 0 ∨ r / 40 % 2 = 1 by omega) with z | z <;> simp [z, wo, tmOf, t1, t2, encT]
  · rw [decide_eq_true_eq] at t1
    rw [decide_eq_false_iff_not] at t2
    rw [brV_t (by simp [t1])]
    simp [tmOf, t2, t1, encT]
  · rw [decide_eq_false_iff_not] at t1
    refine brV_if (fun t2 => ?_) fun t2 => ?_
    · simp at t2; simp [tmOf, t1, t2, encT]
    · simp at t2; simp [tmOf, t1, show ¬ s < 3 by omega, encT]
theorem pf_term (e : F 48 = some cl48) {num k kind : Int} (h0 : 0 ≤ kind) (h3 : kind ≤ 3) : Pf (run T F (n + 1)) 48 [.int num, .int k, .int kind] (encT (tmOf (tmSort num kind) (num / 4) k)) := by
  refine .of_v (clean_encT _) (e_run e rfl (by decide) ?_)
  have hb2 : (2 : Nat) ≤ big := by decide
  have hb3 : (3 : Nat) ≤ big := by decide
  have hb4 : (4 : Nat) ≤ big := by decide
  rcases (show kind = 0 ∨ kind = 1 ∨ kind = 2 ∨ kind = 3 by omega) with rfl | rfl | rfl | rfl
  all_goals
    simp only [cl48, ↓wp, wo, wl, List.replicate, b_modL (j := 4) (by decide), b_fdivL (j := 4) (by decide), b_fdivL (j := 40) (by decide), b_modL (j := 2) (by decide), b_modL (j := 6) (by decide), b_modL (j := 21) (by decide), b_modL (j := 61) (by decide), b_fdivL (j := 80) (by decide), hb2, hb3, hb4, Nat.reduceAdd, Nat.reduceLT, true_and, Nat.zero_add, tmSort, if_true, if_false, Int.reduceEq]
    first | exact tm_aux (s := 0) | exact tm_aux (s := 1) | exact tm_aux (s := num % 4) | exact tm_aux (s := num % 2)
/-- a letter's heirs -/
def heirsOf (num : Int) : List Int := (List.range (1 + num % 3).toNat).map fun (t : Nat) => (num / 36 + 3 * (t : Int)) % 10
theorem rng1 {j : Int} {Q : Src → Prop} (h0 : -1000000 ≤ j) (h1 : j ≤ 1000000) : OE (rngM [.int j]) Q = Q (.stat ((List.range j.toNat).map fun n => .int (n : Nat))) := by
  simp only [rngM, h0, h1, and_self, if_true]; rfl
theorem range_split {k m : Nat} {pre post : List Nat} (e : List.range k = pre ++ m :: post) : m = pre.length ∧ m < k ∧ pre = List.range m := by
  have h1 : (List.range k)[pre.length]? = some m := by rw [e]; simp
  have hl : pre.length < k := by
    have := congrArg List.length e
    simp at this; omega
  have h2 : m = pre.length := by
    rw [List.getElem?_range hl] at h1
    exact (Option.some.inj h1).symm
  refine ⟨h2, by omega, ?_⟩
  have := congrArg (List.take pre.length) e
  rw [List.take_append_of_le_length (Nat.le_refl _), List.take_length] at this
  rw [← this, List.take_range, Nat.min_eq_left (by omega), h2]
theorem b_mulS {z : Bool} {i j : Int} {Q : Val → Hm → Prop} {X : Nat → Hm → Prop} (a : i.natAbs ≤ 1000000) (b : j.natAbs ≤ 1000000) : E (binM z .mul (.int i) (.int j) h) Q X = Q (.int (i * j)) h :=
  b_mulB (k := 20) (l := 20) (by show _ < 2 ^ 20; omega) (by show _ < 2 ^ 20; omega) (by omega)
theorem froz_two {a b : List Val} (ca : closedL a = true) (cb : closedL b = true) : froz [.lst a, .lst b] (.tup [.ref 0, .ref 1]) = some (.tup [.lst .own a, .lst .own b]) := by
  simp only [froz, deep, deepL, follow, List.getElem?_cons_zero, List.getElem?_cons_succ, deepL_closed a ca, deepL_closed b cb]
theorem closedL_map {α : Type} {f : α → Val} (k : ∀ a, closed (f a) = true) (l : List α) : closedL (l.map f) = true := closedL_iff.mpr fun v m => by obtain ⟨a, _, rfl⟩ := List.mem_map.mp m; exact k a
def letOf (num k kind : Int) : Letter := ⟨heirsOf num, (List.range (if num / 3 % 4 = 0 then 1 else if num / 3 % 4 = 1 then 2 else if num / 3 % 4 = 2 then 1 else 4)).map fun t => tmOf (tmSort (num / 12 / (if t = 0 then 1 else if t = 1 then 7 else if t = 2 then 49 else 343) + (t : Nat)) kind) ((num / 12 / (if t = 0 then 1 else if t = 1 then 7 else if t = 2 then 49 else 343) + (t : Nat)) / 4) k⟩
theorem VLet_letOf {num k kind : Int} (hk : 0 ≤ k) : VLet k (letOf num k kind) := by
  have a1 := Int.emod_nonneg num (b := 3) (by decide)
  have a2 := Int.emod_lt_of_pos num (b := 3) (by decide)
  refine ⟨by simp [letOf, heirsOf]; omega, by simp [letOf, heirsOf]; omega, ?_, ?_, ?_, ?_, ?_⟩
  · intro x m
    simp only [letOf, heirsOf, List.mem_map] at m
    obtain ⟨t, _, rfl⟩ := m
    exact ⟨Int.emod_nonneg _ (by decide), by have := Int.emod_lt_of_pos (num / 36 + 3 * (t : Int)) (b := 10) (by decide); omega⟩
  · simp only [letOf, heirsOf]
    generalize num / 36 = q
    rcases (show num % 3 = 0 ∨ num % 3 = 1 ∨ num % 3 = 2 by omega) with z | z | z <;> rw [z] <;> simp [List.range, List.range.loop] <;> omega
  · simp only [letOf, List.length_map, List.length_range]
    split <;> (try split) <;> (try split) <;> omega
  · simp only [letOf, List.length_map, List.length_range]
    split <;> (try split) <;> (try split) <;> omega
  · intro t m
    simp only [letOf, List.mem_map] at m
    obtain ⟨x, _, rfl⟩ := m
    exact VT_tmOf _ _ _ hk
theorem at4 {α : Type} {a b c d : α} {i : Int} (h0 : 0 ≤ i) (h3 : i < 4) : atI [a, b, c, d] i = some (if i = 0 then a else if i = 1 then b else if i = 2 then c else d) := by
  rcases (show i = 0 ∨ i = 1 ∨ i = 2 ∨ i = 3 by omega) with rfl | rfl | rfl | rfl <;> rfl
theorem num3 (num : Int) : 0 ≤ num / 3 % 4 ∧ num / 3 % 4 < 4 := ⟨Int.emod_nonneg _ (by decide), Int.emod_lt_of_pos _ (by decide)⟩
theorem clean_encL (l : Letter) : clean (encL l) = true := by
  have h1 : clean (.lst .own (l.heirs.map .int)) = true := clean_map fun _ => rfl
  have h2 : clean (.lst .own (l.terms.map encT)) = true := clean_map clean_encT
  simp only [encL, clean, cleanL, Bool.and_eq_true] at h1 h2 ⊢
  simp [h1.2, h2.2]
theorem clean_encLs (ls : List Letter) : clean (encLs ls) = true := clean_map clean_encL
theorem pf_letter (e48 : F 48 = some cl48) (e49 : F 49 = some cl49) {num k kind : Int} (h0 : 0 ≤ kind) (h3 : kind ≤ 3) : Pf (run T F (n + 2)) 49 [.int num, .int k, .int kind] (encL (letOf num k kind)) := by
  have hb4 : (4 : Nat) ≤ big := by decide
  have hb2 : (2 : Nat) ≤ big := by decide
  have a1 := Int.emod_nonneg num (b := 3) (by decide)
  have a2 := Int.emod_lt_of_pos num (b := 3) (by decide)
  refine .of_E (e_run e49 rfl (by decide) ?_) (clean_encL _)
  simp only [cl49, ↓wp, wo, wl, List.replicate, Nat.zero_le, true_and, Nat.reduceAdd, Nat.reduceLT, b_fdivL (j := 12) (by decide)]
  refine w_for (xs := List.range (1 + num % 3).toNat) (g := fun n => .int (n : Nat)) (fun pre e h => ∃ x6 x7, e = [some (.int num), some (.int k), some (.int kind), some (.ref 0), some (.ref 1), some (.int (num / 12)), x6, x7] ∧ h = [.lst (pre.map fun (t : Nat) => .int ((num / 36 + 3 * (t : Int)) % 10)), .lst []]) ?_ ?_ ?_
  · simp only [↓wp, wo, wl, b_modL (j := 3) (by decide)]
    rw [rng1 (by omega) (by omega)]
    exact ⟨fun h => stAt_stat _ h, _, _, rfl, by trivial⟩
  · rintro pre m post ex e h ⟨x6, x7, rfl, rfl⟩
    obtain ⟨q1, q2, q3⟩ := range_split ex
    simp only [↓wp, wo, wl, Nat.reduceAdd, Nat.reduceLT, true_and, b_fdivL (j := 36) (by decide)]
    rw [b_mulS (by decide) (by omega)]
    simp only [wo, b_modL (j := 10) (by decide), wl, Nat.reduceAdd, Nat.reduceLT, true_and]
    refine ⟨rfl, ?_⟩
    rw [m_append rfl (by simp [← q1]; unfold big; omega)]
    exact ⟨_, _, rfl, by simp⟩
  · rintro e h ⟨x6, x7, rfl, rfl⟩
    have hc := num3 num
    refine w_for (xs := List.range (if num / 3 % 4 = 0 then 1 else if num / 3 % 4 = 1 then 2 else if num / 3 % 4 = 2 then 1 else 4)) (g := fun n => .int (n : Nat)) (fun pre e h => ∃ x6 x7, e = [some (.int num), some (.int k), some (.int kind), some (.ref 0), some (.ref 1), some (.int (num / 12)), x6, x7] ∧ h = [.lst ((heirsOf num).map .int), .lst (pre.map fun (t : Nat) => encT (tmOf (tmSort (num / 12 / (if t = 0 then 1 else if t = 1 then 7 else if t = 2 then 49 else 343) + (t : Nat)) kind) ((num / 12 / (if t = 0 then 1 else if t = 1 then 7 else if t = 2 then 49 else 343) + (t : Nat)) / 4) k))]) ?_ ?_ ?_
    · simp only [↓wp, wo, wl, b_fdivL (j := 3) (by decide), b_modL (j := 4) (by decide), hb4, true_and, Nat.zero_add, Nat.reduceAdd]
      rw [at4 hc.1 hc.2, oe_some]
      have : (if num / 3 % 4 = 0 then Val.int 1 else if num / 3 % 4 = 1 then .int 2 else if num / 3 % 4 = 2 then .int 1 else .int 4) = .int ((if num / 3 % 4 = 0 then 1 else if num / 3 % 4 = 1 then 2 else if num / 3 % 4 = 2 then 1 else 4 : Nat) : Int) := by
        split
        · rfl
        · split
          · rfl
          · split <;> rfl
      rw [this, rng1 (by split <;> (try split) <;> (try split) <;> omega) (by split <;> (try split) <;> (try split) <;> omega)]
      exact ⟨fun h => stAt_stat _ h, _, _, rfl, by simp [heirsOf]⟩
    · rintro pre m post ex e h ⟨x6, x7, rfl, rfl⟩
      obtain ⟨q1, q2, q3⟩ := range_split ex
      have m4 : m < 4 := by
        revert q2
        split
        · omega
        · split
          · omega
          · split <;> omega
      simp only [↓wp, wo, wl, Nat.reduceAdd, Nat.reduceLT, true_and, hb4, Nat.zero_add]
      refine ⟨rfl, ?_⟩
      rw [at4 (by omega) (by omega), oe_some]
      have e1 : (if (m : Int) = 0 then Val.int 1 else if (m : Int) = 1 then .int 7 else if (m : Int) = 2 then .int 49 else .int 343) = .int (if m = 0 then 1 else if m = 1 then 7 else if m = 2 then 49 else 343) := by
        rcases (show m = 0 ∨ m = 1 ∨ m = 2 ∨ m = 3 by omega) with rfl | rfl | rfl | rfl <;> rfl
      rw [e1, b_fdiv (by split <;> (try split) <;> (try split) <;> omega) (by split <;> (try split) <;> (try split) <;> omega)]
      simp only [wo]
      refine e_pc (pf_term e48 h0 h3) rfl ?_
      rw [m_append rfl (by simp [← q1]; unfold big; omega)]
      exact ⟨_, _, rfl, by simp⟩
    · rintro e h ⟨x6, x7, rfl, rfl⟩
      simp only [↓wp, wo, wl, hb2, Nat.zero_add, Nat.reduceAdd, true_and]
      rw [froz_two (closedL_map (fun _ => rfl) _) (closedL_map (fun _ => closed_encT _) _)]
      simp [encL, letOf]
theorem cutM_take {vs : List Val} {k : Nat} : cutM vs none (some (k : Int)) = vs.take k := by
  unfold cutM
  rw [HT.sIx_none, HT.sIx_nat, List.drop_zero, Nat.sub_zero]
  by_cases h : k ≤ vs.length
  · rw [Nat.min_eq_left h]
  · rw [Nat.min_eq_right (by omega), List.take_length, List.take_of_length_le (by omega)]
/-- the cells of a script -/
structure Cells (K : Nat) (cs : List Int) : Prop where
  ne : 0 < cs.length
  le : cs.length ≤ 63
  bd : ∀ z ∈ cs, Bd K z
theorem sum_bd {K : Nat} : ∀ {cs : List Int} {m : Nat}, (∀ z ∈ cs, Bd K z) → cs.length ≤ m → Bd (K + m) cs.sum
  | [], m, _, _ => by
    show Bd _ 0
    unfold Bd
    exact Nat.two_pow_pos _
  | c :: cs, 0, _, l => by simp at l
  | c :: cs, m + 1, h, l => by
    rw [List.sum_cons]
    have h1 : Bd (K + m) c := (h c List.mem_cons_self).mono (by omega)
    exact h1.add (sum_bd (fun z q => h z (List.mem_cons_of_mem _ q)) (by simpa using l))
theorem Pf.ex {cl : CallF} {f : Nat} {ws : List Val} {α : Type} {g : α → Val} {P : α → Prop} (c : ∀ a, clean (g a) = true) (r : E (cl f ws []) (fun v h => ∃ a, froz h v = some (g a) ∧ P a) nox) : ∃ a, Pf cl f ws (g a) ∧ P a := by
  obtain ⟨v, h, e, a, z, p⟩ := ex_of_E r
  exact ⟨a, ⟨⟨v, h, e, z⟩, c a⟩, p⟩
theorem e_cells {cl : CallF} {e : En} {K : Nat} {ns : List Int} {Q : Val → Hm → Prop} {X : Nat → Hm → Prop} (hK : 64 ≤ K) (l : ns.length ≤ 63) (b : ∀ z ∈ ns, Bd K z) (e0 : e[0]? = some (some (.lst .scr (ns.map .int)))) (q : ∀ cs, Cells K cs → Q (.lst .own (cs.map .int)) h) :
    E (evE T cl (.ite (.cmp .ne (.var 0) (.lst true .nil)) (.slc true (.var 0) .omit (.part (.cst (.int 63)))) (.lst true (.cons (.cst (.int 5)) .nil))) e h) Q X := by
  have hb1 : (1 : Nat) ≤ big := by decide
  simp only [↓wp, wo, wl, e0, Nat.zero_le, true_and, Nat.zero_add, hb1]
  have eq1 : cmpM .ne h (.lst .scr (ns.map .int)) (.lst .own []) = some (!decide (ns = [])) := by
    have s1 : snap h (.lst .scr (ns.map .int)) = some (.lst .scr (ns.map .int)) := snap_closed closed_ints
    have s2 : snap h (.lst .own []) = some (.lst .own []) := snap_closed rfl
    have d1 : isData 30 (.lst .scr (ns.map .int)) = true := data_map fun a => data_int _ a
    have d2 : isData 30 (.lst .own []) = true := rfl
    simp only [cmpM, eqM, s1, s2, d1, d2, Bool.and_self, if_true, Option.map_some]
    cases ns <;> rfl
  rw [eq1, oe_some]
  refine brV_if (fun t => ?_) fun t => ?_
  · have c := cutM_take (vs := ns.map Val.int) (k := 63)
    simp only [slcM, wo]
    rw [show (63 : Int) = ((63 : Nat) : Int) from rfl, c, List.take_of_length_le (by simpa using l)]
    refine q ns ⟨?_, l, b⟩
    cases ns with
    | nil => simp at t
    | cons a l => simp
  · exact q [5] ⟨by simp, by simp, fun z m => by simp at m; rw [m]; exact .lit _ (by decide) (by omega)⟩
theorem sum_ints {cs : List Int} : intsOf (cs.map .int) = some cs := intsOf_map cs
theorem cell_at {K : Nat} {cs : List Int} (c : Cells K cs) (i : Int) : ∃ z, atI (cs.map Val.int) (i % ((cs.map Val.int).length : Nat)) = some (.int z) ∧ Bd K z := by
  have hl := c.ne
  rw [List.length_map]
  have h0 : 0 ≤ i % (cs.length : Nat) := Int.emod_nonneg _ (by omega)
  have h1 : i % (cs.length : Nat) < cs.length := Int.emod_lt_of_pos _ (by omega)
  rw [atI_of h0, List.getElem?_map]
  have h2 : (i % (cs.length : Nat)).toNat < cs.length := by omega
  rw [List.getElem?_eq_getElem h2]
  exact ⟨_, rfl, c.bd _ (List.getElem_mem h2)⟩
theorem froz0 {vs : List Val} (c : closedL vs = true) : froz [.lst vs] (.ref 0) = some (.lst .own vs) := froz_ref0 c
/-- letters with so many at the most -/
structure GL (m : Int) (ls : List Letter) : Prop where
  l1 : 1 ≤ ls.length
  lm : (ls.length : Int) ≤ m
  ok : ∀ (k : Nat) (l : Letter), ls[k]? = some l → VLet k l
theorem GL.vl {m : Int} {ls : List Letter} (g : GL m ls) (h : m ≤ 40) : VL ls := ⟨g.l1, by have := g.lm; omega, g.ok⟩
theorem closed_encL (l : Letter) : closed (encL l) = true := closed_of_clean _ (clean_encL l)
theorem pf_letters (e46 : F 46 = some cl46) (e48 : F 48 = some cl48) (e49 : F 49 = some cl49) (e50 : F 50 = some cl50) {K : Nat} {ns : List Int} {by' most : Int} (hK : 64 ≤ K) (hK2 : K ≤ 5000000) (l : ns.length ≤ 63) (b : ∀ z ∈ ns, Bd K z) (b0 : 0 ≤ by') (b1 : by' ≤ 100) (m0 : 1 ≤ most) (m1 : most ≤ 1000) :
    ∃ ls, Pf (run T F (n + 3)) 50 [.lst .scr (ns.map .int), .int by', .int most] (encLs ls) ∧ GL most ls := by
  have hb1 : (1 : Nat) ≤ big := by decide
  refine Pf.ex clean_encLs (e_run e50 rfl (by decide) ?_)
  unfold cl50
  simp only []
  rw [s_seq, s_asg]
  refine e_cells hK l b rfl fun cs c => ?_
  have sb := (sum_bd c.bd c.le).mono (l := K + 63) (Nat.le_refl _)
  have wb : Bd (K + 64) (cs.sum + by') := sb.add (.lit _ (by omega) (by omega))
  simp only [↓wp, wo, wl, List.replicate, Nat.zero_le, true_and, Nat.reduceAdd, Nat.reduceLT, sum_ints]
  generalize cs.sum + by' = wh at wb
  obtain ⟨r, pr, _⟩ := pf_number (n := n + 1) (T := T) (F := F) e46 (cell := wh) (at' := by' + 1) (whole := 3) (K := K + 64) (by omega) (by omega) wb (.lit _ (by omega) (by omega)) (.lit _ (by decide) (by omega))
  refine e_pc pr rfl ?_
  simp only [wo, b_fdivL (j := 9) (by decide)]
  rw [b_mod (by omega)]
  simp only [wo]
  refine e_pc pr rfl ?_
  simp only [wo, wl, b_fdivL (j := 360) (by decide), b_modL (j := 4) (by decide), Nat.reduceAdd, Nat.reduceLT, true_and]
  have k0 : 0 ≤ r / 360 % 4 := Int.emod_nonneg _ (by decide)
  have k3 : r / 360 % 4 < 4 := Int.emod_lt_of_pos _ (by decide)
  generalize r / 360 % 4 = kind at k0 k3
  have q0 : 0 ≤ r / 9 % most := Int.emod_nonneg _ (by omega)
  have q1 : r / 9 % most < most := Int.emod_lt_of_pos _ (by omega)
  generalize r / 9 % most = mm at q0 q1
  refine w_for (xs := List.range (1 + mm).toNat) (g := fun n => .int (n : Nat)) (fun pre e h => ∃ x8, ∃ ls : List Letter, e = [some (.lst .scr (ns.map .int)), some (.int by'), some (.int most), some (.lst .own (cs.map .int)), some (.int wh), some (.ref 0), some (.int (1 + mm)), some (.int kind), x8] ∧ h = [.lst (ls.map encL)] ∧ ls.length = pre.length ∧ ∀ (k : Nat) (l : Letter), ls[k]? = some l → VLet k l) ?_ ?_ ?_
  · simp only [↓wp, wo, wl]
    rw [rng1 (by omega) (by omega)]
    exact ⟨fun h => stAt_stat _ h, _, [], rfl, rfl, rfl, fun k l e => by simp at e⟩
  · rintro pre m post ex e h ⟨x8, ls, rfl, rfl, hl, ok⟩
    obtain ⟨z1, z2, z3⟩ := range_split ex
    simp only [↓wp, wo, wl, Nat.reduceAdd, Nat.reduceLT, true_and]
    refine ⟨rfl, ?_⟩
    have hp : (0 : Int) < ((cs.map Val.int).length : Nat) := by rw [List.length_map]; have := c.ne; omega
    rw [b_mod hp]
    obtain ⟨z, ez, bz⟩ := cell_at c ((m : Int) + by')
    simp only [wo, ez]
    obtain ⟨r2, pr2, _⟩ := pf_number (n := n + 1) (T := T) (F := F) e46 (cell := z + m) (at' := m + by') (whole := wh) (K := K + 64) (by omega) (by omega) ((bz.mono (l := K + 63) (by omega)).add (.lit _ (by omega) (by omega))) (.lit20 _ (by omega) (by omega)) wb
    refine e_pc pr2 rfl ?_
    simp only [wo, b_fdivL (j := 3) (by decide)]
    refine e_pc (pf_letter (n := n) e48 e49 k0 (by omega)) rfl ?_
    rw [m_append rfl (by rw [List.length_map, hl]; unfold big; omega)]
    refine ⟨_, ls ++ [letOf (r2 / 3) m kind], rfl, by simp, by simp [hl], fun k l e => ?_⟩
    by_cases hk : k < ls.length
    · rw [List.getElem?_append_left hk] at e
      exact ok k l e
    · rw [List.getElem?_append_right (by omega)] at e
      have hk2 : k = ls.length := by
        by_cases hh : k - ls.length = 0
        · omega
        · rw [List.getElem?_eq_none (by simp; omega)] at e; cases e
      subst hk2
      rw [Nat.sub_self] at e
      cases e
      rw [hl, ← z1]
      exact VLet_letOf (by omega)
  · rintro e h ⟨x8, ls, rfl, rfl, hl, ok⟩
    simp only [↓wp, wo, wl]
    rw [List.length_range] at hl
    exact ⟨ls, froz0 (closedL_map closed_encL _), by omega, by omega, ok⟩
end
end MP
set_option Elab.async false
set_option linter.all false
set_option maxRecDepth 100000
set_option autoImplicit false
namespace MP
open PySem L2
section
variable {T : Tab} {F : Nat → Option Fn} {n : Nat} {h : Hm}
theorem e_app0 {vs : List Val} {y : Val} {Q : Val → Hm → Prop} {X : Nat → Hm → Prop} {tl : Hm} (l : vs.length < big) (q : Q .non (.lst (vs ++ [y]) :: tl)) : E (methM .append (.ref 0) [y] (.lst vs :: tl)) Q X := by
  rw [m_append rfl l]
  exact q
theorem pf_days (e46 : F 46 = some cl46) (e51 : F 51 = some cl51) {K : Nat} {ns : List Int} {by' : Int} (hK : 64 ≤ K) (hK2 : K ≤ 5000000) (l : ns.length ≤ 63) (b : ∀ z ∈ ns, Bd K z) (b0 : 0 ≤ by') (b1 : by' ≤ 100) :
    ∃ row, Pf (run T F (n + 2)) 51 [.lst .scr (ns.map .int), .int by'] (encR row) ∧ VD 6 row := by
  have hb4 : (4 : Nat) ≤ big := by decide
  refine Pf.ex clean_encR (e_run e51 rfl (by decide) ?_)
  unfold cl51
  simp only []
  rw [s_seq, s_asg]
  refine e_cells hK l b rfl fun cs c => ?_
  have sb := (sum_bd c.bd c.le).mono (l := K + 63) (Nat.le_refl _)
  have wb : Bd (K + 64) (cs.sum + by') := sb.add (.lit _ (by omega) (by omega))
  simp only [↓wp, wo, wl, List.replicate, Nat.zero_le, true_and, Nat.reduceAdd, Nat.reduceLT, sum_ints]
  generalize cs.sum + by' = wh at wb
  obtain ⟨r, pr, _⟩ := pf_number (n := n) (T := T) (F := F) e46 (cell := wh) (at' := by' + 1) (whole := 3) (K := K + 64) (by omega) (by omega) wb (.lit _ (by omega) (by omega)) (.lit _ (by decide) (by omega))
  refine e_pc pr rfl ?_
  simp only [wo, wl, b_fdivL (j := 1440) (by decide), b_modL (j := 4) (by decide), Nat.reduceAdd, Nat.reduceLT, true_and]
  have k0 : 0 ≤ r / 1440 % 4 := Int.emod_nonneg _ (by decide)
  have k3 : r / 1440 % 4 < 4 := Int.emod_lt_of_pos _ (by decide)
  generalize r / 1440 % 4 = kind at k0 k3
  refine w_for (xs := List.range 6) (g := fun n => .int (n : Nat)) (fun pre e h => ∃ x6 x7, ∃ row : List (Option Int), e = [some (.lst .scr (ns.map .int)), some (.int by'), some (.lst .own (cs.map .int)), some (.int wh), some (.ref 0), some (.int kind), x6, x7] ∧ h = [.lst (row.map encO)] ∧ row.length = pre.length ∧ ∀ o ∈ row, VO o) ?_ ?_ ?_
  · simp only [↓wp, wo, wl]
    rw [rng1 (by omega) (by omega)]
    exact ⟨fun h => stAt_stat _ h, _, _, [], rfl, rfl, rfl, fun o e => by simp at e⟩
  · rintro pre m post ex e h ⟨x6, x7, row, rfl, rfl, hl, ok⟩
    obtain ⟨z1, z2, z3⟩ := range_split ex
    simp only [↓wp, wo, wl, Nat.reduceAdd, Nat.reduceLT, true_and]
    have hp : (0 : Int) < ((cs.map Val.int).length : Nat) := by rw [List.length_map]; have := c.ne; omega
    rw [b_mod hp]
    obtain ⟨z, ez, bz⟩ := cell_at c ((m : Int) + by')
    simp only [wo, ez]
    rw [b_mulS (by decide) (by omega)]
    simp only [wo]
    obtain ⟨r2, pr2, _⟩ := pf_number (n := n) (T := T) (F := F) e46 (cell := z + 11 * m) (at' := m + by') (whole := wh) (K := K + 64) (by omega) (by omega) ((bz.mono (l := K + 63) (by omega)).add (.lit _ (by omega) (by omega))) (.lit20 _ (by omega) (by omega)) wb
    refine e_pc pr2 rfl ?_
    simp only [wo, wl, b_fdivL (j := 3) (by decide), b_fdivL (j := 61) (by decide), b_modL (j := 61) (by decide), b_modL (j := 4) (by decide), hb4, Nat.reduceAdd, Nat.reduceLT, true_and, Nat.zero_add, at4 k0 k3]
    refine ⟨rfl, ?_⟩
    have p1 : 0 ≤ r2 / 3 % 61 ∧ r2 / 3 % 61 < 61 := ⟨Int.emod_nonneg _ (by decide), Int.emod_lt_of_pos _ (by decide)⟩
    have p2 : 0 ≤ wh % 61 ∧ wh % 61 < 61 := ⟨Int.emod_nonneg _ (by decide), Int.emod_lt_of_pos _ (by decide)⟩
    generalize r2 / 3 % 61 = da at p1
    generalize wh % 61 = db at p2
    have v1 : VO (some da) := fun d e => by cases e; omega
    have v2 : VO (some db) := fun d e => by cases e; omega
    have v3 : VO none := fun d e => by cases e
    have lb : (row.map encO).length < big := by rw [List.length_map, hl]; unfold big; omega
    have fin : ∀ o, VO o → (row ++ [o]).length = (pre ++ [m]).length ∧ ∀ o' ∈ row ++ [o], VO o' := fun o vo => ⟨by simp [hl], fun o' m => by
      rw [List.mem_append] at m
      rcases m with m | m
      · exact ok o' m
      · simp at m; rw [m]; exact vo⟩
    refine brV_if (fun t => ?_) fun t => ?_
    · rcases (show kind = 0 ∨ kind = 1 ∨ kind = 2 ∨ kind = 3 by omega) with rfl | rfl | rfl | rfl
      · exact e_app0 lb ⟨_, _, row ++ [some da], rfl, by simp [encO], fin _ v1⟩
      · exact e_app0 lb ⟨_, _, row ++ [some da], rfl, by simp [encO], fin _ v1⟩
      · exact e_app0 lb ⟨_, _, row ++ [none], rfl, by simp [encO], fin _ v3⟩
      · exact e_app0 lb ⟨_, _, row ++ [some db], rfl, by simp [encO], fin _ v2⟩
    · rcases (show kind = 0 ∨ kind = 1 ∨ kind = 2 ∨ kind = 3 by omega) with rfl | rfl | rfl | rfl
      · exact e_app0 lb ⟨_, _, row ++ [some da], rfl, by simp [encO], fin _ v1⟩
      · exact e_app0 lb ⟨_, _, row ++ [none], rfl, by simp [encO], fin _ v3⟩
      · exact e_app0 lb ⟨_, _, row ++ [none], rfl, by simp [encO], fin _ v3⟩
      · exact e_app0 lb ⟨_, _, row ++ [some db], rfl, by simp [encO], fin _ v2⟩
  · rintro e h ⟨x6, x7, row, rfl, rfl, hl, ok⟩
    simp only [↓wp, wo, wl]
    exact ⟨row, froz0 closedL_row, by rw [hl, List.length_range], ok⟩
def stepL (a o : Option Int) : Option Int := match a, o with
  | some x, some y => some (if y > x then y else x)
  | _, _ => none
def NN (row : List (Option Int)) : Prop := ∀ o ∈ row, ∀ d, o = some d → 0 ≤ d
theorem fold_none : ∀ row : List (Option Int), row.foldl stepL none = none
  | [] => rfl
  | o :: row => by rw [List.foldl_cons]; exact fold_none row
theorem fold_some : ∀ {l : List Int} {m acc : Int}, maxI l = some m → (l.map some).foldl stepL (some acc) = some (if m > acc then m else acc)
  | [], m, acc, h => by simp [maxI] at h
  | [x], m, acc, h => by simp [maxI] at h; subst h; rfl
  | x :: y :: l, m, acc, h => by
    obtain ⟨m', e⟩ := maxI_some (l := y :: l) (by simp)
    have h2 : some (if m' < x then x else m') = some m := by
      rw [← h]
      conv => rhs; unfold maxI
      rw [e]
    rw [List.map_cons, List.foldl_cons]
    show ((y :: l).map some).foldl stepL (some (if x > acc then x else acc)) = _
    rw [fold_some e]
    have h3 := Option.some.inj h2
    subst h3
    congr 1
    split <;> split <;> (try split) <;> (try split) <;> omega
theorem isSome_map : ∀ {row : List (Option Int)}, row.all (·.isSome) = true → (row.filterMap id).map some = row
  | [], _ => rfl
  | none :: l, h => by simp at h
  | some a :: l, h => by
    have h2 : l.all (·.isSome) = true := by simpa using h
    simp [isSome_map h2]
theorem fold_not : ∀ {row : List (Option Int)} {a : Option Int}, row.all (·.isSome) = false → row.foldl stepL a = none
  | [], a, h => by simp at h
  | none :: l, a, h => by
    rw [List.foldl_cons]
    have : stepL a none = none := by cases a <;> rfl
    rw [this, fold_none]
  | some x :: l, a, h => by
    rw [List.foldl_cons]
    exact fold_not (by simpa using h)
theorem latest_fold {row : List (Option Int)} (ne : row ≠ []) (nn : NN row) : row.foldl stepL (some 0) = latest row := by
  cases hs : row.all (·.isSome) with
  | false => rw [latest_none hs, fold_not hs]
  | true =>
    obtain ⟨m, em, el⟩ := latest_max ne hs
    rw [el]
    have := fold_some (acc := 0) em
    rw [isSome_map hs] at this
    rw [this]
    have hm : 0 ≤ m := by
      have h1 : ∀ {l : List Int} {m : Int}, maxI l = some m → m ∈ l := by
        intro l
        induction l with
        | nil => intro m h; simp [maxI] at h
        | cons x l ih =>
          intro m h
          cases l with
          | nil => simp [maxI] at h; simp [h]
          | cons y l =>
            obtain ⟨m', e⟩ := maxI_some (l := y :: l) (by simp)
            unfold maxI at h
            rw [e] at h
            simp only [Option.some.injEq] at h
            split at h
            · simp [h]
            · rw [← h]; exact List.mem_cons_of_mem _ (ih e)
      have h2 := h1 em
      rw [List.mem_filterMap] at h2
      obtain ⟨o, mo, eo⟩ := h2
      exact nn o mo m eo
    split
    · rfl
    · congr 1; omega
theorem rowAt_nn {row : List (Option Int)} (nn : NN row) (j : Int) : ∀ d, rowAt row j = some d → 0 ≤ d := by
  intro d e
  unfold rowAt at e
  cases z : row[j.toNat]? with
  | none => rw [z] at e; cases e
  | some o =>
    rw [z] at e
    exact nn o (List.mem_of_getElem? z) d e
theorem dayOf_nn {days found : List (Option Int)} (h1 : NN days) (h2 : NN found) {k : Int} {t : Term} (v : VT k t) : ∀ d, dayOf days found t = some d → 0 ≤ d := by
  intro d e
  cases t with
  | day x => cases e; exact v.1
  | when j x =>
    simp only [dayOf, Option.map_eq_some_iff] at e
    obtain ⟨a, ea, rfl⟩ := e
    have := rowAt_nn h1 j a ea
    have := v.2.1
    omega
  | after j x =>
    simp only [dayOf, Option.map_eq_some_iff] at e
    obtain ⟨a, ea, rfl⟩ := e
    have := rowAt_nn h2 j a ea
    have := v.2.1
    omega
theorem terms_nn {days found : List (Option Int)} (h1 : NN days) (h2 : NN found) {k : Int} {ts : List Term} (v : ∀ t ∈ ts, VT k t) : NN (ts.map (dayOf days found)) := by
  intro o m d e
  obtain ⟨t, mt, rfl⟩ := List.mem_map.mp m
  exact dayOf_nn h1 h2 (v t mt) d e
theorem fold_nn : ∀ {row : List (Option Int)} {a : Option Int}, NN row → (∀ d, a = some d → 0 ≤ d) → ∀ d, row.foldl stepL a = some d → 0 ≤ d
  | [], a, _, h, d, e => h d e
  | o :: row, a, nn, h, d, e => by
    rw [List.foldl_cons] at e
    refine fold_nn (fun o m => nn o (List.mem_cons_of_mem _ m)) ?_ d e
    intro d e
    have := nn o List.mem_cons_self
    cases a with
    | none => cases e
    | some x =>
      cases o with
      | none => cases e
      | some y =>
        have h1 := h x rfl
        have h2 := this y rfl
        simp only [stepL, Option.some.injEq] at e
        split at e <;> omega
theorem latest_nn {row : List (Option Int)} (ne : row ≠ []) (nn : NN row) : ∀ d, latest row = some d → 0 ≤ d := by
  rw [← latest_fold ne nn]
  exact fold_nn nn fun d e => by cases e; omega
theorem duesFrom_nn {days : List (Option Int)} (h1 : NN days) : ∀ (ls : List Letter) (acc : List (Option Int)), NN acc → (∀ (k : Nat) (l : Letter), ls[k]? = some l → VLet ((acc.length + k : Nat) : Int) l) → NN (duesFrom days acc ls)
  | [], acc, h2, _ => h2
  | l :: ls, acc, h2, ok => by
    unfold duesFrom
    have v := ok 0 l rfl
    have ne : l.terms.map (dayOf days acc) ≠ [] := by
      intro z
      have := v.t1
      rw [List.map_eq_nil_iff] at z
      simp [z] at this
    refine duesFrom_nn h1 ls _ ?_ fun k l e => ?_
    · intro o m
      rw [List.mem_append] at m
      rcases m with m | m
      · exact h2 o m
      · simp only [List.mem_cons, List.not_mem_nil, or_false] at m
        rw [m]
        exact latest_nn ne (terms_nn h1 h2 (k := acc.length) (by simpa using v.tt))
    · have := ok (k + 1) l e
      rw [List.length_append]
      simp only [List.length_cons, List.length_nil]
      rw [show acc.length + (0 + 1) + k = acc.length + (k + 1) by omega]
      exact this
theorem dues_nn {days : List (Option Int)} (h1 : NN days) {ls : List Letter} (ok : ∀ (k : Nat) (l : Letter), ls[k]? = some l → VLet k l) : NN (dues days ls) :=
  duesFrom_nn h1 ls [] (fun o m => by simp at m) fun k l e => by simpa using ok k l e
theorem VD.nn {n : Nat} {row : List (Option Int)} (v : VD n row) : NN row := fun o m d e => (v.ok o m d e).1
theorem pf_law_dues (e53 : F 53 = some cl53) {d v : Val} {days : List (Option Int)} {ls : List Letter} (hv : er v = encLs ls) (hd : er d = encR days) (len : days.length = 6) (nn : NN days) (ok : ∀ (k : Nat) (l : Letter), ls[k]? = some l → VLet k l) (hb : ls.length ≤ 1000) :
    Pf (run T F (n + 1)) 53 [v, d] (encR (dues days ls)) := by
  have hb2 : (2 : Nat) ≤ big := by decide
  obtain ⟨c2, vs, rfl, em⟩ := er_letters hv
  obtain ⟨c, rfl⟩ := er_row hd
  obtain ⟨xs, rfl, rfl⟩ := letters_list em
  refine .of_E (e_run e53 rfl (by decide) ?_) (clean_encR _)
  simp only [cl53, ↓wp, wo, wl, List.replicate, Nat.zero_le, true_and, Nat.reduceAdd, Nat.reduceLT]
  refine w_for (xs := xs) (g := gL) (fun pre e h => ∃ x3 x4 x5 x6 x7 x8 x9, e = [some (.lst c2 (xs.map gL)), some (.lst c (days.map encO)), some (.ref 0), x3, x4, x5, x6, x7, x8, x9] ∧ h = [.lst ((dues days (pre.map (·.2.2))).map encO)]) ?_ ?_ ?_
  · simp only [↓wp, wo, wl]
    exact ⟨fun h => stAt_stat _ h, _, _, _, _, _, _, _, rfl, rfl⟩
  · rintro pre ⟨c3, c4, l⟩ post ex e h ⟨x3, x4, x5, x6, x7, x8, x9, rfl, rfl⟩
    have hl : (xs.map (·.2.2))[pre.length]? = some l := by rw [ex]; simp
    have vl := ok _ _ hl
    have okp : ∀ (k : Nat) (l : Letter), (pre.map (·.2.2))[k]? = some l → VLet k l := fun k l e => by
      refine ok k l ?_
      rw [ex, List.map_append, List.getElem?_append_left]
      · exact e
      · by_cases hh : k < (pre.map (·.2.2)).length
        · exact hh
        · rw [List.getElem?_eq_none (by omega)] at e; cases e
    have nf := dues_nn nn okp
    simp only [gL, ↓wp, wo, wl, Nat.reduceAdd, Nat.reduceLT, true_and]
    have es : dues days ((pre ++ [(c3, c4, l)]).map (·.2.2)) = dues days (pre.map (·.2.2)) ++ [latest (l.terms.map (dayOf days (dues days (pre.map (·.2.2)))))] := by
      rw [List.map_append, List.map_cons, List.map_nil, dues_snoc]
    rw [es]
    have la : (dues days (pre.map (·.2.2))).length = pre.length := by rw [dues_len]; simp
    generalize dues days (pre.map (·.2.2)) = acc at la nf
    have ne : l.terms.map (dayOf days acc) ≠ [] := by
      intro z
      have := vl.t1
      rw [List.map_eq_nil_iff] at z
      simp [z] at this
    rw [← latest_fold ne (terms_nn nn nf vl.tt)]
    refine w_for (xs := l.terms) (g := encT) (fun p2 e h => ∃ x6 x7 x8 x9, e = [some (.lst c2 (xs.map gL)), some (.lst c (days.map encO)), some (.ref 0), some (.lst c3 (l.heirs.map .int)), some (.lst c4 (l.terms.map encT)), some (encO ((p2.map (dayOf days acc)).foldl stepL (some 0))), x6, x7, x8, x9] ∧ h = [.lst (acc.map encO)]) ?_ ?_ ?_
    · simp only [↓wp, wo, wl]
      exact ⟨fun h => stAt_stat _ h, _, _, _, _, rfl, by first | trivial | rfl⟩
    · rintro p2 t post2 ex2 e h ⟨x6, x7, x8, x9, rfl, rfl⟩
      have vt := vl.tt t (by rw [ex2]; simp)
      have es2 : ((p2 ++ [t]).map (dayOf days acc)).foldl stepL (some 0) = stepL ((p2.map (dayOf days acc)).foldl stepL (some 0)) (dayOf days acc t) := by
        rw [List.map_append, List.foldl_append]; rfl
      rw [es2]
      generalize (p2.map (dayOf days acc)).foldl stepL (some 0) = a
      have la' := la
      cases t with
      | day x =>
        simp only [encT, ↓wp, wo, wl, hb2, Nat.reduceAdd, Nat.reduceLT, true_and, decide_true, decide_false, Nat.reduceEqDiff, Nat.zero_add, encO_non, dayOf]
        cases a with
        | none => exact ⟨_, _, _, _, rfl, by first | trivial | rfl⟩
        | some a =>
          simp only [Option.isNone, encO, wo, stepL]
          rw [Int.zero_add]
          exact ⟨_, _, _, _, rfl, by first | trivial | rfl⟩
      | when j x =>
        have q := encO_at (row := days) vt.1.1 (by rw [len]; have := vt.1.2; omega)
        simp only [encT, ↓wp, wo, wl, hb2, Nat.reduceAdd, Nat.reduceLT, true_and, decide_true, decide_false, Nat.reduceEqDiff, Nat.succ_ne_self, Nat.one_ne_zero, Nat.zero_add, encO_non, dayOf, q]
        cases rowAt days j with
        | none => exact ⟨_, _, _, _, by cases a <;> rfl, by first | trivial | rfl⟩
        | some b =>
          cases a with
          | none => exact ⟨_, _, _, _, rfl, by first | trivial | rfl⟩
          | some a =>
            simp only [Option.isNone, encO, wo, stepL, Option.map_some]
            exact ⟨_, _, _, _, rfl, by first | trivial | rfl⟩
      | after j x =>
        have q := encO_at (row := acc) vt.1.1 (by have := vt.1.2; omega)
        have s0 : ∀ v, seqOf (.lst (acc.map encO) :: v) (.ref 0) = some (acc.map encO) := fun _ => rfl
        simp only [encT, ↓wp, wo, wl, hb2, Nat.reduceAdd, Nat.reduceLT, true_and, decide_true, decide_false, Nat.reduceEqDiff, Nat.zero_add, encO_non, dayOf, s0, q]
        cases rowAt acc j with
        | none => exact ⟨_, _, _, _, by cases a <;> rfl, by first | trivial | rfl⟩
        | some b =>
          cases a with
          | none => exact ⟨_, _, _, _, rfl, by first | trivial | rfl⟩
          | some a =>
            simp only [Option.isNone, encO, wo, stepL, Option.map_some]
            exact ⟨_, _, _, _, rfl, by first | trivial | rfl⟩
    · rintro e h ⟨x6, x7, x8, x9, rfl, rfl⟩
      simp only [↓wp, wo, wl, true_and]
      refine ⟨rfl, ?_⟩
      rw [m_append rfl (by rw [List.length_map, la]; have : pre.length ≤ xs.length := by { rw [ex]; simp }; have : xs.length ≤ 1000 := by { simpa using hb }; unfold big; omega)]
      exact ⟨_, _, _, _, _, _, _, rfl, by simp⟩
  · rintro e h ⟨x3, x4, x5, x6, x7, x8, x9, rfl, rfl⟩
    simp only [↓wp, wo, wl]
    exact froz0 closedL_row
end
end MP
set_option Elab.async false
set_option linter.all false
set_option maxRecDepth 100000
set_option autoImplicit false
namespace MP
open PySem L2
def lterms (l : Letter) : List Val := l.terms.map encT
def lheirs (l : Letter) : List Val := l.heirs.map .int
def cellsL : List Letter → Hm
  | [] => []
  | l :: ls => .lst (lheirs l) :: .lst (lterms l) :: cellsL ls
def tups (b n : Nat) : List Val := (List.range n).map fun i => Val.tup [.ref (b + 2 * i), .ref (b + 2 * i + 1)]
structure Laid (h : Hm) (i b : Nat) (ls : List Letter) : Prop where
  root : h[i]? = some (.lst (tups b ls.length))
  hs : ∀ (k : Nat) (l : Letter), ls[k]? = some l → h[b + 2 * k]? = some (.lst (lheirs l))
  ts : ∀ (k : Nat) (l : Letter), ls[k]? = some l → h[b + 2 * k + 1]? = some (.lst (lterms l))
  out : i < b ∨ b + 2 * ls.length ≤ i
theorem get_app {h t : Hm} {i : Nat} {o : Ob} (e : h[i]? = some o) : (h ++ t)[i]? = some o := by
  rw [List.getElem?_append_left]
  · exact e
  · by_cases l : i < h.length
    · exact l
    · rw [List.getElem?_eq_none (by omega)] at e; cases e
theorem lt_of_get {h : Hm} {i : Nat} {o : Ob} (e : h[i]? = some o) : i < h.length := by
  by_cases l : i < h.length
  · exact l
  · rw [List.getElem?_eq_none (by omega)] at e; cases e
theorem lt_of_getL {α : Type} {h : List α} {i : Nat} {o : α} (e : h[i]? = some o) : i < h.length := by
  by_cases l : i < h.length
  · exact l
  · rw [List.getElem?_eq_none (by omega)] at e; cases e
theorem get_set {h : Hm} {i j : Nat} {o p : Ob} (e : h[i]? = some o) (n : j ≠ i) : (h.set j p)[i]? = some o := by
  rw [List.getElem?_set_ne n]; exact e
theorem get_set_self {h : Hm} {i : Nat} {o p : Ob} (e : h[i]? = some o) : (h.set i p)[i]? = some p := by
  rw [List.getElem?_set_self (lt_of_get e)]
theorem Laid.app {h : Hm} {i b : Nat} {ls : List Letter} (a : Laid h i b ls) (t : Hm) : Laid (h ++ t) i b ls :=
  ⟨get_app a.root, fun k l e => get_app (a.hs k l e), fun k l e => get_app (a.ts k l e), a.out⟩
theorem Laid.set_out {h : Hm} {i b j : Nat} {ls : List Letter} {o : Ob} (a : Laid h i b ls) (n : j ≠ i) (q : j < b ∨ b + 2 * ls.length ≤ j) : Laid (h.set j o) i b ls :=
  ⟨get_set a.root n, fun k l e => get_set (a.hs k l e) (by have := lt_of_getL e; omega), fun k l e => get_set (a.ts k l e) (by have := lt_of_getL e; omega), a.out⟩
theorem Laid.set_ts {h : Hm} {i b k : Nat} {ls : List Letter} {l : Letter} {ts : List Term} (a : Laid h i b ls) (e : ls[k]? = some l) : Laid (h.set (b + 2 * k + 1) (.lst (ts.map encT))) i b (ls.set k ⟨l.heirs, ts⟩) := by
  have lk := lt_of_getL e
  refine ⟨?_, fun j m q => ?_, fun j m q => ?_, by rw [List.length_set]; exact a.out⟩
  · rw [List.length_set]
    exact get_set a.root (by have := a.out; omega)
  · by_cases jk : j = k
    · subst jk
      rw [List.getElem?_set_self lk] at q
      cases q
      exact get_set (a.hs j l e) (by omega)
    · rw [List.getElem?_set_ne (Ne.symm jk)] at q
      exact get_set (a.hs j m q) (by omega)
  · by_cases jk : j = k
    · subst jk
      rw [List.getElem?_set_self lk] at q
      cases q
      exact get_set_self (a.ts j l e)
    · rw [List.getElem?_set_ne (Ne.symm jk)] at q
      exact get_set (a.ts j m q) (by omega)
theorem Laid.set_hs {h : Hm} {i b k : Nat} {ls : List Letter} {l : Letter} {hs : List Int} (a : Laid h i b ls) (e : ls[k]? = some l) : Laid (h.set (b + 2 * k) (.lst (hs.map .int))) i b (ls.set k ⟨hs, l.terms⟩) := by
  have lk := lt_of_getL e
  refine ⟨?_, fun j m q => ?_, fun j m q => ?_, by rw [List.length_set]; exact a.out⟩
  · rw [List.length_set]
    exact get_set a.root (by have := a.out; omega)
  · by_cases jk : j = k
    · subst jk
      rw [List.getElem?_set_self lk] at q
      cases q
      exact get_set_self (a.hs j l e)
    · rw [List.getElem?_set_ne (Ne.symm jk)] at q
      exact get_set (a.hs j m q) (by omega)
  · by_cases jk : j = k
    · subst jk
      rw [List.getElem?_set_self lk] at q
      cases q
      exact get_set (a.ts j l e) (by omega)
    · rw [List.getElem?_set_ne (Ne.symm jk)] at q
      exact get_set (a.ts j m q) (by omega)
theorem tups_get {b n k : Nat} (l : k < n) : (tups b n)[k]? = some (.tup [.ref (b + 2 * k), .ref (b + 2 * k + 1)]) := by
  unfold tups
  rw [List.getElem?_map, List.getElem?_range l]
  rfl
theorem tups_len {b n : Nat} : (tups b n).length = n := by simp [tups]
theorem tups_succ {b n : Nat} : tups b (n + 1) = tups b n ++ [.tup [.ref (b + 2 * n), .ref (b + 2 * n + 1)]] := by
  simp [tups, List.range_succ]
theorem cells_len : ∀ ls : List Letter, (cellsL ls).length = 2 * ls.length
  | [] => rfl
  | l :: ls => by simp [cellsL, cells_len ls]; omega
theorem cells_get : ∀ {ls : List Letter} {k : Nat} {l : Letter}, ls[k]? = some l → (cellsL ls)[2 * k]? = some (.lst (lheirs l)) ∧ (cellsL ls)[2 * k + 1]? = some (.lst (lterms l))
  | [], k, l, e => by simp at e
  | a :: ls, 0, l, e => by
    simp at e
    subst e
    exact ⟨rfl, rfl⟩
  | a :: ls, k + 1, l, e => by
    have := cells_get (ls := ls) (k := k) (l := l) (by simpa using e)
    rw [show 2 * (k + 1) = 2 * k + 1 + 1 by omega]
    simp only [cellsL, List.getElem?_cons_succ]
    exact this
theorem cells_snoc : ∀ {ls : List Letter} {l : Letter}, cellsL (ls ++ [l]) = cellsL ls ++ [.lst (lheirs l), .lst (lterms l)]
  | [], l => rfl
  | a :: ls, l => by simp [cellsL, cells_snoc (ls := ls)]
theorem laid_mk {h : Hm} {ls : List Letter} : Laid (h ++ cellsL ls ++ [.lst (tups h.length ls.length)]) (h.length + 2 * ls.length) h.length ls := by
  refine ⟨?_, fun k l e => ?_, fun k l e => ?_, .inr (Nat.le_refl _)⟩
  · rw [List.getElem?_append_right (by simp [cells_len])]
    simp [cells_len]
  · refine get_app ?_
    rw [List.getElem?_append_right (by omega), show h.length + 2 * k - h.length = 2 * k by omega]
    exact (cells_get e).1
  · refine get_app ?_
    rw [List.getElem?_append_right (by omega), show h.length + 2 * k + 1 - h.length = 2 * k + 1 by omega]
    exact (cells_get e).2
theorem deepL_of {lk : Nat → Option Val} : ∀ {vs ws : List Val}, vs.length = ws.length → (∀ (k : Nat) (v w : Val), vs[k]? = some v → ws[k]? = some w → deep lk v = some w) → deepL lk vs = some ws
  | [], [], _, _ => by simp [deepL]
  | [], _ :: _, l, _ => by simp at l
  | _ :: _, [], l, _ => by simp at l
  | v :: vs, w :: ws, l, q => by
    have h1 := q 0 v w rfl rfl
    have h2 := deepL_of (vs := vs) (ws := ws) (by simpa using l) fun k v w a b => q (k + 1) v w (by simpa using a) (by simpa using b)
    simp [deepL, h1, h2]
theorem closedL_lheirs (l : Letter) : closedL (lheirs l) = true := closedL_map (fun _ => rfl) _
theorem closedL_lterms (l : Letter) : closedL (lterms l) = true := closedL_map closed_encT _
/-- a value that is one of two -/
def pick (v : Val) (r s : R Val) : R Val := match v with
  | .bl true => r
  | .bl false => s
  | _ => .bad
theorem pick_t {r s : R Val} : pick (.bl true) r s = r := rfl
theorem pick_f {r s : R Val} : pick (.bl false) r s = s := rfl
theorem e_itp {T : Tab} {cl : CallF} {e : En} {h : Hm} {Q : Val → Hm → Prop} {X : Nat → Hm → Prop} {t a b : C} : E (evE T cl (.ite t a b) e h) Q X = E (evE T cl t e h) (fun x h => E (pick x (evE T cl a e h) (evE T cl b e h)) Q X) X := by
  simp only [evE, E_bind]
  rfl
theorem E_pick {Q : Val → Hm → Prop} {X : Nat → Hm → Prop} {b : Bool} {r s : R Val} (P : Val → Hm → Prop) (h1 : b = true → E r P X) (h2 : b = false → E s P X) (q : ∀ v h, P v h → Q v h) : E (pick (.bl b) r s) Q X := by
  cases b with
  | true => exact E_mono (h1 rfl) q fun _ _ x => x
  | false => exact E_mono (h2 rfl) q fun _ _ x => x
theorem e_dir {cl : CallF} {f : Nat} {vs : List Val} {h : Hm} {Q : Val → Hm → Prop} {X : Nat → Hm → Prop} : E (callM cl .dir f vs h) Q X = E (cl f vs h) Q X := rfl
def wq := And.intro @e_var <| And.intro @e_cst <| And.intro @e_bin <| And.intro @e_neg <| And.intro @e_cmp <| And.intro @e_cmp2 <| And.intro @e_cmp3 <| And.intro @e_not <| And.intro @e_and <| And.intro @e_or <| And.intro @e_itp <| And.intro @pick_t <| And.intro @pick_f <| And.intro @e_idx <| And.intro @e_slc <| And.intro @e_rev <| And.intro @e_fld <| And.intro @e_tup <| And.intro @e_lst <| And.intro @e_dct <| And.intro @e_call <| And.intro @e_bi <| And.intro @e_meth <| And.intro @e_ocall <| And.intro @e_new <| And.intro @e_isi <| And.intro @a_nil <| And.intro @a_cons <| And.intro @p_omit <| And.intro @p_part <| And.intro @i_seq <| And.intro @i_rng <| And.intro @i_enum <| And.intro @i_zip <| And.intro @s_nil <| And.intro @s_pass <| And.intro @s_seq <| And.intro @s_asg <| And.intro @s_par <| And.intro @s_setI <| And.intro @s_setF <| And.intro @s_aug <| And.intro @s_augF <| And.intro @s_ex <| And.intro @s_ite <| And.intro @s_ret <| And.intro @s_retN <| @s_rais
theorem e_andp {T : Tab} {cl : CallF} {e : En} {h : Hm} {Q : Val → Hm → Prop} {X : Nat → Hm → Prop} {a b : C} : E (evE T cl (.and a b) e h) Q X = E (evE T cl a e h) (fun x h => E (pick x (evE T cl b e h) (.ok (.bl false) h)) Q X) X := by
  simp only [evE, E_bind]
  rfl
def wr := And.intro @e_var <| And.intro @e_cst <| And.intro @e_bin <| And.intro @e_neg <| And.intro @e_cmp <| And.intro @e_cmp2 <| And.intro @e_cmp3 <| And.intro @e_not <| And.intro @e_andp <| And.intro @e_or <| And.intro @e_itp <| And.intro @pick_t <| And.intro @pick_f <| And.intro @e_idx <| And.intro @e_slc <| And.intro @e_rev <| And.intro @e_fld <| And.intro @e_tup <| And.intro @e_lst <| And.intro @e_dct <| And.intro @e_call <| And.intro @e_bi <| And.intro @e_meth <| And.intro @e_ocall <| And.intro @e_new <| And.intro @e_isi <| And.intro @a_nil <| And.intro @a_cons <| And.intro @p_omit <| And.intro @p_part <| And.intro @i_seq <| And.intro @i_rng <| And.intro @i_enum <| And.intro @i_zip <| And.intro @s_nil <| And.intro @s_pass <| And.intro @s_seq <| And.intro @s_asg <| And.intro @s_par <| And.intro @s_setI <| And.intro @s_setF <| And.intro @s_aug <| And.intro @s_augF <| And.intro @s_ex <| And.intro @s_ite <| And.intro @s_ret <| And.intro @s_retN <| @s_rais
/-- a truth turned, once -/
def asB (v : Val) (Q : Bool → Prop) : Prop := match v with
  | .bl b => Q b
  | _ => False
theorem asB_bl {b : Bool} {Q : Bool → Prop} : asB (.bl b) Q = Q b := rfl
theorem e_notb {T : Tab} {cl : CallF} {e : En} {h : Hm} {Q : Val → Hm → Prop} {X : Nat → Hm → Prop} {a : C} : E (evE T cl (.not a) e h) Q X = E (evE T cl a e h) (fun x h => asB x fun b => Q (.bl (!b)) h) X := by
  rw [e_not]
  congr; funext x h
  cases x with
  | bl b => cases b <;> rfl
  | _ => rfl
def ws := And.intro @e_var <| And.intro @e_cst <| And.intro @e_bin <| And.intro @e_neg <| And.intro @e_cmp <| And.intro @e_cmp2 <| And.intro @e_cmp3 <| And.intro @e_notb <| And.intro @asB_bl <| And.intro @e_andp <| And.intro @e_or <| And.intro @e_itp <| And.intro @pick_t <| And.intro @pick_f <| And.intro @e_idx <| And.intro @e_slc <| And.intro @e_rev <| And.intro @e_fld <| And.intro @e_tup <| And.intro @e_lst <| And.intro @e_dct <| And.intro @e_call <| And.intro @e_bi <| And.intro @e_meth <| And.intro @e_ocall <| And.intro @e_new <| And.intro @e_isi <| And.intro @a_nil <| And.intro @a_cons <| And.intro @p_omit <| And.intro @p_part <| And.intro @i_seq <| And.intro @i_rng <| And.intro @i_enum <| And.intro @i_zip <| And.intro @s_nil <| And.intro @s_pass <| And.intro @s_seq <| And.intro @s_asg <| And.intro @s_par <| And.intro @s_setI <| And.intro @s_setF <| And.intro @s_aug <| And.intro @s_augF <| And.intro @s_ex <| And.intro @s_ite <| And.intro @s_ret <| And.intro @s_retN <| @s_rais
theorem c_ne_same {h : Hm} {x y a b : Val} (sa : snap h x = some a) (sb : snap h y = some b) (e : er a = er b) (d : isData 30 a = true) : cmpM .ne h x y = some false := by
  simp only [cmpM, eqM_same sa sb e d]; rfl
theorem c_eq_same {h : Hm} {x y a b : Val} (sa : snap h x = some a) (sb : snap h y = some b) (e : er a = er b) (d : isData 30 a = true) : cmpM .eq h x y = some true := eqM_same sa sb e d
theorem set_lst {h : Hm} {d : Nat} {j : Int} {vs : List Val} {v : Val} {Q : Hm → Prop} (e : h[d]? = some (.lst vs)) (h0 : 0 ≤ j) (h1 : j < vs.length) : OE (setIM (.ref d) (.int j) v h) Q = Q (h.set d (.lst (vs.set j.toNat v))) := by
  simp only [setIM, e, ixN, if_pos h0, if_pos h1]; rfl
/-- a letter as it is seen, with lists of such a kind -/
def sL (c : Fz) (l : Letter) : Val := .tup [.lst c (lheirs l), .lst c (lterms l)]
theorem Laid.follow {h : Hm} {i b n : Nat} {ls : List Letter} {c : Fz} (a : Laid h i b ls) : MP.follow (n + 2) c h i = some (.lst c (ls.map (sL c))) := by
  unfold MP.follow
  rw [a.root]
  simp only
  rw [deepL_of (ws := ls.map (sL c)) (by simp [tups_len]) fun k v w e1 e2 => ?_]
  have lk : k < ls.length := by have := lt_of_getL e2; simpa using this
  rw [tups_get lk] at e1
  rw [List.getElem?_map, List.getElem?_eq_getElem lk] at e2
  cases e1
  cases e2
  have el : ls[k]? = some ls[k] := List.getElem?_eq_getElem lk
  simp only [deep, deepL, MP.follow, a.hs k _ el, a.ts k _ el, deepL_closed _ (closedL_lheirs _), deepL_closed _ (closedL_lterms _)]
  rfl
theorem Laid.snap {h : Hm} {i b : Nat} {ls : List Letter} (a : Laid h i b ls) : MP.snap h (.ref i) = some (.lst .bor (ls.map (sL .bor))) := by
  unfold MP.snap
  simp only [deep]
  exact a.follow (n := 7)
theorem er_sL {c : Fz} (l : Letter) : er (sL c l) = encL l := by
  simp only [sL, er, erL, erL_map, lheirs, lterms, map_er_of er_encT', map_er_of (f := Val.int) (fun _ => rfl)]
  rfl
theorem er_sLs {c c' : Fz} {ls : List Letter} : er (.lst c' (ls.map (sL c))) = encLs ls := by
  simp only [er, erL_map, List.map_map]
  unfold encLs
  congr 1
  exact List.map_congr_left fun l _ => er_sL l
theorem closed_sL {c : Fz} (l : Letter) : closed (sL c l) = true := closed_of (er_sL l) (data_encL l)
/-- a flat list on the heap -/
theorem follow_flat {h : Hm} {i n : Nat} {c : Fz} {vs : List Val} (e : h[i]? = some (.lst vs)) (cl : closedL vs = true) : MP.follow (n + 1) c h i = some (.lst c vs) := by
  unfold MP.follow
  rw [e]
  simp only [deepL_closed _ cl]
theorem snap_flat {h : Hm} {i : Nat} {vs : List Val} (e : h[i]? = some (.lst vs)) (cl : closedL vs = true) : MP.snap h (.ref i) = some (.lst .bor vs) := by
  unfold MP.snap
  simp only [deep]
  exact follow_flat (n := 8) e cl
theorem closed_encR (r : List (Option Int)) : closed (encR r) = true := closed_row
theorem closed_encLs (ls : List Letter) : closed (encLs ls) = true := closed_map closed_encL
theorem closed_encSs (r : List (Option (Int × Int))) : closed (encSs r) = true := closed_spans
theorem so_encR {h : Hm} {r : List (Option Int)} : seqOf h (encR r) = some (r.map encO) := rfl
theorem so_encLs {h : Hm} {r : List Letter} : seqOf h (encLs r) = some (r.map encL) := rfl
theorem so_encSs {h : Hm} {r : List (Option (Int × Int))} : seqOf h (encSs r) = some (r.map encSp) := rfl
theorem lo_encR {h : Hm} {r : List (Option Int)} : lstOf h (encR r) = some (r.map encO) := rfl
theorem lo_encLs {h : Hm} {r : List Letter} : lstOf h (encLs r) = some (r.map encL) := rfl
theorem lo_encSs {h : Hm} {r : List (Option (Int × Int))} : lstOf h (encSs r) = some (r.map encSp) := rfl
/-- more that is closed, or a list -/
def wd := And.intro @closed_encR <| And.intro @closed_encLs <| And.intro @closed_encSs <| And.intro @closed_encL <| And.intro @so_encR <| And.intro @so_encLs <| And.intro @so_encSs <| And.intro @lo_encR <| And.intro @lo_encLs <| @lo_encSs
theorem at_tups {b n : Nat} {j : Int} (h0 : 0 ≤ j) (h1 : j < n) : atI (tups b n) j = some (.tup [.ref (b + 2 * j.toNat), .ref (b + 2 * j.toNat + 1)]) := by
  rw [atI_of h0, tups_get (by omega)]
theorem VL.set {ls : List Letter} {k : Nat} {l : Letter} (v : VL ls) (q : VLet k l) : VL (ls.set k l) := by
  refine ⟨by rw [List.length_set]; exact v.l1, by rw [List.length_set]; exact v.l40, fun j m e => ?_⟩
  by_cases jk : k = j
  · subst jk
    have lk : k < ls.length := by have := lt_of_getL e; simpa using this
    rw [List.getElem?_set_self lk] at e
    cases e
    exact q
  · rw [List.getElem?_set_ne jk] at e
    exact v.ok j m e
theorem VT_iff {k : Int} {t : Term} : termOk (encT t) k = true ↔ VT k t := by
  cases t <;> simp [VT, termOk, encT, btw] <;> omega
theorem VL.of_ok {ls : List Letter} (h : lettersOk (encLs ls) = true) : VL ls := by
  simp only [encLs, lettersOk, List.length_map, Bool.and_eq_true, decide_eq_true_eq, List.all_eq_true] at h
  obtain ⟨⟨h1, h2⟩, h3⟩ := h
  refine ⟨h1, h2, fun k l e => ?_⟩
  have m : (encL l, k) ∈ (ls.map encL).zipIdx := List.mk_mem_zipIdx_iff_getElem?.mpr (by rw [List.getElem?_map, e]; rfl)
  have q := h3 _ m
  simp only [letterOk, encL, Bool.and_eq_true, decide_eq_true_eq, List.length_map, heirsOk, inL_ints, List.all_eq_true, List.mem_map, forall_exists_index, and_imp, forall_apply_eq_imp_iff₂] at q
  obtain ⟨⟨⟨⟨⟨⟨a1, a2⟩, a3⟩, a4⟩, a5⟩, a6⟩, a7⟩ := q
  exact ⟨a1, a2, fun x m => btw_int.mp (a3 x m), nodup_nubI a4, a5, a6, fun t m => VT_iff.mp (a7 t m)⟩
theorem b_rep {h : Hm} {vs : List Val} {k : Int} {Q : Val → Hm → Prop} {X : Nat → Hm → Prop} (h0 : 0 ≤ k) (h1 : k ≤ 1000) (h2 : vs.length ≤ 1000) : E (binM true .mul (.lst .own vs) (.int k) h) Q X = Q (.lst .own (repL k.toNat vs)) h := by
  have h3 : vs.length * k.toNat ≤ big := by
    unfold big
    calc vs.length * k.toNat ≤ 1000 * 1000 := Nat.mul_le_mul h2 (by omega)
      _ = 1000000 := rfl
  simp only [binM, catOf, h0, h3, show k ≤ 1000000 by omega, and_self, if_true]; rfl
theorem b_cat {h : Hm} {vs ws : List Val} {Q : Val → Hm → Prop} {X : Nat → Hm → Prop} (h1 : vs.length + ws.length ≤ big) : E (binM true .add (.lst .own vs) (.lst .own ws) h) Q X = Q (.lst .own (vs ++ ws)) h := by
  simp only [binM, catOf, h1, if_true]; rfl
theorem atI_map {α β : Type} {f : α → β} {l : List α} {i : Int} : atI (l.map f) i = (atI l i).map f := by
  unfold atI
  rw [List.length_map]
  cases ixN l.length i <;> simp
theorem VD.of_ok {n : Nat} {row : List (Option Int)} (h : daysOk (encR row) n = true) : VD n row := by
  simp only [encR, daysOk, List.length_map, Bool.and_eq_true, decide_eq_true_eq, List.all_eq_true, List.mem_map, forall_exists_index, and_imp, forall_apply_eq_imp_iff₂] at h
  refine ⟨by omega, fun o m d e => ?_⟩
  have := h.2 o m
  subst e
  exact btw_int.mp this
/-- letters and a row, handed in -/
structure Hd (h : Hm) (r i b d : Nat) (ls : List Letter) (row : List Val) : Prop where
  laid : Laid h i b ls
  days : h[d]? = some (.lst row)
  top : h[r]? = some (.lst [.ref i, .ref d])
  cl : closedL row = true
  di : d ≠ i
  rd : r ≠ d
  ri : r ≠ i
  dO : d < b ∨ b + 2 * ls.length ≤ d
  rO : r < b ∨ b + 2 * ls.length ≤ r
theorem Hd.app {h : Hm} {r i b d : Nat} {ls : List Letter} {row : List Val} (a : Hd h r i b d ls row) (t : Hm) : Hd (h ++ t) r i b d ls row :=
  ⟨a.laid.app t, get_app a.days, get_app a.top, a.cl, a.di, a.rd, a.ri, a.dO, a.rO⟩
theorem Hd.set_new {h : Hm} {r i b d : Nat} {ls : List Letter} {row : List Val} (a : Hd h r i b d ls row) {o p : Ob} : Hd ((h ++ [o]).set h.length p) r i b d ls row := by
  rw [set_last]; exact a.app [p]
theorem Hd.snap {h : Hm} {r i b d : Nat} {ls : List Letter} {row : List Val} (a : Hd h r i b d ls row) : MP.snap h (.ref r) = some (.lst .bor [.lst .bor (ls.map (sL .bor)), .lst .bor row]) := by
  unfold MP.snap
  simp only [deep]
  unfold MP.follow
  rw [a.top]
  simp only [deepL, deep, a.laid.follow (n := 6), follow_flat (n := 7) a.days a.cl]
theorem Hd.set_row {h : Hm} {r i b d : Nat} {ls : List Letter} {row row' : List Val} (a : Hd h r i b d ls row) (c : closedL row' = true) : Hd (h.set d (.lst row')) r i b d ls row' :=
  ⟨a.laid.set_out a.di a.dO, get_set_self a.days, get_set a.top (Ne.symm a.rd), c, a.di, a.rd, a.ri, a.dO, a.rO⟩
theorem Hd.set_ts {h : Hm} {r i b d k : Nat} {ls : List Letter} {row : List Val} {l : Letter} {ts : List Term} (a : Hd h r i b d ls row) (e : ls[k]? = some l) : Hd (h.set (b + 2 * k + 1) (.lst (ts.map encT))) r i b d (ls.set k ⟨l.heirs, ts⟩) row := by
  have lk := lt_of_getL e
  exact ⟨a.laid.set_ts e, get_set a.days (by have := a.dO; omega), get_set a.top (by have := a.rO; omega), a.cl, a.di, a.rd, a.ri, by rw [List.length_set]; exact a.dO, by rw [List.length_set]; exact a.rO⟩
theorem Hd.set_hs {h : Hm} {r i b d k : Nat} {ls : List Letter} {row : List Val} {l : Letter} {hs : List Int} (a : Hd h r i b d ls row) (e : ls[k]? = some l) : Hd (h.set (b + 2 * k) (.lst (hs.map .int))) r i b d (ls.set k ⟨hs, l.terms⟩) row := by
  have lk := lt_of_getL e
  exact ⟨a.laid.set_hs e, get_set a.days (by have := a.dO; omega), get_set a.top (by have := a.rO; omega), a.cl, a.di, a.rd, a.ri, by rw [List.length_set]; exact a.dO, by rw [List.length_set]; exact a.rO⟩
theorem get_end {h : Hm} {o : Ob} {k : Nat} (e : k = h.length) : (h ++ [o])[k]? = some o := by subst e; simp
theorem hd_mk {h : Hm} {ls : List Letter} {row : List Val} (c : closedL row = true) : Hd (h ++ cellsL ls ++ [.lst (tups h.length ls.length)] ++ [.lst row] ++ [.lst [.ref (h.length + 2 * ls.length), .ref (h.length + 2 * ls.length + 1)]]) (h.length + 2 * ls.length + 2) (h.length + 2 * ls.length) h.length (h.length + 2 * ls.length + 1) ls row := by
  exact ⟨(laid_mk.app _).app _, get_app (get_end (by simp [cells_len]; omega)), get_end (by simp [cells_len]; omega), c, by omega, by omega, by omega, .inr (by omega), .inr (by omega)⟩
section
variable {T : Tab} {F : Nat → Option Fn} {n : Nat} {h : Hm}
theorem run_copied (e52 : F 52 = some cl52) {v : Val} {ls : List Letter} (hv : er v = encLs ls) (hb : ls.length ≤ 1000) : run T F (n + 1) 52 [v] h = .ok (.ref (h.length + 2 * ls.length)) (h ++ cellsL ls ++ [.lst (tups h.length ls.length)]) := by
  obtain ⟨c2, vs, rfl, em⟩ := er_letters hv
  obtain ⟨xs, rfl, rfl⟩ := letters_list em
  have hb2 : (2 : Nat) ≤ big := by decide
  refine ok_of_E (e_run e52 rfl (by decide) ?_)
  simp only [cl52, ↓wp, wo, wl, List.replicate]
  refine e_compI (xs := xs) (g := gL) (fun pre acc h' => acc = tups h.length pre.length ∧ h' = h ++ cellsL (pre.map (·.2.2))) ?_ ?_ ?_
  · simp only [↓wp, wo, wl]
    exact ⟨fun _ _ h _ => stAt_stat _ h, rfl, by simp [cellsL]⟩
  · rintro pre ⟨c3, c4, l⟩ post ex acc h' ⟨rfl, rfl⟩
    simp only [gL, ↓wp, wo, wl, Nat.reduceAdd, Nat.reduceLT, true_and, hb2, Nat.zero_add]
    refine ⟨?_, ?_⟩
    · rw [show (pre ++ [(c3, c4, l)]).length = pre.length + 1 by simp, tups_succ]
      simp [cells_len]
      omega
    · rw [List.map_append, List.map_cons, List.map_nil, cells_snoc]
      simp [lheirs, lterms]
  · rintro acc h' ⟨rfl, rfl⟩
    simp only [wo]
    exact ⟨by simp [cells_len], by simp⟩
end
end MP
set_option Elab.async false
set_option linter.all false
set_option maxRecDepth 100000
set_option autoImplicit false
namespace MP
theorem bits_bd {m : Nat} {z : Int} (h : PySem.Builtin.Int.intBits z ≤ m) : Bd m z := by
  unfold PySem.Builtin.Int.intBits at h
  unfold Bd
  by_cases z0 : z = 0
  · subst z0
    exact Nat.two_pow_pos m
  · rw [if_neg (by simpa using z0)] at h
    have h1 : z.natAbs ≠ 0 := by omega
    exact (Nat.log2_lt h1).mp (by omega)
theorem says_of {P : Pg} {D : List Dfn} {n i : Nat} (q : ∀ (ns : List Int) (K : Nat), ns.length ≤ 63 → 64 ≤ K → K ≤ 5000000 → (∀ z ∈ ns, Bd K z) → ∃ h, run P.T (tab D) n i [.lst .scr (ns.map .int)] [] = .ok (.bl true) h) : Says P D n i :=
  fun ns l b => q ns 1048576 l (by decide) (by decide) fun z m => bits_bd (b z m)
end MP
set_option Elab.async false
set_option linter.all false
set_option maxRecDepth 100000
set_option autoImplicit false
namespace MP
open PySem L2
def encP (p : Int × Int) : Val := .tup [.int p.1, .int p.2]
theorem closed_encP (p : Int × Int) : closed (encP p) = true := rfl
theorem clean_encP (p : Int × Int) : clean (encP p) = true := rfl
theorem er_encP' (p : Int × Int) : er (encP p) = encP p := rfl
theorem er_encP {v : Val} {p : Int × Int} (h : er v = encP p) : v = encP p := er_encSp (o := some p) h
theorem data_encP (p : Int × Int) : isData 1 (encP p) = true := rfl
/-- the term at a place of a letter -/
def termAt (ls : List Letter) (i p : Int) : Option Term := if 0 ≤ p then (ls[i.toNat]?).bind fun l => l.terms[p.toNat]? else none
/-- the day a chain comes to -/
def chainDay (days : List (Option Int)) (ls : List Letter) : Int → Int → List (Int × Int) → Option Int
  | _, _, [] => some (-1)
  | n, late, (l, p) :: rest => if l ≠ n then some (-1) else match termAt ls n p with
    | none => some (-1)
    | some (.day d) => if rest.isEmpty then some (d + late) else some (-1)
    | some (.when j d) => if rest.isEmpty then (rowAt days j).map (fun x => x + d + late) else some (-1)
    | some (.after j d) => if rest.isEmpty then some (-1) else chainDay days ls j (late + d) rest
theorem encO_some {x : Int} : encO (some x) = .int x := rfl
theorem encO_none : encO none = .non := rfl
theorem c_neb {h : Hm} {a b : Bool} : cmpM .ne h (.bl a) (.bl b) = some (!(a == b)) := by
  simp [cmpM, eqM, snap, deep, isData, eqV]
theorem c_eqb {h : Hm} {a b : Bool} : cmpM .eq h (.bl a) (.bl b) = some (a == b) := by
  simp [cmpM, eqM, snap, deep, isData, eqV]
section
variable {T : Tab} {F : Nat → Option Fn} {n : Nat} {h : Hm}
theorem lv_at {xs : List LV} {i : Int} (h0 : 0 ≤ i) (h1 : i < xs.length) : ∃ c c' l, atI (xs.map gL) i = some (.tup [.lst c (l.heirs.map .int), .lst c' (l.terms.map encT)]) ∧ (xs.map (·.2.2))[i.toNat]? = some l := by
  have hl : i.toNat < xs.length := by omega
  refine ⟨xs[i.toNat].1, xs[i.toNat].2.1, xs[i.toNat].2.2, ?_, ?_⟩
  · rw [atI_of h0, List.getElem?_map, List.getElem?_eq_getElem hl]; rfl
  · rw [List.getElem?_map, List.getElem?_eq_getElem hl]; rfl
theorem terms_at {ts : List Term} {i : Int} {t : Term} (h0 : 0 ≤ i) (e : ts[i.toNat]? = some t) : atI (ts.map encT) i = some (encT t) := by
  rw [atI_of h0, List.getElem?_map, e]; rfl
theorem zip_split {α : Type} {l : List α} {pre post : List (α × Nat)} {a : α} {k : Nat} (e : l.zipIdx = pre ++ (a, k) :: post) : k = pre.length ∧ l.drop k = a :: post.map (·.1) ∧ l.length = k + 1 + post.length := by
  have h1 : (l.zipIdx)[pre.length]? = some (a, k) := by rw [e]; simp
  rw [List.getElem?_zipIdx] at h1
  have hk : k = pre.length := by
    cases q : l[pre.length]? with
    | none => rw [q] at h1; cases h1
    | some b => rw [q] at h1; simp at h1; omega
  have hm : l = (l.zipIdx).map (·.1) := by simp
  refine ⟨hk, ?_, ?_⟩
  · conv => lhs; rw [hm, e]
    rw [hk]
    simp
  · have := congrArg List.length e
    simp at this
    omega
theorem pf_chain_day (e12 : F 12 = some c_chain_day) {d v : Val} {days : List (Option Int)} {ls : List Letter} {number : Int} {ch : List (Int × Int)} {c5 : Fz} (hv : er v = encLs ls) (hd : er d = encR days) (len : days.length = 6) (ok : ∀ (k : Nat) (l : Letter), ls[k]? = some l → VLet k l) (n0 : 0 ≤ number) (n1 : number < ls.length) :
    Pf (run T F (n + 1)) 12 [v, d, .int number, .lst c5 (ch.map encP)] (encO (chainDay days ls number 0 ch)) := by
  obtain ⟨c2, vs, rfl, em⟩ := er_letters hv
  obtain ⟨c, rfl⟩ := er_row hd
  obtain ⟨xs, rfl, rfl⟩ := letters_list em
  refine .of_v (clean_encO _) (e_run e12 rfl (by decide) ?_)
  simp only [c_chain_day, ↓wq, wo, wl, List.replicate, Nat.reduceAdd, Nat.reduceLT, true_and]
  generalize hR : chainDay days (xs.map (·.2.2)) number 0 ch = R
  refine w_for (xs := ch.zipIdx) (g := fun p => .tup [.int (p.2 : Nat), encP p.1]) (fun pre e h => ∃ (num late : Int), ∃ x5 x6 x7 x8, e = [some (.lst c2 (xs.map gL)), some (.lst c (days.map encO)), some (.int num), some (.lst c5 (ch.map encP)), some (.int late), x5, x6, x7, x8] ∧ 0 ≤ num ∧ num < xs.length ∧ chainDay days (xs.map (·.2.2)) num late (ch.drop pre.length) = R) ?_ ?_ ?_
  · simp only [↓wq, wo, wl, isTup, true_and]
    exact ⟨fun h => stAt_enum (stAt_stat _ h), _, _, _, _, _, _, rfl, n0, by simpa using n1, by simpa using hR⟩
  · rintro pre ⟨⟨l, p⟩, k⟩ post ex e h ⟨num, late, x5, x6, x7, x8, rfl, m0, m1, hc⟩
    obtain ⟨z1, z2, z3⟩ := zip_split ex
    obtain ⟨c3, c4, L, ea, el⟩ := lv_at (xs := xs) m0 m1
    rw [← z1, z2] at hc
    simp only [encP, ↓wq, wo, wl, Nat.reduceAdd, Nat.reduceLT, true_and, decide_eq_true_eq]
    refine brV_if (fun t => ?_) fun t => ?_
    · have hl : l ≠ num := by simpa using t
      simp only [chainDay, if_pos hl] at hc
      rw [← hc]; rfl
    · have hl : l = num := by simpa using t
      subst hl
      simp only [chainDay, ne_eq, not_true_eq_false, if_false, termAt, el, Option.bind_some] at hc
      simp only [ea, wo, List.length_map]
      refine brV_if (fun t0 => ?_) fun t0 => ?_
      · have p0 : 0 ≤ p := by simpa using t0
        rw [if_pos p0] at hc
        refine brV_if (fun t1 => ?_) fun t1 => ?_
        · have p1 : p < L.terms.length := by simpa using t1
          have pl : p.toNat < L.terms.length := by omega
          rw [List.getElem?_eq_getElem pl] at hc
          have et : L.terms[p.toNat]? = some L.terms[p.toNat] := List.getElem?_eq_getElem pl
          have vt := (ok _ _ el).tt L.terms[p.toNat] (List.getElem_mem pl)
          generalize L.terms[p.toNat] = t at hc et vt
          simp only [terms_at p0 et, wo]
          have lenq : (((k : Int) + 1 < (ch.length : Int)) ↔ ¬ (post.map (·.1)).isEmpty = true) := by
            cases post with
            | nil => simp at z3 ⊢; omega
            | cons a b => simp at z3 ⊢; omega
          cases t with
          | day x =>
            simp only [encT, wo, decide_false, Nat.reduceEqDiff, c_neb, decide_true]
            refine brV_if (fun t2 => ?_) fun t2 => ?_
            · have : ¬ (post.map (·.1)).isEmpty = true := lenq.mp (by simpa using t2)
              simp only [this, if_false] at hc
              rw [← hc]; rfl
            · have : (post.map (·.1)).isEmpty = true := by
                by_cases hh : (post.map (·.1)).isEmpty = true
                · exact hh
                · have := lenq.mpr hh; simp at t2; omega
              simp only [this, if_true] at hc
              rw [← hc]; rfl
          | when j x =>
            have q := encO_at (row := days) vt.1.1 (by rw [len]; have := vt.1.2; omega)
            have q0 := q
            simp only [encT, wo, decide_false, Nat.reduceEqDiff, c_neb, decide_true, q, encO_non]
            refine brV_if (fun t2 => ?_) fun t2 => ?_
            · have : ¬ (post.map (·.1)).isEmpty = true := lenq.mp (by simpa using t2)
              simp only [this, if_false] at hc
              rw [← hc]; rfl
            · have : (post.map (·.1)).isEmpty = true := by
                by_cases hh : (post.map (·.1)).isEmpty = true
                · exact hh
                · have := lenq.mpr hh; simp at t2; omega
              simp only [this, if_true] at hc
              rw [← hc]
              cases rr : rowAt days j with
              | none => rfl
              | some y =>
                rw [rr] at q0
                simp only [Option.isNone, ↓wq, wo, wl, q0, encO_some, Option.map_some]
          | after j x =>
            simp only [encT, wo, decide_false, Nat.reduceEqDiff, c_neb, decide_true]
            refine brV_if (fun t2 => ?_) fun t2 => ?_
            · have : (post.map (·.1)).isEmpty = true := by
                by_cases hh : (post.map (·.1)).isEmpty = true
                · exact hh
                · have := lenq.mpr hh; simp at t2; omega
              simp only [this, if_true] at hc
              rw [← hc]; rfl
            · have : ¬ (post.map (·.1)).isEmpty = true := lenq.mp (by simpa using t2)
              simp only [this, Bool.false_eq_true, if_false] at hc
              refine ⟨_, _, _, _, _, _, rfl, vt.1.1, by have := vt.1.2; omega, ?_⟩
              rw [← hc]
              have hd2 : ch.drop (k + 1) = post.map (·.1) := by
                have := congrArg List.tail z2
                simpa [List.tail_drop] using this
              simp only [List.length_append, List.length_singleton, List.length_cons, List.length_nil, Nat.zero_add, ← z1, hd2]
        · have p1 : ¬ p < L.terms.length := by simpa using t1
          rw [List.getElem?_eq_none (by omega)] at hc
          rw [← hc]; rfl
      · have p0 : ¬ 0 ≤ p := by simpa using t0
        rw [if_neg p0] at hc
        rw [← hc]; rfl
  · rintro e h ⟨num, late, x5, x6, x7, x8, rfl, m0, m1, hc⟩
    rw [List.length_zipIdx, List.drop_length] at hc
    rw [← hc]; rfl
theorem pf_comes (e56 : F 56 = some cl56) {d v : Val} {days : List (Option Int)} {ls : List Letter} {number : Int} {ch : List (Int × Int)} {c5 : Fz} (hv : er v = encLs ls) (hd : er d = encR days) (len : days.length = 6) (ok : ∀ (k : Nat) (l : Letter), ls[k]? = some l → VLet k l) (n0 : 0 ≤ number) (n1 : number < ls.length) :
    Pf (run T F (n + 1)) 56 [v, d, .int number, .lst c5 (ch.map encP)] (encO (chainDay days ls number 0 ch)) := by
  obtain ⟨c2, vs, rfl, em⟩ := er_letters hv
  obtain ⟨c, rfl⟩ := er_row hd
  obtain ⟨xs, rfl, rfl⟩ := letters_list em
  refine .of_v (clean_encO _) (e_run e56 rfl (by decide) ?_)
  simp only [cl56, ↓wq, wo, wl, List.replicate, Nat.reduceAdd, Nat.reduceLT, true_and]
  generalize hR : chainDay days (xs.map (·.2.2)) number 0 ch = R
  refine w_for (xs := ch.zipIdx) (g := fun p => .tup [.int (p.2 : Nat), encP p.1]) (fun pre e h => ∃ (num late : Int), ∃ x6 x7 x8 x9 x10, e = [some (.lst c2 (xs.map gL)), some (.lst c (days.map encO)), some (.int number), some (.lst c5 (ch.map encP)), some (.int late), some (.int num), x6, x7, x8, x9, x10] ∧ 0 ≤ num ∧ num < xs.length ∧ chainDay days (xs.map (·.2.2)) num late (ch.drop pre.length) = R) ?_ ?_ ?_
  · simp only [↓wq, wo, wl, isTup, true_and]
    exact ⟨fun h => stAt_enum (stAt_stat _ h), _, _, _, _, _, _, _, rfl, n0, by simpa using n1, by simpa using hR⟩
  · rintro pre ⟨⟨l, p⟩, k⟩ post ex e h ⟨num, late, x6, x7, x8, x9, x10, rfl, m0, m1, hc⟩
    obtain ⟨z1, z2, z3⟩ := zip_split ex
    obtain ⟨c3, c4, L, ea, el⟩ := lv_at (xs := xs) m0 m1
    rw [← z1, z2] at hc
    simp only [encP, ↓wq, wo, wl, Nat.reduceAdd, Nat.reduceLT, true_and, decide_eq_true_eq, ea]
    have lenq : ((((k : Int) + 1 = (((ch.map encP).length : Nat) : Int))) ↔ (post.map (·.1)).isEmpty = true) := by
      rw [List.length_map]
      cases post with
      | nil => simp at z3 ⊢; omega
      | cons a b => simp at z3 ⊢; omega
    have lq : decide (((k : Int) + 1 = (((ch.map encP).length : Nat) : Int))) = (post.map (·.1)).isEmpty := by
      cases hh : (post.map (·.1)).isEmpty with
      | true => simpa using lenq.mpr hh
      | false => simpa [hh] using lenq
    rw [lq]
    refine brV_if (fun t => ?_) fun t => ?_
    · have hl : l ≠ num := by simpa using t
      simp only [chainDay, if_pos hl] at hc
      rw [← hc]; rfl
    · have hl : l = num := by simpa using t
      subst hl
      simp only [chainDay, ne_eq, not_true_eq_false, if_false, termAt, el, Option.bind_some] at hc
      simp only [wo, List.length_map]
      refine brV_if (fun t0 => ?_) fun t0 => ?_
      · have p0 : 0 ≤ p := by simpa using t0
        rw [if_pos p0] at hc
        refine brV_if (fun t1 => ?_) fun t1 => ?_
        · have p1 : p < L.terms.length := by simpa using t1
          have pl : p.toNat < L.terms.length := by omega
          rw [List.getElem?_eq_getElem pl] at hc
          have et : L.terms[p.toNat]? = some L.terms[p.toNat] := List.getElem?_eq_getElem pl
          have vt := (ok _ _ el).tt L.terms[p.toNat] (List.getElem_mem pl)
          generalize L.terms[p.toNat] = t at hc et vt
          simp only [terms_at p0 et, wo]
          have hd2 : ch.drop (k + 1) = post.map (·.1) := by
            have := congrArg List.tail z2
            simpa [List.tail_drop] using this
          cases t with
          | day x =>
            simp only [encT, wo, decide_false, Nat.reduceEqDiff, c_eqb, decide_true]
            cases hq : (post.map (·.1)).isEmpty with
            | true =>
              simp only [hq, if_true] at hc
              rw [← hc, Int.add_comm]; rfl
            | false =>
              simp only [hq, Bool.false_eq_true, if_false] at hc
              rw [← hc]; rfl
          | when j x =>
            have q := encO_at (row := days) vt.1.1 (by rw [len]; have := vt.1.2; omega)
            have q0 := q
            simp only [encT, wo, decide_false, Nat.reduceEqDiff, c_eqb, decide_true, q, encO_non]
            cases hq : (post.map (·.1)).isEmpty with
            | true =>
              simp only [hq, if_true] at hc
              rw [← hc]
              cases rr : rowAt days j with
              | none => rfl
              | some y =>
                rw [rr] at q0
                simp only [Option.isNone, ↓wq, wo, wl, q0, encO_some, Option.map_some, Nat.reduceAdd, Nat.reduceLT, true_and]
                show Val.int (late + x + y) = Val.int (y + x + late)
                rw [show late + x + y = y + x + late by omega]
            | false =>
              simp only [hq, Bool.false_eq_true, if_false] at hc
              rw [← hc]; rfl
          | after j x =>
            simp only [encT, wo, decide_false, Nat.reduceEqDiff, c_eqb, decide_true]
            cases hq : (post.map (·.1)).isEmpty with
            | true =>
              simp only [hq, if_true] at hc
              rw [← hc]; rfl
            | false =>
              simp only [hq, Bool.false_eq_true, if_false] at hc
              show brV (.bl false) _ _
              rw [br_f, br_f]
              refine ⟨_, _, _, _, _, _, _, rfl, vt.1.1, by have := vt.1.2; omega, ?_⟩
              rw [← hc]
              simp only [List.length_append, List.length_singleton, List.length_cons, List.length_nil, Nat.zero_add, ← z1, hd2]
        · have p1 : ¬ p < L.terms.length := by simpa using t1
          rw [List.getElem?_eq_none (by omega)] at hc
          rw [← hc]; rfl
      · have p0 : ¬ 0 ≤ p := by simpa using t0
        rw [if_neg p0] at hc
        rw [← hc]; rfl
  · rintro e h ⟨num, late, x6, x7, x8, x9, x10, rfl, m0, m1, hc⟩
    rw [List.length_zipIdx, List.drop_length] at hc
    rw [← hc]; rfl
end
theorem duesFrom_app (days : List (Option Int)) : ∀ (a b : List Letter) (acc : List (Option Int)), duesFrom days acc (a ++ b) = duesFrom days (duesFrom days acc a) b
  | [], b, acc => rfl
  | l :: a, b, acc => by simp only [List.cons_append, duesFrom, duesFrom_app days a b]
theorem duesFrom_pre (days : List (Option Int)) : ∀ (ls : List Letter) (acc : List (Option Int)), ∃ t, duesFrom days acc ls = acc ++ t
  | [], acc => ⟨[], by simp [duesFrom]⟩
  | l :: ls, acc => by
    obtain ⟨t, e⟩ := duesFrom_pre days ls (acc ++ [latest (l.terms.map (dayOf days acc))])
    exact ⟨latest (l.terms.map (dayOf days acc)) :: t, by rw [duesFrom, e]; simp⟩
theorem rowAt_app {a b : List (Option Int)} {j : Int} (h0 : 0 ≤ j) (h1 : j < a.length) : rowAt (a ++ b) j = rowAt a j := by
  unfold rowAt
  rw [List.getElem?_append_left (by omega)]
theorem dayOf_app {days a b : List (Option Int)} {k : Nat} {t : Term} (v : VT k t) (h : k ≤ a.length) : dayOf days (a ++ b) t = dayOf days a t := by
  cases t with
  | day x => rfl
  | when j x => rfl
  | after j x =>
    simp only [dayOf]
    rw [rowAt_app v.1.1 (by have := v.1.2; omega)]
theorem dues_at {days : List (Option Int)} {ls : List Letter} {k : Nat} {l : Letter} (ok : ∀ (k : Nat) (l : Letter), ls[k]? = some l → VLet k l) (e : ls[k]? = some l) : (dues days ls)[k]? = some (latest (l.terms.map (dayOf days (dues days ls)))) := by
  have lk := lt_of_getL e
  have e2 : ls = ls.take k ++ l :: ls.drop (k + 1) := by
    rw [List.getElem?_eq_getElem lk] at e
    cases e
    rw [← List.drop_eq_getElem_cons lk, List.take_append_drop]
  have hd : dues days ls = duesFrom days (dues days (ls.take k) ++ [latest (l.terms.map (dayOf days (dues days (ls.take k))))]) (ls.drop (k + 1)) := by
    conv => lhs; rw [e2]
    unfold dues
    rw [duesFrom_app]
    rfl
  obtain ⟨t, et⟩ := duesFrom_pre days (ls.drop (k + 1)) (dues days (ls.take k) ++ [latest (l.terms.map (dayOf days (dues days (ls.take k))))])
  have lD : (dues days (ls.take k)).length = k := by rw [dues_len, List.length_take]; omega
  have hr : l.terms.map (dayOf days (dues days ls)) = l.terms.map (dayOf days (dues days (ls.take k))) := by
    refine List.map_congr_left fun x mx => ?_
    rw [hd, et, List.append_assoc]
    exact dayOf_app ((ok k l e).tt x mx) (by omega)
  rw [hr, hd, et, List.append_assoc, List.getElem?_append_right (by omega), lD, Nat.sub_self]
  rfl
theorem rowAt_dues {days : List (Option Int)} {ls : List Letter} {n : Int} {l : Letter} (ok : ∀ (k : Nat) (l : Letter), ls[k]? = some l → VLet k l) (e : ls[n.toNat]? = some l) : rowAt (dues days ls) n = latest (l.terms.map (dayOf days (dues days ls))) := by
  unfold rowAt
  rw [dues_at ok e]
  rfl
def findO (o : Option Int) : List (Option Int) → Option Nat
  | [] => none
  | a :: l => if a = o then some 0 else match findO o l with | some n => some (n + 1) | none => none
theorem eqV_encO {a o : Option Int} : eqV (encO a) (encO o) = decide (a = o) := by
  cases a <;> cases o <;> simp [encO, eqV]
  rename_i x y
  by_cases h : x = y <;> simp [h]
theorem findI_enc (o : Option Int) : ∀ l : List (Option Int), findI (encO o) (l.map encO) = findO o l
  | [] => rfl
  | a :: l => by
    simp only [List.map_cons, findI, findO, eqV_encO, decide_eq_true_eq, findI_enc o l]
    all_goals rfl
theorem findO_get {o : Option Int} : ∀ {l : List (Option Int)} {n : Nat}, findO o l = some n → l[n]? = some o
  | [], n, h => by simp [findO] at h
  | a :: l, n, h => by
    unfold findO at h
    split at h
    · cases h; rename_i e; rw [e]; rfl
    · split at h
      · rename_i m e
        cases h
        simpa using findO_get e
      · cases h
theorem findO_mem {o : Option Int} : ∀ {l : List (Option Int)}, o ∈ l → ∃ n, findO o l = some n
  | [], h => by simp at h
  | a :: l, h => by
    unfold findO
    by_cases e : a = o
    · exact ⟨0, by rw [if_pos e]⟩
    · rw [if_neg e]
      rw [List.mem_cons] at h
      rcases h with h | h
      · exact absurd h.symm e
      · obtain ⟨n, q⟩ := findO_mem h
        rw [q]
        exact ⟨n + 1, rfl⟩
theorem maxI_mem : ∀ {l : List Int} {m : Int}, maxI l = some m → m ∈ l := by
  intro l
  induction l with
  | nil => intro m h; simp [maxI] at h
  | cons x l ih =>
    intro m h
    cases l with
    | nil => simp [maxI] at h; simp [h]
    | cons y l =>
      obtain ⟨m', e⟩ := maxI_some (l := y :: l) (by simp)
      unfold maxI at h
      rw [e] at h
      simp only [Option.some.injEq] at h
      split at h
      · simp [h]
      · rw [← h]; exact List.mem_cons_of_mem _ (ih e)
theorem latest_mem {row : List (Option Int)} (ne : row ≠ []) : latest row ∈ row := by
  cases hs : row.all (·.isSome) with
  | false =>
    rw [latest_none hs]
    rw [List.all_eq_false] at hs
    obtain ⟨o, m, e⟩ := hs
    cases o with
    | none => exact m
    | some x => simp at e
  | true =>
    obtain ⟨m, em, el⟩ := latest_max ne hs
    rw [el]
    have := maxI_mem em
    rw [List.mem_filterMap] at this
    obtain ⟨o, mo, eo⟩ := this
    have : o = some m := eo
    rw [← this]; exact mo
/-- the chain from a letter -/
def chainF (days : List (Option Int)) (ls : List Letter) (D : List (Option Int)) : Nat → Int → List (Int × Int)
  | 0, _ => []
  | f + 1, n => match ls[n.toNat]? with
    | none => []
    | some l => match findO (latest (l.terms.map (dayOf days D))) (l.terms.map (dayOf days D)) with
      | none => []
      | some p => (n, (p : Int)) :: match l.terms[p]? with
        | some (.after j _) => chainF days ls D f j
        | _ => []
def chainOf (days : List (Option Int)) (ls : List Letter) (n : Int) : List (Int × Int) := chainF days ls (dues days ls) (n.toNat + 1) n
/-- a letter's place, seen -/
theorem place_of {days : List (Option Int)} {ls : List Letter} {D : List (Option Int)} {n : Int} (ok : ∀ (k : Nat) (l : Letter), ls[k]? = some l → VLet k l) (n0 : 0 ≤ n) (n1 : n < ls.length) : ∃ l p t, ls[n.toNat]? = some l ∧ findO (latest (l.terms.map (dayOf days D))) (l.terms.map (dayOf days D)) = some p ∧ l.terms[p]? = some t ∧ dayOf days D t = latest (l.terms.map (dayOf days D)) ∧ VT n t ∧ l.terms.map (dayOf days D) ≠ [] := by
  have lk : n.toNat < ls.length := by omega
  have el : ls[n.toNat]? = some ls[n.toNat] := List.getElem?_eq_getElem lk
  generalize ls[n.toNat] = l at el
  have v := ok _ _ el
  have ne : l.terms.map (dayOf days D) ≠ [] := by
    intro z
    have := v.t1
    rw [List.map_eq_nil_iff] at z
    simp [z] at this
  obtain ⟨p, ep⟩ := findO_mem (latest_mem ne)
  have g := findO_get ep
  rw [List.getElem?_map] at g
  cases et : l.terms[p]? with
  | none => rw [et] at g; cases g
  | some t =>
    rw [et] at g
    have vt := v.tt t (List.mem_of_getElem? et)
    rw [show ((n.toNat : Nat) : Int) = n by omega] at vt
    exact ⟨l, p, t, el, ep, et, Option.some.inj g, vt, ne⟩
theorem chainF_ne {days : List (Option Int)} {ls : List Letter} {D : List (Option Int)} {f : Nat} {n : Int} (ok : ∀ (k : Nat) (l : Letter), ls[k]? = some l → VLet k l) (n0 : 0 ≤ n) (n1 : n < ls.length) (nf : n < f) : chainF days ls D f n ≠ [] := by
  obtain ⟨l, p, t, el, ep, et, _⟩ := place_of (D := D) (days := days) ok n0 n1
  obtain ⟨f, rfl⟩ : ∃ g, f = g + 1 := ⟨f - 1, by omega⟩
  simp [chainF, el, ep]
theorem chain_day_F {days : List (Option Int)} {ls : List Letter} (ok : ∀ (k : Nat) (l : Letter), ls[k]? = some l → VLet k l) : ∀ (f : Nat) (n late : Int), 0 ≤ n → n < ls.length → n < f → chainDay days ls n late (chainF days ls (dues days ls) f n) = (rowAt (dues days ls) n).map (· + late)
  | 0, n, late, n0, _, nf => by omega
  | f + 1, n, late, n0, n1, nf => by
    obtain ⟨l, p, t, el, ep, et, ed, vt, ne⟩ := place_of (D := dues days ls) (days := days) ok n0 n1
    have hta : termAt ls n p = some t := by
      simp only [termAt, el, Option.bind_some, Int.toNat_natCast, et]
      simp
    rw [rowAt_dues ok el, ← ed]
    simp only [chainF, el, ep, et, chainDay, hta, ne_eq, not_true_eq_false, if_false]
    cases t with
    | day x => rfl
    | when j x => simp [dayOf, Function.comp_def]
    | after j x =>
      have j1 := vt.1.2
      have ih := chain_day_F (days := days) ok f j (late + x) vt.1.1 (by omega) (by omega)
      have nn := chainF_ne (D := dues days ls) (days := days) (f := f) ok vt.1.1 (n := j) (by omega) (by omega)
      simp only [List.isEmpty_iff, nn, if_false, ih, dayOf, Option.map_map]
      congr 1
      funext a
      simp only [Function.comp]
      omega
theorem chain_bad {days : List (Option Int)} {ls : List Letter} {x : Int × Int} (ok : ∀ (k : Nat) (l : Letter), ls[k]? = some l → VLet k l) : ∀ (f : Nat) (n late : Int), 0 ≤ n → n < ls.length → n < f → chainDay days ls n late (chainF days ls (dues days ls) f n ++ [x]) = some (-1)
  | 0, n, late, n0, _, nf => by omega
  | f + 1, n, late, n0, n1, nf => by
    obtain ⟨l, p, t, el, ep, et, ed, vt, ne⟩ := place_of (D := dues days ls) (days := days) ok n0 n1
    have hta : termAt ls n p = some t := by
      simp only [termAt, el, Option.bind_some, Int.toNat_natCast, et]
      simp
    simp only [chainF, el, ep, et, List.cons_append, chainDay, hta, ne_eq, not_true_eq_false, if_false]
    cases t with
    | day y => simp
    | when j y => simp
    | after j y =>
      have j1 := vt.1.2
      have ih := chain_bad (days := days) (x := x) ok f j (late + y) vt.1.1 (by omega) (by omega)
      simp only [ih]
      simp
section
variable {T : Tab} {F : Nat → Option Fn} {n : Nat} {h : Hm}
theorem rf_chain_to (e0 : F 0 = some c_day_of) (e1 : F 1 = some c_dues_of) (e11 : F 11 = some c_chain_to) {d v : Val} {days : List (Option Int)} {ls : List Letter} {number : Int} (hv : er v = encLs ls) (hd : er d = encR days) (len : days.length = 6) (ok : ∀ (k : Nat) (l : Letter), ls[k]? = some l → VLet k l) (hb : ls.length ≤ 1000) (n0 : 0 ≤ number) (n1 : number < ls.length) :
    Rf (run T F (n + 3)) 11 [v, d, .int number] ((chainOf days ls number).map encP) := by
  have pd := pf_dues_of (T := T) (n := n) e0 e1 hv hd len ok hb
  obtain ⟨c2, vs, rfl, em⟩ := er_letters hv
  obtain ⟨c, rfl⟩ := er_row hd
  obtain ⟨xs, rfl, rfl⟩ := letters_list em
  have hb2 : (2 : Nat) ≤ big := by decide
  refine .of (e_run e11 rfl (by decide) ?_)
  simp only [c_chain_to, ↓wq, wo, wl, List.replicate, Nat.reduceAdd, Nat.reduceLT, true_and, Nat.zero_le, List.length_nil]
  have cv : closed (.lst c2 (xs.map gL)) = true := closed_of hv (data_encLs _)
  refine e_pur (snapL_cons (snap_closed cv) (snapL_cons (snap_closed closed_row) snapL_nil)) pd ?_
  simp only [wo, wl, Nat.reduceAdd, Nat.reduceLT, true_and, Nat.zero_add, hb2]
  unfold chainOf
  have lD : (dues days (xs.map (·.2.2))).length = xs.length := by rw [dues_len]; simp
  generalize dues days (xs.map (·.2.2)) = D at lD
  generalize hC : chainF days (xs.map (·.2.2)) D (number.toNat + 1) number = C
  rw [List.length_map] at n1 hb
  refine w_whl (m := number.toNat) (fun m e h => ∃ (f : Nat) (num : Int) (acc : List (Int × Int)), ∃ x5 x6 x7 x8, e = [some (.lst c2 (xs.map gL)), some (.lst c (days.map encO)), some (.int num), some (.ref 0), some (encR D), x5, x6, x7, x8] ∧ h = [.lst (acc.map encP)] ∧ 0 ≤ num ∧ num < xs.length ∧ num.toNat = m ∧ num < f ∧ acc.length + m ≤ 1000 ∧ acc ++ chainF days (xs.map (·.2.2)) D f num = C) ?_ (by unfold fuelW; omega) ?_
  · exact ⟨number.toNat + 1, _, [], _, _, _, _, rfl, rfl, n0, n1, rfl, by omega, by simp; omega, by rw [List.nil_append]; exact hC⟩
  · rintro m e h ⟨f, num, acc, x5, x6, x7, x8, rfl, rfl, m0, m1, rfl, nf, la, hc⟩
    obtain ⟨f, rfl⟩ : ∃ g, f = g + 1 := ⟨f - 1, by omega⟩
    obtain ⟨L, p, t, el, ep, et, ed, vt, ne⟩ := place_of (D := D) (days := days) (ls := xs.map (·.2.2)) ok m0 (by simpa using m1)
    obtain ⟨c3, c4, L', ea, el'⟩ := lv_at (xs := xs) m0 m1
    rw [el] at el'
    cases el'
    have vl := ok _ _ el
    simp only [chainF, el, ep, et] at hc
    simp only [↓wq, wo, wl, ea, Nat.reduceAdd, Nat.reduceLT, true_and]
    refine e_compM (xs := L.terms) (g := encT) (h1 := [.lst (acc.map encP)]) (fun t => encO (dayOf days D t)) (by simp only [↓wq, wo, wl]; exact ⟨stAt_stat _ _, trivial⟩) (fun t m => ?_) ?_
    · simp only [↓wq, wo, wl, Nat.reduceAdd, Nat.reduceLT, true_and]
      have vt2 : t.fits days.length D.length := by
        have := vl.tt t m
        rw [len, lD]
        cases t <;> simp only [VT, Term.fits] at this ⊢ <;> omega
      exact e_pc (run_day_of e0 vt2) (by simp only [wc, wd]) ⟨rfl, rfl⟩
    · have er2 : L.terms.map (fun t => encO (dayOf days D t)) = (L.terms.map (dayOf days D)).map encO := by simp
      rw [er2]
      have fo : ∀ o, E (methM .index (.lst .own ((L.terms.map (dayOf days D)).map encO)) [encO o] [.lst (acc.map encP)]) (fun v h' => v = .int ((findO o (L.terms.map (dayOf days D))).getD 0 : Nat) ∧ h' = [.lst (acc.map encP)] ∧ (findO o (L.terms.map (dayOf days D))).isSome) nox ∨ findO o (L.terms.map (dayOf days D)) = none := by
        intro o
        cases q : findO o (L.terms.map (dayOf days D)) with
        | none => exact .inr rfl
        | some k =>
          left
          simp only [methM, lstOf, flat_encO, all_flat_encO, Bool.and_self, if_true, findI_enc, q]
          exact ⟨rfl, rfl, rfl⟩
      have fl := (fo (latest (L.terms.map (dayOf days D)))).resolve_right (by rw [ep]; simp)
      rw [ep] at fl
      have lm : L.terms.map (fun t => dayOf days D t) = L.terms.map (dayOf days D) := rfl
      clear fo
      revert fl ne ed
      generalize L.terms.map (dayOf days D) = row
      intro ed ne fl
      simp only [wo, wl, c_latest, Nat.reduceAdd, Nat.reduceLT, true_and]
      refine E_pick (fun v h' => v = .int (p : Nat) ∧ h' = [.lst (acc.map encP)]) (fun t => ?_) (fun t => ?_) ?_
      · rw [latest_none (by simpa using t)] at fl
        simp only [↓wq, wo, wl]
        exact ⟨rfl, E_mono fl (fun v h' q => ⟨q.1, q.2.1⟩) fun _ _ x => x⟩
      · have hs : row.all (·.isSome) = true := by simpa using t
        obtain ⟨mx, e1, e2⟩ := latest_max ne hs
        rw [e2] at fl
        simp only [↓wq, wo, wl, intsOf_some hs, e1]
        exact ⟨rfl, E_mono fl (fun v h' q => ⟨q.1, q.2.1⟩) fun _ _ x => x⟩
      · rintro _ _ ⟨rfl, rfl⟩
        have ta : atI (L.terms.map encT) (p : Int) = some (encT t) := terms_at (by omega) (by simpa using et)
        simp only [wo, wl, hb2, Nat.reduceAdd, Nat.reduceLT, true_and, ta, Nat.zero_add]
        refine ⟨rfl, ?_⟩
        refine e_app0 (by rw [List.length_map]; unfold big; omega) ?_
        have ea2 : acc.map encP ++ [Val.tup [.int num, .int p]] = (acc ++ [(num, (p : Int))]).map encP := by simp [encP]
        rw [ea2]
        cases t with
        | day x =>
          simp only [encT, wo, decide_false, Nat.reduceEqDiff, Bool.not_false]
          exact ⟨0, rfl, by rw [← hc]; rfl⟩
        | when j x =>
          simp only [encT, wo, decide_false, Nat.reduceEqDiff, Bool.not_false]
          exact ⟨0, rfl, by rw [← hc]; rfl⟩
        | after j x =>
          simp only [encT, wo, decide_true, Bool.not_true, wl, Nat.reduceAdd, Nat.reduceLT, true_and]
          have j0 := vt.1.1
          have j1 := vt.1.2
          exact ⟨j.toNat, by omega, f, j, acc ++ [(num, (p : Int))], _, _, _, _, rfl, rfl, j0, by omega, rfl, by omega, by simp; omega, by rw [← hc]; simp⟩
end
end MP
set_option Elab.async false
set_option linter.all false
set_option maxRecDepth 100000
set_option autoImplicit false
namespace MP
open PySem L2
/-- what an answer says of itself -/
def showsB (why : Bool) (days : List (Option Int)) (ls : List Letter) (num : Int) (ch : List (Int × Int)) : Bool := if why then (match rowAt (dues days ls) num with | none => false | some x => decide (chainDay days ls num 0 ch = some x)) else (chainDay days ls num 0 ch).isNone
def oAns (c c' : Fz) (k : Nat) (ch : List (Int × Int)) : Val := .obj c k [0] [.lst c' (ch.map encP)]
theorem closed_oAns {c c' : Fz} {k : Nat} {ch : List (Int × Int)} : closed (oAns c c' k ch) = true := by
  have : closed (.lst c' (ch.map encP)) = true := closed_map closed_encP
  simp only [oAns, closed, closedL, this, Bool.and_self] at this ⊢
  simpa using this
theorem eqM_encO {h : Hm} {a b : Option Int} : eqM h (encO a) (encO b) = some (decide (a = b)) := by
  simp only [eqM, snap_closed (closed_encO a), snap_closed (closed_encO b), data_encO, Bool.and_self, if_true, eqV_encO]
theorem c_eqO {h : Hm} {a b : Option Int} : cmpM .eq h (encO a) (encO b) = some (decide (a = b)) := eqM_encO
section
variable {T : Tab} {F : Nat → Option Fn} {n : Nat} {h : Hm}
theorem e_gateS {cl : CallF} {f : Nat} {vs ws : List Val} {o : Option Nat} {h : Hm} {Q : Val → Hm → Prop} {X : Nat → Hm → Prop} (l : Gate cl f ws o) (c : snapL h vs = some ws) (q : o = none → Q .non h) (x : ∀ k, o = some k → X k h) : E (callM cl .pur f vs h) Q X := by
  cases o with
  | none => exact e_pur c l (q rfl)
  | some k => exact e_purx c l (x k rfl)
theorem x_fld {x : Val} {f : Nat} {k : Nat} {fs : List Nat} {vs : List Val} {Q : Val → Hm → Prop} {X : Nat → Hm → Prop} (e : insOf h x = some (k, fs, vs)) : E (fldM x f h) Q X = OE (assoc fs vs f) fun v => Q v h := by
  simp only [fldM, e]
  cases assoc fs vs f <;> rfl
theorem ins_obj {c : Fz} {k : Nat} {fs : List Nat} {vs : List Val} : insOf h (.obj c k fs vs) = some (k, fs, vs) := rfl
theorem ins_ref {i : Nat} {k : Nat} {fs : List Nat} {vs : List Val} (e : h[i]? = some (.ins k fs vs)) : insOf h (.ref i) = some (k, fs, vs) := by simp only [insOf, e]
theorem assoc0 {x : Nat} {v : Val} : assoc [x] [v] x = some v := by simp [assoc]
theorem pf_why_shows (e0 : F 0 = some c_day_of) (e1 : F 1 = some c_dues_of) (e12 : F 12 = some c_chain_day) (e18 : F 18 = some c_Why_shows) {d v : Val} {days : List (Option Int)} {ls : List Letter} {num : Int} {ch : List (Int × Int)} {c c' : Fz} {k : Nat} (hv : er v = encLs ls) (hd : er d = encR days) (len : days.length = 6) (ok : ∀ (k : Nat) (l : Letter), ls[k]? = some l → VLet k l) (hb : ls.length ≤ 1000) (n0 : 0 ≤ num) (n1 : num < ls.length) :
    Pf (run T F (n + 3)) 18 [oAns c c' k ch, v, d, .int num] (.bl (showsB true days ls num ch)) := by
  refine .of_v rfl (e_run e18 rfl (by decide) ?_)
  have cv : closed v = true := closed_of hv (data_encLs _)
  have cd : closed d = true := closed_of hd (data_encR _)
  simp only [c_Why_shows, ↓wq, wo, wl, List.replicate, Nat.reduceAdd, Nat.reduceLT, true_and]
  refine e_pc (pf_dues_of (n := n) e0 e1 hv hd len ok hb) (by simp only [wc, cv, cd]) ?_
  simp only [wo, wl, wd, Nat.reduceAdd, Nat.reduceLT, true_and, encO_at n0 (show num < ((dues days ls).length : Nat) by rw [dues_len]; exact n1), encO_non]
  have hf : ∀ {Q : Val → Hm → Prop} {X : Nat → Hm → Prop}, E (fldM (oAns c c' k ch) 0 []) Q X = Q (.lst c' (ch.map encP)) [] := by
    intro Q X
    rw [oAns, x_fld ins_obj, assoc0]; rfl
  cases hr : rowAt (dues days ls) num with
  | none =>
    simp only [Option.isNone, Bool.not_true, wo]
    simp [showsB, hr]
  | some x =>
    simp only [Option.isNone, Bool.not_false, wo, hf]
    refine e_pc (pf_chain_day (n := n + 1) e12 hv hd len ok n0 n1) (by simp only [wc, cv, cd, closed_map closed_encP]) ?_
    rw [c_eqO, oe_some]
    simp [showsB, hr]
theorem pf_waits_shows (e12 : F 12 = some c_chain_day) (e20 : F 20 = some c_Waits_shows) {d v : Val} {days : List (Option Int)} {ls : List Letter} {num : Int} {ch : List (Int × Int)} {c c' : Fz} {k : Nat} (hv : er v = encLs ls) (hd : er d = encR days) (len : days.length = 6) (ok : ∀ (k : Nat) (l : Letter), ls[k]? = some l → VLet k l) (n0 : 0 ≤ num) (n1 : num < ls.length) :
    Pf (run T F (n + 2)) 20 [oAns c c' k ch, v, d, .int num] (.bl (showsB false days ls num ch)) := by
  refine .of_v rfl (e_run e20 rfl (by decide) ?_)
  have cv : closed v = true := closed_of hv (data_encLs _)
  have cd : closed d = true := closed_of hd (data_encR _)
  have hf : ∀ {Q : Val → Hm → Prop} {X : Nat → Hm → Prop}, E (fldM (oAns c c' k ch) 0 []) Q X = Q (.lst c' (ch.map encP)) [] := by
    intro Q X
    rw [oAns, x_fld ins_obj, assoc0]; rfl
  simp only [c_Waits_shows, ↓wq, wo, wl, List.replicate, hf]
  refine e_pc (pf_chain_day (n := n) e12 hv hd len ok n0 n1) (by simp only [wc, cv, cd, closed_map closed_encP]) ?_
  simp only [encO_non, wo, showsB, Bool.false_eq_true, if_false]
theorem set_ins {i : Nat} {k f : Nat} {fs : List Nat} {vs : List Val} {v : Val} {Q : Hm → Prop} (e : h[i]? = some (.ins k fs vs)) (l : fs.length = vs.length ∧ fs.length < 900) : OE (setFM (.ref i) f v h) Q = Q (h.set i (.ins k (assocPut fs vs f v).1 (assocPut fs vs f v).2)) := by
  simp only [setFM, e, if_pos l]; rfl
/-- an answer is made: a list of its own -/
theorem e_new1 {k g f : Nat} {d : Fn} (ei : T.init k = some g) (eg' : F g = some d) (ed : d = ⟨2, 2, .seq (.setF (.var 0) f (.bi .list false (.cons (.var 1) .nil))) .nil⟩) {x : Val} {vs : List Val} {Q : Val → Hm → Prop} {X : Nat → Hm → Prop} (sx : ∀ o, seqOf (h ++ [o]) x = some vs) (q : Q (.ref h.length) (h ++ [.ins k [f] [.ref (h.length + 1)], .lst vs])) : E (newM T (run T F (n + 1)) k [x] h) Q X := by
  have r : run T F (n + 1) g [.ref h.length, x] (h ++ [.ins k [] []]) = .ok .non (h ++ [.ins k [f] [.ref (h.length + 1)], .lst vs]) := by
    subst ed
    refine ok_of_E (e_run eg' rfl (Nat.le_refl 2) ?_)
    simp only [↓wq, wo, wl, List.replicate, sx]
    rw [set_ins (k := k) (fs := []) (vs := []) (get_app get_last) (by simp)]
    have hl : (h ++ [Ob.ins k [] []]).length = h.length + 1 := by simp
    refine ⟨trivial, ?_⟩
    rw [hl, List.append_assoc, List.set_append_right _ _ (Nat.le_refl _), Nat.sub_self]
    rfl
  simp only [newM, ei]
  rw [r]
  exact q
theorem eg17 : c_Why___init__ = ⟨2, 2, .seq (.setF (.var 0) 0 (.bi .list false (.cons (.var 1) .nil))) .nil⟩ := rfl
theorem eg19 : c_Waits___init__ = ⟨2, 2, .seq (.setF (.var 0) 0 (.bi .list false (.cons (.var 1) .nil))) .nil⟩ := rfl
def kind (days : List (Option Int)) (ls : List Letter) (num : Int) : Nat := if (rowAt (dues days ls) num).isNone then 2 else 1
structure FWhy (T : Tab) (F : Nat → Option Fn) : Prop where
  e0 : F 0 = some c_day_of
  e1 : F 1 = some c_dues_of
  e2 : F 2 = some c_is_whole
  e3 : F 3 = some c_is_between
  e4 : F 4 = some c_are_heirs
  e5 : F 5 = some c_is_term
  e6 : F 6 = some c_is_letter
  e7 : F 7 = some c_check_letters
  e8 : F 8 = some c_are_days
  e9 : F 9 = some c_check_days
  e11 : F 11 = some c_chain_to
  e16 : F 16 = some c_why
  e17 : F 17 = some c_Why___init__
  e19 : F 19 = some c_Waits___init__
  i1 : T.init 1 = some 17
  i2 : T.init 2 = some 19
theorem e_why (f : FWhy T F) {x y a b : Val} {ws : List Val} {days : List (Option Int)} {ls : List Letter} {num : Int} {Q : Val → Hm → Prop} {X : Nat → Hm → Prop} (sx : snap h x = some a) (sy : snap h y = some b) (ea : er a = encLs ls) (eb : er b = encR days) (vd : VD 6 days) (vl : VL ls) (lx : seqOf h x = some ws) (lw : ws.length = ls.length) (n0 : 0 ≤ num) (n1 : num < ls.length)
    (q : Q (.ref h.length) (h ++ [.ins (kind days ls num) [0] [.ref (h.length + 1)], .lst ((chainOf days ls num).map encP)])) : E (run T F (n + 8) 16 [x, y, .int num] h) Q X := by
  refine e_run f.e16 rfl (by decide) ?_
  have l40 := vl.l40
  have dk : daysOk b 6 = true := daysOk_of (n := 6) eb vd
  have g : gDays a b = none := by unfold gDays; rw [if_pos (lettersOk_of ea vl), if_pos dk]
  have da := data_of (m := 28) ea (data_encLs ls) (by omega)
  have db := data_of (m := 28) eb (data_encR days) (by omega)
  simp only [c_why, ↓wq, wo, wl, List.replicate]
  refine e_gateS (ga_check_days (n := n + 1) f.e2 f.e3 f.e4 f.e5 f.e6 f.e7 f.e8 f.e9 da db) (snapL_cons sx (snapL_cons sy snapL_nil)) (fun _ => ?_) fun k o => by rw [g] at o; cases o
  simp only [lx, wo]
  refine e_pc (pf_is_between (n := n + 5) f.e2 f.e3 rfl) rfl ?_
  rw [brV_t (by simp [btw]; omega)]
  refine e_pur (snapL_cons sx (snapL_cons sy (snapL_cons (snap_closed rfl) snapL_nil))) ((rf_chain_to (n := n + 4) f.e0 f.e1 f.e11 ea eb vd.len vl.ok (by omega) n0 n1).pf (cleanL_map clean_encP _)) ?_
  simp only [wo, wl, Nat.reduceAdd, Nat.reduceLT, true_and]
  refine e_pur (snapL_cons sx (snapL_cons sy snapL_nil)) (pf_dues_of (n := n + 5) f.e0 f.e1 ea eb vd.len vl.ok (by omega)) ?_
  simp only [wd, wo, encO_at n0 (show num < ((dues days ls).length : Nat) by rw [dues_len]; exact n1), encO_non]
  refine E_pick Q (fun t => ?_) (fun t => ?_) fun _ _ q => q
  · simp only [↓wq, wo, wl]
    refine e_new1 (n := n + 6) f.i2 f.e19 eg19 (fun o => rfl) ?_
    simp only [kind, t, if_true] at q
    exact q
  · simp only [↓wq, wo, wl]
    refine e_new1 (n := n + 6) f.i1 f.e17 eg17 (fun o => rfl) ?_
    simp only [kind, t, Bool.false_eq_true, if_false] at q
    exact q
theorem froz_ans {k : Nat} {ch : List (Int × Int)} : froz [.ins k [0] [.ref 1], .lst (ch.map encP)] (.ref 0) = some (oAns .own .own k ch) := by
  simp only [froz, deep, deepL, follow, List.getElem?_cons_zero, List.getElem?_cons_succ, deepL_closed _ (closedL_map closed_encP ch)]
  rfl
theorem clean_oAns {k : Nat} {ch : List (Int × Int)} : clean (oAns .own .own k ch) = true := by
  have : clean (.lst .own (ch.map encP)) = true := clean_map clean_encP
  simp only [oAns, clean, cleanL, Bool.and_eq_true] at this ⊢
  simp [this.2]
theorem pf_why (f : FWhy T F) {v d : Val} {days : List (Option Int)} {ls : List Letter} {num : Int} (ea : er v = encLs ls) (eb : er d = encR days) (vd : VD 6 days) (vl : VL ls) (n0 : 0 ≤ num) (n1 : num < ls.length) :
    Pf (run T F (n + 8)) 16 [v, d, .int num] (oAns .own .own (kind days ls num) (chainOf days ls num)) := by
  obtain ⟨c2, vs, rfl, em⟩ := er_letters ea
  have hl : vs.length = ls.length := by have := congrArg List.length em; simpa using this
  refine .of_E (e_why f (snap_closed (closed_of ea (data_encLs _))) (snap_closed (closed_of eb (data_encR _))) ea eb vd vl (so_lst) hl n0 n1 froz_ans) clean_oAns
theorem chainF_len {days : List (Option Int)} {ls : List Letter} {D : List (Option Int)} : ∀ (f : Nat) (n : Int), (chainF days ls D f n).length ≤ f
  | 0, n => Nat.le_refl 0
  | f + 1, n => by
    unfold chainF
    split
    · simp
    · split
      · simp
      · rename_i l _ p _
        simp only [List.length_cons]
        split
        · have := chainF_len (days := days) (ls := ls) (D := D) f
          rename_i j _ _
          have := this j
          omega
        · simp
theorem chainOf_len {days : List (Option Int)} {ls : List Letter} {n : Int} : (chainOf days ls n).length ≤ n.toNat + 1 := chainF_len _ _
theorem chainOf_ne {days : List (Option Int)} {ls : List Letter} {n : Int} (ok : ∀ (k : Nat) (l : Letter), ls[k]? = some l → VLet k l) (n0 : 0 ≤ n) (n1 : n < ls.length) : chainOf days ls n ≠ [] := chainF_ne ok n0 n1 (by omega)
theorem shows_chain {days : List (Option Int)} {ls : List Letter} {num : Int} (ok : ∀ (k : Nat) (l : Letter), ls[k]? = some l → VLet k l) (n0 : 0 ≤ num) (n1 : num < ls.length) : showsB (rowAt (dues days ls) num).isSome days ls num (chainOf days ls num) = true := by
  have := chain_day_F (days := days) ok (num.toNat + 1) num 0 n0 n1 (by omega)
  unfold chainOf showsB
  rw [this]
  cases rowAt (dues days ls) num <;> simp
theorem shows_bad {days : List (Option Int)} {ls : List Letter} {num : Int} {x : Int × Int} {b : Bool} (nn : NN days) (ok : ∀ (k : Nat) (l : Letter), ls[k]? = some l → VLet k l) (n0 : 0 ≤ num) (n1 : num < ls.length) : showsB b days ls num (chainOf days ls num ++ [x]) = false := by
  have := chain_bad (days := days) (x := x) ok (num.toNat + 1) num 0 n0 n1 (by omega)
  unfold chainOf showsB
  rw [this]
  cases b with
  | false => simp
  | true =>
    simp only [if_true]
    cases hr : rowAt (dues days ls) num with
    | none => rfl
    | some y =>
      have := rowAt_nn (dues_nn nn ok) num y hr
      simp
      omega
theorem pf_is_chain (e53 : F 53 = some cl53) (e56 : F 56 = some cl56) (e57 : F 57 = some cl57) {d v : Val} {days : List (Option Int)} {ls : List Letter} {num : Int} {ch : List (Int × Int)} {c5 : Fz} {b : Bool} (hv : er v = encLs ls) (hd : er d = encR days) (vd : VD 6 days) (vl : VL ls) (n0 : 0 ≤ num) (n1 : num < ls.length) :
    Pf (run T F (n + 2)) 57 [v, d, .int num, .lst c5 (ch.map encP), .bl b] (.bl (showsB b days ls num ch)) := by
  refine .of_v rfl (e_run e57 rfl (by decide) ?_)
  have cv : closed v = true := closed_of hv (data_encLs _)
  have cd : closed d = true := closed_of hd (data_encR _)
  simp only [cl57, ↓wq, wo, wl, List.replicate]
  refine e_pc (pf_comes (n := n) e56 hv hd vd.len vl.ok n0 n1) (by simp only [wc, cv, cd, closed_map closed_encP]) ?_
  refine e_pc (pf_law_dues (n := n) e53 hv hd vd.len vd.nn vl.ok (by have := vl.l40; omega)) (by simp only [wc, cv, cd]) ?_
  simp only [wo, wl, wd, Nat.reduceAdd, Nat.reduceLT, true_and, encO_at n0 (show num < ((dues days ls).length : Nat) by rw [dues_len]; exact n1)]
  cases b with
  | true =>
    simp only [wo, pick_t, ↓wq, wl, encO_non, map_not, oe_some]
    cases hr : rowAt (dues days ls) num with
    | none => simp [showsB, hr, brV]
    | some x =>
      simp only [Option.isNone, Bool.not_false, wo, c_eqO]
      simp [showsB, hr]
  | false =>
    simp only [wo, pick_f, ↓wq, wl, encO_non]
    simp [showsB]
theorem pf_says (e55 : F 55 = some cl55) {a b : Bool} : Pf (run T F (n + 1)) 55 [.bl a, .bl b] (.bl (a == b)) := by
  refine .of_v rfl (e_run e55 rfl (by decide) ?_)
  simp only [cl55, ↓wq, wo, wl, wi, List.replicate, c_eqb]
/-- an answer on the heap -/
structure Ans (h : Hm) (i j k : Nat) (ch : List (Int × Int)) : Prop where
  hi : h[i]? = some (.ins k [0] [.ref j])
  hj : h[j]? = some (.lst (ch.map encP))
theorem Ans.app {h : Hm} {i j k : Nat} {ch : List (Int × Int)} (a : Ans h i j k ch) (t : Hm) : Ans (h ++ t) i j k ch := ⟨get_app a.hi, get_app a.hj⟩
theorem Ans.mk' {h : Hm} {k : Nat} {ch : List (Int × Int)} : Ans (h ++ [.ins k [0] [.ref (h.length + 1)], .lst (ch.map encP)]) h.length (h.length + 1) k ch :=
  ⟨by simp, by rw [List.getElem?_append_right (by omega)]; simp⟩
theorem Ans.snap {h : Hm} {i j k : Nat} {ch : List (Int × Int)} (a : Ans h i j k ch) : MP.snap h (.ref i) = some (oAns .bor .bor k ch) := by
  simp only [MP.snap, deep, follow, a.hi, deepL, a.hj, deepL_closed _ (closedL_map closed_encP ch)]
  rfl
theorem Ans.cls {h : Hm} {i j k : Nat} {ch : List (Int × Int)} (a : Ans h i j k ch) : clsOf h (.ref i) = some k := by
  simp only [clsOf, insOf, a.hi]
theorem Ans.fld {h : Hm} {i j k : Nat} {ch : List (Int × Int)} (a : Ans h i j k ch) {Q : Val → Hm → Prop} {X : Nat → Hm → Prop} : E (fldM (.ref i) 0 h) Q X = Q (.ref j) h := by
  rw [x_fld (ins_ref a.hi), assoc0]; rfl
theorem Ans.isi {h : Hm} {i j k : Nat} {ch : List (Int × Int)} (a : Ans h i j k ch) {sup : Nat → List Nat} {m : Nat} : isiM sup h (.ref i) (.cls m) = some ((sup k).contains m) := by
  simp only [isiM, a.hi]
theorem fld_oAns {h : Hm} {c c' : Fz} {k : Nat} {ch : List (Int × Int)} {Q : Val → Hm → Prop} {X : Nat → Hm → Prop} : E (fldM (oAns c c' k ch) 0 h) Q X = Q (.lst c' (ch.map encP)) h := by
  rw [oAns, x_fld ins_obj, assoc0]; rfl
theorem cls_oAns {h : Hm} {c c' : Fz} {k : Nat} {ch : List (Int × Int)} : clsOf h (oAns c c' k ch) = some k := rfl
theorem isi_oAns {h : Hm} {c c' : Fz} {k m : Nat} {ch : List (Int × Int)} {sup : Nat → List Nat} : isiM sup h (oAns c c' k ch) (.cls m) = some ((sup k).contains m) := rfl
structure FSh (T : Tab) (F : Nat → Option Fn) : Prop where
  e0 : F 0 = some c_day_of
  e1 : F 1 = some c_dues_of
  e12 : F 12 = some c_chain_day
  e17 : F 17 = some c_Why___init__
  e18 : F 18 = some c_Why_shows
  e19 : F 19 = some c_Waits___init__
  e20 : F 20 = some c_Waits_shows
  i1 : T.init 1 = some 17
  i2 : T.init 2 = some 19
  m1 : T.meth 1 0 = some 18
  m2 : T.meth 2 0 = some 20
/-- the def that an answer's class shows by -/
theorem pf_shows (f : FSh T F) {d v : Val} {days : List (Option Int)} {ls : List Letter} {num : Int} {ch : List (Int × Int)} {c c' : Fz} {k : Nat} (hk : k = 1 ∨ k = 2) (hv : er v = encLs ls) (hd : er d = encR days) (vd : VD 6 days) (vl : VL ls) (n0 : 0 ≤ num) (n1 : num < ls.length) :
    ∃ g, T.meth k 0 = some g ∧ Pf (run T F (n + 3)) g [oAns c c' k ch, v, d, .int num] (.bl (showsB (k == 1) days ls num ch)) := by
  have l40 := vl.l40
  rcases hk with rfl | rfl
  · exact ⟨18, f.m1, pf_why_shows f.e0 f.e1 f.e12 f.e18 hv hd vd.len vl.ok (by omega) n0 n1⟩
  · exact ⟨20, f.m2, pf_waits_shows (n := n + 1) f.e12 f.e20 hv hd vd.len vl.ok n0 n1⟩
theorem e_newA (f : FSh T F) {k : Nat} (hk : k = 1 ∨ k = 2) {x : Val} {ch : List (Int × Int)} {Q : Val → Hm → Prop} {X : Nat → Hm → Prop} (sx : ∀ o, seqOf (h ++ [o]) x = some (ch.map encP)) (q : Q (.ref h.length) (h ++ [.ins k [0] [.ref (h.length + 1)], .lst (ch.map encP)])) : E (newM T (run T F (n + 1)) k [x] h) Q X := by
  rcases hk with rfl | rfl
  · exact e_new1 f.i1 f.e17 eg17 sx q
  · exact e_new1 f.i2 f.e19 eg19 sx q
/-- an answer made by hand, asked -/
theorem e_hand (f : FSh T F) {k : Nat} (hk : k = 1 ∨ k = 2) {x d v : Val} {days : List (Option Int)} {ls : List Letter} {num : Int} {ch : List (Int × Int)} {Q : Val → Hm → Prop} {X : Nat → Hm → Prop} (sx : ∀ h, seqOf h x = some (ch.map encP)) (hv : er v = encLs ls) (hd : er d = encR days) (vd : VD 6 days) (vl : VL ls) (n0 : 0 ≤ num) (n1 : num < ls.length) (q : ∀ h', Q (.bl (showsB (k == 1) days ls num ch)) h') :
    E (newM T (run T F (n + 3)) k [x] h) (fun x h => OE (clsOf h x) fun k => OE (T.meth k 0) fun g => E (callM (run T F (n + 3)) .pur g [x, v, d, .int num] h) Q X) X := by
  refine e_newA (n := n + 2) f hk (fun o => sx _) ?_
  have A := Ans.mk' (h := h) (k := k) (ch := ch)
  obtain ⟨g, mg, pg⟩ := pf_shows (n := n) (c := .bor) (c' := .bor) (ch := ch) f hk hv hd vd vl n0 n1
  simp only [A.cls, OE, mg]
  exact e_pur (snapL_cons A.snap (snapL_cons (snap_closed (closed_of hv (data_encLs _))) (snapL_cons (snap_closed (closed_of hd (data_encR _))) (snapL_cons (snap_closed rfl) snapL_nil)))) pg (q _)
theorem b_repO {o : Option Int} {v : Val} {k : Int} {h : Hm} {Q : Val → Hm → Prop} {X : Nat → Hm → Prop} (e : v = encO o) (h0 : 0 ≤ k) (h1 : k ≤ 1000) : E (binM true .mul (.lst .own [v]) (.int k) h) Q X = Q (encR (List.replicate k.toNat o)) h := by
  rw [e, b_rep h0 h1 (by simp)]
  have : ∀ m : Nat, repL m [encO o] = (List.replicate m o).map encO := by
    intro m
    induction m with
    | zero => rfl
    | succ m ih => rw [List.replicate_succ, List.map_cons, ← ih]; rfl
  rw [this]; rfl
/-- a loop over few, one by one -/
def goS (T : Tab) (cl : CallF) (p : Pat) (b : S) (N : En → Hm → Prop) (V : Val → Hm → Prop) (X : Nat → En → Hm → Prop) (s : Src) (full : List Val) : List Val → En → Hm → Prop
  | [], e, h => StAt s full h ∧ N e h
  | v :: vs, e, h => StAt s full h ∧ OE (bindP p v e) fun e' => W (exS T cl b e' h) (fun e h => goS T cl p b N V X s full vs e h) V X
theorem w_unroll {cl : CallF} {N : En → Hm → Prop} {V : Val → Hm → Prop} {X : Nat → En → Hm → Prop} {p : Pat} {it : C} {b : S} {e : En} (l : List Val) (ei : E (evI T cl it e h) (fun s h1 => goS T cl p b N V X s l l e h1) (fun k h => X k e h)) : W (exS T cl (.loop p it b) e h) N V X := by
  simp only [exS, W_on]
  refine E_mono ei (fun s h1 q => ?_) fun _ _ x => x
  have sl : s.len h1 = some l.length := by cases l <;> exact q.1.1
  rw [sl]
  simp only
  have key : ∀ (post pre : List Val) (e : En) (h : Hm), l = pre ++ post → goS T cl p b N V X s l post e h → W (forM' (fun v e h => match bindP p v e with | some e' => exS T cl b e' h | none => .bad) s l.length post.length e h) N V X := by
    intro post
    induction post with
    | nil =>
      intro pre e h ex i
      simp only [List.length_nil, forM', i.1.1, if_true, W]
      exact i.2
    | cons a post ih =>
      intro pre e h ex i
      simp only [List.length_cons, forM', i.1.1, if_true, i.1.2]
      have e1 : l.length - (post.length + 1) = pre.length := by rw [ex]; simp
      have e2 : l[pre.length]? = some a := by rw [ex]; simp
      rw [e1, e2]
      simp only
      have q := i.2
      cases hb : bindP p a e with
      | none => rw [hb] at q; exact q.elim
      | some e' =>
        rw [hb] at q
        simp only [OE] at q ⊢
        cases hr : exS T cl b e' h with
        | nx e2 h2 =>
          rw [hr] at q
          exact ih (pre ++ [a]) e2 h2 (by rw [ex]; simp) q
        | ct e2 h2 => rw [hr] at q; exact q.elim
        | bk e2 h2 => rw [hr] at q; exact q.elim
        | rt v h2 => rw [hr] at q; exact q
        | exc k e2 h2 => rw [hr] at q; exact q
        | bad => rw [hr] at q; exact q.elim
  exact key l [] e h1 rfl q
theorem cutM_drop {vs : List Val} {k : Nat} : cutM vs (some (k : Int)) none = vs.drop k := by
  unfold cutM
  rw [HT.sIx_none, HT.sIx_nat]
  by_cases h : k ≤ vs.length
  · rw [Nat.min_eq_left h, List.take_of_length_le (by simp)]
  · rw [Nat.min_eq_right (by omega), Nat.sub_self, List.take_zero, List.drop_eq_nil_of_le (by omega)]
theorem s_take {vs : List Val} {k : Int} {h : Hm} {Q : Val → Hm → Prop} {X : Nat → Hm → Prop} (h0 : 0 ≤ k) : E (slcM true (.lst .own vs) none (some k) h) Q X = Q (.lst .own (vs.take k.toNat)) h := by
  have := cutM_take (vs := vs) (k := k.toNat)
  rw [Int.toNat_of_nonneg h0] at this
  simp only [slcM, lo_lst, this]; rfl
theorem s_drop {vs : List Val} {k : Int} {h : Hm} {Q : Val → Hm → Prop} {X : Nat → Hm → Prop} (h0 : 0 ≤ k) : E (slcM true (.lst .own vs) (some k) none h) Q X = Q (.lst .own (vs.drop k.toNat)) h := by
  have := cutM_drop (vs := vs) (k := k.toNat)
  rw [Int.toNat_of_nonneg h0] at this
  simp only [slcM, lo_lst, this]; rfl
theorem s_dropR {i : Nat} {vs : List Val} {k : Int} {h : Hm} {Q : Val → Hm → Prop} {X : Nat → Hm → Prop} (e : h[i]? = some (.lst vs)) (h0 : 0 ≤ k) : E (slcM true (.ref i) (some k) none h) Q X = Q (.lst .own (vs.drop k.toNat)) h := by
  have := cutM_drop (vs := vs) (k := k.toNat)
  rw [Int.toNat_of_nonneg h0] at this
  simp only [slcM, lo_ref e, this]; rfl
theorem m_extend {i : Nat} {vs ws : List Val} {y : Val} {h : Hm} {Q : Val → Hm → Prop} {X : Nat → Hm → Prop} (e : h[i]? = some (.lst vs)) (c : catOf h y = some ws) (l : vs.length + ws.length ≤ big) : E (methM .extend (.ref i) [y] h) Q X = Q .non (h.set i (.lst (vs ++ ws))) := by
  simp only [methM, e, c, l, if_true]; rfl
end
end MP
set_option Elab.async false
set_option linter.all false
set_option maxRecDepth 100000
set_option autoImplicit false
namespace MP
open PySem L2
abbrev Sp := Option (Int × Int)
def firstsOf (sp : List Sp) : List (Option Int) := sp.map fun o => o.map (·.1)
def lastsOf (sp : List Sp) : List (Option Int) := sp.map fun o => o.map (·.2)
theorem VS.firsts {sp : List Sp} (v : VS sp) : VD 6 (firstsOf sp) := ⟨by simp [firstsOf, v.len], fun o m d e => by
  obtain ⟨x, mx, rfl⟩ := List.mem_map.mp m
  rcases x with _ | ⟨a, b⟩
  · cases e
  · cases e
    have := v.ok _ mx a b rfl
    show 0 ≤ a ∧ a ≤ 60
    omega⟩
theorem VS.lasts {sp : List Sp} (v : VS sp) : VD 6 (lastsOf sp) := ⟨by simp [lastsOf, v.len], fun o m d e => by
  obtain ⟨x, mx, rfl⟩ := List.mem_map.mp m
  rcases x with _ | ⟨a, b⟩
  · cases e
  · cases e
    have := v.ok _ mx a b rfl
    show 0 ≤ b ∧ b ≤ 60
    omega⟩
theorem encSp_non (o : Sp) : isM (encSp o) .non = some o.isNone := by
  rcases o with _ | ⟨a, b⟩ <;> rfl
/-- who is ahead -/
def aheadB (D : List (Option Int)) (one other : Int) : Bool := match rowAt D one, rowAt D other with
  | some a, some b => if a = b then decide (one < other) else decide (a < b)
  | _, _ => false
/-- all first days, and these with one last day each -/
def tryFrom (f : List (Option Int)) : Nat → List Sp → List (List (Option Int))
  | _, [] => []
  | k, none :: l => tryFrom f (k + 1) l
  | k, some (_, b) :: l => f.set k (some b) :: tryFrom f (k + 1) l
def tryRows (sp : List Sp) : List (List (Option Int)) := firstsOf sp :: tryFrom (firstsOf sp) 0 sp
def surelyB (ls : List Letter) (sp : List Sp) (one other : Int) : Bool := (tryRows sp).all fun d => aheadB (dues d ls) one other
/-- days within spans -/
def withinB : List Sp → List (Option Int) → Bool
  | [], [] => true
  | none :: s, none :: d => withinB s d
  | some (a, b) :: s, some x :: d => decide (a ≤ x) && decide (x ≤ b) && withinB s d
  | _, _ => false
def perhapsB (ls : List Letter) (sp : List Sp) (ds : List (Option Int)) (one other : Int) : Bool := withinB sp ds && !aheadB (dues ds ls) one other
def Pat2 (a b : List (Option Int)) : Prop := a.map (·.isSome) = b.map (·.isSome)
theorem Pat2.len {a b : List (Option Int)} (h : Pat2 a b) : a.length = b.length := by have := congrArg List.length h; simpa using this
theorem Pat2.at {a b : List (Option Int)} (h : Pat2 a b) (j : Int) : (rowAt a j).isSome = (rowAt b j).isSome := by
  unfold rowAt
  have := congrArg (·[j.toNat]?) h
  simp only [List.getElem?_map] at this
  cases q : a[j.toNat]? <;> cases r : b[j.toNat]? <;> rw [q, r] at this <;> simp at this ⊢
  exact this
theorem latest_isSome {row : List (Option Int)} (ne : row ≠ []) : (latest row).isSome = row.all (·.isSome) := by
  cases hs : row.all (·.isSome) with
  | false => rw [latest_none hs]; rfl
  | true =>
    obtain ⟨m, _, e⟩ := latest_max ne hs
    rw [e]; rfl
theorem dayOf_isSome {d e a b : List (Option Int)} (h : Pat2 d e) (q : Pat2 a b) (t : Term) : (dayOf d a t).isSome = (dayOf e b t).isSome := by
  cases t with
  | day x => rfl
  | when j x => simp [dayOf, h.at j]
  | after j x => simp [dayOf, q.at j]
theorem duesFrom_pat {d e : List (Option Int)} (h : Pat2 d e) : ∀ (ls : List Letter) (a b : List (Option Int)), Pat2 a b → (∀ l ∈ ls, l.terms ≠ []) → Pat2 (duesFrom d a ls) (duesFrom e b ls)
  | [], a, b, q, _ => q
  | l :: ls, a, b, q, ne => by
    unfold duesFrom
    refine duesFrom_pat h ls _ _ ?_ fun l m => ne l (List.mem_cons_of_mem _ m)
    have nl := ne l List.mem_cons_self
    unfold Pat2 at q ⊢
    rw [List.map_append, List.map_append, q]
    congr 1
    simp only [List.map_cons, List.map_nil, List.cons.injEq, and_true]
    rw [latest_isSome (by simpa using nl), latest_isSome (by simpa using nl), List.all_map, List.all_map]
    congr 1
    funext t
    exact dayOf_isSome h q t
theorem dues_pat {d e : List (Option Int)} (h : Pat2 d e) {ls : List Letter} (ok : ∀ (k : Nat) (l : Letter), ls[k]? = some l → VLet k l) : Pat2 (dues d ls) (dues e ls) :=
  duesFrom_pat h ls [] [] rfl fun l m z => by
    obtain ⟨i, hi, e⟩ := List.mem_iff_getElem.mp m
    have := (ok i l (by rw [List.getElem?_eq_getElem hi, e])).t1
    simp [z] at this
theorem within_pat : ∀ {sp : List Sp} {ds : List (Option Int)}, withinB sp ds = true → Pat2 ds (firstsOf sp)
  | [], [], _ => rfl
  | [], _ :: _, h => by simp [withinB] at h
  | none :: s, [], h => by simp [withinB] at h
  | some (a, b) :: s, [], h => by simp [withinB] at h
  | none :: s, none :: d, h => by
    have := within_pat (sp := s) (ds := d) (by simpa [withinB] using h)
    unfold Pat2 firstsOf at this ⊢
    simpa using this
  | none :: s, some x :: d, h => by simp [withinB] at h
  | some (a, b) :: s, none :: d, h => by simp [withinB] at h
  | some (a, b) :: s, some x :: d, h => by
    simp only [withinB, Bool.and_eq_true] at h
    have := within_pat (sp := s) (ds := d) h.2
    unfold Pat2 firstsOf at this ⊢
    simpa using this
theorem within_VD {sp : List Sp} {ds : List (Option Int)} (v : VS sp) (h : withinB sp ds = true) : VD 6 ds := by
  refine ⟨by have := (within_pat h).len; simp [firstsOf] at this; rw [this]; exact v.len, ?_⟩
  have key : ∀ (sp : List Sp) (ds : List (Option Int)), (∀ o ∈ sp, VS1 o) → withinB sp ds = true → ∀ o ∈ ds, VO o := by
    intro sp
    induction sp with
    | nil => intro ds _ h; cases ds <;> simp [withinB] at h ⊢
    | cons s sp ih =>
      intro ds vs h o m
      cases ds with
      | nil => simp at m
      | cons d ds =>
        rcases s with _ | ⟨a, b⟩
        · cases d with
          | none =>
            rw [List.mem_cons] at m
            rcases m with rfl | m
            · intro d e; cases e
            · exact ih ds (fun o m => vs o (List.mem_cons_of_mem _ m)) (by simpa [withinB] using h) o m
          | some x => simp [withinB] at h
        · cases d with
          | none => simp [withinB] at h
          | some x =>
            simp only [withinB, Bool.and_eq_true, decide_eq_true_eq] at h
            rw [List.mem_cons] at m
            rcases m with rfl | m
            · intro d e
              cases e
              have := vs _ List.mem_cons_self a b rfl
              omega
            · exact ih ds (fun o m => vs o (List.mem_cons_of_mem _ m)) h.2 o m
  exact key sp ds v.ok h
theorem set_pat {f : List (Option Int)} {k : Nat} {b : Int} (h : (f[k]?.getD none).isSome = true) : Pat2 (f.set k (some b)) f := by
  unfold Pat2
  rw [List.map_set]
  cases q : f[k]? with
  | none => rw [q] at h; cases h
  | some o =>
    rw [q] at h
    cases o with
    | none => cases h
    | some x =>
      apply List.ext_getElem?
      intro i
      by_cases hi : i = k
      · subst hi
        have lk : i < f.length := by
          by_cases l : i < f.length
          · exact l
          · rw [List.getElem?_eq_none (by omega)] at q; cases q
        rw [List.getElem?_set_self (by simpa using lk), List.getElem?_map, q]
        rfl
      · rw [List.getElem?_set_ne (Ne.symm hi)]
/-- each list to try -/
theorem try_ok {sp : List Sp} (v : VS sp) : ∀ d ∈ tryRows sp, VD 6 d ∧ Pat2 d (firstsOf sp) := by
  have key : ∀ (l : List Sp) (k : Nat), sp.drop k = l → ∀ d ∈ tryFrom (firstsOf sp) k l, VD 6 d ∧ Pat2 d (firstsOf sp) := by
    intro l
    induction l with
    | nil => intro k _ d m; simp [tryFrom] at m
    | cons o l ih =>
      intro k e d m
      have e2 : sp.drop (k + 1) = l := by
        have := congrArg List.tail e
        simpa [List.tail_drop] using this
      have e3 : sp[k]? = some o := by
        have := congrArg (·[0]?) e
        simpa using this
      rcases o with _ | ⟨a, b⟩
      · exact ih (k + 1) e2 d m
      · simp only [tryFrom, List.mem_cons] at m
        rcases m with rfl | m
        · have vo := v.ok _ (List.mem_of_getElem? e3) a b rfl
          refine ⟨⟨by rw [List.length_set]; exact v.firsts.len, fun o m => ?_⟩, set_pat ?_⟩
          · rcases List.mem_or_eq_of_mem_set m with m | m
            · exact v.firsts.ok o m
            · rw [m]; intro d e; cases e; omega
          · simp [firstsOf, e3]
        · exact ih (k + 1) e2 d m
  intro d m
  simp only [tryRows, List.mem_cons] at m
  rcases m with rfl | m
  · exact ⟨v.firsts, rfl⟩
  · exact key sp 0 rfl d m
theorem VS.of_ok {row : List Sp} (h : spansOk (encSs row) = true) : VS row := by
  simp only [encSs, spansOk, List.length_map, Bool.and_eq_true, decide_eq_true_eq, List.all_eq_true, List.mem_map, forall_exists_index, and_imp, forall_apply_eq_imp_iff₂] at h
  refine ⟨h.1, fun o m a b e => ?_⟩
  have := h.2 o m
  subst e
  simp [spanOrOk, encSp, spanOk, btw] at this
  omega
/-- a letter has a day by the first days -/
def hasDay (sp : List Sp) (ls : List Letter) (n : Int) : Prop := (rowAt (dues (firstsOf sp) ls) n).isSome = true
section
variable {T : Tab} {F : Nat → Option Fn} {n : Nat} {h : Hm}
theorem pf_firsts (e68 : F 68 = some cl68) {v : Val} {sp : List Sp} (hv : er v = encSs sp) : Pf (run T F (n + 1)) 68 [v] (encR (firstsOf sp)) := by
  obtain ⟨c, rfl⟩ := er_spans hv
  refine .of_v (clean_encR _) (e_run e68 rfl (by decide) ?_)
  simp only [cl68, ↓wq, wo, wl, List.replicate]
  refine e_compM (xs := sp) (g := encSp) (h1 := []) (fun o => encO (o.map (·.1))) (by simp only [↓wq, wo, wl]; exact ⟨stAt_stat _ _, trivial⟩) (fun o m => ?_) ?_
  · simp only [↓wq, wo, wl, Nat.reduceAdd, Nat.reduceLT, true_and, encSp_non]
    rcases o with _ | ⟨a, b⟩
    · simp only [Option.isNone, ↓wq, wo, wl]; exact ⟨rfl, trivial⟩
    · simp only [Option.isNone, ↓wq, wo, wl, encSp]; exact ⟨rfl, trivial⟩
  · simp only [wo, encR, firstsOf, List.map_map]; rfl
theorem rf_ends_of (e13 : F 13 = some c_ends_of) {v : Val} {sp : List Sp} {b : Bool} (hv : er v = encSs sp) : Rf (run T F (n + 1)) 13 [v, .bl b] ((if b then lastsOf sp else firstsOf sp).map encO) := by
  obtain ⟨c, rfl⟩ := er_spans hv
  refine .of (e_run e13 rfl (by decide) ?_)
  simp only [c_ends_of, ↓wq, wo, wl, List.replicate]
  refine e_compM (xs := sp) (g := encSp) (h1 := []) (fun o => encO (o.map fun p => if b then p.2 else p.1)) (by simp only [↓wq, wo, wl]; exact ⟨stAt_stat _ _, trivial⟩) (fun o m => ?_) ?_
  · simp only [↓wq, wo, wl, Nat.reduceAdd, Nat.reduceLT, true_and, encSp_non]
    rcases o with _ | ⟨x, y⟩
    · simp only [Option.isNone, ↓wq, wo, wl]; exact ⟨rfl, trivial⟩
    · cases b
      · simp only [Option.isNone, ↓wq, wo, wl, encSp, Bool.false_eq_true, if_false]; exact ⟨rfl, trivial⟩
      · simp only [Option.isNone, ↓wq, wo, wl, encSp, if_true]; exact ⟨rfl, trivial⟩
  · simp only [wo]
    refine ⟨0, rfl, ?_⟩
    cases b <;> simp [firstsOf, lastsOf]
theorem pf_ends_of (e13 : F 13 = some c_ends_of) {v : Val} {sp : List Sp} {b : Bool} (hv : er v = encSs sp) : Pf (run T F (n + 1)) 13 [v, .bl b] (encR (if b then lastsOf sp else firstsOf sp)) := (rf_ends_of e13 hv).pf (cleanL_map clean_encO _)
theorem rowAt_lt {D : List (Option Int)} {i : Int} (h : (rowAt D i).isSome = true) : i < D.length ∨ i < 0 := by
  unfold rowAt at h
  by_cases l : i.toNat < D.length
  · omega
  · rw [List.getElem?_eq_none (by omega)] at h; cases h
theorem pf_law_is_ahead (e75 : F 75 = some cl75) {v : Val} {D : List (Option Int)} {one other : Int} (hv : er v = encR D) (o0 : 0 ≤ one) (p0 : 0 ≤ other) (ho : (rowAt D one).isSome = true) (hp : (rowAt D other).isSome = true) : Pf (run T F (n + 1)) 75 [v, .int one, .int other] (.bl (aheadB D one other)) := by
  obtain ⟨c, rfl⟩ := er_row hv
  refine .of_v rfl (e_run e75 rfl (by decide) ?_)
  have q1 := encO_at (row := D) o0 ((rowAt_lt ho).resolve_right (by omega))
  have q2 := encO_at (row := D) p0 ((rowAt_lt hp).resolve_right (by omega))
  unfold aheadB
  cases r1 : rowAt D one with
  | none => rw [r1] at ho; cases ho
  | some a =>
    cases r2 : rowAt D other with
    | none => rw [r2] at hp; cases hp
    | some b =>
      rw [r1] at q1
      rw [r2] at q2
      simp only [cl75, ↓wq, wo, wl, List.replicate, q1, q2, encO_some]
      refine brV_if (fun t => ?_) fun t => ?_
      · simp at t; simp [t]
      · simp at t; simp [t]
theorem pf_is_ahead (e14 : F 14 = some c_is_ahead) {v : Val} {D : List (Option Int)} {one other : Int} (hv : er v = encR D) (o0 : 0 ≤ one) (p0 : 0 ≤ other) (ho : (rowAt D one).isSome = true) (hp : (rowAt D other).isSome = true) : Pf (run T F (n + 1)) 14 [v, .int one, .int other] (.bl (aheadB D one other)) := by
  have hb2 : (2 : Nat) ≤ big := by decide
  obtain ⟨c, rfl⟩ := er_row hv
  refine .of_v rfl (e_run e14 rfl (by decide) ?_)
  have q1 := encO_at (row := D) o0 ((rowAt_lt ho).resolve_right (by omega))
  have q2 := encO_at (row := D) p0 ((rowAt_lt hp).resolve_right (by omega))
  unfold aheadB
  cases r1 : rowAt D one with
  | none => rw [r1] at ho; cases ho
  | some a =>
    cases r2 : rowAt D other with
    | none => rw [r2] at hp; cases hp
    | some b =>
      rw [r1] at q1
      rw [r2] at q2
      simp only [c_is_ahead, ↓wq, wo, wl, List.replicate, q1, q2, encO_some, hb2, true_and, Nat.zero_add, Nat.reduceAdd]
      have lt : cmpM .lt [] (.tup [.int a, .int one]) (.tup [.int b, .int other]) = some (if a = b then decide (one < other) else decide (a < b)) := by
        simp only [cmpM, ordM, intsOf, lexL]
        by_cases e : a = b
        · by_cases e2 : one = other <;> simp [e, e2, lexL]
        · simp [e]
      rw [lt]
      rfl
theorem data_encSs' {v : Val} {sp : List Sp} (hv : er v = encSs sp) : closed v = true := closed_of hv (data_encSs sp)
/-- rows on the heap, behind a list of them -/
def tryHm (f : List (Option Int)) (rows : List (List (Option Int))) : Hm := .lst (encR f :: (List.range rows.length).map fun i => .ref (i + 1)) :: rows.map fun r => .lst (r.map encO)
theorem froz_try {f : List (Option Int)} {rows : List (List (Option Int))} : froz (tryHm f rows) (.ref 0) = some (.lst .own ((f :: rows).map encR)) := by
  simp only [froz, deep, follow, tryHm, List.getElem?_cons_zero]
  rw [deepL_of (ws := (f :: rows).map encR) (by simp) fun k v w e1 e2 => ?_]
  cases k with
  | zero =>
    cases e1; cases e2
    exact deep_closed _ (closed_encR f)
  | succ k =>
    rw [List.getElem?_cons_succ, List.getElem?_map] at e1
    rw [List.map_cons, List.getElem?_cons_succ, List.getElem?_map] at e2
    cases q : rows[k]? with
    | none => rw [q] at e2; cases e2
    | some r =>
      have lk := lt_of_getL q
      rw [List.getElem?_range lk] at e1
      rw [q] at e2
      cases e1; cases e2
      simp only [deep, follow, List.getElem?_cons_succ, List.getElem?_map, q, Option.map_some, deepL_closed _ closedL_row]
      rfl
theorem clean_rows (rows : List (List (Option Int))) : clean (.lst .own (rows.map encR)) = true := clean_map clean_encR
theorem tryFrom_split {f : List (Option Int)} : ∀ (a : List Sp) (k : Nat) (b : List Sp), tryFrom f k (a ++ b) = tryFrom f k a ++ tryFrom f (k + a.length) b
  | [], k, b => by simp [tryFrom]
  | none :: a, k, b => by
    simp only [List.cons_append, tryFrom, tryFrom_split a (k + 1) b, List.length_cons]
    rw [show k + 1 + a.length = k + (a.length + 1) by omega]
  | some (x, y) :: a, k, b => by
    simp only [List.cons_append, tryFrom, tryFrom_split a (k + 1) b, List.length_cons]
    rw [show k + 1 + a.length = k + (a.length + 1) by omega]
theorem tryFrom_len {f : List (Option Int)} : ∀ (a : List Sp) (k : Nat), (tryFrom f k a).length ≤ a.length
  | [], k => Nat.le_refl 0
  | none :: a, k => by have := tryFrom_len (f := f) a (k + 1); simp [tryFrom]; omega
  | some (x, y) :: a, k => by have := tryFrom_len (f := f) a (k + 1); simp [tryFrom]; omega
theorem pf_lists_to_try (e13 : F 13 = some c_ends_of) (e15 : F 15 = some c_lists_to_try) {v : Val} {sp : List Sp} (hv : er v = encSs sp) (len : sp.length ≤ 1000) : Pf (run T F (n + 2)) 15 [v] (.lst .own ((tryRows sp).map encR)) := by
  have hb1 : (1 : Nat) ≤ big := by decide
  have rf := rf_ends_of (T := T) (n := n) (b := false) e13 hv
  have cv := data_encSs' hv
  obtain ⟨c, rfl⟩ := er_spans hv
  refine .of_E (e_run e15 rfl (by decide) ?_) (clean_rows _)
  simp only [c_lists_to_try, ↓wq, wo, wl, List.replicate]
  refine e_pc (rf.pf (cleanL_map clean_encO _)) (by simp only [wc]) ?_
  simp only [wo, wl, hb1, Nat.reduceAdd, Nat.reduceLT, true_and, Nat.zero_add, Bool.false_eq_true, if_false] at rf ⊢
  have lf : (firstsOf sp).length = sp.length := by simp [firstsOf]
  generalize hf : firstsOf sp = f at rf lf
  refine w_for (xs := sp.zipIdx) (g := fun p => .tup [.int (p.2 : Nat), encSp p.1]) (fun pre e h => ∃ x2 x3 x4, e = [some (.lst c (sp.map encSp)), some (.ref 0), x2, x3, x4] ∧ h = tryHm f (tryFrom f 0 (pre.map (·.1)))) ?_ ?_ ?_
  · simp only [↓wq, wo, wl, isTup, true_and]
    exact ⟨fun h => stAt_enum (stAt_stat _ h), _, _, _, rfl, rfl⟩
  · rintro pre ⟨o, k⟩ post ex e h ⟨x2, x3, x4, rfl, rfl⟩
    obtain ⟨z1, z2, z3⟩ := zip_split ex
    simp only [↓wq, wo, wl, Nat.reduceAdd, Nat.reduceLT, true_and, encSp_non]
    have hp : (pre ++ [(o, k)]).map (·.1) = pre.map (·.1) ++ [o] := by simp
    rw [hp, tryFrom_split]
    have lp : (pre.map (·.1)).length = k := by simp [z1]
    rw [lp, Nat.zero_add]
    have lr := tryFrom_len (f := f) (pre.map (·.1)) 0
    rw [lp] at lr
    generalize tryFrom f 0 (pre.map (·.1)) = rows at lr
    rcases o with _ | ⟨a, b⟩
    · simp only [Option.isNone, Bool.not_true, wo]
      exact ⟨_, _, _, rfl, by simp [tryFrom]⟩
    · simp only [Option.isNone, Bool.not_false, wo]
      refine e_top (snapL_closed (by simp only [wc])) rf (cleanL_map clean_encO _) ?_
      simp only [wo, wl, encSp, Nat.reduceAdd, Nat.reduceLT, true_and]
      rw [set_lst (vs := f.map encO) get_last (by omega) (by rw [List.length_map, lf]; omega), set_last]
      have hk : (k : Int).toNat = k := by omega
      refine ⟨rfl, ?_⟩
      show E (methM .append (.ref 0) [.ref (tryHm f rows).length] ((Ob.lst _ :: rows.map fun r => Ob.lst (r.map encO)) ++ [_])) _ _
      rw [List.cons_append]
      refine e_app0 (by simp; unfold big; omega) ?_
      refine ⟨_, _, _, rfl, ?_⟩
      have lt : (tryHm f rows).length = rows.length + 1 := by simp [tryHm]
      simp only [lt, tryHm, tryFrom, List.length_append, List.length_cons, List.length_nil, List.range_succ, List.map_append, List.map_cons, List.map_nil, Nat.zero_add, List.cons_append, hk]
      rw [List.length_map, List.map_set]
      rfl
  · rintro e h ⟨x2, x3, x4, rfl, rfl⟩
    simp only [wo, wl]
    rw [froz_try]
    have : sp.zipIdx.map (·.1) = sp := by simp
    rw [this, tryRows, hf]
theorem withinB_len {sp : List Sp} {ds : List (Option Int)} (h : withinB sp ds = true) : sp.length = ds.length := by
  have := (within_pat h).len
  simp [firstsOf] at this
  exact this.symm
theorem zip_split2 {α β : Type} {a : List α} {b : List β} {pre post : List (α × β)} {x : α} {y : β} (e : a.zip b = pre ++ (x, y) :: post) : ∃ a' b', a.drop pre.length = x :: a' ∧ b.drop pre.length = y :: b' ∧ a.drop (pre.length + 1) = a' ∧ b.drop (pre.length + 1) = b' := by
  have h1 : (a.zip b)[pre.length]? = some (x, y) := by rw [e]; simp
  obtain ⟨q1, q2⟩ := List.getElem?_zip_eq_some.mp h1
  have l1 := lt_of_getL q1
  have l2 := lt_of_getL q2
  rw [List.getElem?_eq_getElem l1] at q1
  rw [List.getElem?_eq_getElem l2] at q2
  cases q1; cases q2
  exact ⟨_, _, List.drop_eq_getElem_cons l1, List.drop_eq_getElem_cons l2, rfl, rfl⟩
/-- one turn of a look at days within spans -/
theorem within_turn {sp : List Sp} {ds : List (Option Int)} {o : Sp} {x : Option Int} {k : Nat} {a' : List Sp} {b' : List (Option Int)} (h1 : sp.drop k = o :: a') (h2 : ds.drop k = x :: b') (inv : withinB (sp.drop k) (ds.drop k) = withinB sp ds) :
    (o.isNone = true ∧ x.isNone = true ∧ withinB a' b' = withinB sp ds) ∨ (o.isNone ≠ x.isNone ∧ withinB sp ds = false) ∨ (∃ a b y, o = some (a, b) ∧ x = some y ∧ ((a ≤ y ∧ y ≤ b ∧ withinB a' b' = withinB sp ds) ∨ (¬ (a ≤ y ∧ y ≤ b) ∧ withinB sp ds = false))) := by
  rw [h1, h2] at inv
  rcases o with _ | ⟨a, b⟩
  · cases x with
    | none => exact .inl ⟨rfl, rfl, by simpa [withinB] using inv⟩
    | some y => exact .inr (.inl ⟨by simp, by rw [← inv]; rfl⟩)
  · cases x with
    | none => exact .inr (.inl ⟨by simp, by rw [← inv]; rfl⟩)
    | some y =>
      refine .inr (.inr ⟨a, b, y, rfl, rfl, ?_⟩)
      by_cases c : a ≤ y ∧ y ≤ b
      · left
        refine ⟨c.1, c.2, ?_⟩
        rw [← inv]; simp [withinB, c.1, c.2]
      · right
        refine ⟨c, ?_⟩
        rw [← inv]
        simp only [withinB, Bool.and_eq_false_iff, decide_eq_false_iff_not]
        left
        by_cases c1 : a ≤ y
        · exact .inr fun c2 => c ⟨c1, c2⟩
        · exact .inl c1
theorem pf_within (e76 : F 76 = some cl76) {v d : Val} {sp : List Sp} {ds : List (Option Int)} (hv : er v = encSs sp) (hd : er d = encR ds) : Pf (run T F (n + 1)) 76 [v, d] (.bl (withinB sp ds)) := by
  obtain ⟨c, rfl⟩ := er_spans hv
  obtain ⟨c', rfl⟩ := er_row hd
  refine .of_v rfl (e_run e76 rfl (by decide) ?_)
  simp only [cl76, ↓wq, wo, wl, List.replicate, List.length_map]
  refine brV_if (fun t => ?_) fun t => ?_
  · have : withinB sp ds = false := by
      cases q : withinB sp ds with
      | false => rfl
      | true => have := withinB_len q; simp at t; omega
    rw [this]
  · have leq : sp.length = ds.length := by simp at t; omega
    refine w_for (xs := sp.zip ds) (g := fun p => .tup [encSp p.1, encO p.2]) (fun pre e h => ∃ x2 x3, e = [some (.lst c (sp.map encSp)), some (.lst c' (ds.map encO)), x2, x3] ∧ withinB (sp.drop pre.length) (ds.drop pre.length) = withinB sp ds) ?_ ?_ ?_
    · simp only [↓wq, wo, wl, zipM, isTup, if_true]
      exact ⟨fun h => stAt_zip (stAt_stat _ h) (stAt_stat _ h), _, _, rfl, rfl⟩
    · rintro pre ⟨o, x⟩ post ex e h ⟨x2, x3, rfl, inv⟩
      obtain ⟨a', b', h1, h2, h3, h4⟩ := zip_split2 ex
      simp only [↓wq, wo, wl, Nat.reduceAdd, Nat.reduceLT, true_and, encSp_non, encO_non, c_neb]
      have lp : (pre ++ [(o, x)]).length = pre.length + 1 := by simp
      rw [lp, h3, h4]
      rcases within_turn h1 h2 inv with ⟨z1, z2, z3⟩ | ⟨z1, z2⟩ | ⟨a, b, y, rfl, rfl, z⟩
      · rw [z1, z2]
        exact ⟨_, _, rfl, z3⟩
      · rw [brV_t (by simpa using z1), z2]
      · simp only [Option.isNone, encSp, encO, wo, map_not, oe_some]
        rcases z with ⟨c1, c2, z3⟩ | ⟨c1, z3⟩
        · show brV (.bl (decide (a ≤ y))) _ _
          rw [brV_t (by simpa using c1), brV_t (by simpa using c2)]
          exact ⟨_, _, rfl, z3⟩
        · show brV (.bl (decide (a ≤ y))) _ _
          refine brV_if (fun t => brV_if (fun t2 => ?_) fun t2 => ?_) fun t => ?_
          · simp at t t2; exact absurd ⟨t, t2⟩ c1
          · rw [z3]
          · rw [z3]
    · rintro e h ⟨x2, x3, rfl, inv⟩
      have lz : (sp.zip ds).length = sp.length := by rw [List.length_zip, leq]; simp
      rw [lz, List.drop_length, leq, List.drop_length] at inv
      rw [← inv]; rfl
theorem pf_surely_law (e53 : F 53 = some cl53) (e68 : F 68 = some cl68) (e75 : F 75 = some cl75) (e77 : F 77 = some cl77) {v s : Val} {ls : List Letter} {sp : List Sp} {one other : Int} (hv : er v = encLs ls) (hs : er s = encSs sp) (vs : VS sp) (vl : VL ls) (o0 : 0 ≤ one) (p0 : 0 ≤ other) (ho : hasDay sp ls one) (hp : hasDay sp ls other) :
    Pf (run T F (n + 2)) 77 [v, s, .int one, .int other] (.bl (surelyB ls sp one other)) := by
  have cs := data_encSs' hs
  have cv : closed v = true := closed_of hv (data_encLs _)
  have fo := pf_firsts (T := T) (n := n) e68 hs
  have ah : ∀ (d : List (Option Int)), d ∈ tryRows sp → Pf (run T F (n + 1)) 75 [encR (dues d ls), .int one, .int other] (.bl (aheadB (dues d ls) one other)) := fun d m => by
    have pt := dues_pat (try_ok vs d m).2 vl.ok
    exact pf_law_is_ahead (n := n) e75 er_encR' o0 p0 (by rw [pt.at]; exact ho) (by rw [pt.at]; exact hp)
  have du : ∀ (d : List (Option Int)) (w : Val), d ∈ tryRows sp → er w = encR d → Pf (run T F (n + 1)) 53 [v, w] (encR (dues d ls)) := fun d w m hw => by
    have vd := (try_ok vs d m).1
    exact pf_law_dues (n := n) e53 hv hw vd.len vd.nn vl.ok (by have := vl.l40; omega)
  obtain ⟨c, rfl⟩ := er_spans hs
  refine .of_v rfl (e_run e77 rfl (by decide) ?_)
  simp only [cl77, ↓wq, wo, wl, List.replicate]
  refine e_pc fo (by simp only [wc]) ?_
  simp only [wo, wl, Nat.reduceAdd, Nat.reduceLT, true_and]
  have m0 : firstsOf sp ∈ tryRows sp := by simp [tryRows]
  refine e_pc (du _ _ m0 er_encR') (by simp only [wc, wd, cv]) ?_
  refine e_pc (ah _ m0) (by simp only [wc, wd]) ?_
  refine brV_if (fun t0 => ?_) fun t0 => ?_
  · refine w_for (xs := sp.zipIdx) (g := fun p => .tup [.int (p.2 : Nat), encSp p.1]) (fun pre e h => ∃ x5 x6 x7, e = [some v, some (.lst c (sp.map encSp)), some (.int one), some (.int other), some (encR (firstsOf sp)), x5, x6, x7] ∧ (tryFrom (firstsOf sp) 0 (pre.map (·.1))).all (fun d => aheadB (dues d ls) one other) = true) ?_ ?_ ?_
    · simp only [↓wq, wo, wl, isTup, true_and]
      exact ⟨fun h => stAt_enum (stAt_stat _ h), _, _, _, rfl, rfl⟩
    · rintro pre ⟨o, k⟩ post ex e h ⟨x5, x6, x7, rfl, inv⟩
      obtain ⟨z1, z2, z3⟩ := zip_split ex
      simp only [↓wq, wo, wl, wd, Nat.reduceAdd, Nat.reduceLT, true_and, encSp_non, map_not, oe_some]
      have hpq : (pre ++ [(o, k)]).map (·.1) = pre.map (·.1) ++ [o] := by simp
      have lp : (pre.map (·.1)).length = k := by simp [z1]
      have es : sp = pre.map (·.1) ++ o :: post.map (·.1) := by
        have : sp = sp.zipIdx.map (·.1) := by simp
        rw [this, ex]; simp
      rw [hpq, tryFrom_split, lp, Nat.zero_add]
      rcases o with _ | ⟨a, b⟩
      · simp only [Option.isNone, Bool.not_true, wo]
        exact ⟨_, _, _, rfl, by simpa [tryFrom] using inv⟩
      · simp only [Option.isNone, Bool.not_false, wo]
        have md : (firstsOf sp).set k (some b) ∈ tryRows sp := by
          have : tryFrom (firstsOf sp) 0 sp = tryFrom (firstsOf sp) 0 (pre.map (·.1)) ++ tryFrom (firstsOf sp) k (some (a, b) :: post.map (·.1)) := by
            conv => lhs; arg 3; rw [es]
            rw [tryFrom_split, lp, Nat.zero_add]
          simp only [tryRows, List.mem_cons]
          right
          rw [this, List.mem_append]
          right
          simp [tryFrom]
        have lf : (firstsOf sp).length = sp.length := by simp [firstsOf]
        simp only [encSp, wo, wl]
        rw [set_lst (vs := (firstsOf sp).map encO) get_last (by omega) (by rw [List.length_map, lf]; omega), set_last]
        have hk : (k : Int).toNat = k := by omega
        have e5 : ((firstsOf sp).map encO).set (k : Int).toNat (.int b) = ((firstsOf sp).set k (some b)).map encO := by rw [hk, List.map_set]; rfl
        rw [e5]
        refine e_pur (snapL_cons (snap_closed cv) (snapL_cons (snap_flat get_last closedL_row) snapL_nil)) (du _ _ md er_encR') ?_
        refine e_pc (ah _ md) (by simp only [wc, wd]) ?_
        refine brV_if (fun t => ?_) fun t => ?_
        · refine ⟨_, _, _, rfl, ?_⟩
          rw [List.all_append, inv]
          simp [tryFrom, t]
        · have : surelyB ls sp one other = false := by
            unfold surelyB
            rw [List.all_eq_false]
            exact ⟨_, md, by simp [t]⟩
          rw [this]
    · rintro e h ⟨x5, x6, x7, rfl, inv⟩
      have : sp.zipIdx.map (·.1) = sp := by simp
      rw [this] at inv
      simp only [wo, surelyB, tryRows, List.all_cons, t0, inv, Bool.and_self]
  · simp [surelyB, tryRows, t0]
theorem pf_ahead_shows (e0 : F 0 = some c_day_of) (e1 : F 1 = some c_dues_of) (e13 : F 13 = some c_ends_of) (e14 : F 14 = some c_is_ahead) (e15 : F 15 = some c_lists_to_try) (e21 : F 21 = some c_Ahead_shows) {w v s : Val} {ls : List Letter} {sp : List Sp} {one other : Int} (cw : closed w = true) (hv : er v = encLs ls) (hs : er s = encSs sp) (vs : VS sp) (vl : VL ls) (o0 : 0 ≤ one) (p0 : 0 ≤ other) (ho : hasDay sp ls one) (hp : hasDay sp ls other) :
    Pf (run T F (n + 3)) 21 [w, v, s, .int one, .int other] (.bl (surelyB ls sp one other)) := by
  have cs := data_encSs' hs
  have cv : closed v = true := closed_of hv (data_encLs _)
  refine .of_v rfl (e_run e21 rfl (by decide) ?_)
  simp only [c_Ahead_shows, ↓wq, wo, wl, List.replicate]
  refine e_compM (xs := tryRows sp) (g := encR) (h1 := []) (fun d => .bl (aheadB (dues d ls) one other)) ?_ (fun d m => ?_) ?_
  · simp only [↓wq, wo, wl]
    refine e_pc (pf_lists_to_try (n := n) e13 e15 hs (by rw [vs.len]; omega)) (by simp only [wc, cs]) ?_
    exact ⟨stAt_stat _ _, rfl⟩
  · simp only [↓wq, wo, wl, Nat.reduceAdd, Nat.reduceLT, true_and]
    have q := try_ok vs d m
    have pt := dues_pat q.2 vl.ok
    refine e_pc (pf_dues_of (n := n) e0 e1 hv er_encR' q.1.len vl.ok (by have := vl.l40; omega)) (by simp only [wc, wd, cv]) ?_
    exact e_pc (pf_is_ahead (n := n + 1) e14 er_encR' o0 p0 (by rw [pt.at]; exact ho) (by rw [pt.at]; exact hp)) (by simp only [wc, wd]) ⟨rfl, rfl⟩
  · simp only [wo, bls_map, all_id, surelyB]
def oPer (c c' : Fz) (ds : List (Option Int)) : Val := .obj c 4 [1] [.lst c' (ds.map encO)]
theorem closed_oPer {c c' : Fz} {ds : List (Option Int)} : closed (oPer c c' ds) = true := by
  have : closed (.lst c' (ds.map encO)) = true := closed_row
  simp only [oPer, closed, closedL, this, Bool.and_self] at this ⊢
  simpa using this
theorem fld_oPer {h : Hm} {c c' : Fz} {ds : List (Option Int)} {Q : Val → Hm → Prop} {X : Nat → Hm → Prop} : E (fldM (oPer c c' ds) 1 h) Q X = Q (.lst c' (ds.map encO)) h := by
  rw [oPer, x_fld ins_obj, assoc0]; rfl
theorem pf_perhaps_shows (e0 : F 0 = some c_day_of) (e1 : F 1 = some c_dues_of) (e14 : F 14 = some c_is_ahead) (e23 : F 23 = some c_Perhaps_shows) {v s : Val} {ls : List Letter} {sp : List Sp} {ds : List (Option Int)} {one other : Int} {c c' : Fz} (hv : er v = encLs ls) (hs : er s = encSs sp) (vs : VS sp) (vl : VL ls) (o0 : 0 ≤ one) (p0 : 0 ≤ other) (ho : hasDay sp ls one) (hp : hasDay sp ls other) :
    Pf (run T F (n + 3)) 23 [oPer c c' ds, v, s, .int one, .int other] (.bl (perhapsB ls sp ds one other)) := by
  have cs := data_encSs' hs
  have cv : closed v = true := closed_of hv (data_encLs _)
  obtain ⟨c2, rfl⟩ := er_spans hs
  refine .of_v rfl (e_run e23 rfl (by decide) ?_)
  simp only [c_Perhaps_shows, ↓wq, wo, wl, List.replicate, List.length_map, fld_oPer]
  refine brV_if (fun t => ?_) fun t => ?_
  · have : withinB sp ds = false := by
      cases q : withinB sp ds with
      | false => rfl
      | true => have := withinB_len q; simp at t; omega
    simp [perhapsB, this]
  · have leq : sp.length = ds.length := by simp at t; omega
    refine w_for (xs := sp.zip ds) (g := fun p => .tup [encSp p.1, encO p.2]) (fun pre e h => ∃ x5 x6, e = [some (oPer c c' ds), some v, some (.lst c2 (sp.map encSp)), some (.int one), some (.int other), x5, x6] ∧ h = [] ∧ withinB (sp.drop pre.length) (ds.drop pre.length) = withinB sp ds) ?_ ?_ ?_
    · simp only [↓wq, wo, wl, fld_oPer, zipM, isTup, if_true]
      exact ⟨fun h => stAt_zip (stAt_stat _ h) (stAt_stat _ h), _, _, rfl, by trivial, rfl⟩
    · rintro pre ⟨o, x⟩ post ex e h ⟨x5, x6, rfl, rfl, inv⟩
      obtain ⟨a', b', h1, h2, h3, h4⟩ := zip_split2 ex
      simp only [↓wq, wo, wl, Nat.reduceAdd, Nat.reduceLT, true_and, encSp_non, encO_non, c_neb]
      have lp : (pre ++ [(o, x)]).length = pre.length + 1 := by simp
      rw [lp, h3, h4]
      rcases within_turn h1 h2 inv with ⟨z1, z2, z3⟩ | ⟨z1, z2⟩ | ⟨a, b, y, rfl, rfl, z⟩
      · rw [z1, z2]
        exact ⟨_, _, rfl, z3⟩
      · rw [brV_t (by simpa using z1)]
        simp [perhapsB, z2]
      · simp only [Option.isNone, encSp, encO, wo, map_not, oe_some]
        rcases z with ⟨c1, c3, z3⟩ | ⟨c1, z3⟩
        · show brV (.bl (decide (a ≤ y))) _ _
          rw [brV_t (by simpa using c1), brV_t (by simpa using c3)]
          exact ⟨_, _, rfl, z3⟩
        · show brV (.bl (decide (a ≤ y))) _ _
          refine brV_if (fun t => brV_if (fun t2 => ?_) fun t2 => ?_) fun t => ?_
          · simp at t t2; exact absurd ⟨t, t2⟩ c1
          · simp [perhapsB, z3]
          · simp [perhapsB, z3]
    · rintro e h ⟨x5, x6, rfl, rfl, inv⟩
      have lz : (sp.zip ds).length = sp.length := by rw [List.length_zip, leq]; simp
      rw [lz, List.drop_length, leq, List.drop_length] at inv
      have wt : withinB sp ds = true := by rw [← inv]; rfl
      have vd := within_VD vs wt
      have pt := dues_pat (within_pat wt) vl.ok
      simp only [wo, wl, fld_oPer]
      refine e_pc (pf_dues_of (n := n) e0 e1 hv er_encR' vd.len vl.ok (by have := vl.l40; omega)) (by simp only [wc, wd, cv]) ?_
      refine e_pc (pf_is_ahead (n := n + 1) e14 er_encR' o0 p0 (by rw [pt.at]; exact ho) (by rw [pt.at]; exact hp)) (by simp only [wc, wd]) ?_
      cases q : aheadB (dues ds ls) one other <;> simp [perhapsB, wt, q, brV]
theorem at3' {α : Type} {a b c : α} {i : Int} (h0 : 0 ≤ i) (h3 : i < 3) : atI [a, b, c] i = some (if i = 0 then a else if i = 1 then b else c) := by
  rcases (show i = 0 ∨ i = 1 ∨ i = 2 by omega) with rfl | rfl | rfl <;> rfl
theorem pf_spans (e46 : F 46 = some cl46) (e67 : F 67 = some cl67) {K : Nat} {ns : List Int} {by' wide : Int} (hK : 64 ≤ K) (hK2 : K ≤ 5000000) (l : ns.length ≤ 63) (b : ∀ z ∈ ns, Bd K z) (b0 : 0 ≤ by') (b1 : by' ≤ 100) (w0 : 0 ≤ wide) :
    ∃ sp, Pf (run T F (n + 2)) 67 [.lst .scr (ns.map .int), .int by', .int wide] (encSs sp) ∧ VS sp := by
  have hb2 : (2 : Nat) ≤ big := by decide
  have hb3 : (3 : Nat) ≤ big := by decide
  refine Pf.ex (fun sp => clean_map clean_encSp) (e_run e67 rfl (by decide) ?_)
  unfold cl67
  simp only []
  rw [s_seq, s_asg]
  refine e_cells hK l b rfl fun cs c => ?_
  have sb := (sum_bd c.bd c.le).mono (l := K + 63) (Nat.le_refl _)
  have wb : Bd (K + 64) (cs.sum + by') := sb.add (.lit _ (by omega) (by omega))
  simp only [↓wq, wo, wl, List.replicate, Nat.zero_le, true_and, Nat.reduceAdd, Nat.reduceLT, sum_ints]
  generalize cs.sum + by' = wh at wb
  obtain ⟨r, pr, _⟩ := pf_number (n := n) (T := T) (F := F) e46 (cell := wh) (at' := by' + 1) (whole := 3) (K := K + 64) (by omega) (by omega) wb (.lit _ (by omega) (by omega)) (.lit _ (by decide) (by omega))
  refine e_pc pr rfl ?_
  simp only [wo, wl, b_fdivL (j := 5760) (by decide), b_modL (j := 3) (by decide), Nat.reduceAdd, Nat.reduceLT, true_and]
  have k0 : 0 ≤ r / 5760 % 3 := Int.emod_nonneg _ (by decide)
  have k3 : r / 5760 % 3 < 3 := Int.emod_lt_of_pos _ (by decide)
  generalize r / 5760 % 3 = kind at k0 k3
  refine w_for (xs := List.range 6) (g := fun n => .int (n : Nat)) (fun pre e h => ∃ x7 x8 x9 x10, ∃ sp : List Sp, e = [some (.lst .scr (ns.map .int)), some (.int by'), some (.int wide), some (.lst .own (cs.map .int)), some (.int wh), some (.ref 0), some (.int kind), x7, x8, x9, x10] ∧ h = [.lst (sp.map encSp)] ∧ sp.length = pre.length ∧ ∀ o ∈ sp, VS1 o) ?_ ?_ ?_
  · simp only [↓wq, wo, wl]
    rw [rng1 (by omega) (by omega)]
    exact ⟨fun h => stAt_stat _ h, _, _, _, _, [], rfl, rfl, rfl, fun o e => by simp at e⟩
  · rintro pre m post ex e h ⟨x7, x8, x9, x10, sp, rfl, rfl, hl, ok⟩
    obtain ⟨z1, z2, z3⟩ := range_split ex
    simp only [↓wq, wo, wl, Nat.reduceAdd, Nat.reduceLT, true_and]
    have hp : (0 : Int) < ((cs.map Val.int).length : Nat) := by rw [List.length_map]; have := c.ne; omega
    rw [b_mod hp]
    obtain ⟨z, ez, bz⟩ := cell_at c ((m : Int) + by')
    simp only [wo, ez]
    rw [b_mulS (by decide) (by omega)]
    simp only [wo]
    obtain ⟨r2, pr2, _⟩ := pf_number (n := n) (T := T) (F := F) e46 (cell := z + 13 * m) (at' := m + by') (whole := wh) (K := K + 64) (by omega) (by omega) ((bz.mono (l := K + 63) (by omega)).add (.lit _ (by omega) (by omega))) (.lit20 _ (by omega) (by omega)) wb
    refine e_pc pr2 rfl ?_
    simp only [wo, wl, b_fdivL (j := 3) (by decide), b_fdivL (j := 61) (by decide), b_fdivL (j := 1000) (by decide), b_modL (j := 61) (by decide), b_modL (j := 3) (by decide), hb2, hb3, Nat.reduceAdd, Nat.reduceLT, true_and, Nat.zero_add]
    have w1 : 0 ≤ r2 / 3 / 61 % (wide + 1) := Int.emod_nonneg _ (by omega)
    rw [b_mod (by omega)]
    simp only [wo, wl, Nat.reduceAdd, Nat.reduceLT, true_and]
    refine ⟨rfl, ?_⟩
    have p1 : 0 ≤ r2 / 3 % 61 ∧ r2 / 3 % 61 < 61 := ⟨Int.emod_nonneg _ (by decide), Int.emod_lt_of_pos _ (by decide)⟩
    generalize r2 / 3 % 61 = da at p1
    generalize r2 / 3 / 61 % (wide + 1) = dw at w1
    generalize hq : (if da + dw < 60 then da + dw else 60) = db
    have p2 : da ≤ db ∧ db ≤ 60 := by rw [← hq]; split <;> omega
    have v1 : VS1 (some (da, db)) := fun x y e => by cases e; omega
    have v2 : VS1 (some (da, da)) := fun x y e => by cases e; omega
    have v3 : VS1 none := fun x y e => by cases e
    have lb : (sp.map encSp).length < big := by rw [List.length_map, hl]; unfold big; omega
    have fin : ∀ o, VS1 o → (sp ++ [o]).length = (pre ++ [m]).length ∧ ∀ o' ∈ sp ++ [o], VS1 o' := fun o vo => ⟨by simp [hl], fun o' m => by
      rw [List.mem_append] at m
      rcases m with m | m
      · exact ok o' m
      · simp at m; rw [m]; exact vo⟩
    refine E_pick (fun v h' => (v = encSp (some (da, db)) ∨ v = .non) ∧ h' = [.lst (sp.map encSp)]) (fun t => ?_) (fun t => ?_) ?_
    · simp only [↓wq, wo, wl, hb2, Nat.reduceAdd, Nat.zero_add, true_and]
      exact ⟨.inl rfl, by trivial⟩
    · rw [e_cst]
      exact ⟨.inr rfl, rfl⟩
    · rintro v h' ⟨hv, rfl⟩
      rw [at3' k0 k3, oe_some]
      have cs3 : ∃ o : Sp, VS1 o ∧ (if kind = 0 then Val.tup [.int da, .int db] else if kind = 1 then v else .tup [.int da, .int da]) = encSp o := by
        rcases (show kind = 0 ∨ kind = 1 ∨ kind = 2 by omega) with rfl | rfl | rfl
        · exact ⟨_, v1, rfl⟩
        · rcases hv with rfl | rfl
          · exact ⟨_, v1, rfl⟩
          · exact ⟨_, v3, rfl⟩
        · exact ⟨_, v2, rfl⟩
      obtain ⟨o, vo, eo⟩ := cs3
      rw [eo]
      exact e_app0 lb ⟨_, _, _, _, sp ++ [o], rfl, by simp, fin o vo⟩
  · rintro e h ⟨x7, x8, x9, x10, sp, rfl, rfl, hl, ok⟩
    simp only [wo, wl]
    exact ⟨sp, froz0 (closedL_map closed_encSp _), by rw [hl, List.length_range], ok⟩
structure PAns (h : Hm) (i j : Nat) (ds : List (Option Int)) : Prop where
  hi : h[i]? = some (.ins 4 [1] [.ref j])
  hj : h[j]? = some (.lst (ds.map encO))
theorem PAns.app {h : Hm} {i j : Nat} {ds : List (Option Int)} (a : PAns h i j ds) (t : Hm) : PAns (h ++ t) i j ds := ⟨get_app a.hi, get_app a.hj⟩
theorem PAns.mk' {h : Hm} {ds : List (Option Int)} : PAns (h ++ [.ins 4 [1] [.ref (h.length + 1)], .lst (ds.map encO)]) h.length (h.length + 1) ds :=
  ⟨by simp, by rw [List.getElem?_append_right (by omega)]; simp⟩
theorem PAns.snap {h : Hm} {i j : Nat} {ds : List (Option Int)} (a : PAns h i j ds) : MP.snap h (.ref i) = some (oPer .bor .bor ds) := by
  simp only [MP.snap, deep, follow, a.hi, deepL, a.hj, deepL_closed _ (closedL_row (row := ds))]
  rfl
theorem PAns.cls {h : Hm} {i j : Nat} {ds : List (Option Int)} (a : PAns h i j ds) : clsOf h (.ref i) = some 4 := by
  simp only [clsOf, insOf, a.hi]
theorem PAns.fld {h : Hm} {i j : Nat} {ds : List (Option Int)} (a : PAns h i j ds) {Q : Val → Hm → Prop} {X : Nat → Hm → Prop} : E (fldM (.ref i) 1 h) Q X = Q (.ref j) h := by
  rw [x_fld (ins_ref a.hi), assoc0]; rfl
structure FPer (T : Tab) (F : Nat → Option Fn) : Prop where
  e0 : F 0 = some c_day_of
  e1 : F 1 = some c_dues_of
  e13 : F 13 = some c_ends_of
  e14 : F 14 = some c_is_ahead
  e15 : F 15 = some c_lists_to_try
  e21 : F 21 = some c_Ahead_shows
  e22 : F 22 = some c_Perhaps___init__
  e23 : F 23 = some c_Perhaps_shows
  i3 : T.init 3 = none
  i4 : T.init 4 = some 22
  m3 : T.meth 3 0 = some 21
  m4 : T.meth 4 0 = some 23
theorem e_newP (f : FPer T F) {x : Val} {ds : List (Option Int)} {Q : Val → Hm → Prop} {X : Nat → Hm → Prop} (sx : ∀ o, seqOf (h ++ [o]) x = some (ds.map encO)) (q : Q (.ref h.length) (h ++ [.ins 4 [1] [.ref (h.length + 1)], .lst (ds.map encO)])) : E (newM T (run T F (n + 1)) 4 [x] h) Q X :=
  e_new1 f.i4 f.e22 rfl sx q
/-- Ahead, made and asked -/
theorem e_aheadN (f : FPer T F) {v s : Val} {ls : List Letter} {sp : List Sp} {one other : Int} {Q : Val → Hm → Prop} {X : Nat → Hm → Prop} (hv : er v = encLs ls) (hs : er s = encSs sp) (vs : VS sp) (vl : VL ls) (o0 : 0 ≤ one) (p0 : 0 ≤ other) (ho : hasDay sp ls one) (hp : hasDay sp ls other) (q : ∀ h', Q (.bl (surelyB ls sp one other)) h') :
    E (newM T (run T F (n + 3)) 3 [] h) (fun x h => OE (clsOf h x) fun k => OE (T.meth k 0) fun g => E (callM (run T F (n + 3)) .pur g [x, v, s, .int one, .int other] h) Q X) X := by
  have hn : newM T (run T F (n + 3)) 3 [] h = .ok (.ref h.length) (h ++ [.ins 3 [] []]) := by simp only [newM, f.i3]; rfl
  refine E_ok hn ?_
  have hc : clsOf (h ++ [.ins 3 [] []]) (.ref h.length) = some 3 := by simp [clsOf, insOf]
  have sn : snap (h ++ [.ins 3 [] []]) (.ref h.length) = some (.obj .bor 3 [] []) := by simp [snap, deep, follow, deepL]
  simp only [hc, OE, f.m3]
  exact e_pur (snapL_cons sn (snapL_cons (snap_closed (closed_of hv (data_encLs _))) (snapL_cons (snap_closed (data_encSs' hs)) (snapL_cons (snap_closed rfl) (snapL_cons (snap_closed rfl) snapL_nil))))) (pf_ahead_shows (n := n) f.e0 f.e1 f.e13 f.e14 f.e15 f.e21 rfl hv hs vs vl o0 p0 ho hp) (q _)
/-- Perhaps, made by hand and asked -/
theorem e_perN (f : FPer T F) {x v s : Val} {ls : List Letter} {sp : List Sp} {ds : List (Option Int)} {one other : Int} {Q : Val → Hm → Prop} {X : Nat → Hm → Prop} (sx : ∀ h, seqOf h x = some (ds.map encO)) (hv : er v = encLs ls) (hs : er s = encSs sp) (vs : VS sp) (vl : VL ls) (o0 : 0 ≤ one) (p0 : 0 ≤ other) (ho : hasDay sp ls one) (hp : hasDay sp ls other) (q : ∀ h', Q (.bl (perhapsB ls sp ds one other)) h') :
    E (newM T (run T F (n + 3)) 4 [x] h) (fun x h => OE (clsOf h x) fun k => OE (T.meth k 0) fun g => E (callM (run T F (n + 3)) .pur g [x, v, s, .int one, .int other] h) Q X) X := by
  refine e_newP (n := n + 2) f (fun o => sx _) ?_
  have A := PAns.mk' (h := h) (ds := ds)
  simp only [A.cls, OE, f.m4]
  exact e_pur (snapL_cons A.snap (snapL_cons (snap_closed (closed_of hv (data_encLs _))) (snapL_cons (snap_closed (data_encSs' hs)) (snapL_cons (snap_closed rfl) (snapL_cons (snap_closed rfl) snapL_nil))))) (pf_perhaps_shows (n := n) f.e0 f.e1 f.e14 f.e23 hv hs vs vl o0 p0 ho hp) (q _)
end
end MP
set_option Elab.async false
set_option linter.all false
set_option maxRecDepth 100000
set_option autoImplicit false
namespace MP
open PySem L2
/-- the first heir who isn't gone -/
def heirOf (hs : List Int) (gone : List (Option Int)) (d : Int) : Option Int := hs.find? fun p => match rowAt gone p with
  | none => true
  | some g => decide (g > d)
def idxOf (D : List (Option Int)) : List (Int × Int) := (D.zipIdx.filter fun p => p.1.isSome).map fun p => (p.1.getD 0, ((p.2 : Nat) : Int))
def heirsAt (ls : List Letter) (n : Int) : List Int := match ls[n.toNat]? with
  | some l => l.heirs
  | none => []
def encH (p : Int × Int × Option Int) : Val := .tup [.int p.1, .int p.2.1, encO p.2.2]
def give (ls : List Letter) (gone : List (Option Int)) (p : Int × Int) : Int × Int × Option Int := (p.1, p.2, heirOf (heirsAt ls p.2) gone p.1)
def handedOut (ls : List Letter) (days gone : List (Option Int)) : List (Int × Int × Option Int) := (sortP id (idxOf (dues days ls))).map (give ls gone)
theorem closed_encH (p : Int × Int × Option Int) : closed (encH p) = true := by
  simp only [encH, closed, closedL, closed_encO]; rfl
theorem clean_encH (p : Int × Int × Option Int) : clean (encH p) = true := by
  simp only [encH, clean, cleanL, clean_encO]; rfl
theorem er_encH' (p : Int × Int × Option Int) : er (encH p) = encH p := by
  simp only [encH, er, erL, er_encO']
theorem data_encH (p : Int × Int × Option Int) : isData 1 (encH p) = true := data_tup fun v m => by
  simp only [List.mem_cons, List.not_mem_nil, or_false] at m
  rcases m with rfl | rfl | rfl
  · rfl
  · rfl
  · exact data_encO _ _
def ltP (p q : Int × Int) : Prop := p.1 < q.1 ∨ (p.1 = q.1 ∧ p.2 < q.2)
theorem ltPr_iff {p q : Int × Int} : ltPr p q = true ↔ MP.ltP p q := by
  unfold ltPr MP.ltP
  split <;> simp <;> omega
theorem ltP_total {p q : Int × Int} (h : p ≠ q) (n : ¬ MP.ltP p q) : MP.ltP q p := by
  unfold MP.ltP at *
  have : ¬ (p.1 = q.1 ∧ p.2 = q.2) := fun e => h (Prod.ext e.1 e.2)
  omega
theorem ltP_trans {p q r : Int × Int} (a : MP.ltP p q) (b : MP.ltP q r) : MP.ltP p r := by
  unfold MP.ltP at *; omega
theorem ltP_irr {p : Int × Int} : ¬ MP.ltP p p := by unfold MP.ltP; omega
theorem insP_mem {x y : Int × Int} : ∀ {l : List (Int × Int)}, y ∈ insP id x l ↔ y = x ∨ y ∈ l
  | [] => by simp [insP]
  | a :: l => by
    unfold insP
    split
    · rw [List.mem_cons, insP_mem, List.mem_cons]
      constructor
      · rintro (h | h | h)
        · exact .inr (.inl h)
        · exact .inl h
        · exact .inr (.inr h)
      · rintro (h | h | h)
        · exact .inr (.inl h)
        · exact .inl h
        · exact .inr (.inr h)
    · rw [List.mem_cons]
theorem insQ_srt {x : Int × Int} : ∀ {l : List (Int × Int)}, l.Pairwise MP.ltP → x ∉ l → (insP id x l).Pairwise MP.ltP
  | [], _, _ => by simp [insP]
  | a :: l, h, n => by
    rw [List.pairwise_cons] at h
    rw [List.mem_cons, not_or] at n
    unfold insP
    split
    · rename_i c
      rw [List.pairwise_cons]
      refine ⟨fun y m => ?_, insQ_srt h.2 n.2⟩
      rcases insP_mem.mp m with rfl | m
      · exact ltPr_iff.mp c
      · exact h.1 y m
    · rename_i c
      have xa : MP.ltP x a := ltP_total (Ne.symm n.1) fun z => c (ltPr_iff.mpr z)
      rw [List.pairwise_cons]
      refine ⟨fun y m => ?_, List.pairwise_cons.mpr h⟩
      rw [List.mem_cons] at m
      rcases m with rfl | m
      · exact xa
      · exact ltP_trans xa (h.1 y m)
theorem sortP_mem {y : Int × Int} : ∀ {l : List (Int × Int)}, y ∈ sortP id l ↔ y ∈ l
  | [] => Iff.rfl
  | a :: l => by unfold sortP; rw [insP_mem, sortP_mem, List.mem_cons]
theorem sortP_srt' : ∀ {l : List (Int × Int)}, l.Nodup → (sortP id l).Pairwise MP.ltP
  | [], _ => by simp [sortP]
  | a :: l, h => by
    rw [List.nodup_cons] at h
    unfold sortP
    exact insQ_srt (sortP_srt' h.2) fun m => h.1 (sortP_mem.mp m)
theorem srt_ext : ∀ {l m : List (Int × Int)}, l.Pairwise MP.ltP → m.Pairwise MP.ltP → (∀ x, x ∈ l ↔ x ∈ m) → l = m
  | [], [], _, _, _ => rfl
  | [], b :: m, _, _, h => absurd ((h b).mpr List.mem_cons_self) (by simp)
  | a :: l, [], _, _, h => absurd ((h a).mp List.mem_cons_self) (by simp)
  | a :: l, b :: m, h1, h2, h => by
    rw [List.pairwise_cons] at h1 h2
    have e : a = b := by
      have x1 := (h a).mp List.mem_cons_self
      have x2 := (h b).mpr List.mem_cons_self
      rw [List.mem_cons] at x1 x2
      rcases x1 with x1 | x1
      · exact x1
      · rcases x2 with x2 | x2
        · exact x2.symm
        · exact absurd (ltP_trans (h1.1 b x2) (h2.1 a x1)) ltP_irr
    subst e
    congr 1
    refine srt_ext h1.2 h2.2 fun x => ?_
    have := h x
    rw [List.mem_cons, List.mem_cons] at this
    constructor
    · intro m'
      rcases this.mp (.inr m') with e | m
      · exact absurd (h1.1 x m') (by rw [e]; exact ltP_irr)
      · exact m
    · intro m'
      rcases this.mpr (.inr m') with e | m
      · exact absurd (h2.1 x m') (by rw [e]; exact ltP_irr)
      · exact m
theorem sortP_enc : ∀ l : List (Int × Int), sortP pairOf (l.map encP) = (sortP id l).map encP
  | [] => rfl
  | a :: l => by
    have ins : ∀ (x : Int × Int) (m : List (Int × Int)), insP pairOf (encP x) (m.map encP) = (insP id x m).map encP := by
      intro x m
      induction m with
      | nil => rfl
      | cons b m ih =>
        simp only [List.map_cons, insP, ih]
        have e : ltPr (pairOf (encP b)) (pairOf (encP x)) = ltPr (id b) (id x) := rfl
        rw [e]
        split <;> rfl
    simp only [List.map_cons, sortP, sortP_enc l, ins]
theorem sortM_enc (l : List (Int × Int)) : sortM (l.map encP) = some ((sortP id l).map encP) := by
  unfold sortM
  cases l with
  | nil => rfl
  | cons a l =>
    have h1 : intsOf ((a :: l).map encP) = none := rfl
    have h2 : ((a :: l).map encP).all isPair = true := by
      rw [List.all_map, List.all_eq_true]
      intro p _
      rfl
    rw [h1, ← sortP_enc]
    simp only [h2, if_true]
theorem idxOf_mem {D : List (Option Int)} {p : Int × Int} : p ∈ idxOf D ↔ 0 ≤ p.2 ∧ D[p.2.toNat]? = some (some p.1) := by
  unfold idxOf
  rw [List.mem_map]
  constructor
  · rintro ⟨⟨o, k⟩, m, rfl⟩
    obtain ⟨m1, m2⟩ := List.mem_filter.mp m
    have g := List.mk_mem_zipIdx_iff_getElem?.mp m1
    refine ⟨by simp only []; omega, ?_⟩
    simp only [Int.toNat_natCast, g]
    cases o with
    | none => simp at m2
    | some x => rfl
  · rintro ⟨h0, h⟩
    refine ⟨(some p.1, p.2.toNat), List.mem_filter.mpr ⟨List.mk_mem_zipIdx_iff_getElem?.mpr h, rfl⟩, ?_⟩
    exact Prod.ext rfl (by simp only []; omega)
theorem idxOf_nd (D : List (Option Int)) : (idxOf D).Nodup := by
  unfold idxOf
  have h1 : (D.zipIdx.filter fun p => p.1.isSome).Pairwise (fun p q => p.2 < q.2) := by
    refine List.Pairwise.filter _ ?_
    rw [List.pairwise_iff_getElem]
    intro i j hi hj lt
    simp only [List.getElem_zipIdx]
    omega
  refine List.pairwise_map.mpr (h1.imp fun l e => ?_)
  have := congrArg Prod.snd e
  simp only [] at this
  omega
/-- by days, each day's letters in turn -/
def orderOf (ls : List Letter) (D gone : List (Option Int)) : List (Int × Int × Option Int) :=
  (sortI (nubI (D.filterMap id))).flatMap fun d => ((D.zipIdx.filter fun p => decide (p.1 = some d)).map fun p => give ls gone (d, ((p.2 : Nat) : Int)))
theorem order_eq {ls : List Letter} {days gone : List (Option Int)} : handedOut ls days gone = orderOf ls (dues days ls) gone := by
  unfold handedOut orderOf
  generalize dues days ls = D
  have e : sortP id (idxOf D) = (sortI (nubI (D.filterMap id))).flatMap fun d => ((D.zipIdx.filter fun p => decide (p.1 = some d)).map fun p => (d, ((p.2 : Nat) : Int))) := by
    refine srt_ext (sortP_srt' (idxOf_nd D)) ?_ fun x => ?_
    · rw [List.pairwise_flatMap]
      constructor
      · intro d _
        refine List.pairwise_map.mpr ?_
        have h1 : (D.zipIdx.filter fun p => decide (p.1 = some d)).Pairwise (fun p q => p.2 < q.2) := by
          refine List.Pairwise.filter _ ?_
          rw [List.pairwise_iff_getElem]
          intro i j hi hj lt
          simp only [List.getElem_zipIdx]
          omega
        exact h1.imp fun l => .inr ⟨rfl, by simp only []; omega⟩
      · have h1 := sortI_sorted (nubI (D.filterMap id))
        have h2 : (sortI (nubI (D.filterMap id))).Nodup := (sortI_perm _).nodup_iff.mpr (nubI_nd _)
        refine (h1.and h2).imp fun {a b} h x mx y my => ?_
        obtain ⟨_, _, rfl⟩ := List.mem_map.mp mx
        obtain ⟨_, _, rfl⟩ := List.mem_map.mp my
        have := h.1
        have := h.2
        exact .inl (by simp only []; omega)
    · rw [sortP_mem, idxOf_mem, List.mem_flatMap]
      constructor
      · rintro ⟨h0, h⟩
        refine ⟨x.1, ?_, List.mem_map.mpr ⟨(some x.1, x.2.toNat), List.mem_filter.mpr ⟨List.mk_mem_zipIdx_iff_getElem?.mpr h, by simp⟩, Prod.ext rfl (by simp only []; omega)⟩⟩
        rw [(sortI_perm _).mem_iff, nubI_mem, List.mem_filterMap]
        exact ⟨some x.1, List.mem_of_getElem? h, rfl⟩
      · rintro ⟨d, _, m⟩
        obtain ⟨⟨o, k⟩, m2, rfl⟩ := List.mem_map.mp m
        obtain ⟨m3, m4⟩ := List.mem_filter.mp m2
        have g := List.mk_mem_zipIdx_iff_getElem?.mp m3
        simp only [decide_eq_true_eq] at m4
        refine ⟨by simp only []; omega, ?_⟩
        simp only [Int.toNat_natCast, g, m4]
  rw [e, List.map_flatMap]
  simp only [List.map_map]
  rfl
section
variable {T : Tab} {F : Nat → Option Fn} {n : Nat} {h : Hm}
theorem pf_heir_of (e24 : F 24 = some c_heir_of) {c c' : Fz} {hs : List Int} {gone : List (Option Int)} {d : Int} (lg : gone.length = 10) (hb : ∀ x ∈ hs, 0 ≤ x ∧ x ≤ 9) : Pf (run T F (n + 1)) 24 [.lst c (hs.map .int), .lst c' (gone.map encO), .int d] (encO (heirOf hs gone d)) := by
  refine .of_v (clean_encO _) (e_run e24 rfl (by decide) ?_)
  simp only [c_heir_of, ↓ws, wo, wl, List.replicate]
  refine w_for (xs := hs) (g := Val.int) (fun pre e h => ∃ x3, e = [some (.lst c (hs.map .int)), some (.lst c' (gone.map encO)), some (.int d), x3] ∧ heirOf (hs.drop pre.length) gone d = heirOf hs gone d) ?_ ?_ ?_
  · simp only [↓ws, wo, wl]
    exact ⟨fun h => stAt_stat _ h, _, rfl, rfl⟩
  · rintro pre p post ex e h ⟨x3, rfl, inv⟩
    have hp := hb p (by rw [ex]; simp)
    have ed : hs.drop pre.length = p :: post := by rw [ex]; simp
    have ed2 : hs.drop (pre ++ [p]).length = post := by rw [ex]; simp
    rw [ed] at inv
    simp only [↓ws, wo, wl, Nat.reduceAdd, Nat.reduceLT, true_and, encO_at (row := gone) hp.1 (by omega), encO_non]
    cases q : rowAt gone p with
    | none =>
      simp only [Option.isNone, wo]
      rw [← inv]
      simp [heirOf, q, encO]
    | some g =>
      simp only [Option.isNone, wo, encO]
      refine brV_if (fun t => ?_) fun t => ?_
      · rw [← inv]
        have : g > d := by simpa using t
        simp [heirOf, q, this, encO]
      · refine ⟨_, rfl, ?_⟩
        rw [ed2, ← inv]
        have : ¬ g > d := by simpa using t
        simp [heirOf, q, this]
  · rintro e h ⟨x3, rfl, inv⟩
    rw [List.drop_length] at inv
    simp only [wo, ← inv]
    rfl
theorem heir_at {xs : List LV} {i : Int} (h0 : 0 ≤ i) (h1 : i < xs.length) : ∃ c c' l, atI (xs.map gL) i = some (.tup [.lst c (l.heirs.map .int), .lst c' (l.terms.map encT)]) ∧ heirsAt (xs.map (·.2.2)) i = l.heirs ∧ (xs.map (·.2.2))[i.toNat]? = some l := by
  obtain ⟨c, c', l, e1, e2⟩ := lv_at (xs := xs) h0 h1
  exact ⟨c, c', l, e1, by simp only [heirsAt, e2], e2⟩
theorem rf_handed_out (e0 : F 0 = some c_day_of) (e1 : F 1 = some c_dues_of) (e9 : ∀ {n : Nat} {v d : Val}, isData 28 v = true → isData 28 d = true → Gate (run T F (n + 6)) 9 [v, d] (gDays v d)) (e2 : F 2 = some c_is_whole) (e3 : F 3 = some c_is_between) (e8 : F 8 = some c_are_days) (e24 : F 24 = some c_heir_of) (e25 : F 25 = some c_check_gone) (e26 : F 26 = some c_handed_out) {g d v : Val} {days gone : List (Option Int)} {ls : List Letter} (hv : er v = encLs ls) (hd : er d = encR days) (hg : er g = encR gone) (vd : VD 6 days) (vg : VD 10 gone) (vl : VL ls) :
    Rf (run T F (n + 7)) 26 [v, d, g] ((handedOut ls days gone).map encH) := by
  have hb2 : (2 : Nat) ≤ big := by decide
  have hb3 : (3 : Nat) ≤ big := by decide
  have dk : daysOk d 6 = true := daysOk_of (n := 6) hd vd
  have gk : daysOk g 10 = true := daysOk_of (n := 10) hg vg
  have gd : gDays v d = none := by unfold gDays; rw [if_pos (lettersOk_of hv vl), if_pos dk]
  have gg : gGone g = none := by unfold gGone; rw [if_pos gk]
  have dv := data_of (m := 28) hv (data_encLs ls) (by omega)
  have dd := data_of (m := 28) hd (data_encR days) (by omega)
  have dg := data_of (m := 28) hg (data_encR gone) (by omega)
  have cv := closed_data _ _ dv
  have cd := closed_data _ _ dd
  have cg := closed_data _ _ dg
  have du := pf_dues_of (T := T) (n := n + 4) e0 e1 hv hd vd.len vl.ok (by have := vl.l40; omega)
  obtain ⟨c2, vs, rfl, em⟩ := er_letters hv
  obtain ⟨c, rfl⟩ := er_row hd
  obtain ⟨c', rfl⟩ := er_row hg
  obtain ⟨xs, rfl, rfl⟩ := letters_list em
  refine .of (e_run e26 rfl (by decide) ?_)
  simp only [c_handed_out, ↓ws, wo, wl, List.replicate]
  refine e_gate (e9 dv dd) (by simp only [wc, cv, cd]) (fun _ => ?_) fun k o => by rw [gd] at o; cases o
  refine e_gate (ga_check_gone (n := n + 2) e2 e3 e8 e25 dg) (by simp only [wc]) (fun _ => ?_) fun k o => by rw [gg] at o; cases o
  refine e_pc du (by simp only [wc, cv]) ?_
  simp only [wo, wl, Nat.reduceAdd, Nat.reduceLT, true_and]
  unfold handedOut
  have lD : (dues days (xs.map (·.2.2))).length = xs.length := by rw [dues_len]; simp
  generalize dues days (xs.map (·.2.2)) = D at lD
  refine e_compF (xs := D.zipIdx) (g := fun p => .tup [.int (p.2 : Nat), encO p.1]) (h1 := []) (fun p => p.1.isSome) (fun p => encP (p.1.getD 0, ((p.2 : Nat) : Int))) (by simp only [↓ws, wo, wl, wd, encR, isTup, true_and]; exact ⟨stAt_enum (stAt_stat _ _), trivial⟩) (fun p mp => ?_) ?_
  · simp only [↓ws, wo, wl, Nat.reduceAdd, Nat.reduceLT, true_and, encO_non, hb2, Nat.zero_add]
    refine ⟨⟨?_, trivial⟩, fun t => ⟨?_, trivial⟩⟩
    · cases p.1 <;> rfl
    · cases q : p.1 with
      | none => rw [q] at t; cases t
      | some x => rfl
  · have ei : (D.zipIdx.filter fun p => p.1.isSome).map (fun p => encP (p.1.getD 0, ((p.2 : Nat) : Int))) = (idxOf D).map encP := by
      unfold idxOf
      rw [List.map_map]; rfl
    rw [ei]
    simp only [wo, sortM_enc, wl, Nat.reduceAdd, Nat.reduceLT, true_and]
    refine e_compM (xs := sortP id (idxOf D)) (g := encP) (h1 := []) (fun p => encH (give (xs.map (·.2.2)) gone p)) (by simp only [↓ws, wo, wl]; exact ⟨stAt_stat _ _, trivial⟩) (fun p mp => ?_) ?_
    · obtain ⟨p0, p1⟩ := idxOf_mem.mp (sortP_mem.mp mp)
      have lp := lt_of_getL p1
      obtain ⟨c3, c4, l, ea, eh, el⟩ := heir_at (xs := xs) p0 (by omega)
      simp only [encP, ↓ws, wo, wl, Nat.reduceAdd, Nat.reduceLT, true_and, ea]
      refine e_pc (pf_heir_of (n := n + 5) e24 vg.len (vl.ok _ _ el).hb) (by simp only [wc]) ?_
      simp only [hb3, Nat.zero_add, Nat.reduceAdd, true_and, encH, give, eh]
    · simp only [wo]
      exact ⟨0, rfl, by simp⟩
end
end MP
set_option Elab.async false
set_option linter.all false
set_option maxRecDepth 100000
set_option autoImplicit false
namespace MP
open PySem L2
structure KS where
  ls : List Letter
  ov : List (Nat × Bool)
  days : List (Option Int)
  gone : List (Option Int)
  now : Int
def kks (s : KS) : List MKey := s.ov.map fun p => .inl ((p.1 : Nat) : Int)
def kvs (s : KS) : List Val := s.ov.map fun p => .bl p.2
/-- a keeper on the heap: at a, its lists beside -/
structure KL (h : Hm) (a : Nat) (s : KS) : Prop where
  i : h[a]? = some (.ins 5 [2, 3, 1, 4, 5] [.ref (a + 1), .ref (a + 2), .ref (a + 4), .ref (a + 6), .int s.now])
  l : h[a + 1]? = some (.lst (s.ls.map encL))
  o : h[a + 2]? = some (.dct (kks s) (kvs s))
  d : h[a + 4]? = some (.lst (s.days.map encO))
  g : h[a + 6]? = some (.lst (s.gone.map encO))
/-- a keeper as it is seen -/
def oKp (s : KS) : Val := .obj .bor 5 [2, 3, 1, 4, 5] [.lst .bor (s.ls.map encL), .dct .bor (kks s) (kvs s), .lst .bor (s.days.map encO), .lst .bor (s.gone.map encO), .int s.now]
theorem closedL_encLs (ls : List Letter) : closedL (ls.map encL) = true := closedL_map closed_encL _
theorem closedL_kvs (s : KS) : closedL (kvs s) = true := closedL_map (fun _ => rfl) _
theorem KL.snap {h : Hm} {a : Nat} {s : KS} (k : KL h a s) : MP.snap h (.ref a) = some (oKp s) := by
  simp only [MP.snap, deep, deepL, follow, k.i, k.l, k.o, k.d, k.g, deepL_closed _ (closedL_encLs s.ls), deepL_closed _ (closedL_kvs s), deepL_closed _ (closedL_row (row := s.days)), deepL_closed _ (closedL_row (row := s.gone)), oKp]
theorem KL.app {h : Hm} {a : Nat} {s : KS} (k : KL h a s) (t : Hm) : KL (h ++ t) a s := ⟨get_app k.i, get_app k.l, get_app k.o, get_app k.d, get_app k.g⟩
theorem KL.set_l {h : Hm} {a : Nat} {s : KS} (k : KL h a s) (ls : List Letter) : KL (h.set (a + 1) (.lst (ls.map encL))) a { s with ls := ls } :=
  ⟨get_set k.i (by omega), get_set_self k.l, get_set k.o (by omega), get_set k.d (by omega), get_set k.g (by omega)⟩
theorem KL.set_o {h : Hm} {a : Nat} {s s' : KS} (k : KL h a s) (e : s' = { s with ov := s'.ov }) : KL (h.set (a + 2) (.dct (kks s') (kvs s'))) a s' := by
  have e1 : s'.now = s.now := by rw [e]
  have e2 : s'.ls = s.ls := by rw [e]
  have e3 : s'.days = s.days := by rw [e]
  have e4 : s'.gone = s.gone := by rw [e]
  refine ⟨by rw [e1]; exact get_set k.i (by omega), by rw [e2]; exact get_set k.l (by omega), get_set_self k.o, by rw [e3]; exact get_set k.d (by omega), by rw [e4]; exact get_set k.g (by omega)⟩
theorem KL.set_d {h : Hm} {a : Nat} {s : KS} (k : KL h a s) (ds : List (Option Int)) : KL (h.set (a + 4) (.lst (ds.map encO))) a { s with days := ds } :=
  ⟨get_set k.i (by omega), get_set k.l (by omega), get_set k.o (by omega), get_set_self k.d, get_set k.g (by omega)⟩
theorem KL.set_g {h : Hm} {a : Nat} {s : KS} (k : KL h a s) (ds : List (Option Int)) : KL (h.set (a + 6) (.lst (ds.map encO))) a { s with gone := ds } :=
  ⟨get_set k.i (by omega), get_set k.l (by omega), get_set k.o (by omega), get_set k.d (by omega), get_set_self k.g⟩
def kIns (a : Nat) (now : Int) : Ob := .ins 5 [2, 3, 1, 4, 5] [.ref (a + 1), .ref (a + 2), .ref (a + 4), .ref (a + 6), .int now]
theorem KL.set_n {h : Hm} {a : Nat} {s : KS} (k : KL h a s) (n : Int) : KL (h.set a (kIns a n)) a { s with now := n } :=
  ⟨get_set_self k.i, get_set k.l (by omega), get_set k.o (by omega), get_set k.d (by omega), get_set k.g (by omega)⟩
structure FKp (T : Tab) (F : Nat → Option Fn) : Prop where
  e0 : F 0 = some c_day_of
  e2 : F 2 = some c_is_whole
  e3 : F 3 = some c_is_between
  e4 : F 4 = some c_are_heirs
  e5 : F 5 = some c_is_term
  e6 : F 6 = some c_is_letter
  e24 : F 24 = some c_heir_of
  e31 : F 31 = some c_Keeper___init__
  e32 : F 32 = some c_Keeper_copied
  e33 : F 33 = some c_Keeper_put
  e37 : F 37 = some c_Keeper_tell
  e39 : F 39 = some c_Keeper_noted
  e40 : F 40 = some c_Keeper_due_by_now
  e41 : F 41 = some c_Keeper_hand
  e42 : F 42 = some c_Keeper_pass_day
  e43 : F 43 = some c_Keeper_kept
  i5 : T.init 5 = some 31
  m1 : T.meth 5 1 = some 32
  m2 : T.meth 5 2 = some 33
  m6 : T.meth 5 6 = some 37
  m8 : T.meth 5 8 = some 39
  m9 : T.meth 5 9 = some 40
  m10 : T.meth 5 10 = some 41
  m11 : T.meth 5 11 = some 42
  m12 : T.meth 5 12 = some 43
theorem setA {h t : Hm} {i : Nat} {o : Ob} : (h ++ t).set (h.length + i) o = h ++ t.set i o := by
  rw [List.set_append_right _ _ (by omega), Nat.add_sub_cancel_left]
theorem setA0 {h t : Hm} {o : Ob} : (h ++ t).set h.length o = h ++ t.set 0 o := setA (i := 0)
theorem getA {h t : Hm} {i : Nat} : (h ++ t)[h.length + i]? = t[i]? := by
  rw [List.getElem?_append_right (by omega), Nat.add_sub_cancel_left]
theorem getA0 {h t : Hm} : (h ++ t)[h.length]? = t[0]? := getA (i := 0)
theorem lenA {h t : Hm} : (h ++ t).length = h.length + t.length := List.length_append
theorem set_insA {h t : Hm} {k f : Nat} {fs : List Nat} {vs : List Val} {v : Val} {Q : Hm → Prop} (e : t[0]? = some (.ins k fs vs)) (l : fs.length = vs.length ∧ fs.length < 900) : OE (setFM (.ref h.length) f v (h ++ t)) Q = Q (h ++ t.set 0 (.ins k (assocPut fs vs f v).1 (assocPut fs vs f v).2)) := by
  rw [set_ins (h := h ++ t) (by rw [getA0]; exact e) l, setA0]
theorem b_mulR {h : Hm} {z : Bool} {i : Nat} {vs : List Val} {k : Int} {Q : Val → Hm → Prop} {X : Nat → Hm → Prop} (e : h[i]? = some (.lst vs)) (l : 0 ≤ k ∧ k ≤ 1000000 ∧ vs.length * k.toNat ≤ big) : E (binM z .mul (.ref i) (.int k) h) Q X = E (mkL z (repL k.toNat vs) h) Q X := by
  have c : catOf h (.ref i) = some vs := by simp only [catOf, e]
  simp only [binM, c, if_pos l]
theorem zero_le_big : (0 : Nat) ≤ big := by decide
theorem one_le_big : (1 : Nat) ≤ big := by decide
section
variable {T : Tab} {F : Nat → Option Fn} {n : Nat} {h : Hm}
def keeper0 : KS := ⟨[], [], List.replicate 6 none, List.replicate 10 none, 0⟩
def kcells (a : Nat) : Hm := [kIns a 0, .lst [], .dct [] [], .lst [.non], .lst (List.replicate 6 .non), .lst [.non], .lst (List.replicate 10 .non)]
theorem KL.new : KL (h ++ kcells h.length) h.length keeper0 :=
  ⟨by rw [getA0]; rfl, by rw [getA]; rfl, by rw [getA]; rfl, by rw [getA]; rfl, by rw [getA]; rfl⟩
theorem e_newK (f : FKp T F) {Q : Val → Hm → Prop} {X : Nat → Hm → Prop} (q : Q (.ref h.length) (h ++ kcells h.length)) : E (newM T (run T F (n + 1)) 5 [] h) Q X := by
  have r : run T F (n + 1) 31 [.ref h.length] (h ++ [.ins 5 [] []]) = .ok .non (h ++ kcells h.length) := by
    refine ok_of_E (e_run f.e31 rfl (by decide) ?_)
    simp only [c_Keeper___init__, ↓wq, wo, wl, List.replicate]
    simp only [List.append_assoc, lenA, List.cons_append, List.nil_append, List.length_cons, List.length_nil, Nat.zero_add, zero_le_big, true_and, one_le_big]
    rw [set_insA (k := 5) (fs := []) (vs := []) rfl (by decide)]
    simp only [List.append_assoc, lenA, List.cons_append, List.nil_append, List.set_cons_zero, List.length_cons, List.length_nil, Nat.zero_add]
    refine ⟨by decide, ?_⟩
    rw [set_insA (k := 5) (fs := [2]) rfl (by simp [assocPut])]
    simp only [List.append_assoc, lenA, List.cons_append, List.nil_append, List.set_cons_zero, List.length_cons, List.length_nil, Nat.zero_add]
    rw [b_mulR (vs := [.non]) (by rw [getA]; rfl) (by decide)]
    simp only [mk_f, List.append_assoc, lenA, List.cons_append, List.nil_append, List.set_cons_zero, List.length_cons, List.length_nil, Nat.zero_add]
    rw [set_insA (k := 5) (fs := [2, 3]) rfl (by simp [assocPut])]
    simp only [List.append_assoc, lenA, List.cons_append, List.nil_append, List.set_cons_zero, List.length_cons, List.length_nil, Nat.zero_add]
    rw [b_mulR (vs := [.non]) (by rw [getA]; rfl) (by decide)]
    simp only [mk_f, List.append_assoc, lenA, List.cons_append, List.nil_append, List.set_cons_zero, List.length_cons, List.length_nil, Nat.zero_add]
    rw [set_insA (k := 5) (fs := [2, 3, 1]) rfl (by simp [assocPut])]
    simp only [List.set_cons_zero]
    rw [set_insA (k := 5) (fs := [2, 3, 1, 4]) rfl (by simp [assocPut])]
    rfl
  simp only [newM, f.i5]
  rw [r]
  exact q
theorem pf_copied (f : FKp T F) {w v : Val} {k : Int} {l : Letter} (cw : closed w = true) (e : er v = encL l) (q : VLet k l) : Pf (run T F (n + 5)) 32 [w, v, .int k] (encL l) := by
  obtain ⟨c, c', rfl⟩ := er_letter e
  refine .of_v (clean_encL l) (e_run f.e32 rfl (by decide) ?_)
  simp only [c_Keeper_copied, ↓ws, wo, wl, List.replicate]
  have d : isData 27 (.tup [.lst c (l.heirs.map .int), .lst c' (l.terms.map encT)]) = true := data_of e (data_encL l) (by omega)
  refine e_pc (pf_is_letter (n := n) f.e2 f.e3 f.e4 f.e5 f.e6 d) (by simp only [closedL, closed_of e (data_encL l), wc]) ?_
  rw [letterOk_of e q]
  simp only [wo, ↓ws, Bool.not_true, wl, Nat.reduceAdd]
  exact ⟨by decide, rfl⟩
theorem kIns_eq (a : Nat) (now : Int) : kIns a now = .ins 5 [2, 3, 1, 4, 5] [.ref (a + 1), .ref (a + 2), .ref (a + 4), .ref (a + 6), .int now] := rfl
theorem fld_l {a : Nat} {s : KS} (k : KL h a s) {Q : Val → Hm → Prop} {X : Nat → Hm → Prop} : E (fldM (.ref a) 2 h) Q X = Q (.ref (a + 1)) h := by rw [x_fld (ins_ref k.i)]; rfl
theorem fld_o {a : Nat} {s : KS} (k : KL h a s) {Q : Val → Hm → Prop} {X : Nat → Hm → Prop} : E (fldM (.ref a) 3 h) Q X = Q (.ref (a + 2)) h := by rw [x_fld (ins_ref k.i)]; rfl
theorem fld_d {a : Nat} {s : KS} (k : KL h a s) {Q : Val → Hm → Prop} {X : Nat → Hm → Prop} : E (fldM (.ref a) 1 h) Q X = Q (.ref (a + 4)) h := by rw [x_fld (ins_ref k.i)]; rfl
theorem fld_g {a : Nat} {s : KS} (k : KL h a s) {Q : Val → Hm → Prop} {X : Nat → Hm → Prop} : E (fldM (.ref a) 4 h) Q X = Q (.ref (a + 6)) h := by rw [x_fld (ins_ref k.i)]; rfl
theorem fld_n {a : Nat} {s : KS} (k : KL h a s) {Q : Val → Hm → Prop} {X : Nat → Hm → Prop} : E (fldM (.ref a) 5 h) Q X = Q (.int s.now) h := by rw [x_fld (ins_ref k.i)]; rfl
theorem fld_ol {s : KS} {Q : Val → Hm → Prop} {X : Nat → Hm → Prop} : E (fldM (oKp s) 2 h) Q X = Q (.lst .bor (s.ls.map encL)) h := by rw [oKp, x_fld ins_obj]; rfl
theorem fld_oo {s : KS} {Q : Val → Hm → Prop} {X : Nat → Hm → Prop} : E (fldM (oKp s) 3 h) Q X = Q (.dct .bor (kks s) (kvs s)) h := by rw [oKp, x_fld ins_obj]; rfl
theorem fld_od {s : KS} {Q : Val → Hm → Prop} {X : Nat → Hm → Prop} : E (fldM (oKp s) 1 h) Q X = Q (.lst .bor (s.days.map encO)) h := by rw [oKp, x_fld ins_obj]; rfl
theorem KL.cls {a : Nat} {s : KS} (k : KL h a s) : clsOf h (.ref a) = some 5 := by
  simp only [clsOf, ins_ref k.i]
theorem closed_oKp (s : KS) : closed (oKp s) = true := by
  simp only [oKp, closed, closedL, closedL_encLs, closedL_kvs, closedL_row, Bool.and_self]
/-- a letter comes -/
theorem e_put (f : FKp T F) {a : Nat} {s : KS} {v w : Val} {l : Letter} {Q : Val → Hm → Prop} {X : Nat → Hm → Prop} (k : KL h a s) (sv : snap h v = some w) (e : er w = encL l) (q : VLet s.ls.length l) (lt : s.ls.length < 40)
    (r : Q (.int s.ls.length) (h.set (a + 1) (.lst ((s.ls ++ [l]).map encL)))) : E (run T F (n + 6) 33 [.ref a, v] h) Q X := by
  refine e_run f.e33 rfl (by decide) ?_
  have sl : seqOf h (.ref (a + 1)) = some (s.ls.map encL) := so_ref k.l
  simp only [c_Keeper_put, ↓ws, wo, wl, List.replicate, k.cls, f.m1, fld_l k, sl, List.length_map]
  refine e_pur (snapL_cons k.snap (snapL_cons sv (snapL_cons (snap_closed rfl) snapL_nil))) (pf_copied (n := n) f (closed_oKp s) e q) ?_
  simp only [wl, wo, ↓ws, fld_l k, sl, List.length_map]
  refine ⟨by decide, ?_⟩
  rw [brV_f (by simp; omega)]
  refine ⟨by simp only [methK, lstOf, k.l]; rfl, ?_⟩
  rw [m_append k.l (by rw [List.length_map]; unfold big; omega)]
  have e2 : s.ls.map encL ++ [encL l] = (s.ls ++ [l]).map encL := by simp
  rw [e2]
  have k2 := k.set_l (s.ls ++ [l])
  simp only [fld_l k2, so_ref k2.l, wo]
  have e3 : (((s.ls ++ [l]).map encL).length : Int) - 1 = s.ls.length := by simp
  rw [e3]
  exact r
theorem e_pass (f : FKp T F) {a : Nat} {s : KS} {Q : Val → Hm → Prop} {X : Nat → Hm → Prop} (k : KL h a s) (r : Q (.int (s.now + 1)) (h.set a (kIns a (s.now + 1)))) : E (run T F (n + 1) 42 [.ref a] h) Q X := by
  refine e_run f.e42 rfl (by decide) ?_
  simp only [c_Keeper_pass_day, ↓ws, wo, wl, List.replicate, fld_n k]
  refine ⟨trivial, ?_⟩
  rw [set_ins k.i (by simp)]
  have k2 := k.set_n (s.now + 1)
  exact (fld_n k2).mpr r
theorem c_nin_dct {c : Fz} {ks : List MKey} {vs : List Val} {i : Int} : cmpM .nin h (.int i) (.dct c ks vs) = some (!(ks.any fun q => decide (q = .inl i))) := rfl
theorem any_kks {s : KS} {i : Nat} : ((kks s).any fun q => decide (q = .inl (i : Int))) = s.ov.any fun p => p.1 == i := by
  unfold kks
  rw [List.any_map]
  congr 1
  funext p
  simp only [Function.comp]
  rw [Bool.eq_iff_iff]
  simp only [decide_eq_true_eq, beq_iff_eq, Sum.inl.injEq]
  omega
theorem pf_kept (f : FKp T F) {s : KS} (lt : s.ls.length ≤ 40) : Pf (run T F (n + 1)) 43 [oKp s] (.lst .own (((List.range s.ls.length).filter fun i => !(s.ov.any fun p => p.1 == i)).map fun i => .int ((i : Nat) : Int))) := by
  refine .of_v (clean_map (fun _ => rfl)) (e_run f.e43 rfl (by decide) ?_)
  simp only [c_Keeper_kept, ↓ws, wo, wl, List.replicate]
  refine e_compF (xs := List.range s.ls.length) (g := fun i => .int ((i : Nat) : Int)) (h1 := []) (fun i => !(s.ov.any fun p => p.1 == i)) (fun i => .int ((i : Nat) : Int)) ?_ (fun i m => ?_) ?_
  · simp only [↓ws, wo, wl, fld_ol, List.length_map]
    rw [rng1 (by omega) (by omega), Int.toNat_natCast]
    exact ⟨stAt_stat _ _, trivial⟩
  · simp only [↓ws, wo, wl, fld_oo, Nat.reduceAdd, Nat.reduceLT, true_and, c_nin_dct]
    refine ⟨⟨?_, trivial⟩, fun _ => trivial⟩
    rw [any_kks]
  · simp only [wo]
/-- what `noted` says -/
theorem e_noted (f : FKp T F) {x : Val} {b : Nat} {row : List (Option Int)} {j : Int} {d : Int} {Q : Val → Hm → Prop} {X : Nat → Hm → Prop} (e : h[b]? = some (.lst (row.map encO))) (j0 : 0 ≤ j) (j1 : j < row.length) (d0 : 0 ≤ d) (d1 : d ≤ 60)
    (r0 : rowAt row j = none → Q (.bl true) (h.set b (.lst ((row.set j.toNat (some d)).map encO)))) (r1 : rowAt row j = some d → Q (.bl false) (h.set b (.lst ((row.set j.toNat (some d)).map encO)))) (rx : ∀ d', rowAt row j = some d' → d' ≠ d → X 11 h) : E (run T F (n + 3) 39 [x, .ref b, .int j, .int d] h) Q X := by
  refine e_run f.e39 rfl (by decide) ?_
  simp only [c_Keeper_noted, ↓ws, wo, wl, List.replicate]
  refine e_pc (pf_is_between (n := n) f.e2 f.e3 rfl) rfl ?_
  have hb : btw (.int d) 0 60 = true := by simp [btw]; omega
  rw [hb]
  simp only [↓ws, wo, wl, Bool.not_true, so_ref e, Nat.reduceAdd, Nat.reduceLT, true_and, encO_at j0 j1, encO_non]
  have es : (row.map encO).set j.toNat (.int d) = (row.set j.toNat (some d)).map encO := by rw [List.map_set]; rfl
  cases hr : rowAt row j with
  | none =>
    simp only [Option.isNone, Bool.not_true, wo, pick_f, so_ref e, encO_at j0 j1, encO_non, hr]
    rw [set_lst e j0 (by rw [List.length_map]; exact j1), es]
    exact r0 hr
  | some d' =>
    simp only [Option.isNone, Bool.not_false, pick_t, ↓ws, wo, wl, so_ref e, encO_at j0 j1, hr, encO]
    refine brV_if (fun t => rx d' hr (by simpa using t)) fun t => ?_
    have ed : d' = d := by simpa using t
    subst ed
    rw [set_lst e j0 (by rw [List.length_map]; exact j1), es]
    exact r1 hr
def tellK (s : KS) (j d : Int) : KS := { s with days := s.days.set j.toNat (some d) }
def leaveK (s : KS) (j d : Int) : KS := { s with gone := s.gone.set j.toNat (some d) }
theorem e_tell (f : FKp T F) {a : Nat} {s : KS} {j d : Int} {Q : Val → Hm → Prop} {X : Nat → Hm → Prop} (k : KL h a s) (l6 : s.days.length = 6) (j0 : 0 ≤ j) (j1 : j < 6) (d0 : 0 ≤ d) (d1 : d ≤ 60)
    (r0 : rowAt s.days j = none → Q (.bl true) (h.set (a + 4) (.lst ((tellK s j d).days.map encO)))) (r1 : rowAt s.days j = some d → Q (.bl false) (h.set (a + 4) (.lst ((tellK s j d).days.map encO)))) (rx : ∀ d', rowAt s.days j = some d' → d' ≠ d → X 11 h) : E (run T F (n + 4) 37 [.ref a, .int j, .int d] h) Q X := by
  refine e_run f.e37 rfl (by decide) ?_
  simp only [c_Keeper_tell, ↓ws, wo, wl, List.replicate]
  refine e_pc (pf_is_between (n := n + 1) f.e2 f.e3 rfl) rfl ?_
  have hb : btw (.int j) 0 (6 - 1) = true := by simp [btw]; omega
  rw [hb]
  simp only [↓ws, wo, wl, Bool.not_true, k.cls, f.m8, fld_d k, e_dir]
  exact e_noted (n := n) f k.d j0 (by rw [l6]; exact j1) d0 d1 r0 r1 rx
theorem get_kks {s : KS} {i : Nat} {c : Fz} {Q : Val → Hm → Prop} {X : Nat → Hm → Prop} : E (methM .get (.dct c (kks s) (kvs s)) [.int (i : Int)] h) Q X = Q (match s.ov.find? (fun p => p.1 == i) with | some p => .bl p.2 | none => .non) h := by
  have key : ∀ l : List (Nat × Bool), assoc (l.map fun p => (.inl ((p.1 : Nat) : Int) : MKey)) (l.map fun p => Val.bl p.2) (.inl (i : Int)) = (l.find? (fun p => p.1 == i)).map fun p => .bl p.2 := by
    intro l
    induction l with
    | nil => rfl
    | cons p l ih =>
      simp only [List.map_cons, assoc, List.find?_cons, ih]
      by_cases e : p.1 = i
      · simp [e]
      · have e2 : ¬ ((.inl ((p.1 : Nat) : Int) : MKey) = .inl (i : Int)) := fun z => e (by have z2 : ((p.1 : Nat) : Int) = (i : Int) := Sum.inl.inj z; omega)
        have e3 : (p.1 == i) = false := by simp [e]
        rw [if_neg e2, e3]
  have k2 := key s.ov
  show E (match some (kks s, kvs s), some (.inl (i : Int)) with | some (ks, vs), some k => R.ok ((assoc ks vs k).getD .non) h | _, _ => .bad) Q X = _
  simp only [kks, kvs, k2]
  cases s.ov.find? (fun p => p.1 == i) <;> rfl
theorem is_nonbl {b : Bool} : isM .non (.bl b) = some false := rfl
/-- the day of each letter, as a keeper tells it -/
def duesK (days : List (Option Int)) (tb : Nat → Bool) : List (Option Int) → List Letter → List (Option Int)
  | acc, [] => acc
  | acc, l :: ls => duesK days tb (acc ++ [if tb acc.length then none else latest (l.terms.map (dayOf days acc))]) ls
theorem duesK_snoc (days : List (Option Int)) (tb : Nat → Bool) (l : Letter) : ∀ (ls : List Letter) (acc : List (Option Int)), duesK days tb acc (ls ++ [l]) = duesK days tb acc ls ++ [if tb (duesK days tb acc ls).length then none else latest (l.terms.map (dayOf days (duesK days tb acc ls)))]
  | [], acc => rfl
  | a :: ls, acc => duesK_snoc days tb l ls (acc ++ [if tb acc.length then none else latest (a.terms.map (dayOf days acc))])
theorem duesK_len (days : List (Option Int)) (tb : Nat → Bool) : ∀ (ls : List Letter) (acc : List (Option Int)), (duesK days tb acc ls).length = acc.length + ls.length
  | [], acc => rfl
  | a :: ls, acc => by simp only [duesK, duesK_len days tb ls, List.length_append, List.length_cons, List.length_nil]; omega
theorem duesK_plain {days : List (Option Int)} {tb : Nat → Bool} (h : ∀ i, tb i = false) : ∀ (ls : List Letter) (acc : List (Option Int)), duesK days tb acc ls = duesFrom days acc ls
  | [], acc => rfl
  | a :: ls, acc => by simp only [duesK, duesFrom, duesK_plain h ls, h, Bool.false_eq_true, if_false]
/-- taken back -/
def tbK (s : KS) (i : Nat) : Bool := match s.ov.find? (fun p => p.1 == i) with
  | some p => !p.2
  | none => false
def dueK (s : KS) : List (Option Int) := duesK s.days (tbK s) [] s.ls
theorem pf_due_by_now (f : FKp T F) {s : KS} (l6 : s.days.length = 6) (ok : ∀ (k : Nat) (l : Letter), s.ls[k]? = some l → VLet k l) (hb : s.ls.length ≤ 1000) : Pf (run T F (n + 2)) 40 [oKp s] (encR (dueK s)) := by
  refine .of_E (e_run f.e40 rfl (by decide) ?_) (clean_map clean_encO)
  simp only [c_Keeper_due_by_now, ↓ws, wo, wl, List.replicate, Nat.zero_le, true_and, Nat.reduceAdd, Nat.reduceLT]
  refine w_for (xs := s.ls.zipIdx) (g := fun p => .tup [.int (p.2 : Nat), encL p.1]) (fun pre e h => ∃ x2 x3 x4 x5 x6, e = [some (oKp s), some (.ref 0), x2, x3, x4, x5, x6] ∧ h = [.lst ((duesK s.days (tbK s) [] (pre.map (·.1))).map encO)]) ?_ ?_ ?_
  · simp only [↓ws, wo, wl, fld_ol]
    exact ⟨rfl, fun h => stAt_enum (stAt_stat _ _), _, _, _, _, _, rfl, rfl⟩
  · rintro pre ⟨l, i⟩ post ex e h ⟨x2, x3, x4, x5, x6, rfl, rfl⟩
    have hi : s.ls[pre.length]? = some l ∧ i = pre.length := by
      have : (s.ls.zipIdx)[pre.length]? = some (l, i) := by rw [ex]; simp
      rw [List.getElem?_zipIdx] at this
      cases q : s.ls[pre.length]? with
      | none => rw [q] at this; cases this
      | some y => rw [q] at this; simp at this; exact ⟨by rw [this.1], this.2.symm⟩
    obtain ⟨hl, rfl⟩ := hi
    have vl := ok _ _ hl
    simp only [encL, ↓ws, wo, wl, Nat.reduceAdd, Nat.reduceLT, true_and]
    generalize hacc : duesK s.days (tbK s) [] (pre.map (·.1)) = acc
    have la : acc.length = pre.length := by rw [← hacc, duesK_len]; simp
    refine e_compM (xs := l.terms) (g := encT) (h1 := [.lst (acc.map encO)]) (fun t => encO (dayOf s.days acc t)) (by simp only [↓ws, wo, wl]; exact ⟨stAt_stat _ _, trivial⟩) (fun t m => ?_) ?_
    · simp only [↓ws, wo, wl, Nat.reduceAdd, Nat.reduceLT, true_and, fld_od]
      refine e_pur (ws := [encT t, .lst .bor (s.days.map encO), .lst .bor (acc.map encO)]) ?_ (run_day_of f.e0 (by rw [l6, la]; exact VT.fits (vl.tt t m))) ⟨rfl, rfl⟩
      exact snapL_cons (snap_closed (closed_encT t)) (snapL_cons (snap_closed closed_row) (snapL_cons (snapL_ref0 closedL_row) snapL_nil))
    · have er2 : l.terms.map (fun t => encO (dayOf s.days acc t)) = (l.terms.map (dayOf s.days acc)).map encO := by simp
      rw [er2]
      have hne : l.terms.map (dayOf s.days acc) ≠ [] := by
        intro z
        have := vl.t1
        rw [List.map_eq_nil_iff] at z
        simp [z] at this
      have es : duesK s.days (tbK s) [] ((pre ++ [(l, pre.length)]).map (·.1)) = acc ++ [if tbK s pre.length then none else latest (l.terms.map (dayOf s.days acc))] := by
        rw [List.map_append, List.map_cons, List.map_nil, duesK_snoc, hacc, la]
      rw [es]
      generalize l.terms.map (dayOf s.days acc) = row at hne ⊢
      have lb : (acc.map encO).length < big := by
        have e1 : (s.ls.zipIdx).length = s.ls.length := by simp
        have : pre.length ≤ (s.ls.zipIdx).length := by rw [ex]; simp
        rw [List.length_map, la]; unfold big; omega
      simp only [↓ws, wo, wl, Nat.reduceAdd, Nat.reduceLT, true_and, c_latest]
      refine ⟨rfl, ?_⟩
      have ap : ∀ {v : Val} {o : Option Int} {Q : Val → Hm → Prop} {X : Nat → Hm → Prop}, v = encO o → (∀ x, Q x [.lst ((acc ++ [o]).map encO)]) → E (methM .append (.ref 0) [v] [.lst (acc.map encO)]) Q X := by
        intro v o Q X ev q
        subst ev
        rw [m_append (vs := acc.map encO) rfl lb]
        have := q .non
        rw [List.map_append] at this
        exact this
      refine brV_if (fun t => ?_) fun t => ?_
      · have el : latest row = none := latest_none (by simpa using t)
        rw [el]
        refine ap (o := none) rfl fun x => ⟨_, _, _, _, _, rfl, by split <;> rfl⟩
      · have hs : row.all (·.isSome) = true := by simpa using t
        obtain ⟨m, e1, e2⟩ := latest_max hne hs
        rw [e2, fld_oo]
        refine ⟨rfl, ?_⟩
        rw [get_kks]
        have fin : ∀ (r : Bool), tbK s pre.length = r → E (pick (Val.bl r) (evE T (run T F (n + 1)) (C.cst Val.non) [some (oKp s), some (Val.ref 0), some (Val.int ↑pre.length), some (Val.lst Fz.own (List.map Val.int l.heirs)), some (Val.lst Fz.own (List.map encT l.terms)), some (Val.lst Fz.own (List.map encO row)), x6] [.lst (acc.map encO)])
            (evE T (run T F (n + 1)) (C.bi BI.max1 true ((C.var 5).cons C.nil)) [some (oKp s), some (Val.ref 0), some (Val.int ↑pre.length), some (Val.lst Fz.own (List.map Val.int l.heirs)), some (Val.lst Fz.own (List.map encT l.terms)), some (Val.lst Fz.own (List.map encO row)), x6] [.lst (acc.map encO)]))
            (fun v h => v = encO (if tbK s pre.length = true then none else some m) ∧ h = [.lst (acc.map encO)]) nox := by
          intro r er
          rw [er]
          cases r with
          | true => simp only [↓ws, wo]; exact ⟨rfl, trivial⟩
          | false =>
            simp only [↓ws, wo, wl, intsOf_some hs, e1]
            exact ⟨rfl, trivial⟩
        cases hf : s.ov.find? (fun p => p.1 == pre.length) with
        | none =>
          simp only [is_nonbl, wo]
          refine E_mono (fin false (by simp [tbK, hf])) (fun v h q => ?_) fun _ _ x => x.elim
          obtain ⟨ev, rfl⟩ := q
          exact ap ev fun x => ⟨_, _, _, _, _, rfl, rfl⟩
        | some p =>
          simp only [wo]
          refine E_mono (fin (p.2 == false) (by simp [tbK, hf])) (fun v h q => ?_) fun _ _ x => x.elim
          obtain ⟨ev, rfl⟩ := q
          exact ap ev fun x => ⟨_, _, _, _, _, rfl, rfl⟩
  · rintro e h ⟨x2, x3, x4, x5, x6, rfl, rfl⟩
    simp only [↓ws, wo, wl]
    rw [froz_ref0 closedL_row, List.zipIdx_map_fst]
    rfl
def inO (s : KS) (i : Nat) : Bool := s.ov.any fun p => p.1 == i
def rdy (s : KS) (p : Option Int × Nat) : Bool := !(inO s p.2) && (p.1.isSome && decide (p.1.getD 0 ≤ s.now))
def rdyP (p : Option Int × Nat) : Int × Int := (p.1.getD 0, ((p.2 : Nat) : Int))
/-- who is handed out now, in order -/
def readyK (s : KS) : List (Int × Int) := sortP id (((dueK s).zipIdx.filter (rdy s)).map rdyP)
def ovP (s : KS) (l : List (Int × Int)) : KS := { s with ov := s.ov ++ l.map fun p => (p.2.toNat, true) }
def handK (s : KS) : KS := ovP s (readyK s)
def tld (s : KS) (p : Int × Int) : Int × Option Int × Int := (p.2, heirOf (heirsAt s.ls p.2) s.gone p.1, s.now - p.1)
def toldK (s : KS) : List (Int × Option Int × Int) := (readyK s).map (tld s)
def encTd (p : Int × Option Int × Int) : Val := .tup [.int p.1, encO p.2.1, .int p.2.2]
theorem dueK_len (s : KS) : (dueK s).length = s.ls.length := by simp [dueK, duesK_len]
theorem readyK_mem {s : KS} {p : Int × Int} : p ∈ readyK s ↔ 0 ≤ p.2 ∧ (dueK s)[p.2.toNat]? = some (some p.1) ∧ inO s p.2.toNat = false ∧ p.1 ≤ s.now := by
  unfold readyK
  rw [sortP_mem, List.mem_map]
  constructor
  · rintro ⟨⟨o, k⟩, m, rfl⟩
    obtain ⟨m1, m2⟩ := List.mem_filter.mp m
    have g := List.mk_mem_zipIdx_iff_getElem?.mp m1
    cases o with
    | none => simp [rdy] at m2
    | some x =>
      simp only [rdy, Option.isSome, Option.getD, Bool.true_and, Bool.and_eq_true, Bool.not_eq_true', decide_eq_true_eq] at m2
      exact ⟨by simp only [rdyP]; omega, by simpa [rdyP] using g, by simpa [rdyP] using m2.1, m2.2⟩
  · rintro ⟨h0, h1, h2, h3⟩
    refine ⟨(some p.1, p.2.toNat), List.mem_filter.mpr ⟨List.mk_mem_zipIdx_iff_getElem?.mpr h1, ?_⟩, Prod.ext rfl (by simp only [rdyP]; omega)⟩
    simp [rdy, h2, h3]
theorem readyK_srt (s : KS) : (readyK s).Pairwise MP.ltP := by
  unfold readyK
  refine sortP_srt' ?_
  have h1 : ((dueK s).zipIdx.filter (rdy s)).Pairwise (fun p q => p.2 < q.2) := by
    refine List.Pairwise.filter _ ?_
    rw [List.pairwise_iff_getElem]
    intro i j hi hj lt
    simp only [List.getElem_zipIdx]
    omega
  refine List.pairwise_map.mpr (h1.imp fun l e => ?_)
  have := congrArg Prod.snd e
  simp only [rdyP] at this
  omega
/-- a number is handed out just once -/
theorem readyK_new {s : KS} {pre post : List (Int × Int)} {p : Int × Int} (ex : readyK s = pre ++ p :: post) : ((s.ov ++ pre.map fun p => (p.2.toNat, true)).any fun q => q.1 == p.2.toNat) = false := by
  obtain ⟨p0, p1, p2, _⟩ := readyK_mem.mp (show p ∈ readyK s by rw [ex]; simp)
  rw [List.any_append, Bool.or_eq_false_iff]
  refine ⟨p2, ?_⟩
  rw [List.any_eq_false]
  rintro q mq
  obtain ⟨r, mr, rfl⟩ := List.mem_map.mp mq
  obtain ⟨r0, r1, _, _⟩ := readyK_mem.mp (show r ∈ readyK s by rw [ex]; simp [mr])
  have lt : MP.ltP r p := by
    have := readyK_srt s
    rw [ex, List.pairwise_append] at this
    exact this.2.2 r mr p List.mem_cons_self
  simp only [beq_iff_eq]
  intro e
  rw [e, p1] at r1
  have e1 : p.1 = r.1 := Option.some.inj (Option.some.inj r1)
  unfold MP.ltP at lt
  omega
theorem set_dct {b : Nat} {s : KS} {i : Nat} {j : Int} {v : Bool} {Q : Hm → Prop} (e : h[b]? = some (.dct (kks s) (kvs s))) (ej : j = (i : Int)) (ni : (s.ov.any fun p => p.1 == i) = false) (lt : s.ov.length < big) :
    OE (setIM (.ref b) (.int j) (.bl v) h) Q = Q (h.set b (.dct (kks { s with ov := s.ov ++ [(i, v)] }) (kvs { s with ov := s.ov ++ [(i, v)] }))) := by
  subst ej
  have c : (kks s).length = (kvs s).length ∧ (kks s).length < big := ⟨by simp [kks, kvs], by simpa [kks] using lt⟩
  simp only [setIM, e, keyOf, if_pos c, dctPut, any_kks, ni, Bool.false_eq_true, if_false]
  simp only [kks, kvs, List.map_append, List.map_cons, List.map_nil]
  rfl
theorem c_nin_ref {b : Nat} {s : KS} {vs : List Val} {i : Nat} (e : h[b]? = some (.dct (kks s) vs)) : cmpM .nin h (.int (i : Int)) (.ref b) = some (!inO s i) := by
  have e1 : seqOf h (.ref b) = none := by simp only [seqOf, e]
  have e2 : dctOf h (.ref b) = some (kks s, vs) := by simp only [dctOf, e]
  simp only [cmpM, inM, e1, e2, keyOf, any_kks]
  rfl
theorem set_same {h : Hm} {i : Nat} {o : Ob} (e : h[i]? = some o) : h.set i o = h := by
  obtain ⟨l, q⟩ := List.getElem?_eq_some_iff.mp e
  rw [← q, List.set_getElem_self]
theorem insP_len {x : Int × Int} : ∀ l : List (Int × Int), (insP id x l).length = l.length + 1
  | [] => rfl
  | a :: l => by
    unfold insP
    split
    · simp [insP_len l]
    · simp
theorem sortP_len : ∀ l : List (Int × Int), (sortP id l).length = l.length
  | [] => rfl
  | a :: l => by unfold sortP; rw [insP_len, sortP_len l]; rfl
theorem e_handK (f : FKp T F) {a : Nat} {s : KS} {Q : Val → Hm → Prop} {X : Nat → Hm → Prop} (k : KL h a s) (l6 : s.days.length = 6) (l10 : s.gone.length = 10) (ok : ∀ (k : Nat) (l : Letter), s.ls[k]? = some l → VLet k l) (hb : s.ls.length ≤ 40) (ho : s.ov.length ≤ 1000)
    (r : ∀ fo, Q (.ref (h.length + 1)) (h.set (a + 2) (.dct (kks (handK s)) (kvs (handK s))) ++ [fo, .lst ((toldK s).map encTd)])) : E (run T F (n + 3) 41 [.ref a] h) Q X := by
  refine e_run f.e41 rfl (by decide) ?_
  simp only [c_Keeper_hand, ↓wp, wo, wl, List.replicate, k.cls, f.m9]
  refine e_pur (snapL_cons k.snap snapL_nil) (pf_due_by_now (n := n) f l6 ok (by omega)) ?_
  simp only [wl, wo, Nat.zero_le, true_and, Nat.reduceAdd, Nat.reduceLT]
  generalize hfo : ((dueK s).zipIdx.filter (rdy s)).map rdyP = fo
  have lfo : fo.length ≤ 40 := by
    have h1 := List.length_filter_le (rdy s) (dueK s).zipIdx
    rw [List.length_zipIdx, dueK_len] at h1
    rw [← hfo, List.length_map]; omega
  have hr : sortP id fo = readyK s := by rw [← hfo]; rfl
  refine w_for (xs := (dueK s).zipIdx) (g := fun p => .tup [.int (p.2 : Nat), encO p.1]) (fun pre e g => ∃ x3 x4 x5, e = [some (.ref a), some (encR (dueK s)), some (.ref h.length), x3, x4, x5] ∧ g = h ++ [.lst (((pre.filter (rdy s)).map rdyP).map encP)]) ?_ ?_ ?_
  · simp only [↓wp, wo, wl, wd, encR]
    exact ⟨rfl, fun h => stAt_enum (stAt_stat _ _), _, _, _, rfl, rfl⟩
  · rintro pre ⟨o, i⟩ post ex e g ⟨x3, x4, x5, rfl, rfl⟩
    have k2 := k.app [.lst (((pre.filter (rdy s)).map rdyP).map encP)]
    simp only [↓wp, wo, wl, Nat.reduceAdd, Nat.reduceLT, true_and, fld_o k2, fld_n k2]
    have no : ∀ {P : En × Hm → Prop}, rdy s (o, i) = false → (∀ x, x = h ++ [Ob.lst (List.map encP (List.map rdyP (List.filter (rdy s) (pre ++ [(o, i)]))))] → ∃ x3 x4 x5_1,
        [some (Val.ref a), some (encR (dueK s)), some (Val.ref (List.length h)), some (Val.int ↑i), some (encO o), x5] = [some (Val.ref a), some (encR (dueK s)), some (Val.ref (List.length h)), x3, x4, x5_1] ∧ x = h ++ [Ob.lst (List.map encP (List.map rdyP (List.filter (rdy s) (pre ++ [(o, i)]))))]) := fun _ x e => ⟨_, _, _, rfl, e⟩
    have fl : rdy s (o, i) = false → h ++ [Ob.lst (List.map encP (List.map rdyP (List.filter (rdy s) pre)))] = h ++ [Ob.lst (List.map encP (List.map rdyP (List.filter (rdy s) (pre ++ [(o, i)]))))] := fun z => by rw [List.filter_append]; simp [z]
    rw [c_nin_ref k2.o]
    simp only [wo]
    refine brV_if (fun t1 => ?_) fun t1 => ⟨_, _, _, rfl, fl (by simp [rdy, t1])⟩
    rw [encO_non]
    simp only [wo]
    cases o with
    | none => exact ⟨_, _, _, rfl, fl (by simp [rdy])⟩
    | some x =>
      simp only [Option.isNone, Bool.not_false, wo, encO]
      refine brV_if (fun t2 => ?_) fun t2 => ⟨_, _, _, rfl, fl (by simp [rdy]; intro _; simpa using t2)⟩
      refine ⟨by simp only [methK, lstOf, getA0]; rfl, by decide, ?_⟩
      have lb : (((pre.filter (rdy s)).map rdyP).map encP).length < big := by
        have h1 := List.length_filter_le (rdy s) pre
        have h2 : pre.length ≤ (dueK s).zipIdx.length := by rw [ex]; simp
        rw [List.length_zipIdx, dueK_len] at h2
        rw [List.length_map, List.length_map]; unfold big; omega
      rw [m_append get_last lb, set_last]
      refine ⟨_, _, _, rfl, ?_⟩
      have z : rdy s (some x, i) = true := by simp [rdy]; exact ⟨by simpa using t1, by simpa using t2⟩
      rw [List.filter_append, List.filter_cons, if_pos z]
      simp [encP, rdyP]
  · rintro e g ⟨x3, x4, x5, rfl, rfl⟩
    rw [hfo]
    have sK : ∀ s' : KS, lstOf (h.set (a + 2) (.dct (kks s') (kvs s')) ++ [.lst (fo.map encP)]) (.ref h.length) = some (fo.map encP) := fun s' => lo_ref (by rw [← List.length_set (i := a + 2) (a := Ob.dct (kks s') (kvs s'))]; exact get_last)
    have a2 : a + 2 < h.length := lt_of_get k.o
    refine w_for (xs := readyK s) (g := encP) (fun pre e g => ∃ x3 x4, e = [some (.ref a), some (encR (dueK s)), some (.ref h.length), x3, x4, x5] ∧ g = h.set (a + 2) (.dct (kks (ovP s pre)) (kvs (ovP s pre))) ++ [.lst (fo.map encP)]) ?_ ?_ ?_
    · simp only [↓wp, wo, wl]
      rw [lo_ref get_last]
      simp only [wo, sortM_enc, hr]
      refine ⟨fun h => stAt_stat _ _, _, _, rfl, ?_⟩
      have e0 : ovP s [] = s := by simp [ovP]
      rw [e0, set_same k.o]
    · rintro pre p post ex e g ⟨x3, x4, rfl, rfl⟩
      have k2 := (k.set_o (s' := ovP s pre) rfl).app [.lst (fo.map encP)]
      simp only [encP, ↓wp, wo, wl, Nat.reduceAdd, Nat.reduceLT, true_and, fld_o k2]
      obtain ⟨p0, p1, p2, p3⟩ := readyK_mem.mp (show p ∈ readyK s by rw [ex]; simp)
      have lpre : pre.length ≤ 40 := by
        have h1 : pre.length ≤ (readyK s).length := by rw [ex]; simp
        have h2 : (readyK s).length = fo.length := by rw [← hr, sortP_len]
        omega
      rw [set_dct (s := ovP s pre) (i := p.2.toNat) k2.o (by omega) (readyK_new ex) (by simp only [ovP, List.length_append, List.length_map]; unfold big; omega)]
      refine ⟨_, _, rfl, ?_⟩
      rw [List.set_append_left _ _ (by rw [List.length_set]; exact a2), List.set_set]
      have e1 : ovP s (pre ++ [p]) = { ovP s pre with ov := (ovP s pre).ov ++ [(p.2.toNat, true)] } := by simp [ovP]
      rw [e1]
    · rintro e g ⟨x3, x4, rfl, rfl⟩
      simp only [↓wp, wo, wl, Nat.reduceAdd, Nat.reduceLT, true_and]
      have kG := k.set_o (s' := ovP s (readyK s)) rfl
      have lG : (h.set (a + 2) (.dct (kks (ovP s (readyK s))) (kvs (ovP s (readyK s))))).length = h.length := List.length_set
      have hQ : ∀ fo, Q (.ref (h.length + 1)) (h.set (a + 2) (.dct (kks (ovP s (readyK s))) (kvs (ovP s (readyK s)))) ++ [fo, .lst ((toldK s).map encTd)]) := r
      generalize h.set (a + 2) (.dct (kks (ovP s (readyK s))) (kvs (ovP s (readyK s)))) = G at kG lG hQ
      have l5 : (G ++ [Ob.lst (fo.map encP)]).length = h.length + 1 := by simp [lG]
      rw [l5, List.append_assoc, List.cons_append, List.nil_append]
      refine w_for (xs := readyK s) (g := encP) (fun pre e g => ∃ x3 x4, e = [some (.ref a), some (encR (dueK s)), some (.ref h.length), x3, x4, some (.ref (h.length + 1))] ∧ g = G ++ [.lst (fo.map encP), .lst ((pre.map (tld s)).map encTd)]) ?_ ?_ ?_
      · simp only [↓wp, wo, wl]
        rw [lo_ref (vs := fo.map encP) (by rw [← lG, getA0]; rfl)]
        simp only [wo, sortM_enc, hr]
        exact ⟨fun h => stAt_stat _ _, _, _, rfl, by trivial⟩
      · rintro pre p post ex e g ⟨x3, x4, rfl, rfl⟩
        obtain ⟨p0, p1, p2, p3⟩ := readyK_mem.mp (show p ∈ readyK s by rw [ex]; simp)
        have lp : p.2.toNat < s.ls.length := by rw [← dueK_len]; exact lt_of_getL p1
        have el : s.ls[p.2.toNat]? = some s.ls[p.2.toNat] := List.getElem?_eq_getElem lp
        generalize s.ls[p.2.toNat] = l at el
        have k4 := kG.app [.lst (fo.map encP), .lst ((pre.map (tld s)).map encTd)]
        have ea : atI (s.ls.map encL) p.2 = some (encL l) := by rw [atI_of p0, List.getElem?_map, el]; rfl
        simp only [encP, ↓wp, wo, wl, Nat.reduceAdd, Nat.reduceLT, true_and, fld_l k4, fld_g k4, fld_n k4]
        have gT : (G ++ [Ob.lst (fo.map encP), Ob.lst ((pre.map (tld s)).map encTd)])[h.length + 1]? = some (.lst ((pre.map (tld s)).map encTd)) := by rw [← lG, getA]; rfl
        refine ⟨by simp only [methK, lstOf, gT]; rfl, ?_⟩
        have sl : seqOf (G ++ [Ob.lst (fo.map encP), Ob.lst ((pre.map (tld s)).map encTd)]) (.ref (a + 1)) = some (s.ls.map encL) := so_ref k4.l
        rw [sl]
        simp only [wo, ea]
        rw [encL]
        simp only [wo]
        refine e_pur (snapL_cons (snap_closed (by simp only [wc])) (snapL_cons (snap_flat k4.g closedL_row) (snapL_cons (snap_closed rfl) snapL_nil))) (pf_heir_of (n := n + 1) f.e24 l10 (ok _ _ el).hb) ?_
        simp only [fld_n k4, wo]
        refine ⟨by decide, ?_⟩
        have lpre : pre.length ≤ 40 := by
          have h1 : pre.length ≤ (readyK s).length := by rw [ex]; simp
          have h2 : (readyK s).length = fo.length := by rw [← hr, sortP_len]
          omega
        rw [m_append gT (by rw [List.length_map, List.length_map]; unfold big; omega)]
        refine ⟨_, _, rfl, ?_⟩
        have eh : heirsAt s.ls p.2 = l.heirs := by simp only [heirsAt, el]
        rw [← lG, setA]
        simp only [List.set_cons_succ, List.set_cons_zero, List.map_append, List.map_cons, List.map_nil, tld, encTd, eh, ovP]
      · rintro e g ⟨x3, x4, rfl, rfl⟩
        simp only [wl, wo]
        exact hQ _
end
end MP
set_option Elab.async false
set_option linter.all false
set_option maxRecDepth 100000
set_option autoImplicit false
namespace MP
open PySem L2
section
variable {T : Tab} {F : Nat → Option Fn} {n : Nat} {h : Hm}
def encB (p : Option Int × Option Int) : Val := match p.1 with
  | none => .non
  | some x => .tup [.int x, encO p.2]
theorem clean_encB (p : Option Int × Option Int) : clean (encB p) = true := by
  rcases p with ⟨_ | x, o⟩
  · rfl
  · simp only [encB, clean, cleanL, clean_encO]; rfl
def btwn (ls : List Letter) (sp : List Sp) : List (Option Int × Option Int) := (dues (firstsOf sp) ls).zip (dues (lastsOf sp) ls)
theorem rf_between (e0 : F 0 = some c_day_of) (e1 : F 1 = some c_dues_of) (e13 : F 13 = some c_ends_of) (e28 : ∀ {n : Nat} {v d : Val}, isData 28 v = true → isData 28 d = true → Gate (run T F (n + 6)) 28 [v, d] (gSpans v d)) (e29 : F 29 = some c_between) {d v : Val} {sp : List Sp} {ls : List Letter} (hv : er v = encLs ls) (hd : er d = encSs sp) (vs : VS sp) (vl : VL ls) :
    Rf (run T F (n + 7)) 29 [v, d] ((btwn ls sp).map encB) := by
  have hb2 : (2 : Nat) ≤ big := by decide
  have sk : spansOk d = true := spansOk_of hd vs
  have gg : gSpans v d = none := by unfold gSpans; rw [if_pos (lettersOk_of hv vl), if_pos sk]
  have dv := data_of (m := 28) hv (data_encLs ls) (by omega)
  have dd := data_of (m := 28) hd (data_encSs sp) (by omega)
  have cv := closed_data _ _ dv
  have cd := closed_data _ _ dd
  have lf : (firstsOf sp).length = 6 := by rw [← vs.len]; simp [firstsOf]
  have ll : (lastsOf sp).length = 6 := by rw [← vs.len]; simp [lastsOf]
  refine .of (e_run e29 rfl (by decide) ?_)
  simp only [c_between, ↓ws, wo, wl, List.replicate]
  refine e_gate (e28 dv dd) (by simp only [wc, cv, cd]) (fun _ => ?_) fun k o => by rw [gg] at o; cases o
  refine e_pc (pf_ends_of (n := n + 5) (b := false) e13 hd) (by simp only [wc, cd]) ?_
  refine e_pc (pf_dues_of (n := n + 4) e0 e1 hv (er_encR' (row := firstsOf sp)) lf vl.ok (by have := vl.l40; omega)) (by simp only [wc, cv]; exact closed_encR _) ?_
  refine e_pc (pf_ends_of (n := n + 5) (b := true) e13 hd) (by simp only [wc, cd]) ?_
  refine e_pc (pf_dues_of (n := n + 4) e0 e1 hv (er_encR' (row := lastsOf sp)) ll vl.ok (by have := vl.l40; omega)) (by simp only [wc, cv]; exact closed_encR _) ?_
  simp only [wo, wl, wd, Nat.reduceAdd, Nat.reduceLT, true_and]
  refine e_compM (xs := btwn ls sp) (g := fun p => .tup [encO p.1, encO p.2]) (h1 := []) encB ?_ (fun p m => ?_) ?_
  · simp only [↓ws, wo, wl, encR, zipM, isTup, if_true, srcOf]
    exact ⟨stAt_zip (stAt_stat _ _) (stAt_stat _ _), trivial⟩
  · simp only [↓ws, wo, wl, Nat.reduceAdd, Nat.reduceLT, true_and, encO_non]
    rcases p with ⟨_ | x, o⟩
    · simp only [Option.isNone, ↓ws, wo]
      exact ⟨rfl, trivial⟩
    · simp only [Option.isNone, ↓ws, wo, wl, Nat.zero_add, Nat.reduceAdd, hb2, true_and]
      exact ⟨rfl, trivial⟩
  · simp only [wo]
    exact ⟨0, rfl, rfl⟩
/-- a keeper's letters -/
theorem pf_all_letters (e44 : F 44 = some c_Keeper_all_letters) {s : KS} : Pf (run T F (n + 1)) 44 [oKp s] (encLs s.ls) := by
  refine .of_v (clean_map clean_encL) (e_run e44 rfl (by decide) ?_)
  simp only [c_Keeper_all_letters, ↓ws, wo, wl, List.replicate]
  refine e_compM (xs := s.ls) (g := encL) (h1 := []) encL (by simp only [↓ws, wo, wl, fld_ol]; exact ⟨stAt_stat _ _, trivial⟩) (fun l m => ?_) ?_
  · simp only [encL, ↓ws, wo, wl, Nat.reduceAdd, Nat.reduceLT, true_and]
    exact ⟨by decide, trivial⟩
  · simp only [wo]
    rfl
theorem e_leave (f : FKp T F) (e38 : F 38 = some c_Keeper_leave) {a : Nat} {s : KS} {j d : Int} {Q : Val → Hm → Prop} {X : Nat → Hm → Prop} (k : KL h a s) (l6 : s.gone.length = 10) (j0 : 0 ≤ j) (j1 : j < 10) (d0 : 0 ≤ d) (d1 : d ≤ 60)
    (r0 : rowAt s.gone j = none → Q (.bl true) (h.set (a + 6) (.lst ((leaveK s j d).gone.map encO)))) (r1 : rowAt s.gone j = some d → Q (.bl false) (h.set (a + 6) (.lst ((leaveK s j d).gone.map encO)))) (rx : ∀ d', rowAt s.gone j = some d' → d' ≠ d → X 11 h) : E (run T F (n + 4) 38 [.ref a, .int j, .int d] h) Q X := by
  refine e_run e38 rfl (by decide) ?_
  simp only [c_Keeper_leave, ↓ws, wo, wl, List.replicate]
  refine e_pc (pf_is_between (n := n + 1) f.e2 f.e3 rfl) rfl ?_
  have hb : btw (.int j) 0 9 = true := by simp [btw]; omega
  rw [hb]
  simp only [↓ws, wo, wl, Bool.not_true, k.cls, f.m8, fld_g k, e_dir]
  exact e_noted (n := n) f k.g j0 (by rw [l6]; exact j1) d0 d1 r0 r1 rx
end
end MP
set_option Elab.async false
set_option linter.all false
set_option maxRecDepth 100000
set_option autoImplicit false
namespace MP
open PySem L2
section
variable {T : Tab} {F : Nat → Option Fn} {n : Nat} {h : Hm}
def surelyV (ls : List Letter) (sp : List Sp) (one other : Int) : Val := match (tryRows sp).find? (fun d => !aheadB (dues d ls) one other) with
  | none => .obj .own 3 [] []
  | some d => oPer .own .own d
theorem clean_surelyV (ls : List Letter) (sp : List Sp) (one other : Int) : clean (surelyV ls sp one other) = true := by
  unfold surelyV
  split
  · rfl
  · rename_i d _
    have : cleanL (d.map encO) = true := cleanL_map clean_encO _
    simp only [oPer, clean, cleanL, this]
    rfl
theorem froz_per {ds : List (Option Int)} {h : Hm} {i j : Nat} (a : PAns h i j ds) : froz h (.ref i) = some (oPer .own .own ds) := by
  simp only [froz, deep, follow, a.hi, deepL, a.hj, deepL_closed _ (closedL_row (row := ds))]
  rfl
/-- what surely asks of the tables -/
structure FSur (T : Tab) (F : Nat → Option Fn) : Prop where
  e0 : F 0 = some c_day_of
  e1 : F 1 = some c_dues_of
  e13 : F 13 = some c_ends_of
  e14 : F 14 = some c_is_ahead
  e15 : F 15 = some c_lists_to_try
  e22 : F 22 = some c_Perhaps___init__
  i3 : T.init 3 = none
  i4 : T.init 4 = some 22
theorem FPer.sur (f : FPer T F) : FSur T F := ⟨f.e0, f.e1, f.e13, f.e14, f.e15, f.e22, f.i3, f.i4⟩
theorem pf_surely (f : FSur T F) (e2 : F 2 = some c_is_whole) (e3 : F 3 = some c_is_between) (e28 : ∀ {n : Nat} {v d : Val}, isData 28 v = true → isData 28 d = true → Gate (run T F (n + 6)) 28 [v, d] (gSpans v d)) (e30 : F 30 = some c_surely) {d v : Val} {sp : List Sp} {ls : List Letter} {one other : Int} (hv : er v = encLs ls) (hd : er d = encSs sp) (vs : VS sp) (vl : VL ls) (o0 : 0 ≤ one) (p0 : 0 ≤ other) (op : one ≠ other) (ho : hasDay sp ls one) (hp : hasDay sp ls other) :
    Pf (run T F (n + 8)) 30 [v, d, .int one, .int other] (surelyV ls sp one other) := by
  have sk : spansOk d = true := spansOk_of hd vs
  have gg : gSpans v d = none := by unfold gSpans; rw [if_pos (lettersOk_of hv vl), if_pos sk]
  have dv := data_of (m := 28) hv (data_encLs ls) (by omega)
  have dd := data_of (m := 28) hd (data_encSs sp) (by omega)
  have cv := closed_data _ _ dv
  have cd := closed_data _ _ dd
  have lf : (firstsOf sp).length = 6 := by rw [← vs.len]; simp [firstsOf]
  have l40 := vl.l40
  have lD : (dues (firstsOf sp) ls).length = ls.length := dues_len _ _
  have b1 : one < ls.length := by rw [← lD]; exact (rowAt_lt ho).resolve_right (by omega)
  have b2 : other < ls.length := by rw [← lD]; exact (rowAt_lt hp).resolve_right (by omega)
  have sq : ∀ h : Hm, ∃ us, seqOf h v = some us ∧ us.length = ls.length := by
    intro h
    obtain ⟨c2, vs, rfl, em⟩ := er_letters hv
    exact ⟨vs, rfl, by have := congrArg List.length em; simpa using this⟩
  obtain ⟨us, sw, lw⟩ := sq []
  refine .of_E (e_run e30 rfl (by decide) ?_) (clean_surelyV _ _ _ _)
  simp only [c_surely, ↓ws, wo, wl, List.replicate]
  refine e_gate (e28 dv dd) (by simp only [wc, cv, cd]) (fun _ => ?_) fun k o => by rw [gg] at o; cases o
  simp only [sw, wo]
  refine e_pc (pf_is_between (n := n + 5) e2 e3 rfl) rfl ?_
  rw [show btw (.int one) 0 ((us.length : Int) - 1) = true by simp [btw, lw]; omega]
  simp only [↓ws, wo, wl, Bool.not_true, sw]
  refine e_pc (pf_is_between (n := n + 5) e2 e3 rfl) rfl ?_
  rw [show btw (.int other) 0 ((us.length : Int) - 1) = true by simp [btw, lw]; omega]
  simp only [↓ws, wo, wl, Bool.not_true]
  rw [brV_f (by simpa using op)]
  refine e_pc (pf_ends_of (n := n + 6) (b := false) f.e13 hd) (by simp only [wc, cd]) ?_
  refine e_pc (pf_dues_of (n := n + 5) f.e0 f.e1 hv (er_encR' (row := firstsOf sp)) lf vl.ok (by omega)) (by simp only [wc, cv]; exact closed_encR _) ?_
  simp only [wo, wl, wd, Nat.reduceAdd, Nat.reduceLT, true_and, encO_at o0 (show one < ((dues (firstsOf sp) ls).length : Nat) by rw [lD]; exact b1), encO_at p0 (show other < ((dues (firstsOf sp) ls).length : Nat) by rw [lD]; exact b2), encO_non]
  rw [brV_f (by have : (rowAt (dues (firstsOf sp) ls) one).isSome = true := ho; cases q : rowAt (dues (firstsOf sp) ls) one <;> simp [q] at this ⊢)]
  rw [brV_f (by have : (rowAt (dues (firstsOf sp) ls) other).isSome = true := hp; cases q : rowAt (dues (firstsOf sp) ls) other <;> simp [q] at this ⊢)]
  refine w_for (xs := tryRows sp) (g := encR) (fun pre e h => ∃ x5, e = [some v, some d, some (.int one), some (.int other), some (encR (dues (firstsOf sp) ls)), x5] ∧ h = [] ∧ pre.find? (fun d => !aheadB (dues d ls) one other) = none) ?_ ?_ ?_
  · simp only [↓ws, wo, wl]
    refine e_pc (pf_lists_to_try (n := n + 5) f.e13 f.e15 hd (by rw [vs.len]; decide)) (by simp only [wc, cd]) ?_
    exact ⟨fun h => stAt_stat _ h, _, rfl, rfl, rfl⟩
  · rintro pre r post ex e h ⟨x5, rfl, rfl, hn⟩
    have mr : r ∈ tryRows sp := by rw [ex]; simp
    obtain ⟨vr, pr⟩ := try_ok vs r mr
    have pt := dues_pat pr vl.ok
    simp only [↓ws, wo, wl, Nat.reduceAdd, Nat.reduceLT, true_and]
    refine e_pc (pf_dues_of (n := n + 5) f.e0 f.e1 hv (er_encR' (row := r)) vr.len vl.ok (by omega)) (by simp only [wc, cv]; exact closed_encR _) ?_
    refine e_pc (pf_is_ahead (n := n + 6) f.e14 (D := dues r ls) er_encR' o0 p0 (by rw [pt.at]; exact ho) (by rw [pt.at]; exact hp)) (by simp only [wc]; exact closed_encR _) ?_
    simp only [wo]
    refine brV_if (fun t => ?_) fun t => ?_
    · have A := PAns.mk' (h := []) (ds := r)
      refine e_new1 (n := n + 6) f.i4 f.e22 rfl (vs := r.map encO) (fun o => rfl) ?_
      have e : surelyV ls sp one other = oPer .own .own r := by
        unfold surelyV
        rw [ex, List.find?_append, hn, Option.none_or, List.find?_cons, t]
      rw [e]
      exact froz_per A
    · refine ⟨_, rfl, by trivial, ?_⟩
      rw [List.find?_append, hn, Option.none_or, List.find?_cons, t]
      rfl
  · rintro e h ⟨x5, rfl, rfl, hn⟩
    have ha : newM T (run T F (n + 7)) 3 [] [] = .ok (.ref 0) [.ins 3 [] []] := by simp only [newM, f.i3]; rfl
    have e : surelyV ls sp one other = .obj .own 3 [] [] := by
      unfold surelyV
      rw [hn]
    rw [e]
    refine E_ok ha ?_
    rfl
end
end MP
set_option Elab.async false
set_option linter.all false
set_option maxRecDepth 100000
set_option autoImplicit false
namespace MP
open PySem L2
/-- both None, or two days so related -/
def OR (r : Int → Int → Prop) : Option Int → Option Int → Prop
  | none, none => True
  | some a, some b => r a b
  | _, _ => False
/-- goes through the latest, and through delays -/
structure Goes (r : Int → Int → Prop) : Prop where
  max : ∀ a b c d, r a b → r c d → r (if c < a then a else c) (if d < b then b else d)
  add : ∀ a b c, r a b → r (a + c) (b + c)
section
variable {r : Int → Int → Prop}
theorem All2.mono {α β : Type} {P Q : α → β → Prop} {as : List α} {bs : List β} (q : All2 P as bs) (h : ∀ a b, P a b → Q a b) : All2 Q as bs := by
  induction q with
  | nil => exact .nil
  | cons x _ ih => exact .cons (h _ _ x) ih
theorem All2.append {α β : Type} {P : α → β → Prop} {as cs : List α} {bs ds : List β} (q : All2 P as bs) (q2 : All2 P cs ds) : All2 P (as ++ cs) (bs ++ ds) := by
  induction q with
  | nil => exact q2
  | cons x _ ih => exact .cons x ih
theorem All2.map2 {α β γ : Type} {P : α → β → Prop} {f : γ → α} {g : γ → β} : ∀ {l : List γ}, (∀ x ∈ l, P (f x) (g x)) → All2 P (l.map f) (l.map g)
  | [], _ => .nil
  | x :: l, h => .cons (h x List.mem_cons_self) (All2.map2 fun y m => h y (List.mem_cons_of_mem _ m))
theorem All2.get2 {α β : Type} {P : α → β → Prop} {as : List α} {bs : List β} (q : All2 P as bs) {i : Nat} {a : α} {b : β} (h : as[i]? = some a) (k : bs[i]? = some b) : P a b := by
  obtain ⟨b', e, p⟩ := q.get h
  rw [k] at e
  cases e
  exact p
theorem maxI_rel (g : Goes r) : ∀ {a b : List Int}, All2 r a b → OR r (maxI a) (maxI b)
  | _, _, .nil => trivial
  | [x], [y], .cons h .nil => h
  | x :: x' :: xs, y :: y' :: ys, .cons h (.cons h' t) => by
    have ih := maxI_rel g (.cons h' t)
    unfold maxI
    revert ih
    cases maxI (x' :: xs) <;> cases maxI (y' :: ys) <;> intro ih <;> simp only [OR] at ih ⊢
    exact g.max _ _ _ _ h ih
theorem rel_pat : ∀ {a b : List (Option Int)}, All2 (OR r) a b → a.all (·.isSome) = b.all (·.isSome) ∧ (a.all (·.isSome) = true → All2 r (a.filterMap id) (b.filterMap id))
  | _, _, .nil => ⟨rfl, fun _ => .nil⟩
  | x :: xs, y :: ys, .cons h t => by
    obtain ⟨h1, h2⟩ := rel_pat t
    cases x <;> cases y <;> simp only [OR] at h
    · simp
    · simp only [List.all_cons, Option.isSome_some, Bool.true_and, h1, true_and]
      intro e
      rw [← h1] at e
      exact .cons h (h2 e)
theorem latest_rel (g : Goes r) {a b : List (Option Int)} (h : All2 (OR r) a b) : OR r (latest a) (latest b) := by
  obtain ⟨h1, h2⟩ := rel_pat h
  unfold latest
  rw [← h1]
  split
  · rename_i c
    exact maxI_rel g (h2 c)
  · trivial
theorem rowAt_rel {a b : List (Option Int)} (h : All2 (OR r) a b) (j : Int) : OR r (rowAt a j) (rowAt b j) := by
  unfold rowAt
  cases q : a[j.toNat]? with
  | none =>
    have : b[j.toNat]? = none := by
      rw [List.getElem?_eq_none_iff] at q ⊢
      rw [← h.length]; exact q
    rw [this]
    trivial
  | some x =>
    obtain ⟨y, e, p⟩ := h.get q
    rw [e]
    exact p
theorem dayOf_rel (g : Goes r) {d e a b : List (Option Int)} (h : All2 (OR r) d e) (q : All2 (OR r) a b) {t : Term} (td : ∀ x, t = .day x → r x x) : OR r (dayOf d a t) (dayOf e b t) := by
  cases t with
  | day x => exact td x rfl
  | when j x =>
    have := rowAt_rel h j
    revert this
    simp only [dayOf]
    cases rowAt d j <;> cases rowAt e j <;> intro k <;> simp only [OR, Option.map] at k ⊢
    exact g.add _ _ _ k
  | after j x =>
    have := rowAt_rel q j
    revert this
    simp only [dayOf]
    cases rowAt a j <;> cases rowAt b j <;> intro k <;> simp only [OR, Option.map] at k ⊢
    exact g.add _ _ _ k
theorem duesFrom_rel (g : Goes r) {d e : List (Option Int)} (h : All2 (OR r) d e) : ∀ (ls : List Letter) {a b : List (Option Int)}, All2 (OR r) a b → (∀ l ∈ ls, ∀ x, Term.day x ∈ l.terms → r x x) → All2 (OR r) (duesFrom d a ls) (duesFrom e b ls)
  | [], _, _, q, _ => q
  | l :: ls, a, b, q, td => by
    unfold duesFrom
    refine duesFrom_rel g h ls (q.snoc (latest_rel g (All2.map2 fun t m => dayOf_rel g h q fun x ex => ?_))) fun l m => td l (List.mem_cons_of_mem _ m)
    subst ex
    exact td l List.mem_cons_self x m
theorem dues_rel (g : Goes r) {d e : List (Option Int)} (h : All2 (OR r) d e) {ls : List Letter} (td : ∀ l ∈ ls, ∀ x, Term.day x ∈ l.terms → r x x) : All2 (OR r) (dues d ls) (dues e ls) := duesFrom_rel g h ls .nil td
theorem goes_le : Goes (fun a b => a ≤ b) := ⟨fun a b c d h k => by split <;> split <;> omega, fun a b c h => by omega⟩
/-- later by at most k -/
theorem goes_by {k : Int} (k0 : 0 ≤ k) : Goes (fun a b => a ≤ b ∧ b ≤ a + k) := ⟨fun a b c d h k => by split <;> split <;> omega, fun a b c h => by omega⟩
/-- later by k -/
theorem goes_sh {k : Int} : Goes (fun a b => b = a + k) := ⟨fun a b c d h k => by split <;> split <;> omega, fun a b c h => by omega⟩
theorem dues_le {d e : List (Option Int)} (h : All2 (OR (fun a b => a ≤ b)) d e) (ls : List Letter) : All2 (OR (fun a b => a ≤ b)) (dues d ls) (dues e ls) := dues_rel goes_le h fun _ _ _ _ => Int.le_refl _
end
theorem maxI_spec : ∀ {l : List Int} {m : Int}, maxI l = some m → m ∈ l ∧ ∀ x ∈ l, x ≤ m
  | [], m, h => by simp [maxI] at h
  | [x], m, h => by simp [maxI] at h; subst h; simp
  | x :: y :: l, m, h => by
    unfold maxI at h
    split at h
    · rename_i z hz
      have ih := maxI_spec hz
      cases h
      split
      · rename_i c
        refine ⟨List.mem_cons_self, fun w mw => ?_⟩
        rw [List.mem_cons] at mw
        rcases mw with rfl | mw
        · exact Int.le_refl _
        · have := ih.2 w mw; omega
      · refine ⟨List.mem_cons_of_mem _ ih.1, fun w mw => ?_⟩
        rw [List.mem_cons] at mw
        rcases mw with rfl | mw
        · omega
        · exact ih.2 w mw
    · cases h
theorem latest_same {a b : List (Option Int)} (h : ∀ o, o ∈ a ↔ o ∈ b) : latest a = latest b := by
  have e : a.all (·.isSome) = b.all (·.isSome) := by
    rw [Bool.eq_iff_iff, List.all_eq_true, List.all_eq_true]
    exact ⟨fun k o m => k o ((h o).mpr m), fun k o m => k o ((h o).mp m)⟩
  unfold latest
  rw [← e]
  split
  · cases q : maxI (a.filterMap id) with
    | none =>
      have na : a.filterMap id = [] := by
        cases z : a.filterMap id with
        | nil => rfl
        | cons x l =>
          obtain ⟨m, em⟩ := maxI_some (l := x :: l) (by simp)
          rw [z, em] at q; cases q
      have nb : b.filterMap id = [] := by
        cases z : b.filterMap id with
        | nil => rfl
        | cons x l =>
          have : x ∈ b.filterMap id := by rw [z]; exact List.mem_cons_self
          have : x ∈ a.filterMap id := by
            simp only [List.mem_filterMap, id] at this ⊢
            obtain ⟨o, m, e⟩ := this
            exact ⟨o, (h o).mpr m, e⟩
          rw [na] at this; cases this
      rw [nb]; rfl
    | some m =>
      obtain ⟨m1, m2⟩ := maxI_spec q
      have mb : m ∈ b.filterMap id := by
        simp only [List.mem_filterMap, id] at m1 ⊢
        obtain ⟨o, mo, e⟩ := m1
        exact ⟨o, (h o).mp mo, e⟩
      obtain ⟨m', em'⟩ := maxI_some (l := b.filterMap id) (fun z => by rw [z] at mb; cases mb)
      obtain ⟨k1, k2⟩ := maxI_spec em'
      have ma : m' ∈ a.filterMap id := by
        simp only [List.mem_filterMap, id] at k1 ⊢
        obtain ⟨o, mo, e⟩ := k1
        exact ⟨o, (h o).mpr mo, e⟩
      have e1 := m2 _ ma
      have e2 := k2 _ mb
      rw [em', show m = m' by omega]
  · rfl
/-- letters whose terms are the same in any turn -/
theorem duesFrom_turned {days : List (Option Int)} : ∀ {ls ms : List Letter} {acc : List (Option Int)}, All2 (fun l m => ∀ t : Term, t ∈ l.terms ↔ t ∈ m.terms) ls ms → duesFrom days acc ls = duesFrom days acc ms
  | _, _, _, .nil => rfl
  | l :: ls, m :: ms, acc, .cons h t => by
    unfold duesFrom
    rw [latest_same (a := l.terms.map (dayOf days acc)) (b := m.terms.map (dayOf days acc)) fun o => by
      simp only [List.mem_map]
      exact ⟨fun ⟨x, mx, e⟩ => ⟨x, (h x).mp mx, e⟩, fun ⟨x, mx, e⟩ => ⟨x, (h x).mpr mx, e⟩⟩]
    exact duesFrom_turned t
theorem dues_turned {days : List (Option Int)} {ls ms : List Letter} (h : All2 (fun l m => ∀ t : Term, t ∈ l.terms ↔ t ∈ m.terms) ls ms) : dues days ls = dues days ms := duesFrom_turned h
theorem All2.refl' {α : Type} {P : α → α → Prop} (h : ∀ a, P a a) : ∀ l : List α, All2 P l l
  | [] => .nil
  | a :: l => .cons (h a) (All2.refl' h l)
theorem All2.set_r {α β : Type} {P : α → β → Prop} {as : List α} {bs : List β} (q : All2 P as bs) {k : Nat} {a : α} {b : β} (ha : as[k]? = some a) (p : P a b) : All2 P as (bs.set k b) := by
  induction q generalizing k with
  | nil => exact .nil
  | cons x t ih =>
    cases k with
    | zero => cases ha; exact .cons p t
    | succ k => exact .cons x (ih ha)
def stake : Nat → S → S
  | 0, _ => .nil
  | n + 1, .seq a b => .seq a (stake n b)
  | _ + 1, s => s
def sdrop : Nat → S → S
  | 0, s => s
  | n + 1, .seq _ b => sdrop n b
  | _ + 1, _ => .nil
theorem w_cut {T : Tab} {cl : CallF} {N : En → Hm → Prop} {V : Val → Hm → Prop} {X : Nat → En → Hm → Prop} (k : Nat) (M : En → Hm → Prop) {s : S} {e : En} {h : Hm} (a : W (exS T cl (stake k s) e h) M V X) (b : ∀ e h, M e h → W (exS T cl (sdrop k s) e h) N V X) : W (exS T cl s e h) N V X := by
  have key : ∀ (k : Nat) (s : S) (e : En) (h : Hm), W (exS T cl (stake k s) e h) (fun e h => W (exS T cl (sdrop k s) e h) N V X) V X → W (exS T cl s e h) N V X := by
    intro k
    induction k with
    | zero => intro s e h w; rw [stake, s_nil] at w; exact w
    | succ k ih =>
      intro s e h w
      cases s with
      | seq a b =>
        rw [stake, s_seq] at w
        rw [s_seq]
        exact W_mono w (fun e h q => ih b e h q) (fun _ _ x => x) fun _ _ _ x => x
      | _ =>
        simp only [stake, sdrop, s_nil] at w
        exact W_mono w (fun _ _ q => q) (fun _ _ x => x) fun _ _ _ x => x
  exact key k s e h (W_mono a b (fun _ _ x => x) fun _ _ _ x => x)
theorem duesFrom_rel2 {r : Int → Int → Prop} {d e : List (Option Int)} {R : Letter → Letter → Prop} (hl : ∀ l m a b, R l m → All2 (OR r) a b → OR r (latest (l.terms.map (dayOf d a))) (latest (m.terms.map (dayOf e b)))) : ∀ {ls ms : List Letter} {a b : List (Option Int)}, All2 R ls ms → All2 (OR r) a b → All2 (OR r) (duesFrom d a ls) (duesFrom e b ms)
  | _, _, _, _, .nil, q => q
  | l :: ls, m :: ms, a, b, .cons h t, q => by
    unfold duesFrom
    exact duesFrom_rel2 hl t (q.snoc (hl l m a b h q))
theorem dues_rel2 {r : Int → Int → Prop} {d e : List (Option Int)} {R : Letter → Letter → Prop} (hl : ∀ l m a b, R l m → All2 (OR r) a b → OR r (latest (l.terms.map (dayOf d a))) (latest (m.terms.map (dayOf e b)))) {ls ms : List Letter} (h : All2 R ls ms) : All2 (OR r) (dues d ls) (dues e ms) := duesFrom_rel2 hl h .nil
/-- one day more -/
theorem latest_more {row : List (Option Int)} {x : Int} (ne : row ≠ []) : OR (fun a b => a ≤ b) (latest row) (latest (row ++ [some x])) := by
  cases hs : row.all (·.isSome) with
  | false =>
    rw [latest_none hs, latest_none (by rw [List.all_append, hs]; rfl)]
    trivial
  | true =>
    obtain ⟨m, e1, e2⟩ := latest_max ne hs
    have hs2 : (row ++ [some x]).all (·.isSome) = true := by rw [List.all_append, hs]; rfl
    obtain ⟨m', e1', e2'⟩ := latest_max (row := row ++ [some x]) (by simp) hs2
    rw [e2, e2']
    refine (maxI_spec e1').2 m ?_
    rw [List.filterMap_append]
    exact List.mem_append_left _ (maxI_spec e1).1
theorem all2_mapr {α β γ : Type} {P : α → γ → Prop} {f : β → γ} : ∀ {as : List α} {bs : List β}, All2 (fun a b => P a (f b)) as bs → All2 P as (bs.map f)
  | _, _, .nil => .nil
  | _, _, .cons h t => .cons h (all2_mapr t)
theorem all2_self {α β : Type} {P : α → β → Prop} {f : α → β} : ∀ {as : List α}, (∀ a ∈ as, P a (f a)) → All2 P as (as.map f)
  | [], _ => .nil
  | a :: as, h => .cons (h a List.mem_cons_self) (all2_self fun b m => h b (List.mem_cons_of_mem _ m))
end MP
set_option Elab.async false
set_option linter.all false
set_option maxRecDepth 100000
set_option autoImplicit false
namespace MP
open PySem L2
abbrev LeO : Option Int → Option Int → Prop := OR (fun a b => a ≤ b)
theorem latest_ub {row : List (Option Int)} {v : Int} (h : latest row = some v) : ∀ o ∈ row, ∃ x, o = some x ∧ x ≤ v := by
  unfold latest at h
  split at h
  · rename_i c
    intro o m
    have := List.all_eq_true.mp c o m
    cases o with
    | none => cases this
    | some x =>
      refine ⟨x, rfl, (maxI_spec h).2 x ?_⟩
      rw [List.mem_filterMap]
      exact ⟨some x, m, rfl⟩
  · cases h
/-- the day of a letter leans on one happening, or on none -/
def Wit (ls : List Letter) (ds : List (Option Int)) (j : Int) (v : Int) : Prop :=
  (∀ ds2 v2, rowAt (dues ds2 ls) j = some v2 → v ≤ v2) ∨ (∃ h c x, rowAt ds h = some x ∧ v = x + c ∧ ∀ ds2 v2 y, rowAt (dues ds2 ls) j = some v2 → rowAt ds2 h = some y → y + c ≤ v2)
theorem wit {ls : List Letter} {ds : List (Option Int)} (ok : ∀ (k : Nat) (l : Letter), ls[k]? = some l → VLet k l) : ∀ (n : Nat) (j v : Int), j.toNat < n → 0 ≤ j → rowAt (dues ds ls) j = some v → Wit ls ds j v := by
  intro n
  induction n with
  | zero => intro j v h; omega
  | succ n ih =>
    intro j v hj j0 e
    have hl : j.toNat < ls.length := by
      have := rowAt_lt (D := dues ds ls) (i := j) (by rw [e]; rfl)
      rw [dues_len] at this
      omega
    have el : ls[j.toNat]? = some ls[j.toNat] := List.getElem?_eq_getElem hl
    generalize ls[j.toNat] = l at el
    have vq := ok _ _ el
    have er := rowAt_dues (days := ds) ok el
    rw [e] at er
    have ne : l.terms.map (dayOf ds (dues ds ls)) ≠ [] := by
      intro z
      have := vq.t1
      rw [List.map_eq_nil_iff] at z
      simp [z] at this
    have lm := latest_mem ne
    rw [← er] at lm
    obtain ⟨t, mt, et⟩ := List.mem_map.mp lm
    have vt := vq.tt t mt
    have ub : ∀ ds2 v2, rowAt (dues ds2 ls) j = some v2 → ∃ x, dayOf ds2 (dues ds2 ls) t = some x ∧ x ≤ v2 := fun ds2 v2 e2 => by
      rw [rowAt_dues (days := ds2) ok el] at e2
      exact latest_ub e2 _ (List.mem_map_of_mem mt)
    cases t with
    | day x =>
      left
      intro ds2 v2 e2
      obtain ⟨y, ey, hy⟩ := ub ds2 v2 e2
      simp only [dayOf, Option.some.injEq] at et ey
      omega
    | when h d =>
      right
      simp only [dayOf] at et ub
      cases q : rowAt ds h with
      | none => rw [q] at et; cases et
      | some x =>
        rw [q] at et
        simp only [Option.map_some, Option.some.injEq] at et
        refine ⟨h, d, x, q, et.symm, fun ds2 v2 y e2 ey => ?_⟩
        obtain ⟨z, ez, hz⟩ := ub ds2 v2 e2
        rw [ey] at ez
        simp only [Option.map_some, Option.some.injEq] at ez
        omega
    | after k d =>
      simp only [dayOf] at et ub
      simp only [VT] at vt
      cases q : rowAt (dues ds ls) k with
      | none => rw [q] at et; cases et
      | some u =>
        rw [q] at et
        simp only [Option.map_some, Option.some.injEq] at et
        rcases ih k u (by omega) vt.1.1 q with w | ⟨h, c, x, w1, w2, w3⟩
        · left
          intro ds2 v2 e2
          obtain ⟨z, ez, hz⟩ := ub ds2 v2 e2
          cases q2 : rowAt (dues ds2 ls) k with
          | none => rw [q2] at ez; cases ez
          | some u2 =>
            rw [q2] at ez
            simp only [Option.map_some, Option.some.injEq] at ez
            have := w ds2 u2 q2
            omega
        · right
          refine ⟨h, c + d, x, w1, by omega, fun ds2 v2 y e2 ey => ?_⟩
          obtain ⟨z, ez, hz⟩ := ub ds2 v2 e2
          cases q2 : rowAt (dues ds2 ls) k with
          | none => rw [q2] at ez; cases ez
          | some u2 =>
            rw [q2] at ez
            simp only [Option.map_some, Option.some.injEq] at ez
            have := w3 ds2 u2 y q2 ey
            omega
theorem rowAt_set {row : List (Option Int)} {h : Int} {o : Option Int} (h1 : h.toNat < row.length) : rowAt (row.set h.toNat o) h = o := by
  unfold rowAt
  rw [List.getElem?_set_self h1]
  rfl
theorem rowAt_some {row : List (Option Int)} {h : Int} {x : Int} (e : rowAt row h = some x) : row[h.toNat]? = some (some x) := by
  unfold rowAt at e
  cases q : row[h.toNat]? with
  | none => rw [q] at e; cases e
  | some o => rw [q] at e; cases e; rfl
theorem aheadB_of {D : List (Option Int)} {one other a b : Int} (h1 : rowAt D one = some a) (h2 : rowAt D other = some b) : aheadB D one other = true ↔ (a < b ∨ (a = b ∧ one < other)) := by
  simp only [aheadB, h1, h2]
  split
  · rename_i c; simp [c]
  · rename_i c; simp [c]
/-- rows side by side, one place changed -/
theorem all2_set {P : Option Int → Option Int → Prop} {a b : List (Option Int)} {k : Nat} {x y : Option Int} (h : All2 P a b) (p : P x y) : All2 P (a.set k x) (b.set k y) := by
  induction h generalizing k with
  | nil => exact .nil
  | cons q t ih =>
    cases k with
    | zero => exact .cons p t
    | succ k => exact .cons q (ih)
theorem all2_setl {P : Option Int → Option Int → Prop} {a b : List (Option Int)} {k : Nat} {x : Option Int} (h : All2 P a b) (p : ∀ y, b[k]? = some y → P x y) : All2 P (a.set k x) b := by
  induction h generalizing k with
  | nil => exact .nil
  | cons q t ih =>
    cases k with
    | zero => exact .cons (p _ rfl) t
    | succ k => exact .cons q (ih (fun y e => p y e))
theorem le_refl' (a : Option Int) : LeO a a := by cases a <;> simp [LeO, OR]
theorem leo_some {a b : Option Int} {x : Int} (h : LeO a b) (e : a = some x) : ∃ y, b = some y ∧ x ≤ y := by
  subst e
  cases b with
  | none => exact h.elim
  | some y => exact ⟨y, rfl, h⟩
theorem leo_some' {a b : Option Int} {y : Int} (h : LeO a b) (e : b = some y) : ∃ x, a = some x ∧ x ≤ y := by
  subst e
  cases a with
  | none => exact h.elim
  | some x => exact ⟨x, rfl, h⟩
/-- a happening's list to try -/
theorem try_mem {sp : List Sp} {k : Nat} {a b : Int} (e : sp[k]? = some (some (a, b))) : (firstsOf sp).set k (some b) ∈ tryRows sp := by
  have key : ∀ (l : List Sp) (m k : Nat), l[k]? = some (some (a, b)) → (firstsOf sp).set (m + k) (some b) ∈ tryFrom (firstsOf sp) m l := by
    intro l
    induction l with
    | nil => intro m k e; cases e
    | cons o l ih =>
      intro m k e
      cases k with
      | zero =>
        cases e
        simp [tryFrom]
      | succ k =>
        have := ih (m + 1) k e
        rw [show m + 1 + k = m + (k + 1) by omega] at this
        rcases o with _ | ⟨c, d⟩
        · exact this
        · simp only [tryFrom, List.mem_cons]
          exact .inr this
  have := key sp 0 k e
  rw [Nat.zero_add] at this
  exact List.mem_cons_of_mem _ this
theorem first_mem {sp : List Sp} : firstsOf sp ∈ tryRows sp := List.mem_cons_self
theorem within_le' : ∀ {sp : List Sp} {ds : List (Option Int)}, withinB sp ds = true → All2 LeO (firstsOf sp) ds ∧ All2 LeO ds (lastsOf sp)
  | [], [], _ => ⟨.nil, .nil⟩
  | [], _ :: _, h => by simp [withinB] at h
  | none :: s, [], h => by simp [withinB] at h
  | some (a, b) :: s, [], h => by simp [withinB] at h
  | none :: s, some x :: d, h => by simp [withinB] at h
  | some (a, b) :: s, none :: d, h => by simp [withinB] at h
  | none :: s, none :: d, h => by
    obtain ⟨h1, h2⟩ := within_le' (sp := s) (ds := d) (by simpa [withinB] using h)
    exact ⟨.cons trivial h1, .cons trivial h2⟩
  | some (a, b) :: s, some x :: d, h => by
    simp only [withinB, Bool.and_eq_true, decide_eq_true_eq] at h
    obtain ⟨h1, h2⟩ := within_le' (sp := s) (ds := d) h.2
    exact ⟨.cons h.1.1 h1, .cons h.1.2 h2⟩
theorem within_iff : ∀ {sp : List Sp} {ds : List (Option Int)}, All2 LeO (firstsOf sp) ds → All2 LeO ds (lastsOf sp) → withinB sp ds = true
  | [], _, .nil, _ => rfl
  | none :: s, _, .cons (b := none) _ h1, .cons _ h2 => by
    simp only [withinB]
    exact within_iff h1 h2
  | none :: s, _, .cons (b := some x) h _, _ => h.elim
  | some (a, b) :: s, _, .cons (b := none) h _, _ => h.elim
  | some (a, b) :: s, _, .cons (b := some x) h h1, .cons h' h2 => by
    simp only [withinB, Bool.and_eq_true, decide_eq_true_eq]
    exact ⟨⟨h, h'⟩, within_iff h1 h2⟩
theorem fl_le {sp : List Sp} (v : VS sp) : All2 LeO (firstsOf sp) (lastsOf sp) := by
  unfold firstsOf lastsOf
  refine All2.map2 fun o m => ?_
  rcases o with _ | ⟨a, b⟩
  · trivial
  · have := v.ok _ m a b rfl
    show a ≤ b
    omega
/-- each list to try is within -/
theorem try_within {sp : List Sp} (v : VS sp) : ∀ d ∈ tryRows sp, withinB sp d = true := by
  have fw : withinB sp (firstsOf sp) = true := within_iff (All2.refl' le_refl' _) (fl_le v)
  have key : ∀ (l : List Sp) (k : Nat), sp.drop k = l → ∀ d ∈ tryFrom (firstsOf sp) k l, withinB sp d = true := by
    intro l
    induction l with
    | nil => intro k _ d m; simp [tryFrom] at m
    | cons o l ih =>
      intro k e d m
      have e2 : sp.drop (k + 1) = l := by
        have := congrArg List.tail e
        simpa [List.tail_drop] using this
      have e3 : sp[k]? = some o := by
        have := congrArg (·[0]?) e
        simpa using this
      rcases o with _ | ⟨a, b⟩
      · exact ih (k + 1) e2 d m
      · simp only [tryFrom, List.mem_cons] at m
        rcases m with rfl | m
        · have vo := v.ok _ (List.mem_of_getElem? e3) a b rfl
          have h1 : (firstsOf sp)[k]? = some (some a) := by simp [firstsOf, e3]
          have h2 : (lastsOf sp)[k]? = some (some b) := by simp [lastsOf, e3]
          refine within_iff ?_ ?_
          · exact (All2.refl' le_refl' _).set_r h1 (by show a ≤ b; omega)
          · refine all2_setl (fl_le v) fun y ey => ?_
            rw [h2] at ey
            cases ey
            exact Int.le_refl b
        · exact ih (k + 1) e2 d m
  intro d m
  simp only [tryRows, List.mem_cons] at m
  rcases m with rfl | m
  · exact fw
  · exact key sp 0 rfl d m
/-- all that are tried: all -/
theorem surely_all {ls : List Letter} {sp : List Sp} {one other : Int} (vs : VS sp) (vl : VL ls) (o0 : 0 ≤ one) (p0 : 0 ≤ other) (ho : hasDay sp ls one) (hp : hasDay sp ls other) (h : surelyB ls sp one other = true) : ∀ ds, withinB sp ds = true → aheadB (dues ds ls) one other = true := by
  intro ds hw
  simp only [surelyB, List.all_eq_true] at h
  obtain ⟨w1, w2⟩ := within_le' hw
  have hF := h _ (first_mem (sp := sp))
  have m1 := dues_le w1 ls
  obtain ⟨aF, eaF⟩ := Option.isSome_iff_exists.mp ho
  obtain ⟨bF, ebF⟩ := Option.isSome_iff_exists.mp hp
  obtain ⟨a, ea, laF⟩ := leo_some (rowAt_rel m1 one) eaF
  obtain ⟨b, eb, lbF⟩ := leo_some (rowAt_rel m1 other) ebF
  rw [aheadB_of eaF ebF] at hF
  rw [aheadB_of ea eb]
  rcases wit (ds := ds) vl.ok (one.toNat + 1) one a (by omega) o0 ea with w | ⟨k, c, x, ex, hx, w⟩
  · have := w _ aF eaF
    omega
  · -- the happening that the day leans on
    have gx := rowAt_some ex
    have lk : k.toNat < sp.length := by
      have := lt_of_getL gx
      have l2 := w1.length
      simp [firstsOf] at l2
      omega
    obtain ⟨y, ey, _⟩ := w2.get gx
    obtain ⟨fi, la, es⟩ : ∃ fi la, sp[k.toNat]? = some (some (fi, la)) := by
      have es : sp[k.toNat]? = some sp[k.toNat] := List.getElem?_eq_getElem lk
      have := w2.get2 gx (b := (sp[k.toNat]).map (·.2)) (by simp [lastsOf, es])
      cases q : sp[k.toNat] with
      | none => rw [q] at this; exact this.elim
      | some p => exact ⟨p.1, p.2, by rw [es, q]⟩
    have h1 : (firstsOf sp)[k.toNat]? = some (some fi) := by simp [firstsOf, es]
    have h2 : (lastsOf sp)[k.toNat]? = some (some la) := by simp [lastsOf, es]
    have b1 : fi ≤ x := w1.get2 h1 gx
    have b2 : x ≤ la := w2.get2 gx h2
    have lkf : k.toNat < (firstsOf sp).length := by simpa [firstsOf] using lk
    -- all first days, the happening's own day
    have q1 : All2 LeO (firstsOf sp) ((firstsOf sp).set k.toNat (some x)) := (All2.refl' le_refl' _).set_r h1 b1
    have q2 : All2 LeO ((firstsOf sp).set k.toNat (some x)) ds := all2_setl w1 fun y ey => by rw [gx] at ey; cases ey; exact Int.le_refl x
    have mx1 := dues_le q1 ls
    have mx2 := dues_le q2 ls
    obtain ⟨ax, eax, lax⟩ := leo_some (rowAt_rel mx1 one) eaF
    obtain ⟨bx, ebx, lbx⟩ := leo_some (rowAt_rel mx1 other) ebF
    have ra := rowAt_rel mx2 one
    rw [eax, ea] at ra
    have rb := rowAt_rel mx2 other
    rw [ebx, eb] at rb
    have ra : ax ≤ a := ra
    have rb : bx ≤ b := rb
    have wa := w _ ax x eax (rowAt_set lkf)
    -- its last day
    have hL := h _ (try_mem es)
    have q3 : All2 (OR fun u v => u ≤ v ∧ v ≤ u + (la - x)) ((firstsOf sp).set k.toNat (some x)) ((firstsOf sp).set k.toNat (some la)) := by
      refine all2_set (All2.refl' (fun o => ?_) _) (by show x ≤ la ∧ la ≤ x + (la - x); omega)
      cases o with
      | none => trivial
      | some u => show u ≤ u ∧ u ≤ u + (la - x); omega
    have mL := dues_rel (goes_by (k := la - x) (by omega)) q3 (ls := ls) fun _ _ u _ => by show u ≤ u ∧ u ≤ u + (la - x); omega
    have sa := rowAt_rel mL one
    have sb := rowAt_rel mL other
    rw [eax] at sa
    rw [ebx] at sb
    cases eL : rowAt (dues ((firstsOf sp).set k.toNat (some la)) ls) one with
    | none => rw [eL] at sa; exact sa.elim
    | some aL =>
      cases fL : rowAt (dues ((firstsOf sp).set k.toNat (some la)) ls) other with
      | none => rw [fL] at sb; exact sb.elim
      | some bL =>
        rw [eL] at sa
        rw [fL] at sb
        have sa : ax ≤ aL ∧ aL ≤ ax + (la - x) := sa
        have sb : bx ≤ bL ∧ bL ≤ bx + (la - x) := sb
        rw [aheadB_of eL fL] at hL
        have wL := w _ aL la eL (rowAt_set lkf)
        omega
theorem surely_iff {ls : List Letter} {sp : List Sp} {one other : Int} (vs : VS sp) (vl : VL ls) (o0 : 0 ≤ one) (p0 : 0 ≤ other) (ho : hasDay sp ls one) (hp : hasDay sp ls other) : surelyB ls sp one other = true ↔ ∀ ds, withinB sp ds = true → aheadB (dues ds ls) one other = true := by
  refine ⟨surely_all vs vl o0 p0 ho hp, fun h => ?_⟩
  simp only [surelyB, List.all_eq_true]
  exact fun d m => h d (try_within vs d m)
theorem surelyV_cls {ls : List Letter} {sp : List Sp} {one other : Int} : (surelyB ls sp one other = true ∧ surelyV ls sp one other = .obj .own 3 [] []) ∨ (surelyB ls sp one other = false ∧ ∃ d, surelyV ls sp one other = oPer .own .own d ∧ d ∈ tryRows sp ∧ aheadB (dues d ls) one other = false) := by
  unfold surelyV
  cases q : (tryRows sp).find? (fun d => !aheadB (dues d ls) one other) with
  | none =>
    left
    refine ⟨?_, rfl⟩
    rw [List.find?_eq_none] at q
    simp only [surelyB, List.all_eq_true]
    intro d m
    simpa using q d m
  | some d =>
    right
    have m := List.mem_of_find?_eq_some q
    have p := List.find?_some q
    refine ⟨?_, d, rfl, m, by simpa using p⟩
    rw [surelyB, List.all_eq_false]
    exact ⟨d, m, by simpa using p⟩
theorem surelyV_isi {ls : List Letter} {sp : List Sp} {one other : Int} {sup : Nat → List Nat} {h : Hm} (s3 : (sup 3).contains 3 = true) (s4 : (sup 4).contains 3 = false) : isiM sup h (surelyV ls sp one other) (.cls 3) = some (surelyB ls sp one other) := by
  rcases surelyV_cls (ls := ls) (sp := sp) (one := one) (other := other) with ⟨e1, e2⟩ | ⟨e1, d, e2, _⟩
  · rw [e1, e2]
    simp only [isiM, s3]
  · rw [e1, e2]
    simp only [isiM, oPer, s4]
theorem isM_encB (p : Option Int × Option Int) : isM (encB p) .non = some p.1.isNone := by
  rcases p with ⟨_ | x, o⟩ <;> rfl
/-- two both ways: not both -/
theorem not_both {ls : List Letter} {sp : List Sp} {one other : Int} (h1 : surelyB ls sp one other = true) (h2 : surelyB ls sp other one = true) : False := by
  simp only [surelyB, List.all_eq_true] at h1 h2
  have a := h1 _ (first_mem (sp := sp))
  have b := h2 _ (first_mem (sp := sp))
  unfold aheadB at a b
  cases p : rowAt (dues (firstsOf sp) ls) one with
  | none => rw [p] at a; cases a
  | some x =>
    cases q : rowAt (dues (firstsOf sp) ls) other with
    | none => rw [p, q] at a; cases a
    | some y =>
      rw [p, q] at a b
      simp only at a b
      split at a <;> split at b <;> simp at a b <;> omega
end MP
set_option Elab.async false
set_option linter.all false
set_option maxRecDepth 100000
set_option autoImplicit false
namespace MP
/-- _law_days_right -/
def cl101 : Fn := ⟨3, 20, (.seq (.par [3, 4] (.cons (.call .pur 10 (.cons (.var 0) (.cons (.var 1) .nil))) (.cons (.bin true .mod (.var 2) (.cst (.int 6))) .nil)))
    (.seq (.asg (.nm 5) (.comp true [6, 7] (.tp (.cons (.nm 6) (.cons (.nm 7) .nil))) (.iSeq (.var 0)) (.cst (.bl true)) (.tup (.cons (.rev true (.var 6)) (.cons (.rev true (.var 7)) .nil)))))
    (.seq (.ite (.cmp .ne (.call .pur 10 (.cons (.var 5) (.cons (.var 1) .nil))) (.var 3)) (.seq (.ret (.cst (.bl false)))
    .nil) .nil)
    (.seq (.asg (.nm 8) (.comp true [6, 7] (.tp (.cons (.nm 6) (.cons (.nm 7) .nil))) (.iSeq (.var 0)) (.cst (.bl true)) (.tup (.cons (.var 6) (.cons (.slc true (.bin true .add (.var 7) (.lst true (.cons (.tup (.cons (.cst (.str 0)) (.cons (.bin true .mod (.var 2) (.cst (.int 61))) .nil))) .nil))) .omit (.part (.cst (.int 4)))) .nil)))))
    (.seq (.loop (.tp (.cons (.nm 9) (.cons (.nm 10) .nil))) (.iZip (.cons (.var 3) (.cons (.call .pur 10 (.cons (.var 8) (.cons (.var 1) .nil))) .nil))) (.seq (.ite (.or (.cmp .ne (.cmp .is (.var 9) (.cst .non)) (.cmp .is (.var 10) (.cst .non))) (.and (.cmp .isn (.var 9) (.cst .non)) (.cmp .lt (.var 10) (.var 9)))) (.seq (.ret (.cst (.bl false)))
    .nil) .nil)
    .nil))
    (.seq (.ite (.and (.cmp .isn (.idx (.var 1) (.var 4)) (.cst .non)) (.cmp .lt (.idx (.var 1) (.var 4)) (.cst (.int 60)))) (.seq (.asg (.nm 11) (.bi .list false (.cons (.var 1) .nil)))
    (.seq (.setI (.var 11) (.var 4) (.bin true .add (.idx (.var 1) (.var 4)) (.cst (.int 1))))
    (.seq (.loop (.tp (.cons (.nm 9) (.cons (.nm 10) .nil))) (.iZip (.cons (.var 3) (.cons (.call .pur 10 (.cons (.var 0) (.cons (.var 11) .nil))) .nil))) (.seq (.ite (.or (.cmp .ne (.cmp .is (.var 9) (.cst .non)) (.cmp .is (.var 10) (.cst .non))) (.and (.cmp .isn (.var 9) (.cst .non)) (.not (.cmp2 .le .le (.var 9) (.var 10) (.bin true .add (.var 9) (.cst (.int 1))))))) (.seq (.ret (.cst (.bl false)))
    .nil) .nil)
    .nil))
    .nil))) .nil)
    (.seq (.asg (.nm 12) (.lst false .nil))
    (.seq (.loop (.tp (.cons (.nm 6) (.cons (.nm 7) .nil))) (.iSeq (.var 0)) (.seq (.asg (.nm 13) (.comp true [14] (.nm 14) (.iSeq (.var 7)) (.cmp .ne (.idx (.var 14) (.cst (.int 0))) (.cst (.str 0))) (.var 14)))
    (.seq (.ex (.meth .append (.var 12) (.cons (.tup (.cons (.var 6) (.cons (.ite (.cmp .ne (.var 13) (.lst true .nil)) (.var 13) (.lst true (.cons (.tup (.cons (.cst (.str 1)) (.cons (.cst (.int 0)) (.cons (.cst (.int 0)) .nil)))) .nil))) .nil))) .nil)))
    .nil)))
    (.seq (.ite (.cmp .lt (.bi .max1 true (.cons (.bin true .add (.lst true (.cons (.cst (.int 0)) .nil)) (.comp true [15] (.nm 15) (.iSeq (.var 1)) (.cmp .isn (.var 15) (.cst .non)) (.var 15))) .nil)) (.cst (.int 51))) (.seq (.asg (.nm 16) (.call .pur 10 (.cons (.var 12) (.cons (.comp true [15] (.nm 15) (.iSeq (.var 1)) (.cst (.bl true)) (.ite (.cmp .is (.var 15) (.cst .non)) (.cst .non) (.bin true .add (.var 15) (.cst (.int 10))))) .nil))))
    (.seq (.ite (.cmp .ne (.var 16) (.comp true [15] (.nm 15) (.iSeq (.call .pur 10 (.cons (.var 12) (.cons (.var 1) .nil)))) (.cst (.bl true)) (.ite (.cmp .is (.var 15) (.cst .non)) (.cst .non) (.bin true .add (.var 15) (.cst (.int 10)))))) (.seq (.ret (.cst (.bl false)))
    .nil) .nil)
    .nil)) .nil)
    (.seq (.asg (.nm 17) (.bi .sorted true (.cons (.comp true [15, 18] (.tp (.cons (.nm 18) (.cons (.nm 15) .nil))) (.iEnum (.var 3)) (.cmp .isn (.var 15) (.cst .non)) (.tup (.cons (.var 15) (.cons (.var 18) .nil)))) .nil)))
    (.seq (.ret (.cmp .eq (.comp true [19] (.nm 19) (.iSeq (.call .pur 26 (.cons (.var 5) (.cons (.var 1) (.cons (.bin true .mul (.lst true (.cons (.cst .non) .nil)) (.cst (.int 10))) .nil))))) (.cst (.bl true)) (.slc true (.var 19) .omit (.part (.cst (.int 2))))) (.var 17)))
    .nil)))))))))))⟩
/-- law -/
def cl102 : Fn := ⟨1, 17, (.seq (.asg (.nm 1) (.bi .sum true (.cons (.slc true (.var 0) .omit (.part (.cst (.int 63)))) .nil)))
    (.seq (.loop (.nm 2) (.iRng (.cons (.cst (.int 2)) .nil)) (.seq (.par [3, 4] (.cons (.call .pur 50 (.cons (.var 0) (.cons (.var 2) (.cons (.cst (.int 39)) .nil)))) (.cons (.call .pur 51 (.cons (.var 0) (.cons (.var 2) .nil))) .nil)))
    (.seq (.ite (.not (.call .pur 101 (.cons (.var 3) (.cons (.var 4) (.cons (.bin true .fdiv (.var 1) (.cst (.int 3))) .nil))))) (.seq (.ret (.cst (.bl false)))
    .nil) .nil)
    (.seq (.asg (.nm 5) (.call .pur 67 (.cons (.var 0) (.cons (.var 2) (.cons (.cst (.int 9)) .nil)))))
    (.seq (.asg (.nm 6) (.comp true [7] (.nm 7) (.iSeq (.var 5)) (.cst (.bl true)) (.ite (.cmp .is (.var 7) (.cst .non)) (.cst .non) (.tup (.cons (.bi .max2 true (.cons (.cst (.int 0)) (.cons (.bin true .sub (.idx (.var 7) (.cst (.int 0))) (.cst (.int 1))) .nil))) (.cons (.bi .min2 true (.cons (.cst (.int 60)) (.cons (.bin true .add (.idx (.var 7) (.cst (.int 1))) (.cst (.int 1))) .nil))) .nil))))))
    (.seq (.asg (.nm 8) (.slc true (.var 3) .omit (.part (.cst (.int 8)))))
    (.seq (.loop (.tp (.cons (.nm 9) (.cons (.nm 10) .nil))) (.iZip (.cons (.call .pur 29 (.cons (.var 8) (.cons (.var 5) .nil))) (.cons (.call .pur 29 (.cons (.var 8) (.cons (.var 6) .nil))) .nil))) (.seq (.ite (.cmp .ne (.cmp .is (.var 9) (.cst .non)) (.cmp .is (.var 10) (.cst .non))) (.seq (.ret (.cst (.bl false)))
    .nil) .nil)
    (.seq (.ite (.and (.cmp .isn (.var 9) (.cst .non)) (.not (.cmp3 .le .le .le (.idx (.var 10) (.cst (.int 0))) (.idx (.var 9) (.cst (.int 0))) (.idx (.var 9) (.cst (.int 1))) (.idx (.var 10) (.cst (.int 1)))))) (.seq (.ret (.cst (.bl false)))
    .nil) .nil)
    .nil)))
    (.seq (.asg (.nm 11) (.comp true [9, 12] (.tp (.cons (.nm 12) (.cons (.nm 9) .nil))) (.iEnum (.call .pur 29 (.cons (.var 8) (.cons (.var 5) .nil)))) (.cmp .isn (.var 9) (.cst .non)) (.var 12)))
    (.seq (.loop (.tp (.cons (.nm 13) (.cons (.nm 10) .nil))) (.iZip (.cons (.var 11) (.cons (.slc true (.var 11) (.part (.cst (.int 1))) .omit) .nil))) (.seq (.par [14, 15] (.cons (.call .pur 30 (.cons (.var 8) (.cons (.var 5) (.cons (.var 13) (.cons (.var 10) .nil))))) (.cons (.call .pur 30 (.cons (.var 8) (.cons (.var 5) (.cons (.var 10) (.cons (.var 13) .nil))))) .nil)))
    (.seq (.ite (.and (.isi (.var 14) (.cls 3)) (.isi (.var 15) (.cls 3))) (.seq (.ret (.cst (.bl false)))
    .nil) .nil)
    (.seq (.ite (.and (.isi (.call .pur 30 (.cons (.var 8) (.cons (.var 6) (.cons (.var 13) (.cons (.var 10) .nil))))) (.cls 3)) (.not (.isi (.var 14) (.cls 3)))) (.seq (.ret (.cst (.bl false)))
    .nil) .nil)
    (.seq (.ite (.and (.cmp .lt (.idx (.idx (.call .pur 29 (.cons (.var 8) (.cons (.var 5) .nil))) (.var 13)) (.cst (.int 1))) (.idx (.idx (.call .pur 29 (.cons (.var 8) (.cons (.var 5) .nil))) (.var 10)) (.cst (.int 0)))) (.not (.isi (.var 14) (.cls 3)))) (.seq (.ret (.cst (.bl false)))
    .nil) .nil)
    .nil)))))
    (.seq (.asg (.nm 16) (.bin true .add (.var 3) (.slc true (.var 3) (.part (.neg (.cst (.int 1)))) .omit)))
    (.seq (.ite (.cmp .ne (.idx (.call .pur 10 (.cons (.var 16) (.cons (.var 4) .nil))) (.neg (.cst (.int 1)))) (.idx (.call .pur 10 (.cons (.var 3) (.cons (.var 4) .nil))) (.neg (.cst (.int 1))))) (.seq (.ret (.cst (.bl false)))
    .nil) .nil)
    (.seq (.ite (.cmp .ne (.idx (.idx (.fld (.call .pur 16 (.cons (.var 16) (.cons (.var 4) (.cons (.bi .len true (.cons (.var 3) .nil)) .nil)))) 0) (.cst (.int 0))) (.cst (.int 0))) (.bi .len true (.cons (.var 3) .nil))) (.seq (.ret (.cst (.bl false)))
    .nil) .nil)
    .nil))))))))))))
    (.seq (.ret (.cmp .eq (.call .pur 10 (.cons (.lst true (.cons (.tup (.cons (.lst true (.cons (.cst (.int 0)) .nil)) (.cons (.lst true (.cons (.tup (.cons (.cst (.str 0)) (.cons (.cst (.int 0)) .nil))) .nil)) .nil))) .nil)) (.cons (.bin true .mul (.lst true (.cons (.cst .non) .nil)) (.cst (.int 6))) .nil))) (.lst true (.cons (.cst (.int 0)) .nil))))
    .nil)))⟩
/-- Why.shows, as it stands here -/
def K10.c18 : Fn := ⟨4, 4, (.seq (.ex (.call .pur 45 (.cons (.cst (.int 0)) .nil)))
    .nil)⟩
/-- Waits.shows, as it stands here -/
def K10.c20 : Fn := ⟨4, 4, (.seq (.ex (.call .pur 45 (.cons (.cst (.int 1)) .nil)))
    .nil)⟩
/-- Ahead.shows, as it stands here -/
def K10.c21 : Fn := ⟨5, 5, (.seq (.ex (.call .pur 45 (.cons (.cst (.int 2)) .nil)))
    .nil)⟩
/-- Perhaps.shows, as it stands here -/
def K10.c23 : Fn := ⟨5, 5, (.seq (.ex (.call .pur 45 (.cons (.cst (.int 3)) .nil)))
    .nil)⟩
end MP
set_option Elab.async false
set_option linter.all false
set_option maxRecDepth 100000
set_option autoImplicit false
namespace MP.K10
open PySem PySem.Spec PyProof.Rows L2 MP
def top (i : Nat) : Stmt := PySem.Challenge.pw_laterletters_k10_whole_kin.main.body.getD i (.Pass ⟨0, 0, 0, 0⟩)
abbrev d0 : Dfn := ⟨"day_of", "day_of", (top 2), [("term" : Str), ("days" : Str), ("found" : Str), ("ahead" : Str)], [("term" : Str), ("days" : Str), ("found" : Str)], MP.c_day_of⟩
abbrev d1 : Dfn := ⟨"dues_of", "dues_of", (top 3), [("letters" : Str), ("days" : Str), ("found" : Str), ("heirs" : Str), ("terms" : Str), ("some" : Str), ("term" : Str)], [("letters" : Str), ("days" : Str)], MP.c_dues_of⟩
abbrev d2 : Dfn := ⟨"is_whole", "is_whole", (top 31), [("thing" : Str)], [("thing" : Str)], MP.c_is_whole⟩
abbrev d3 : Dfn := ⟨"is_between", "is_between", (top 32), [("thing" : Str), ("least" : Str), ("most" : Str)], [("thing" : Str), ("least" : Str), ("most" : Str)], MP.c_is_between⟩
abbrev d4 : Dfn := ⟨"are_heirs", "are_heirs", (top 33), [("thing" : Str), ("one" : Str)], [("thing" : Str)], MP.c_are_heirs⟩
abbrev d5 : Dfn := ⟨"is_term", "is_term", (top 34), [("thing" : Str), ("at" : Str)], [("thing" : Str), ("at" : Str)], MP.c_is_term⟩
abbrev d6 : Dfn := ⟨"is_letter", "is_letter", (top 35), [("thing" : Str), ("at" : Str), ("term" : Str)], [("thing" : Str), ("at" : Str)], MP.c_is_letter⟩
abbrev d7 : Dfn := ⟨"check_letters", "check_letters", (top 36), [("letters" : Str), ("at" : Str), ("letter" : Str)], [("letters" : Str)], MP.c_check_letters⟩
abbrev d8 : Dfn := ⟨"are_days", "are_days", (top 37), [("thing" : Str), ("many" : Str), ("one" : Str)], [("thing" : Str), ("many" : Str)], MP.c_are_days⟩
abbrev d9 : Dfn := ⟨"check_days", "check_days", (top 38), [("letters" : Str), ("days" : Str)], [("letters" : Str), ("days" : Str)], MP.c_check_days⟩
abbrev d10 : Dfn := ⟨"due_days", "due_days", (top 43), [("letters" : Str), ("days" : Str)], [("letters" : Str), ("days" : Str)], MP.c_due_days⟩
abbrev d11 : Dfn := ⟨"chain_to", "chain_to", (top 4), [("letters" : Str), ("days" : Str), ("number" : Str), ("found" : Str), ("dues" : Str), ("terms" : Str), ("some" : Str), ("term" : Str), ("place" : Str)], [("letters" : Str), ("days" : Str), ("number" : Str)], MP.c_chain_to⟩
abbrev d13 : Dfn := ⟨"ends_of", "ends_of", (top 6), [("spans" : Str), ("last" : Str), ("span" : Str)], [("spans" : Str), ("last" : Str)], MP.c_ends_of⟩
abbrev d14 : Dfn := ⟨"is_ahead", "is_ahead", (top 7), [("dues" : Str), ("one" : Str), ("other" : Str)], [("dues" : Str), ("one" : Str), ("other" : Str)], MP.c_is_ahead⟩
abbrev d15 : Dfn := ⟨"lists_to_try", "lists_to_try", (top 8), [("spans" : Str), ("found" : Str), ("at" : Str), ("span" : Str), ("some" : Str)], [("spans" : Str)], MP.c_lists_to_try⟩
abbrev d16 : Dfn := ⟨"why", "why", (top 44), [("letters" : Str), ("days" : Str), ("number" : Str), ("chain" : Str)], [("letters" : Str), ("days" : Str), ("number" : Str)], MP.c_why⟩
abbrev d17 : Dfn := ⟨"__init__", "Why.__init__", (inClass (top 11) 0), [("self" : Str), ("chain" : Str)], [("self" : Str), ("chain" : Str)], MP.c_Why___init__⟩
abbrev d18 : Dfn := ⟨"shows", "Why.shows", (inClass (top 11) 1), [("self" : Str), ("letters" : Str), ("days" : Str), ("number" : Str)], [("self" : Str), ("letters" : Str), ("days" : Str), ("number" : Str)], MP.K10.c18⟩
abbrev d19 : Dfn := ⟨"__init__", "Waits.__init__", (inClass (top 12) 0), [("self" : Str), ("chain" : Str)], [("self" : Str), ("chain" : Str)], MP.c_Waits___init__⟩
abbrev d20 : Dfn := ⟨"shows", "Waits.shows", (inClass (top 12) 1), [("self" : Str), ("letters" : Str), ("days" : Str), ("number" : Str)], [("self" : Str), ("letters" : Str), ("days" : Str), ("number" : Str)], MP.K10.c20⟩
abbrev d21 : Dfn := ⟨"shows", "Ahead.shows", (inClass (top 13) 0), [("self" : Str), ("letters" : Str), ("spans" : Str), ("one" : Str), ("other" : Str)], [("self" : Str), ("letters" : Str), ("spans" : Str), ("one" : Str), ("other" : Str)], MP.K10.c21⟩
abbrev d22 : Dfn := ⟨"__init__", "Perhaps.__init__", (inClass (top 14) 0), [("self" : Str), ("days" : Str)], [("self" : Str), ("days" : Str)], MP.c_Perhaps___init__⟩
abbrev d23 : Dfn := ⟨"shows", "Perhaps.shows", (inClass (top 14) 1), [("self" : Str), ("letters" : Str), ("spans" : Str), ("one" : Str), ("other" : Str)], [("self" : Str), ("letters" : Str), ("spans" : Str), ("one" : Str), ("other" : Str)], MP.K10.c23⟩
abbrev d24 : Dfn := ⟨"heir_of", "heir_of", (top 5), [("heirs" : Str), ("gone" : Str), ("day" : Str), ("person" : Str)], [("heirs" : Str), ("gone" : Str), ("day" : Str)], MP.c_heir_of⟩
abbrev d25 : Dfn := ⟨"check_gone", "check_gone", (top 39), [("gone" : Str)], [("gone" : Str)], MP.c_check_gone⟩
abbrev d26 : Dfn := ⟨"handed_out", "handed_out", (top 45), [("letters" : Str), ("days" : Str), ("gone" : Str), ("dues" : Str), ("turn" : Str), ("number" : Str), ("day" : Str)], [("letters" : Str), ("days" : Str), ("gone" : Str)], MP.c_handed_out⟩
abbrev d27 : Dfn := ⟨"is_span", "is_span", (top 40), [("thing" : Str)], [("thing" : Str)], MP.c_is_span⟩
abbrev d28 : Dfn := ⟨"check_spans", "check_spans", (top 41), [("letters" : Str), ("spans" : Str), ("one" : Str)], [("letters" : Str), ("spans" : Str)], MP.c_check_spans⟩
abbrev d29 : Dfn := ⟨"between", "between", (top 46), [("letters" : Str), ("spans" : Str), ("least" : Str), ("most" : Str), ("one" : Str), ("other" : Str)], [("letters" : Str), ("spans" : Str)], MP.c_between⟩
abbrev d30 : Dfn := ⟨"surely", "surely", (top 47), [("letters" : Str), ("spans" : Str), ("one" : Str), ("other" : Str), ("dues" : Str), ("days" : Str)], [("letters" : Str), ("spans" : Str), ("one" : Str), ("other" : Str)], MP.c_surely⟩
abbrev d45 : Dfn := ⟨"_wall", "_wall", (top 0), [("k" : Str)], [("k" : Str)], MP.c__wall⟩
abbrev d46 : Dfn := ⟨"_law_number", "_law_number", (top 49), [("_law_cell" : Str), ("_law_at" : Str), ("_law_whole" : Str), ("_law_mixed" : Str), ("_law_more" : Str)], [("_law_cell" : Str), ("_law_at" : Str), ("_law_whole" : Str)], MP.cl46⟩
abbrev d48 : Dfn := ⟨"_law_term", "_law_term", (top 50), [("_law_number_here" : Str), ("_law_at" : Str), ("_law_kind" : Str), ("_law_sort" : Str), ("_law_rest" : Str)], [("_law_number_here" : Str), ("_law_at" : Str), ("_law_kind" : Str)], MP.cl48⟩
abbrev d49 : Dfn := ⟨"_law_letter", "_law_letter", (top 51), [("_law_number_here" : Str), ("_law_at" : Str), ("_law_kind" : Str), ("_law_heirs" : Str), ("_law_terms" : Str), ("_law_rest" : Str), ("_law_turn" : Str), ("_law_heir" : Str)], [("_law_number_here" : Str), ("_law_at" : Str), ("_law_kind" : Str)], MP.cl49⟩
abbrev d50 : Dfn := ⟨"_law_letters", "_law_letters", (top 52), [("_law_script" : Str), ("_law_by" : Str), ("_law_most" : Str), ("_law_cells" : Str), ("_law_whole" : Str), ("_law_found" : Str), ("_law_many" : Str), ("_law_kind" : Str), ("_law_at" : Str)], [("_law_script" : Str), ("_law_by" : Str), ("_law_most" : Str)], MP.cl50⟩
abbrev d51 : Dfn := ⟨"_law_days", "_law_days", (top 53), [("_law_script" : Str), ("_law_by" : Str), ("_law_cells" : Str), ("_law_whole" : Str), ("_law_found" : Str), ("_law_kind" : Str), ("_law_at" : Str), ("_law_number_here" : Str)], [("_law_script" : Str), ("_law_by" : Str)], MP.cl51⟩
abbrev d67 : Dfn := ⟨"_law_spans", "_law_spans", (top 54), [("_law_script" : Str), ("_law_by" : Str), ("_law_wide" : Str), ("_law_cells" : Str), ("_law_whole" : Str), ("_law_found" : Str), ("_law_kind" : Str), ("_law_at" : Str), ("_law_number_here" : Str), ("_law_first" : Str), ("_law_last" : Str)], [("_law_script" : Str), ("_law_by" : Str), ("_law_wide" : Str)], MP.cl67⟩
abbrev d101 : Dfn := ⟨"_law_days_right", "_law_days_right", (top 55), [("_law_letters_here" : Str), ("_law_days_here" : Str), ("_law_whole" : Str), ("_law_found" : Str), ("_law_spot" : Str), ("_law_turned" : Str), ("_law_heirs" : Str), ("_law_terms" : Str), ("_law_more" : Str), ("_law_one" : Str), ("_law_other" : Str), ("_law_later" : Str), ("_law_plain" : Str), ("_law_some" : Str), ("_law_term_here" : Str), ("_law_day" : Str), ("_law_moved" : Str), ("_law_order" : Str), ("_law_number_here" : Str), ("_law_row" : Str)], [("_law_letters_here" : Str), ("_law_days_here" : Str), ("_law_whole" : Str)], MP.cl101⟩
abbrev d102 : Dfn := ⟨"law", "law", (top 56), [("_law_script" : Str), ("_law_whole" : Str), ("_law_by" : Str), ("_law_letters_here" : Str), ("_law_days_here" : Str), ("_law_spans_here" : Str), ("_law_wider" : Str), ("_law_span" : Str), ("_law_few" : Str), ("_law_pair" : Str), ("_law_other" : Str), ("_law_good" : Str), ("_law_at" : Str), ("_law_one" : Str), ("_law_first" : Str), ("_law_second" : Str), ("_law_twice" : Str)], [("_law_script" : Str)], MP.cl102⟩
def D : List Dfn := [d0, d1, d2, d3, d4, d5, d6, d7, d8, d9, d10, d11, d0, d13, d14, d15, d16, d17, d18, d19, d20, d21, d22, d23, d24, d25, d26, d27, d28, d29, d30, d0, d0, d0, d0, d0, d0, d0, d0, d0, d0, d0, d0, d0, d0, d45, d46, d0, d48, d49, d50, d51, d0, d0, d0, d0, d0, d0, d0, d0, d0, d0, d0, d0, d0, d0, d0, d67, d0, d0, d0, d0, d0, d0, d0, d0, d0, d0, d0, d0, d0, d0, d0, d0, d0, d0, d0, d0, d0, d0, d0, d0, d0, d0, d0, d0, d0, d0, d0, d0, d0, d101, d102]
def tb : Tab where
  init := fun k => match k with | 1 => some 17 | 2 => some 19 | 4 => some 22 | _ => none
  meth := fun k m => match k, m with | 1, 0 => some 18 | 2, 0 => some 20 | 3, 0 => some 21 | 4, 0 => some 23 | _, _ => none
  sup := fun k => (([[0], [1, 0], [2, 0], [3, 0], [4, 0], []] : List (List Nat))).getD k []
def pg : Pg where
  txts := [("day" : Str), ("when" : Str), ("after" : Str), ("letters" : Str), ("over" : Str), ("days" : Str), ("gone" : Str), ("now" : Str), ("back" : Str), ("out" : Str), ("tell" : Str), ("leave" : Str), ("1" : Str), ("0" : Str), ("spans" : Str), ("01" : Str), ("letter" : Str), ("then" : Str), ("done" : Str), ("other" : Str), ("unlike" : Str), ("number" : Str)]
  flds := [("chain" : Str), ("days" : Str), ("letters" : Str), ("over" : Str), ("gone" : Str), ("now" : Str)]
  funs := [some ("day_of" : Str), some ("dues_of" : Str), some ("is_whole" : Str), some ("is_between" : Str), some ("are_heirs" : Str), some ("is_term" : Str), some ("is_letter" : Str), some ("check_letters" : Str), some ("are_days" : Str), some ("check_days" : Str), some ("due_days" : Str), some ("chain_to" : Str), none, some ("ends_of" : Str), some ("is_ahead" : Str), some ("lists_to_try" : Str), some ("why" : Str), none, none, none, none, none, none, none, some ("heir_of" : Str), some ("check_gone" : Str), some ("handed_out" : Str), some ("is_span" : Str), some ("check_spans" : Str), some ("between" : Str), some ("surely" : Str), none, none, none, none, none, none, none, none, none, none, none, none, none, none, some ("_wall" : Str), some ("_law_number" : Str), none, some ("_law_term" : Str), some ("_law_letter" : Str), some ("_law_letters" : Str), some ("_law_days" : Str), none, none, none, none, none, none, none, none, none, none, none, none, none, none, none, some ("_law_spans" : Str), none, none, none, none, none, none, none, none, none, none, none, none, none, none, none, none, none, none, none, none, none, none, none, none, none, none, none, none, none, none, none, none, none, some ("_law_days_right" : Str), some ("law" : Str)]
  clss := [some ("Answer" : Str), some ("Why" : Str), some ("Waits" : Str), some ("Ahead" : Str), some ("Perhaps" : Str), none]
  meths := [("shows" : Str), ("copied" : Str), ("put" : Str), ("check_left" : Str), ("change" : Str), ("take_back" : Str), ("tell" : Str), ("leave" : Str), ("noted" : Str), ("due_by_now" : Str), ("hand" : Str), ("pass_day" : Str), ("kept" : Str), ("all_letters" : Str)]
  cons := [("MOST_LETTERS", 40), ("MOST_HEIRS", 3), ("MOST_PERSON", 9), ("MOST_TERMS", 4), ("HAPPENINGS", 6), ("MOST_DAY", 60), ("MOST_DELAY", 20)]
  ar := fun i => ([3, 2, 1, 3, 1, 2, 2, 1, 2, 2, 2, 3, 3, 2, 3, 1, 3, 2, 4, 2, 4, 5, 2, 5, 3, 1, 3, 1, 2, 2, 4, 3, 3, 3, 3, 3, 3, 3, 3, 3, 3, 3, 3, 3, 3, 1, 3, 3, 3, 3, 3, 2, 3, 3, 3, 3, 3, 3, 3, 3, 3, 3, 3, 3, 3, 3, 3, 3, 3, 3, 3, 3, 3, 3, 3, 3, 3, 3, 3, 3, 3, 3, 3, 3, 3, 3, 3, 3, 3, 3, 3, 3, 3, 3, 3, 3, 3, 3, 3, 3, 3, 3, 1] : List Nat).getD i 0
  T := tb
  excs := [some ("LetterError" : Str), some ("BadLetters" : Str), some ("BadDays" : Str), some ("BadNumber" : Str), some ("BadGone" : Str), some ("BadSpans" : Str), none, none, none, none, some ("NoDay" : Str), none, none]
theorem ok0 : ∀ i, pg.ar i = 3 → Dfn.Ok pg i d0 := fun i e => ⟨⟨rfl, rfl, rfl, by decide +kernel, rfl, by decide +kernel, by decide +kernel⟩, fun K f fd F => F.binds (ps := [("term" : Str), ("days" : Str), ("found" : Str)]) fun _ _ _ _ _ _ us hl => match us, hl with | [_, _, _], _ => rfl, rfl, rfl, e, by decide +kernel⟩
theorem ok1 : ∀ i, pg.ar i = 2 → Dfn.Ok pg i d1 := fun i e => ⟨⟨rfl, rfl, rfl, by decide +kernel, rfl, by decide +kernel, by decide +kernel⟩, fun K f fd F => F.binds (ps := [("letters" : Str), ("days" : Str)]) fun _ _ _ _ _ _ us hl => match us, hl with | [_, _], _ => rfl, rfl, rfl, e, by decide +kernel⟩
theorem ok2 : ∀ i, pg.ar i = 1 → Dfn.Ok pg i d2 := fun i e => ⟨⟨rfl, rfl, rfl, by decide +kernel, rfl, by decide +kernel, by decide +kernel⟩, fun K f fd F => F.binds (ps := [("thing" : Str)]) fun _ _ _ _ _ _ us hl => match us, hl with | [_], _ => rfl, rfl, rfl, e, by decide +kernel⟩
theorem ok3 : ∀ i, pg.ar i = 3 → Dfn.Ok pg i d3 := fun i e => ⟨⟨rfl, rfl, rfl, by decide +kernel, rfl, by decide +kernel, by decide +kernel⟩, fun K f fd F => F.binds (ps := [("thing" : Str), ("least" : Str), ("most" : Str)]) fun _ _ _ _ _ _ us hl => match us, hl with | [_, _, _], _ => rfl, rfl, rfl, e, by decide +kernel⟩
theorem ok4 : ∀ i, pg.ar i = 1 → Dfn.Ok pg i d4 := fun i e => ⟨⟨rfl, rfl, rfl, by decide +kernel, rfl, by decide +kernel, by decide +kernel⟩, fun K f fd F => F.binds (ps := [("thing" : Str)]) fun _ _ _ _ _ _ us hl => match us, hl with | [_], _ => rfl, rfl, rfl, e, by decide +kernel⟩
theorem ok5 : ∀ i, pg.ar i = 2 → Dfn.Ok pg i d5 := fun i e => ⟨⟨rfl, rfl, rfl, by decide +kernel, rfl, by decide +kernel, by decide +kernel⟩, fun K f fd F => F.binds (ps := [("thing" : Str), ("at" : Str)]) fun _ _ _ _ _ _ us hl => match us, hl with | [_, _], _ => rfl, rfl, rfl, e, by decide +kernel⟩
theorem ok6 : ∀ i, pg.ar i = 2 → Dfn.Ok pg i d6 := fun i e => ⟨⟨rfl, rfl, rfl, by decide +kernel, rfl, by decide +kernel, by decide +kernel⟩, fun K f fd F => F.binds (ps := [("thing" : Str), ("at" : Str)]) fun _ _ _ _ _ _ us hl => match us, hl with | [_, _], _ => rfl, rfl, rfl, e, by decide +kernel⟩
theorem ok7 : ∀ i, pg.ar i = 1 → Dfn.Ok pg i d7 := fun i e => ⟨⟨rfl, rfl, rfl, by decide +kernel, rfl, by decide +kernel, by decide +kernel⟩, fun K f fd F => F.binds (ps := [("letters" : Str)]) fun _ _ _ _ _ _ us hl => match us, hl with | [_], _ => rfl, rfl, rfl, e, by decide +kernel⟩
theorem ok8 : ∀ i, pg.ar i = 2 → Dfn.Ok pg i d8 := fun i e => ⟨⟨rfl, rfl, rfl, by decide +kernel, rfl, by decide +kernel, by decide +kernel⟩, fun K f fd F => F.binds (ps := [("thing" : Str), ("many" : Str)]) fun _ _ _ _ _ _ us hl => match us, hl with | [_, _], _ => rfl, rfl, rfl, e, by decide +kernel⟩
theorem ok9 : ∀ i, pg.ar i = 2 → Dfn.Ok pg i d9 := fun i e => ⟨⟨rfl, rfl, rfl, by decide +kernel, rfl, by decide +kernel, by decide +kernel⟩, fun K f fd F => F.binds (ps := [("letters" : Str), ("days" : Str)]) fun _ _ _ _ _ _ us hl => match us, hl with | [_, _], _ => rfl, rfl, rfl, e, by decide +kernel⟩
theorem ok10 : ∀ i, pg.ar i = 2 → Dfn.Ok pg i d10 := fun i e => ⟨⟨rfl, rfl, rfl, by decide +kernel, rfl, by decide +kernel, by decide +kernel⟩, fun K f fd F => F.binds (ps := [("letters" : Str), ("days" : Str)]) fun _ _ _ _ _ _ us hl => match us, hl with | [_, _], _ => rfl, rfl, rfl, e, by decide +kernel⟩
theorem ok11 : ∀ i, pg.ar i = 3 → Dfn.Ok pg i d11 := fun i e => ⟨⟨rfl, rfl, rfl, by decide +kernel, rfl, by decide +kernel, by decide +kernel⟩, fun K f fd F => F.binds (ps := [("letters" : Str), ("days" : Str), ("number" : Str)]) fun _ _ _ _ _ _ us hl => match us, hl with | [_, _, _], _ => rfl, rfl, rfl, e, by decide +kernel⟩
theorem ok13 : ∀ i, pg.ar i = 2 → Dfn.Ok pg i d13 := fun i e => ⟨⟨rfl, rfl, rfl, by decide +kernel, rfl, by decide +kernel, by decide +kernel⟩, fun K f fd F => F.binds (ps := [("spans" : Str), ("last" : Str)]) fun _ _ _ _ _ _ us hl => match us, hl with | [_, _], _ => rfl, rfl, rfl, e, by decide +kernel⟩
theorem ok14 : ∀ i, pg.ar i = 3 → Dfn.Ok pg i d14 := fun i e => ⟨⟨rfl, rfl, rfl, by decide +kernel, rfl, by decide +kernel, by decide +kernel⟩, fun K f fd F => F.binds (ps := [("dues" : Str), ("one" : Str), ("other" : Str)]) fun _ _ _ _ _ _ us hl => match us, hl with | [_, _, _], _ => rfl, rfl, rfl, e, by decide +kernel⟩
theorem ok15 : ∀ i, pg.ar i = 1 → Dfn.Ok pg i d15 := fun i e => ⟨⟨rfl, rfl, rfl, by decide +kernel, rfl, by decide +kernel, by decide +kernel⟩, fun K f fd F => F.binds (ps := [("spans" : Str)]) fun _ _ _ _ _ _ us hl => match us, hl with | [_], _ => rfl, rfl, rfl, e, by decide +kernel⟩
theorem ok16 : ∀ i, pg.ar i = 3 → Dfn.Ok pg i d16 := fun i e => ⟨⟨rfl, rfl, rfl, by decide +kernel, rfl, by decide +kernel, by decide +kernel⟩, fun K f fd F => F.binds (ps := [("letters" : Str), ("days" : Str), ("number" : Str)]) fun _ _ _ _ _ _ us hl => match us, hl with | [_, _, _], _ => rfl, rfl, rfl, e, by decide +kernel⟩
theorem ok17 : ∀ i, pg.ar i = 2 → Dfn.Ok pg i d17 := fun i e => ⟨⟨rfl, rfl, rfl, by decide +kernel, rfl, by decide +kernel, by decide +kernel⟩, fun K f fd F => F.binds (ps := [("self" : Str), ("chain" : Str)]) fun _ _ _ _ _ _ us hl => match us, hl with | [_, _], _ => rfl, rfl, rfl, e, by decide +kernel⟩
theorem ok18 : ∀ i, pg.ar i = 4 → Dfn.Ok pg i d18 := fun i e => ⟨⟨rfl, rfl, rfl, by decide +kernel, rfl, by decide +kernel, by decide +kernel⟩, fun K f fd F => F.binds (ps := [("self" : Str), ("letters" : Str), ("days" : Str), ("number" : Str)]) fun _ _ _ _ _ _ us hl => match us, hl with | [_, _, _, _], _ => rfl, rfl, rfl, e, by decide +kernel⟩
theorem ok19 : ∀ i, pg.ar i = 2 → Dfn.Ok pg i d19 := fun i e => ⟨⟨rfl, rfl, rfl, by decide +kernel, rfl, by decide +kernel, by decide +kernel⟩, fun K f fd F => F.binds (ps := [("self" : Str), ("chain" : Str)]) fun _ _ _ _ _ _ us hl => match us, hl with | [_, _], _ => rfl, rfl, rfl, e, by decide +kernel⟩
theorem ok20 : ∀ i, pg.ar i = 4 → Dfn.Ok pg i d20 := fun i e => ⟨⟨rfl, rfl, rfl, by decide +kernel, rfl, by decide +kernel, by decide +kernel⟩, fun K f fd F => F.binds (ps := [("self" : Str), ("letters" : Str), ("days" : Str), ("number" : Str)]) fun _ _ _ _ _ _ us hl => match us, hl with | [_, _, _, _], _ => rfl, rfl, rfl, e, by decide +kernel⟩
theorem ok21 : ∀ i, pg.ar i = 5 → Dfn.Ok pg i d21 := fun i e => ⟨⟨rfl, rfl, rfl, by decide +kernel, rfl, by decide +kernel, by decide +kernel⟩, fun K f fd F => F.binds (ps := [("self" : Str), ("letters" : Str), ("spans" : Str), ("one" : Str), ("other" : Str)]) fun _ _ _ _ _ _ us hl => match us, hl with | [_, _, _, _, _], _ => rfl, rfl, rfl, e, by decide +kernel⟩
theorem ok22 : ∀ i, pg.ar i = 2 → Dfn.Ok pg i d22 := fun i e => ⟨⟨rfl, rfl, rfl, by decide +kernel, rfl, by decide +kernel, by decide +kernel⟩, fun K f fd F => F.binds (ps := [("self" : Str), ("days" : Str)]) fun _ _ _ _ _ _ us hl => match us, hl with | [_, _], _ => rfl, rfl, rfl, e, by decide +kernel⟩
theorem ok23 : ∀ i, pg.ar i = 5 → Dfn.Ok pg i d23 := fun i e => ⟨⟨rfl, rfl, rfl, by decide +kernel, rfl, by decide +kernel, by decide +kernel⟩, fun K f fd F => F.binds (ps := [("self" : Str), ("letters" : Str), ("spans" : Str), ("one" : Str), ("other" : Str)]) fun _ _ _ _ _ _ us hl => match us, hl with | [_, _, _, _, _], _ => rfl, rfl, rfl, e, by decide +kernel⟩
theorem ok24 : ∀ i, pg.ar i = 3 → Dfn.Ok pg i d24 := fun i e => ⟨⟨rfl, rfl, rfl, by decide +kernel, rfl, by decide +kernel, by decide +kernel⟩, fun K f fd F => F.binds (ps := [("heirs" : Str), ("gone" : Str), ("day" : Str)]) fun _ _ _ _ _ _ us hl => match us, hl with | [_, _, _], _ => rfl, rfl, rfl, e, by decide +kernel⟩
theorem ok25 : ∀ i, pg.ar i = 1 → Dfn.Ok pg i d25 := fun i e => ⟨⟨rfl, rfl, rfl, by decide +kernel, rfl, by decide +kernel, by decide +kernel⟩, fun K f fd F => F.binds (ps := [("gone" : Str)]) fun _ _ _ _ _ _ us hl => match us, hl with | [_], _ => rfl, rfl, rfl, e, by decide +kernel⟩
theorem ok26 : ∀ i, pg.ar i = 3 → Dfn.Ok pg i d26 := fun i e => ⟨⟨rfl, rfl, rfl, by decide +kernel, rfl, by decide +kernel, by decide +kernel⟩, fun K f fd F => F.binds (ps := [("letters" : Str), ("days" : Str), ("gone" : Str)]) fun _ _ _ _ _ _ us hl => match us, hl with | [_, _, _], _ => rfl, rfl, rfl, e, by decide +kernel⟩
theorem ok27 : ∀ i, pg.ar i = 1 → Dfn.Ok pg i d27 := fun i e => ⟨⟨rfl, rfl, rfl, by decide +kernel, rfl, by decide +kernel, by decide +kernel⟩, fun K f fd F => F.binds (ps := [("thing" : Str)]) fun _ _ _ _ _ _ us hl => match us, hl with | [_], _ => rfl, rfl, rfl, e, by decide +kernel⟩
theorem ok28 : ∀ i, pg.ar i = 2 → Dfn.Ok pg i d28 := fun i e => ⟨⟨rfl, rfl, rfl, by decide +kernel, rfl, by decide +kernel, by decide +kernel⟩, fun K f fd F => F.binds (ps := [("letters" : Str), ("spans" : Str)]) fun _ _ _ _ _ _ us hl => match us, hl with | [_, _], _ => rfl, rfl, rfl, e, by decide +kernel⟩
theorem ok29 : ∀ i, pg.ar i = 2 → Dfn.Ok pg i d29 := fun i e => ⟨⟨rfl, rfl, rfl, by decide +kernel, rfl, by decide +kernel, by decide +kernel⟩, fun K f fd F => F.binds (ps := [("letters" : Str), ("spans" : Str)]) fun _ _ _ _ _ _ us hl => match us, hl with | [_, _], _ => rfl, rfl, rfl, e, by decide +kernel⟩
theorem ok30 : ∀ i, pg.ar i = 4 → Dfn.Ok pg i d30 := fun i e => ⟨⟨rfl, rfl, rfl, by decide +kernel, rfl, by decide +kernel, by decide +kernel⟩, fun K f fd F => F.binds (ps := [("letters" : Str), ("spans" : Str), ("one" : Str), ("other" : Str)]) fun _ _ _ _ _ _ us hl => match us, hl with | [_, _, _, _], _ => rfl, rfl, rfl, e, by decide +kernel⟩
theorem ok45 : ∀ i, pg.ar i = 1 → Dfn.Ok pg i d45 := fun i e => ⟨⟨rfl, rfl, rfl, by decide +kernel, rfl, by decide +kernel, by decide +kernel⟩, fun K f fd F => F.binds (ps := [("k" : Str)]) fun _ _ _ _ _ _ us hl => match us, hl with | [_], _ => rfl, rfl, rfl, e, by decide +kernel⟩
theorem ok46 : ∀ i, pg.ar i = 3 → Dfn.Ok pg i d46 := fun i e => ⟨⟨rfl, rfl, rfl, by decide +kernel, rfl, by decide +kernel, by decide +kernel⟩, fun K f fd F => F.binds (ps := [("_law_cell" : Str), ("_law_at" : Str), ("_law_whole" : Str)]) fun _ _ _ _ _ _ us hl => match us, hl with | [_, _, _], _ => rfl, rfl, rfl, e, by decide +kernel⟩
theorem ok48 : ∀ i, pg.ar i = 3 → Dfn.Ok pg i d48 := fun i e => ⟨⟨rfl, rfl, rfl, by decide +kernel, rfl, by decide +kernel, by decide +kernel⟩, fun K f fd F => F.binds (ps := [("_law_number_here" : Str), ("_law_at" : Str), ("_law_kind" : Str)]) fun _ _ _ _ _ _ us hl => match us, hl with | [_, _, _], _ => rfl, rfl, rfl, e, by decide +kernel⟩
theorem ok49 : ∀ i, pg.ar i = 3 → Dfn.Ok pg i d49 := fun i e => ⟨⟨rfl, rfl, rfl, by decide +kernel, rfl, by decide +kernel, by decide +kernel⟩, fun K f fd F => F.binds (ps := [("_law_number_here" : Str), ("_law_at" : Str), ("_law_kind" : Str)]) fun _ _ _ _ _ _ us hl => match us, hl with | [_, _, _], _ => rfl, rfl, rfl, e, by decide +kernel⟩
theorem ok50 : ∀ i, pg.ar i = 3 → Dfn.Ok pg i d50 := fun i e => ⟨⟨rfl, rfl, rfl, by decide +kernel, rfl, by decide +kernel, by decide +kernel⟩, fun K f fd F => F.binds (ps := [("_law_script" : Str), ("_law_by" : Str), ("_law_most" : Str)]) fun _ _ _ _ _ _ us hl => match us, hl with | [_, _, _], _ => rfl, rfl, rfl, e, by decide +kernel⟩
theorem ok51 : ∀ i, pg.ar i = 2 → Dfn.Ok pg i d51 := fun i e => ⟨⟨rfl, rfl, rfl, by decide +kernel, rfl, by decide +kernel, by decide +kernel⟩, fun K f fd F => F.binds (ps := [("_law_script" : Str), ("_law_by" : Str)]) fun _ _ _ _ _ _ us hl => match us, hl with | [_, _], _ => rfl, rfl, rfl, e, by decide +kernel⟩
theorem ok67 : ∀ i, pg.ar i = 3 → Dfn.Ok pg i d67 := fun i e => ⟨⟨rfl, rfl, rfl, by decide +kernel, rfl, by decide +kernel, by decide +kernel⟩, fun K f fd F => F.binds (ps := [("_law_script" : Str), ("_law_by" : Str), ("_law_wide" : Str)]) fun _ _ _ _ _ _ us hl => match us, hl with | [_, _, _], _ => rfl, rfl, rfl, e, by decide +kernel⟩
theorem ok101 : ∀ i, pg.ar i = 3 → Dfn.Ok pg i d101 := fun i e => ⟨⟨rfl, rfl, rfl, by decide +kernel, rfl, by decide +kernel, by decide +kernel⟩, fun K f fd F => F.binds (ps := [("_law_letters_here" : Str), ("_law_days_here" : Str), ("_law_whole" : Str)]) fun _ _ _ _ _ _ us hl => match us, hl with | [_, _, _], _ => rfl, rfl, rfl, e, by decide +kernel⟩
theorem ok102 : ∀ i, pg.ar i = 1 → Dfn.Ok pg i d102 := fun i e => ⟨⟨rfl, rfl, rfl, by decide +kernel, rfl, by decide +kernel, by decide +kernel⟩, fun K f fd F => F.binds (ps := [("_law_script" : Str)]) fun _ _ _ _ _ _ us hl => match us, hl with | [_], _ => rfl, rfl, rfl, e, by decide +kernel⟩
theorem ok_all : ∀ (i : Nat) (d : Dfn), D[i]? = some d → Dfn.Ok pg i d
  | 0, d, e => by cases e; exact ok0 _ (by decide +kernel)
  | 1, d, e => by cases e; exact ok1 _ (by decide +kernel)
  | 2, d, e => by cases e; exact ok2 _ (by decide +kernel)
  | 3, d, e => by cases e; exact ok3 _ (by decide +kernel)
  | 4, d, e => by cases e; exact ok4 _ (by decide +kernel)
  | 5, d, e => by cases e; exact ok5 _ (by decide +kernel)
  | 6, d, e => by cases e; exact ok6 _ (by decide +kernel)
  | 7, d, e => by cases e; exact ok7 _ (by decide +kernel)
  | 8, d, e => by cases e; exact ok8 _ (by decide +kernel)
  | 9, d, e => by cases e; exact ok9 _ (by decide +kernel)
  | 10, d, e => by cases e; exact ok10 _ (by decide +kernel)
  | 11, d, e => by cases e; exact ok11 _ (by decide +kernel)
  | 12, d, e => by cases e; exact ok0 _ (by decide +kernel)
  | 13, d, e => by cases e; exact ok13 _ (by decide +kernel)
  | 14, d, e => by cases e; exact ok14 _ (by decide +kernel)
  | 15, d, e => by cases e; exact ok15 _ (by decide +kernel)
  | 16, d, e => by cases e; exact ok16 _ (by decide +kernel)
  | 17, d, e => by cases e; exact ok17 _ (by decide +kernel)
  | 18, d, e => by cases e; exact ok18 _ (by decide +kernel)
  | 19, d, e => by cases e; exact ok19 _ (by decide +kernel)
  | 20, d, e => by cases e; exact ok20 _ (by decide +kernel)
  | 21, d, e => by cases e; exact ok21 _ (by decide +kernel)
  | 22, d, e => by cases e; exact ok22 _ (by decide +kernel)
  | 23, d, e => by cases e; exact ok23 _ (by decide +kernel)
  | 24, d, e => by cases e; exact ok24 _ (by decide +kernel)
  | 25, d, e => by cases e; exact ok25 _ (by decide +kernel)
  | 26, d, e => by cases e; exact ok26 _ (by decide +kernel)
  | 27, d, e => by cases e; exact ok27 _ (by decide +kernel)
  | 28, d, e => by cases e; exact ok28 _ (by decide +kernel)
  | 29, d, e => by cases e; exact ok29 _ (by decide +kernel)
  | 30, d, e => by cases e; exact ok30 _ (by decide +kernel)
  | 31, d, e => by cases e; exact ok0 _ (by decide +kernel)
  | 32, d, e => by cases e; exact ok0 _ (by decide +kernel)
  | 33, d, e => by cases e; exact ok0 _ (by decide +kernel)
  | 34, d, e => by cases e; exact ok0 _ (by decide +kernel)
  | 35, d, e => by cases e; exact ok0 _ (by decide +kernel)
  | 36, d, e => by cases e; exact ok0 _ (by decide +kernel)
  | 37, d, e => by cases e; exact ok0 _ (by decide +kernel)
  | 38, d, e => by cases e; exact ok0 _ (by decide +kernel)
  | 39, d, e => by cases e; exact ok0 _ (by decide +kernel)
  | 40, d, e => by cases e; exact ok0 _ (by decide +kernel)
  | 41, d, e => by cases e; exact ok0 _ (by decide +kernel)
  | 42, d, e => by cases e; exact ok0 _ (by decide +kernel)
  | 43, d, e => by cases e; exact ok0 _ (by decide +kernel)
  | 44, d, e => by cases e; exact ok0 _ (by decide +kernel)
  | 45, d, e => by cases e; exact ok45 _ (by decide +kernel)
  | 46, d, e => by cases e; exact ok46 _ (by decide +kernel)
  | 47, d, e => by cases e; exact ok0 _ (by decide +kernel)
  | 48, d, e => by cases e; exact ok48 _ (by decide +kernel)
  | 49, d, e => by cases e; exact ok49 _ (by decide +kernel)
  | 50, d, e => by cases e; exact ok50 _ (by decide +kernel)
  | 51, d, e => by cases e; exact ok51 _ (by decide +kernel)
  | 52, d, e => by cases e; exact ok0 _ (by decide +kernel)
  | 53, d, e => by cases e; exact ok0 _ (by decide +kernel)
  | 54, d, e => by cases e; exact ok0 _ (by decide +kernel)
  | 55, d, e => by cases e; exact ok0 _ (by decide +kernel)
  | 56, d, e => by cases e; exact ok0 _ (by decide +kernel)
  | 57, d, e => by cases e; exact ok0 _ (by decide +kernel)
  | 58, d, e => by cases e; exact ok0 _ (by decide +kernel)
  | 59, d, e => by cases e; exact ok0 _ (by decide +kernel)
  | 60, d, e => by cases e; exact ok0 _ (by decide +kernel)
  | 61, d, e => by cases e; exact ok0 _ (by decide +kernel)
  | 62, d, e => by cases e; exact ok0 _ (by decide +kernel)
  | 63, d, e => by cases e; exact ok0 _ (by decide +kernel)
  | 64, d, e => by cases e; exact ok0 _ (by decide +kernel)
  | 65, d, e => by cases e; exact ok0 _ (by decide +kernel)
  | 66, d, e => by cases e; exact ok0 _ (by decide +kernel)
  | 67, d, e => by cases e; exact ok67 _ (by decide +kernel)
  | 68, d, e => by cases e; exact ok0 _ (by decide +kernel)
  | 69, d, e => by cases e; exact ok0 _ (by decide +kernel)
  | 70, d, e => by cases e; exact ok0 _ (by decide +kernel)
  | 71, d, e => by cases e; exact ok0 _ (by decide +kernel)
  | 72, d, e => by cases e; exact ok0 _ (by decide +kernel)
  | 73, d, e => by cases e; exact ok0 _ (by decide +kernel)
  | 74, d, e => by cases e; exact ok0 _ (by decide +kernel)
  | 75, d, e => by cases e; exact ok0 _ (by decide +kernel)
  | 76, d, e => by cases e; exact ok0 _ (by decide +kernel)
  | 77, d, e => by cases e; exact ok0 _ (by decide +kernel)
  | 78, d, e => by cases e; exact ok0 _ (by decide +kernel)
  | 79, d, e => by cases e; exact ok0 _ (by decide +kernel)
  | 80, d, e => by cases e; exact ok0 _ (by decide +kernel)
  | 81, d, e => by cases e; exact ok0 _ (by decide +kernel)
  | 82, d, e => by cases e; exact ok0 _ (by decide +kernel)
  | 83, d, e => by cases e; exact ok0 _ (by decide +kernel)
  | 84, d, e => by cases e; exact ok0 _ (by decide +kernel)
  | 85, d, e => by cases e; exact ok0 _ (by decide +kernel)
  | 86, d, e => by cases e; exact ok0 _ (by decide +kernel)
  | 87, d, e => by cases e; exact ok0 _ (by decide +kernel)
  | 88, d, e => by cases e; exact ok0 _ (by decide +kernel)
  | 89, d, e => by cases e; exact ok0 _ (by decide +kernel)
  | 90, d, e => by cases e; exact ok0 _ (by decide +kernel)
  | 91, d, e => by cases e; exact ok0 _ (by decide +kernel)
  | 92, d, e => by cases e; exact ok0 _ (by decide +kernel)
  | 93, d, e => by cases e; exact ok0 _ (by decide +kernel)
  | 94, d, e => by cases e; exact ok0 _ (by decide +kernel)
  | 95, d, e => by cases e; exact ok0 _ (by decide +kernel)
  | 96, d, e => by cases e; exact ok0 _ (by decide +kernel)
  | 97, d, e => by cases e; exact ok0 _ (by decide +kernel)
  | 98, d, e => by cases e; exact ok0 _ (by decide +kernel)
  | 99, d, e => by cases e; exact ok0 _ (by decide +kernel)
  | 100, d, e => by cases e; exact ok0 _ (by decide +kernel)
  | 101, d, e => by cases e; exact ok101 _ (by decide +kernel)
  | 102, d, e => by cases e; exact ok102 _ (by decide +kernel)
  | i + 103, d, e => by cases e
def sg (K : PySem.W.Frag) (C0 : Addr) (C1 : Addr) (C2 : Addr) (C3 : Addr) (C4 : Addr) (E0 : Addr) (E1 : Addr) (E2 : Addr) (E3 : Addr) (E4 : Addr) (E5 : Addr) (E10 : Addr) : Sg := ⟨K, pg.txts, (fun k => match k with | 0 => some C0 | 1 => some C1 | 2 => some C2 | 3 => some C3 | 4 => some C4 | _ => none), (fun k => match k with | 0 => some E0 | 1 => some E1 | 2 => some E2 | 3 => some E3 | 4 => some E4 | 5 => some E5 | 10 => some E10 | _ => none), pg.flds⟩
set_option maxHeartbeats 0 in
theorem all_mk {l : PySem.W.OpenLaw} {w : World} {K : PySem.W.Frag} {h : Heap} {mg : Str → Option Value} {fa : Addr} (n : Nat) (sy : Says pg D n 102) (X : K.In h) (G : h.Ns mainGlobals mg) (hfa : mg "law" = some (.ref fa))
    {f0 : Addr} {oc0 kV0 dc0 pm0 cd0 ct0 : Value} {od0 an0 : Option Addr} {sl0 : Array (Option Value)}
    {f1 : Addr} {oc1 kV1 dc1 pm1 cd1 ct1 : Value} {od1 an1 : Option Addr} {sl1 : Array (Option Value)}
    {f2 : Addr} {oc2 kV2 dc2 pm2 cd2 ct2 : Value} {od2 an2 : Option Addr} {sl2 : Array (Option Value)}
    {f3 : Addr} {oc3 kV3 dc3 pm3 cd3 ct3 : Value} {od3 an3 : Option Addr} {sl3 : Array (Option Value)}
    {f4 : Addr} {oc4 kV4 dc4 pm4 cd4 ct4 : Value} {od4 an4 : Option Addr} {sl4 : Array (Option Value)}
    {f5 : Addr} {oc5 kV5 dc5 pm5 cd5 ct5 : Value} {od5 an5 : Option Addr} {sl5 : Array (Option Value)}
    {f6 : Addr} {oc6 kV6 dc6 pm6 cd6 ct6 : Value} {od6 an6 : Option Addr} {sl6 : Array (Option Value)}
    {f7 : Addr} {oc7 kV7 dc7 pm7 cd7 ct7 : Value} {od7 an7 : Option Addr} {sl7 : Array (Option Value)}
    {f8 : Addr} {oc8 kV8 dc8 pm8 cd8 ct8 : Value} {od8 an8 : Option Addr} {sl8 : Array (Option Value)}
    {f9 : Addr} {oc9 kV9 dc9 pm9 cd9 ct9 : Value} {od9 an9 : Option Addr} {sl9 : Array (Option Value)}
    {f10 : Addr} {oc10 kV10 dc10 pm10 cd10 ct10 : Value} {od10 an10 : Option Addr} {sl10 : Array (Option Value)}
    {f11 : Addr} {oc11 kV11 dc11 pm11 cd11 ct11 : Value} {od11 an11 : Option Addr} {sl11 : Array (Option Value)}
    {f13 : Addr} {oc13 kV13 dc13 pm13 cd13 ct13 : Value} {od13 an13 : Option Addr} {sl13 : Array (Option Value)}
    {f14 : Addr} {oc14 kV14 dc14 pm14 cd14 ct14 : Value} {od14 an14 : Option Addr} {sl14 : Array (Option Value)}
    {f15 : Addr} {oc15 kV15 dc15 pm15 cd15 ct15 : Value} {od15 an15 : Option Addr} {sl15 : Array (Option Value)}
    {f16 : Addr} {oc16 kV16 dc16 pm16 cd16 ct16 : Value} {od16 an16 : Option Addr} {sl16 : Array (Option Value)}
    {f17 : Addr} {oc17 kV17 dc17 pm17 cd17 ct17 : Value} {od17 an17 : Option Addr} {sl17 : Array (Option Value)}
    {f18 : Addr} {oc18 kV18 dc18 pm18 cd18 ct18 : Value} {od18 an18 : Option Addr} {sl18 : Array (Option Value)}
    {f19 : Addr} {oc19 kV19 dc19 pm19 cd19 ct19 : Value} {od19 an19 : Option Addr} {sl19 : Array (Option Value)}
    {f20 : Addr} {oc20 kV20 dc20 pm20 cd20 ct20 : Value} {od20 an20 : Option Addr} {sl20 : Array (Option Value)}
    {f21 : Addr} {oc21 kV21 dc21 pm21 cd21 ct21 : Value} {od21 an21 : Option Addr} {sl21 : Array (Option Value)}
    {f22 : Addr} {oc22 kV22 dc22 pm22 cd22 ct22 : Value} {od22 an22 : Option Addr} {sl22 : Array (Option Value)}
    {f23 : Addr} {oc23 kV23 dc23 pm23 cd23 ct23 : Value} {od23 an23 : Option Addr} {sl23 : Array (Option Value)}
    {f24 : Addr} {oc24 kV24 dc24 pm24 cd24 ct24 : Value} {od24 an24 : Option Addr} {sl24 : Array (Option Value)}
    {f25 : Addr} {oc25 kV25 dc25 pm25 cd25 ct25 : Value} {od25 an25 : Option Addr} {sl25 : Array (Option Value)}
    {f26 : Addr} {oc26 kV26 dc26 pm26 cd26 ct26 : Value} {od26 an26 : Option Addr} {sl26 : Array (Option Value)}
    {f27 : Addr} {oc27 kV27 dc27 pm27 cd27 ct27 : Value} {od27 an27 : Option Addr} {sl27 : Array (Option Value)}
    {f28 : Addr} {oc28 kV28 dc28 pm28 cd28 ct28 : Value} {od28 an28 : Option Addr} {sl28 : Array (Option Value)}
    {f29 : Addr} {oc29 kV29 dc29 pm29 cd29 ct29 : Value} {od29 an29 : Option Addr} {sl29 : Array (Option Value)}
    {f30 : Addr} {oc30 kV30 dc30 pm30 cd30 ct30 : Value} {od30 an30 : Option Addr} {sl30 : Array (Option Value)}
    {f45 : Addr} {oc45 kV45 dc45 pm45 cd45 ct45 : Value} {od45 an45 : Option Addr} {sl45 : Array (Option Value)}
    {f46 : Addr} {oc46 kV46 dc46 pm46 cd46 ct46 : Value} {od46 an46 : Option Addr} {sl46 : Array (Option Value)}
    {f48 : Addr} {oc48 kV48 dc48 pm48 cd48 ct48 : Value} {od48 an48 : Option Addr} {sl48 : Array (Option Value)}
    {f49 : Addr} {oc49 kV49 dc49 pm49 cd49 ct49 : Value} {od49 an49 : Option Addr} {sl49 : Array (Option Value)}
    {f50 : Addr} {oc50 kV50 dc50 pm50 cd50 ct50 : Value} {od50 an50 : Option Addr} {sl50 : Array (Option Value)}
    {f51 : Addr} {oc51 kV51 dc51 pm51 cd51 ct51 : Value} {od51 an51 : Option Addr} {sl51 : Array (Option Value)}
    {f67 : Addr} {oc67 kV67 dc67 pm67 cd67 ct67 : Value} {od67 an67 : Option Addr} {sl67 : Array (Option Value)}
    {f101 : Addr} {oc101 kV101 dc101 pm101 cd101 ct101 : Value} {od101 an101 : Option Addr} {sl101 : Array (Option Value)}
    {f102 : Addr} {oc102 kV102 dc102 pm102 cd102 ct102 : Value} {od102 an102 : Option Addr} {sl102 : Array (Option Value)}
    {E0 : Addr}
    {E1 : Addr}
    {E2 : Addr}
    {E3 : Addr}
    {E4 : Addr}
    {E5 : Addr}
    {E10 : Addr}
    {C0 : Addr}
    {C1 : Addr}
    {C2 : Addr}
    {C3 : Addr}
    {C4 : Addr}
    {t0 : Tok}
    {t1 : Tok}
    {t2 : Tok}
    {t3 : Tok}
    {t4 : Tok}
    {t5 : Tok}
    {t6 : Tok}
    (a0 : PySem.W.nsIn K mainGlobals "day_of" = some (some (.ref f0)))
    (l0 : K.lookup f0 = some ⟨oc0, od0, .func (PySem.W.fnOf d0.x d0.qual (defArgs d0.st) (defBody d0.st) (defScope d0.st) .none kV0 dc0 pm0 an0 cd0 ct0), sl0⟩)
    (c0 : PySem.W.codeIn K cd0 d0.qual = true)
    (k0 : PySem.W.keepIn K (.ref f0) = true)
    (a1 : PySem.W.nsIn K mainGlobals "dues_of" = some (some (.ref f1)))
    (l1 : K.lookup f1 = some ⟨oc1, od1, .func (PySem.W.fnOf d1.x d1.qual (defArgs d1.st) (defBody d1.st) (defScope d1.st) .none kV1 dc1 pm1 an1 cd1 ct1), sl1⟩)
    (c1 : PySem.W.codeIn K cd1 d1.qual = true)
    (k1 : PySem.W.keepIn K (.ref f1) = true)
    (a2 : PySem.W.nsIn K mainGlobals "is_whole" = some (some (.ref f2)))
    (l2 : K.lookup f2 = some ⟨oc2, od2, .func (PySem.W.fnOf d2.x d2.qual (defArgs d2.st) (defBody d2.st) (defScope d2.st) .none kV2 dc2 pm2 an2 cd2 ct2), sl2⟩)
    (c2 : PySem.W.codeIn K cd2 d2.qual = true)
    (k2 : PySem.W.keepIn K (.ref f2) = true)
    (a3 : PySem.W.nsIn K mainGlobals "is_between" = some (some (.ref f3)))
    (l3 : K.lookup f3 = some ⟨oc3, od3, .func (PySem.W.fnOf d3.x d3.qual (defArgs d3.st) (defBody d3.st) (defScope d3.st) .none kV3 dc3 pm3 an3 cd3 ct3), sl3⟩)
    (c3 : PySem.W.codeIn K cd3 d3.qual = true)
    (k3 : PySem.W.keepIn K (.ref f3) = true)
    (a4 : PySem.W.nsIn K mainGlobals "are_heirs" = some (some (.ref f4)))
    (l4 : K.lookup f4 = some ⟨oc4, od4, .func (PySem.W.fnOf d4.x d4.qual (defArgs d4.st) (defBody d4.st) (defScope d4.st) .none kV4 dc4 pm4 an4 cd4 ct4), sl4⟩)
    (c4 : PySem.W.codeIn K cd4 d4.qual = true)
    (k4 : PySem.W.keepIn K (.ref f4) = true)
    (a5 : PySem.W.nsIn K mainGlobals "is_term" = some (some (.ref f5)))
    (l5 : K.lookup f5 = some ⟨oc5, od5, .func (PySem.W.fnOf d5.x d5.qual (defArgs d5.st) (defBody d5.st) (defScope d5.st) .none kV5 dc5 pm5 an5 cd5 ct5), sl5⟩)
    (c5 : PySem.W.codeIn K cd5 d5.qual = true)
    (k5 : PySem.W.keepIn K (.ref f5) = true)
    (a6 : PySem.W.nsIn K mainGlobals "is_letter" = some (some (.ref f6)))
    (l6 : K.lookup f6 = some ⟨oc6, od6, .func (PySem.W.fnOf d6.x d6.qual (defArgs d6.st) (defBody d6.st) (defScope d6.st) .none kV6 dc6 pm6 an6 cd6 ct6), sl6⟩)
    (c6 : PySem.W.codeIn K cd6 d6.qual = true)
    (k6 : PySem.W.keepIn K (.ref f6) = true)
    (a7 : PySem.W.nsIn K mainGlobals "check_letters" = some (some (.ref f7)))
    (l7 : K.lookup f7 = some ⟨oc7, od7, .func (PySem.W.fnOf d7.x d7.qual (defArgs d7.st) (defBody d7.st) (defScope d7.st) .none kV7 dc7 pm7 an7 cd7 ct7), sl7⟩)
    (c7 : PySem.W.codeIn K cd7 d7.qual = true)
    (k7 : PySem.W.keepIn K (.ref f7) = true)
    (a8 : PySem.W.nsIn K mainGlobals "are_days" = some (some (.ref f8)))
    (l8 : K.lookup f8 = some ⟨oc8, od8, .func (PySem.W.fnOf d8.x d8.qual (defArgs d8.st) (defBody d8.st) (defScope d8.st) .none kV8 dc8 pm8 an8 cd8 ct8), sl8⟩)
    (c8 : PySem.W.codeIn K cd8 d8.qual = true)
    (k8 : PySem.W.keepIn K (.ref f8) = true)
    (a9 : PySem.W.nsIn K mainGlobals "check_days" = some (some (.ref f9)))
    (l9 : K.lookup f9 = some ⟨oc9, od9, .func (PySem.W.fnOf d9.x d9.qual (defArgs d9.st) (defBody d9.st) (defScope d9.st) .none kV9 dc9 pm9 an9 cd9 ct9), sl9⟩)
    (c9 : PySem.W.codeIn K cd9 d9.qual = true)
    (k9 : PySem.W.keepIn K (.ref f9) = true)
    (a10 : PySem.W.nsIn K mainGlobals "due_days" = some (some (.ref f10)))
    (l10 : K.lookup f10 = some ⟨oc10, od10, .func (PySem.W.fnOf d10.x d10.qual (defArgs d10.st) (defBody d10.st) (defScope d10.st) .none kV10 dc10 pm10 an10 cd10 ct10), sl10⟩)
    (c10 : PySem.W.codeIn K cd10 d10.qual = true)
    (k10 : PySem.W.keepIn K (.ref f10) = true)
    (a11 : PySem.W.nsIn K mainGlobals "chain_to" = some (some (.ref f11)))
    (l11 : K.lookup f11 = some ⟨oc11, od11, .func (PySem.W.fnOf d11.x d11.qual (defArgs d11.st) (defBody d11.st) (defScope d11.st) .none kV11 dc11 pm11 an11 cd11 ct11), sl11⟩)
    (c11 : PySem.W.codeIn K cd11 d11.qual = true)
    (k11 : PySem.W.keepIn K (.ref f11) = true)
    (a13 : PySem.W.nsIn K mainGlobals "ends_of" = some (some (.ref f13)))
    (l13 : K.lookup f13 = some ⟨oc13, od13, .func (PySem.W.fnOf d13.x d13.qual (defArgs d13.st) (defBody d13.st) (defScope d13.st) .none kV13 dc13 pm13 an13 cd13 ct13), sl13⟩)
    (c13 : PySem.W.codeIn K cd13 d13.qual = true)
    (k13 : PySem.W.keepIn K (.ref f13) = true)
    (a14 : PySem.W.nsIn K mainGlobals "is_ahead" = some (some (.ref f14)))
    (l14 : K.lookup f14 = some ⟨oc14, od14, .func (PySem.W.fnOf d14.x d14.qual (defArgs d14.st) (defBody d14.st) (defScope d14.st) .none kV14 dc14 pm14 an14 cd14 ct14), sl14⟩)
    (c14 : PySem.W.codeIn K cd14 d14.qual = true)
    (k14 : PySem.W.keepIn K (.ref f14) = true)
    (a15 : PySem.W.nsIn K mainGlobals "lists_to_try" = some (some (.ref f15)))
    (l15 : K.lookup f15 = some ⟨oc15, od15, .func (PySem.W.fnOf d15.x d15.qual (defArgs d15.st) (defBody d15.st) (defScope d15.st) .none kV15 dc15 pm15 an15 cd15 ct15), sl15⟩)
    (c15 : PySem.W.codeIn K cd15 d15.qual = true)
    (k15 : PySem.W.keepIn K (.ref f15) = true)
    (a16 : PySem.W.nsIn K mainGlobals "why" = some (some (.ref f16)))
    (l16 : K.lookup f16 = some ⟨oc16, od16, .func (PySem.W.fnOf d16.x d16.qual (defArgs d16.st) (defBody d16.st) (defScope d16.st) .none kV16 dc16 pm16 an16 cd16 ct16), sl16⟩)
    (c16 : PySem.W.codeIn K cd16 d16.qual = true)
    (k16 : PySem.W.keepIn K (.ref f16) = true)
    (l17 : K.lookup f17 = some ⟨oc17, od17, .func (PySem.W.fnOf d17.x d17.qual (defArgs d17.st) (defBody d17.st) (defScope d17.st) .none kV17 dc17 pm17 an17 cd17 ct17), sl17⟩)
    (c17 : PySem.W.codeIn K cd17 d17.qual = true)
    (k17 : PySem.W.keepIn K (.ref f17) = true)
    (l18 : K.lookup f18 = some ⟨oc18, od18, .func (PySem.W.fnOf d18.x d18.qual (defArgs d18.st) (defBody d18.st) (defScope d18.st) .none kV18 dc18 pm18 an18 cd18 ct18), sl18⟩)
    (c18 : PySem.W.codeIn K cd18 d18.qual = true)
    (k18 : PySem.W.keepIn K (.ref f18) = true)
    (l19 : K.lookup f19 = some ⟨oc19, od19, .func (PySem.W.fnOf d19.x d19.qual (defArgs d19.st) (defBody d19.st) (defScope d19.st) .none kV19 dc19 pm19 an19 cd19 ct19), sl19⟩)
    (c19 : PySem.W.codeIn K cd19 d19.qual = true)
    (k19 : PySem.W.keepIn K (.ref f19) = true)
    (l20 : K.lookup f20 = some ⟨oc20, od20, .func (PySem.W.fnOf d20.x d20.qual (defArgs d20.st) (defBody d20.st) (defScope d20.st) .none kV20 dc20 pm20 an20 cd20 ct20), sl20⟩)
    (c20 : PySem.W.codeIn K cd20 d20.qual = true)
    (k20 : PySem.W.keepIn K (.ref f20) = true)
    (l21 : K.lookup f21 = some ⟨oc21, od21, .func (PySem.W.fnOf d21.x d21.qual (defArgs d21.st) (defBody d21.st) (defScope d21.st) .none kV21 dc21 pm21 an21 cd21 ct21), sl21⟩)
    (c21 : PySem.W.codeIn K cd21 d21.qual = true)
    (k21 : PySem.W.keepIn K (.ref f21) = true)
    (l22 : K.lookup f22 = some ⟨oc22, od22, .func (PySem.W.fnOf d22.x d22.qual (defArgs d22.st) (defBody d22.st) (defScope d22.st) .none kV22 dc22 pm22 an22 cd22 ct22), sl22⟩)
    (c22 : PySem.W.codeIn K cd22 d22.qual = true)
    (k22 : PySem.W.keepIn K (.ref f22) = true)
    (l23 : K.lookup f23 = some ⟨oc23, od23, .func (PySem.W.fnOf d23.x d23.qual (defArgs d23.st) (defBody d23.st) (defScope d23.st) .none kV23 dc23 pm23 an23 cd23 ct23), sl23⟩)
    (c23 : PySem.W.codeIn K cd23 d23.qual = true)
    (k23 : PySem.W.keepIn K (.ref f23) = true)
    (a24 : PySem.W.nsIn K mainGlobals "heir_of" = some (some (.ref f24)))
    (l24 : K.lookup f24 = some ⟨oc24, od24, .func (PySem.W.fnOf d24.x d24.qual (defArgs d24.st) (defBody d24.st) (defScope d24.st) .none kV24 dc24 pm24 an24 cd24 ct24), sl24⟩)
    (c24 : PySem.W.codeIn K cd24 d24.qual = true)
    (k24 : PySem.W.keepIn K (.ref f24) = true)
    (a25 : PySem.W.nsIn K mainGlobals "check_gone" = some (some (.ref f25)))
    (l25 : K.lookup f25 = some ⟨oc25, od25, .func (PySem.W.fnOf d25.x d25.qual (defArgs d25.st) (defBody d25.st) (defScope d25.st) .none kV25 dc25 pm25 an25 cd25 ct25), sl25⟩)
    (c25 : PySem.W.codeIn K cd25 d25.qual = true)
    (k25 : PySem.W.keepIn K (.ref f25) = true)
    (a26 : PySem.W.nsIn K mainGlobals "handed_out" = some (some (.ref f26)))
    (l26 : K.lookup f26 = some ⟨oc26, od26, .func (PySem.W.fnOf d26.x d26.qual (defArgs d26.st) (defBody d26.st) (defScope d26.st) .none kV26 dc26 pm26 an26 cd26 ct26), sl26⟩)
    (c26 : PySem.W.codeIn K cd26 d26.qual = true)
    (k26 : PySem.W.keepIn K (.ref f26) = true)
    (a27 : PySem.W.nsIn K mainGlobals "is_span" = some (some (.ref f27)))
    (l27 : K.lookup f27 = some ⟨oc27, od27, .func (PySem.W.fnOf d27.x d27.qual (defArgs d27.st) (defBody d27.st) (defScope d27.st) .none kV27 dc27 pm27 an27 cd27 ct27), sl27⟩)
    (c27 : PySem.W.codeIn K cd27 d27.qual = true)
    (k27 : PySem.W.keepIn K (.ref f27) = true)
    (a28 : PySem.W.nsIn K mainGlobals "check_spans" = some (some (.ref f28)))
    (l28 : K.lookup f28 = some ⟨oc28, od28, .func (PySem.W.fnOf d28.x d28.qual (defArgs d28.st) (defBody d28.st) (defScope d28.st) .none kV28 dc28 pm28 an28 cd28 ct28), sl28⟩)
    (c28 : PySem.W.codeIn K cd28 d28.qual = true)
    (k28 : PySem.W.keepIn K (.ref f28) = true)
    (a29 : PySem.W.nsIn K mainGlobals "between" = some (some (.ref f29)))
    (l29 : K.lookup f29 = some ⟨oc29, od29, .func (PySem.W.fnOf d29.x d29.qual (defArgs d29.st) (defBody d29.st) (defScope d29.st) .none kV29 dc29 pm29 an29 cd29 ct29), sl29⟩)
    (c29 : PySem.W.codeIn K cd29 d29.qual = true)
    (k29 : PySem.W.keepIn K (.ref f29) = true)
    (a30 : PySem.W.nsIn K mainGlobals "surely" = some (some (.ref f30)))
    (l30 : K.lookup f30 = some ⟨oc30, od30, .func (PySem.W.fnOf d30.x d30.qual (defArgs d30.st) (defBody d30.st) (defScope d30.st) .none kV30 dc30 pm30 an30 cd30 ct30), sl30⟩)
    (c30 : PySem.W.codeIn K cd30 d30.qual = true)
    (k30 : PySem.W.keepIn K (.ref f30) = true)
    (a45 : PySem.W.nsIn K mainGlobals "_wall" = some (some (.ref f45)))
    (l45 : K.lookup f45 = some ⟨oc45, od45, .func (PySem.W.fnOf d45.x d45.qual (defArgs d45.st) (defBody d45.st) (defScope d45.st) .none kV45 dc45 pm45 an45 cd45 ct45), sl45⟩)
    (c45 : PySem.W.codeIn K cd45 d45.qual = true)
    (k45 : PySem.W.keepIn K (.ref f45) = true)
    (a46 : PySem.W.nsIn K mainGlobals "_law_number" = some (some (.ref f46)))
    (l46 : K.lookup f46 = some ⟨oc46, od46, .func (PySem.W.fnOf d46.x d46.qual (defArgs d46.st) (defBody d46.st) (defScope d46.st) .none kV46 dc46 pm46 an46 cd46 ct46), sl46⟩)
    (c46 : PySem.W.codeIn K cd46 d46.qual = true)
    (k46 : PySem.W.keepIn K (.ref f46) = true)
    (a48 : PySem.W.nsIn K mainGlobals "_law_term" = some (some (.ref f48)))
    (l48 : K.lookup f48 = some ⟨oc48, od48, .func (PySem.W.fnOf d48.x d48.qual (defArgs d48.st) (defBody d48.st) (defScope d48.st) .none kV48 dc48 pm48 an48 cd48 ct48), sl48⟩)
    (c48 : PySem.W.codeIn K cd48 d48.qual = true)
    (k48 : PySem.W.keepIn K (.ref f48) = true)
    (a49 : PySem.W.nsIn K mainGlobals "_law_letter" = some (some (.ref f49)))
    (l49 : K.lookup f49 = some ⟨oc49, od49, .func (PySem.W.fnOf d49.x d49.qual (defArgs d49.st) (defBody d49.st) (defScope d49.st) .none kV49 dc49 pm49 an49 cd49 ct49), sl49⟩)
    (c49 : PySem.W.codeIn K cd49 d49.qual = true)
    (k49 : PySem.W.keepIn K (.ref f49) = true)
    (a50 : PySem.W.nsIn K mainGlobals "_law_letters" = some (some (.ref f50)))
    (l50 : K.lookup f50 = some ⟨oc50, od50, .func (PySem.W.fnOf d50.x d50.qual (defArgs d50.st) (defBody d50.st) (defScope d50.st) .none kV50 dc50 pm50 an50 cd50 ct50), sl50⟩)
    (c50 : PySem.W.codeIn K cd50 d50.qual = true)
    (k50 : PySem.W.keepIn K (.ref f50) = true)
    (a51 : PySem.W.nsIn K mainGlobals "_law_days" = some (some (.ref f51)))
    (l51 : K.lookup f51 = some ⟨oc51, od51, .func (PySem.W.fnOf d51.x d51.qual (defArgs d51.st) (defBody d51.st) (defScope d51.st) .none kV51 dc51 pm51 an51 cd51 ct51), sl51⟩)
    (c51 : PySem.W.codeIn K cd51 d51.qual = true)
    (k51 : PySem.W.keepIn K (.ref f51) = true)
    (a67 : PySem.W.nsIn K mainGlobals "_law_spans" = some (some (.ref f67)))
    (l67 : K.lookup f67 = some ⟨oc67, od67, .func (PySem.W.fnOf d67.x d67.qual (defArgs d67.st) (defBody d67.st) (defScope d67.st) .none kV67 dc67 pm67 an67 cd67 ct67), sl67⟩)
    (c67 : PySem.W.codeIn K cd67 d67.qual = true)
    (k67 : PySem.W.keepIn K (.ref f67) = true)
    (a101 : PySem.W.nsIn K mainGlobals "_law_days_right" = some (some (.ref f101)))
    (l101 : K.lookup f101 = some ⟨oc101, od101, .func (PySem.W.fnOf d101.x d101.qual (defArgs d101.st) (defBody d101.st) (defScope d101.st) .none kV101 dc101 pm101 an101 cd101 ct101), sl101⟩)
    (c101 : PySem.W.codeIn K cd101 d101.qual = true)
    (k101 : PySem.W.keepIn K (.ref f101) = true)
    (a102 : PySem.W.nsIn K mainGlobals "law" = some (some (.ref f102)))
    (l102 : K.lookup f102 = some ⟨oc102, od102, .func (PySem.W.fnOf d102.x d102.qual (defArgs d102.st) (defBody d102.st) (defScope d102.st) .none kV102 dc102 pm102 an102 cd102 ct102), sl102⟩)
    (c102 : PySem.W.codeIn K cd102 d102.qual = true)
    (k102 : PySem.W.keepIn K (.ref f102) = true)
    (e0 : PySem.W.nsIn K mainGlobals "LetterError" = some (some (.ref E0)))
    (xe0 : PySem.W.excIn K E0 [.type "ValueError", .type "Exception", .type "BaseException", .type "object"] "ValueError.__new__" = true)
    (ke0 : PySem.W.keepIn K (.ref E0) = true)
    (be0 : PySem.W.subIn K (.ref E0) (.type "BaseException") = some true)
    (te0 : PySem.W.typeIn K (.ref E0) = some (.type "type"))
    (e1 : PySem.W.nsIn K mainGlobals "BadLetters" = some (some (.ref E1)))
    (xe1 : PySem.W.excIn K E1 [.type "ValueError", .type "Exception", .type "BaseException", .type "object"] "ValueError.__new__" = true)
    (ke1 : PySem.W.keepIn K (.ref E1) = true)
    (be1 : PySem.W.subIn K (.ref E1) (.type "BaseException") = some true)
    (te1 : PySem.W.typeIn K (.ref E1) = some (.type "type"))
    (e2 : PySem.W.nsIn K mainGlobals "BadDays" = some (some (.ref E2)))
    (xe2 : PySem.W.excIn K E2 [.type "ValueError", .type "Exception", .type "BaseException", .type "object"] "ValueError.__new__" = true)
    (ke2 : PySem.W.keepIn K (.ref E2) = true)
    (be2 : PySem.W.subIn K (.ref E2) (.type "BaseException") = some true)
    (te2 : PySem.W.typeIn K (.ref E2) = some (.type "type"))
    (e3 : PySem.W.nsIn K mainGlobals "BadNumber" = some (some (.ref E3)))
    (xe3 : PySem.W.excIn K E3 [.type "ValueError", .type "Exception", .type "BaseException", .type "object"] "ValueError.__new__" = true)
    (ke3 : PySem.W.keepIn K (.ref E3) = true)
    (be3 : PySem.W.subIn K (.ref E3) (.type "BaseException") = some true)
    (te3 : PySem.W.typeIn K (.ref E3) = some (.type "type"))
    (e4 : PySem.W.nsIn K mainGlobals "BadGone" = some (some (.ref E4)))
    (xe4 : PySem.W.excIn K E4 [.type "ValueError", .type "Exception", .type "BaseException", .type "object"] "ValueError.__new__" = true)
    (ke4 : PySem.W.keepIn K (.ref E4) = true)
    (be4 : PySem.W.subIn K (.ref E4) (.type "BaseException") = some true)
    (te4 : PySem.W.typeIn K (.ref E4) = some (.type "type"))
    (e5 : PySem.W.nsIn K mainGlobals "BadSpans" = some (some (.ref E5)))
    (xe5 : PySem.W.excIn K E5 [.type "ValueError", .type "Exception", .type "BaseException", .type "object"] "ValueError.__new__" = true)
    (ke5 : PySem.W.keepIn K (.ref E5) = true)
    (be5 : PySem.W.subIn K (.ref E5) (.type "BaseException") = some true)
    (te5 : PySem.W.typeIn K (.ref E5) = some (.type "type"))
    (e10 : PySem.W.nsIn K mainGlobals "NoDay" = some (some (.ref E10)))
    (xe10 : PySem.W.excIn K E10 [.type "ValueError", .type "Exception", .type "BaseException", .type "object"] "ValueError.__new__" = true)
    (ke10 : PySem.W.keepIn K (.ref E10) = true)
    (be10 : PySem.W.subIn K (.ref E10) (.type "BaseException") = some true)
    (te10 : PySem.W.typeIn K (.ref E10) = some (.type "type"))
    (ac0 : PySem.W.nsIn K mainGlobals "Answer" = some (some (.ref C0)))
    (pg0 : PySem.W.plainGet K C0 Str.empty = true)
    (hd0 : PySem.W.hasDictIn K C0 = true)
    (po0 : PySem.W.plainOver K C0 = true)
    (sa0 : PySem.W.findIn K (.ref C0) "__setattr__" = some (some (.builtin "object.__setattr__")))
    (n0_0 : PySem.W.findIn K (.ref C0) "chain" = some none)
    (n0_1 : PySem.W.findIn K (.ref C0) "days" = some none)
    (n0_2 : PySem.W.findIn K (.ref C0) "letters" = some none)
    (n0_3 : PySem.W.findIn K (.ref C0) "over" = some none)
    (n0_4 : PySem.W.findIn K (.ref C0) "gone" = some none)
    (n0_5 : PySem.W.findIn K (.ref C0) "now" = some none)
    (kc0 : PySem.W.keepIn K (.ref C0) = true)
    (mk0 : PySem.W.makesIn K C0 = true)
    (in0 : PySem.W.findIn K (.ref C0) "__init__" = some (some (.builtin "object.__init__")))
    (cl0 : PySem.W.findIn K (.ref C0) "__class__" = some (some (.builtin "object.__class__")))
    (mo0 : PySem.W.mroIn K C0 (.type "object") = some true)
    (ki0_int : PySem.W.kitOne K (.ref C0) (.type "int") = some false)
    (ki0_bool : PySem.W.kitOne K (.ref C0) (.type "bool") = some false)
    (ki0_str : PySem.W.kitOne K (.ref C0) (.type "str") = some false)
    (ki0_list : PySem.W.kitOne K (.ref C0) (.type "list") = some false)
    (ki0_tuple : PySem.W.kitOne K (.ref C0) (.type "tuple") = some false)
    (kj0_NoneType : PySem.W.kitOne K (.type "NoneType") (.ref C0) = some false)
    (kj0_bool : PySem.W.kitOne K (.type "bool") (.ref C0) = some false)
    (kj0_int : PySem.W.kitOne K (.type "int") (.ref C0) = some false)
    (kj0_str : PySem.W.kitOne K (.type "str") (.ref C0) = some false)
    (kj0_list : PySem.W.kitOne K (.type "list") (.ref C0) = some false)
    (kj0_tuple : PySem.W.kitOne K (.type "tuple") (.ref C0) = some false)
    (kj0_dict : PySem.W.kitOne K (.type "dict") (.ref C0) = some false)
    (ac1 : PySem.W.nsIn K mainGlobals "Why" = some (some (.ref C1)))
    (pg1 : PySem.W.plainGet K C1 Str.empty = true)
    (hd1 : PySem.W.hasDictIn K C1 = true)
    (po1 : PySem.W.plainOver K C1 = true)
    (sa1 : PySem.W.findIn K (.ref C1) "__setattr__" = some (some (.builtin "object.__setattr__")))
    (n1_0 : PySem.W.findIn K (.ref C1) "chain" = some none)
    (n1_1 : PySem.W.findIn K (.ref C1) "days" = some none)
    (n1_2 : PySem.W.findIn K (.ref C1) "letters" = some none)
    (n1_3 : PySem.W.findIn K (.ref C1) "over" = some none)
    (n1_4 : PySem.W.findIn K (.ref C1) "gone" = some none)
    (n1_5 : PySem.W.findIn K (.ref C1) "now" = some none)
    (kc1 : PySem.W.keepIn K (.ref C1) = true)
    (mk1 : PySem.W.makesIn K C1 = true)
    (in1 : PySem.W.findIn K (.ref C1) "__init__" = some (some (.ref f17)))
    (if1 : PySem.W.isFn K (.ref f17) = true)
    (m1_0 : PySem.W.findIn K (.ref C1) "shows" = some (some (.ref f18)))
    (mf1_0 : PySem.W.isFn K (.ref f18) = true)
    (cl1 : PySem.W.findIn K (.ref C1) "__class__" = some (some (.builtin "object.__class__")))
    (mo1 : PySem.W.mroIn K C1 (.type "object") = some true)
    (ki1_int : PySem.W.kitOne K (.ref C1) (.type "int") = some false)
    (ki1_bool : PySem.W.kitOne K (.ref C1) (.type "bool") = some false)
    (ki1_str : PySem.W.kitOne K (.ref C1) (.type "str") = some false)
    (ki1_list : PySem.W.kitOne K (.ref C1) (.type "list") = some false)
    (ki1_tuple : PySem.W.kitOne K (.ref C1) (.type "tuple") = some false)
    (kj1_NoneType : PySem.W.kitOne K (.type "NoneType") (.ref C1) = some false)
    (kj1_bool : PySem.W.kitOne K (.type "bool") (.ref C1) = some false)
    (kj1_int : PySem.W.kitOne K (.type "int") (.ref C1) = some false)
    (kj1_str : PySem.W.kitOne K (.type "str") (.ref C1) = some false)
    (kj1_list : PySem.W.kitOne K (.type "list") (.ref C1) = some false)
    (kj1_tuple : PySem.W.kitOne K (.type "tuple") (.ref C1) = some false)
    (kj1_dict : PySem.W.kitOne K (.type "dict") (.ref C1) = some false)
    (ac2 : PySem.W.nsIn K mainGlobals "Waits" = some (some (.ref C2)))
    (pg2 : PySem.W.plainGet K C2 Str.empty = true)
    (hd2 : PySem.W.hasDictIn K C2 = true)
    (po2 : PySem.W.plainOver K C2 = true)
    (sa2 : PySem.W.findIn K (.ref C2) "__setattr__" = some (some (.builtin "object.__setattr__")))
    (n2_0 : PySem.W.findIn K (.ref C2) "chain" = some none)
    (n2_1 : PySem.W.findIn K (.ref C2) "days" = some none)
    (n2_2 : PySem.W.findIn K (.ref C2) "letters" = some none)
    (n2_3 : PySem.W.findIn K (.ref C2) "over" = some none)
    (n2_4 : PySem.W.findIn K (.ref C2) "gone" = some none)
    (n2_5 : PySem.W.findIn K (.ref C2) "now" = some none)
    (kc2 : PySem.W.keepIn K (.ref C2) = true)
    (mk2 : PySem.W.makesIn K C2 = true)
    (in2 : PySem.W.findIn K (.ref C2) "__init__" = some (some (.ref f19)))
    (if2 : PySem.W.isFn K (.ref f19) = true)
    (m2_0 : PySem.W.findIn K (.ref C2) "shows" = some (some (.ref f20)))
    (mf2_0 : PySem.W.isFn K (.ref f20) = true)
    (cl2 : PySem.W.findIn K (.ref C2) "__class__" = some (some (.builtin "object.__class__")))
    (mo2 : PySem.W.mroIn K C2 (.type "object") = some true)
    (ki2_int : PySem.W.kitOne K (.ref C2) (.type "int") = some false)
    (ki2_bool : PySem.W.kitOne K (.ref C2) (.type "bool") = some false)
    (ki2_str : PySem.W.kitOne K (.ref C2) (.type "str") = some false)
    (ki2_list : PySem.W.kitOne K (.ref C2) (.type "list") = some false)
    (ki2_tuple : PySem.W.kitOne K (.ref C2) (.type "tuple") = some false)
    (kj2_NoneType : PySem.W.kitOne K (.type "NoneType") (.ref C2) = some false)
    (kj2_bool : PySem.W.kitOne K (.type "bool") (.ref C2) = some false)
    (kj2_int : PySem.W.kitOne K (.type "int") (.ref C2) = some false)
    (kj2_str : PySem.W.kitOne K (.type "str") (.ref C2) = some false)
    (kj2_list : PySem.W.kitOne K (.type "list") (.ref C2) = some false)
    (kj2_tuple : PySem.W.kitOne K (.type "tuple") (.ref C2) = some false)
    (kj2_dict : PySem.W.kitOne K (.type "dict") (.ref C2) = some false)
    (ac3 : PySem.W.nsIn K mainGlobals "Ahead" = some (some (.ref C3)))
    (pg3 : PySem.W.plainGet K C3 Str.empty = true)
    (hd3 : PySem.W.hasDictIn K C3 = true)
    (po3 : PySem.W.plainOver K C3 = true)
    (sa3 : PySem.W.findIn K (.ref C3) "__setattr__" = some (some (.builtin "object.__setattr__")))
    (n3_0 : PySem.W.findIn K (.ref C3) "chain" = some none)
    (n3_1 : PySem.W.findIn K (.ref C3) "days" = some none)
    (n3_2 : PySem.W.findIn K (.ref C3) "letters" = some none)
    (n3_3 : PySem.W.findIn K (.ref C3) "over" = some none)
    (n3_4 : PySem.W.findIn K (.ref C3) "gone" = some none)
    (n3_5 : PySem.W.findIn K (.ref C3) "now" = some none)
    (kc3 : PySem.W.keepIn K (.ref C3) = true)
    (mk3 : PySem.W.makesIn K C3 = true)
    (in3 : PySem.W.findIn K (.ref C3) "__init__" = some (some (.builtin "object.__init__")))
    (m3_0 : PySem.W.findIn K (.ref C3) "shows" = some (some (.ref f21)))
    (mf3_0 : PySem.W.isFn K (.ref f21) = true)
    (cl3 : PySem.W.findIn K (.ref C3) "__class__" = some (some (.builtin "object.__class__")))
    (mo3 : PySem.W.mroIn K C3 (.type "object") = some true)
    (ki3_int : PySem.W.kitOne K (.ref C3) (.type "int") = some false)
    (ki3_bool : PySem.W.kitOne K (.ref C3) (.type "bool") = some false)
    (ki3_str : PySem.W.kitOne K (.ref C3) (.type "str") = some false)
    (ki3_list : PySem.W.kitOne K (.ref C3) (.type "list") = some false)
    (ki3_tuple : PySem.W.kitOne K (.ref C3) (.type "tuple") = some false)
    (kj3_NoneType : PySem.W.kitOne K (.type "NoneType") (.ref C3) = some false)
    (kj3_bool : PySem.W.kitOne K (.type "bool") (.ref C3) = some false)
    (kj3_int : PySem.W.kitOne K (.type "int") (.ref C3) = some false)
    (kj3_str : PySem.W.kitOne K (.type "str") (.ref C3) = some false)
    (kj3_list : PySem.W.kitOne K (.type "list") (.ref C3) = some false)
    (kj3_tuple : PySem.W.kitOne K (.type "tuple") (.ref C3) = some false)
    (kj3_dict : PySem.W.kitOne K (.type "dict") (.ref C3) = some false)
    (ac4 : PySem.W.nsIn K mainGlobals "Perhaps" = some (some (.ref C4)))
    (pg4 : PySem.W.plainGet K C4 Str.empty = true)
    (hd4 : PySem.W.hasDictIn K C4 = true)
    (po4 : PySem.W.plainOver K C4 = true)
    (sa4 : PySem.W.findIn K (.ref C4) "__setattr__" = some (some (.builtin "object.__setattr__")))
    (n4_0 : PySem.W.findIn K (.ref C4) "chain" = some none)
    (n4_1 : PySem.W.findIn K (.ref C4) "days" = some none)
    (n4_2 : PySem.W.findIn K (.ref C4) "letters" = some none)
    (n4_3 : PySem.W.findIn K (.ref C4) "over" = some none)
    (n4_4 : PySem.W.findIn K (.ref C4) "gone" = some none)
    (n4_5 : PySem.W.findIn K (.ref C4) "now" = some none)
    (kc4 : PySem.W.keepIn K (.ref C4) = true)
    (mk4 : PySem.W.makesIn K C4 = true)
    (in4 : PySem.W.findIn K (.ref C4) "__init__" = some (some (.ref f22)))
    (if4 : PySem.W.isFn K (.ref f22) = true)
    (m4_0 : PySem.W.findIn K (.ref C4) "shows" = some (some (.ref f23)))
    (mf4_0 : PySem.W.isFn K (.ref f23) = true)
    (cl4 : PySem.W.findIn K (.ref C4) "__class__" = some (some (.builtin "object.__class__")))
    (mo4 : PySem.W.mroIn K C4 (.type "object") = some true)
    (ki4_int : PySem.W.kitOne K (.ref C4) (.type "int") = some false)
    (ki4_bool : PySem.W.kitOne K (.ref C4) (.type "bool") = some false)
    (ki4_str : PySem.W.kitOne K (.ref C4) (.type "str") = some false)
    (ki4_list : PySem.W.kitOne K (.ref C4) (.type "list") = some false)
    (ki4_tuple : PySem.W.kitOne K (.ref C4) (.type "tuple") = some false)
    (kj4_NoneType : PySem.W.kitOne K (.type "NoneType") (.ref C4) = some false)
    (kj4_bool : PySem.W.kitOne K (.type "bool") (.ref C4) = some false)
    (kj4_int : PySem.W.kitOne K (.type "int") (.ref C4) = some false)
    (kj4_str : PySem.W.kitOne K (.type "str") (.ref C4) = some false)
    (kj4_list : PySem.W.kitOne K (.type "list") (.ref C4) = some false)
    (kj4_tuple : PySem.W.kitOne K (.type "tuple") (.ref C4) = some false)
    (kj4_dict : PySem.W.kitOne K (.type "dict") (.ref C4) = some false)
    (kk0_0 : PySem.W.kitOne K (.ref C0) (.ref C0) = some true)
    (kk0_1 : PySem.W.kitOne K (.ref C0) (.ref C1) = some false)
    (kk0_2 : PySem.W.kitOne K (.ref C0) (.ref C2) = some false)
    (kk0_3 : PySem.W.kitOne K (.ref C0) (.ref C3) = some false)
    (kk0_4 : PySem.W.kitOne K (.ref C0) (.ref C4) = some false)
    (kk1_0 : PySem.W.kitOne K (.ref C1) (.ref C0) = some true)
    (kk1_1 : PySem.W.kitOne K (.ref C1) (.ref C1) = some true)
    (kk1_2 : PySem.W.kitOne K (.ref C1) (.ref C2) = some false)
    (kk1_3 : PySem.W.kitOne K (.ref C1) (.ref C3) = some false)
    (kk1_4 : PySem.W.kitOne K (.ref C1) (.ref C4) = some false)
    (kk2_0 : PySem.W.kitOne K (.ref C2) (.ref C0) = some true)
    (kk2_1 : PySem.W.kitOne K (.ref C2) (.ref C1) = some false)
    (kk2_2 : PySem.W.kitOne K (.ref C2) (.ref C2) = some true)
    (kk2_3 : PySem.W.kitOne K (.ref C2) (.ref C3) = some false)
    (kk2_4 : PySem.W.kitOne K (.ref C2) (.ref C4) = some false)
    (kk3_0 : PySem.W.kitOne K (.ref C3) (.ref C0) = some true)
    (kk3_1 : PySem.W.kitOne K (.ref C3) (.ref C1) = some false)
    (kk3_2 : PySem.W.kitOne K (.ref C3) (.ref C2) = some false)
    (kk3_3 : PySem.W.kitOne K (.ref C3) (.ref C3) = some true)
    (kk3_4 : PySem.W.kitOne K (.ref C3) (.ref C4) = some false)
    (kk4_0 : PySem.W.kitOne K (.ref C4) (.ref C0) = some true)
    (kk4_1 : PySem.W.kitOne K (.ref C4) (.ref C1) = some false)
    (kk4_2 : PySem.W.kitOne K (.ref C4) (.ref C2) = some false)
    (kk4_3 : PySem.W.kitOne K (.ref C4) (.ref C3) = some false)
    (kk4_4 : PySem.W.kitOne K (.ref C4) (.ref C4) = some true)
    (sp : PySem.W.specialIn K (.builtin "object.__class__") "__get__" = some (some (.builtin "getset_descriptor.__get__")))
    (tk : PySem.W.takesIn K (.builtin "object.__class__") = some true)
    (n0 : PySem.W.nsIn K mainGlobals "MOST_LETTERS" = some (some (.int 40 t0)))
    (n1 : PySem.W.nsIn K mainGlobals "MOST_HEIRS" = some (some (.int 3 t1)))
    (n2 : PySem.W.nsIn K mainGlobals "MOST_PERSON" = some (some (.int 9 t2)))
    (n3 : PySem.W.nsIn K mainGlobals "MOST_TERMS" = some (some (.int 4 t3)))
    (n4 : PySem.W.nsIn K mainGlobals "HAPPENINGS" = some (some (.int 6 t4)))
    (n5 : PySem.W.nsIn K mainGlobals "MOST_DAY" = some (some (.int 60 t5)))
    (n6 : PySem.W.nsIn K mainGlobals "MOST_DELAY" = some (some (.int 20 t6)))
    (z_len : PySem.W.nsIn K mainGlobals "len" = some none)
    (z_max : PySem.W.nsIn K mainGlobals "max" = some none)
    (z_min : PySem.W.nsIn K mainGlobals "min" = some none)
    (z_abs : PySem.W.nsIn K mainGlobals "abs" = some none)
    (z_sum : PySem.W.nsIn K mainGlobals "sum" = some none)
    (z_all : PySem.W.nsIn K mainGlobals "all" = some none)
    (z_any : PySem.W.nsIn K mainGlobals "any" = some none)
    (z_sorted : PySem.W.nsIn K mainGlobals "sorted" = some none)
    (z_list : PySem.W.nsIn K mainGlobals "list" = some none)
    (z_tuple : PySem.W.nsIn K mainGlobals "tuple" = some none)
    (z_int : PySem.W.nsIn K mainGlobals "int" = some none)
    (z_isinstance : PySem.W.nsIn K mainGlobals "isinstance" = some none)
    (z_range : PySem.W.nsIn K mainGlobals "range" = some none)
    (z_enumerate : PySem.W.nsIn K mainGlobals "enumerate" = some none)
    (z_zip : PySem.W.nsIn K mainGlobals "zip" = some none)
    (z_set : PySem.W.nsIn K mainGlobals "set" = some none)
    (z_bool : PySem.W.nsIn K mainGlobals "bool" = some none)
    (z_str : PySem.W.nsIn K mainGlobals "str" = some none)
    : ∃ (x : Str) (fd : FuncData), x = "_law_script" ∧ (∀ (s : Shared) (u : Value), BindsTo s fd ⟨[u], []⟩ [(x, u)]) ∧ ∀ base : Heap, K.In base → base.Ns mainGlobals mg → FnOk l.prog w K mg base (L2.CX l.prog w) (lvl n) fa fd [x] (spLaw K) := by
  have e := hfa.symm.trans (PySem.W.mg_of X G a102)
  have e2 : f102 = fa := by cases e; rfl
  subst e2
  have F0 : FunL D K 0 f0 := ⟨d0, _, rfl, fun_mk (st := d0.st) l0 c0 k0⟩
  have F1 : FunL D K 1 f1 := ⟨d1, _, rfl, fun_mk (st := d1.st) l1 c1 k1⟩
  have F2 : FunL D K 2 f2 := ⟨d2, _, rfl, fun_mk (st := d2.st) l2 c2 k2⟩
  have F3 : FunL D K 3 f3 := ⟨d3, _, rfl, fun_mk (st := d3.st) l3 c3 k3⟩
  have F4 : FunL D K 4 f4 := ⟨d4, _, rfl, fun_mk (st := d4.st) l4 c4 k4⟩
  have F5 : FunL D K 5 f5 := ⟨d5, _, rfl, fun_mk (st := d5.st) l5 c5 k5⟩
  have F6 : FunL D K 6 f6 := ⟨d6, _, rfl, fun_mk (st := d6.st) l6 c6 k6⟩
  have F7 : FunL D K 7 f7 := ⟨d7, _, rfl, fun_mk (st := d7.st) l7 c7 k7⟩
  have F8 : FunL D K 8 f8 := ⟨d8, _, rfl, fun_mk (st := d8.st) l8 c8 k8⟩
  have F9 : FunL D K 9 f9 := ⟨d9, _, rfl, fun_mk (st := d9.st) l9 c9 k9⟩
  have F10 : FunL D K 10 f10 := ⟨d10, _, rfl, fun_mk (st := d10.st) l10 c10 k10⟩
  have F11 : FunL D K 11 f11 := ⟨d11, _, rfl, fun_mk (st := d11.st) l11 c11 k11⟩
  have F13 : FunL D K 13 f13 := ⟨d13, _, rfl, fun_mk (st := d13.st) l13 c13 k13⟩
  have F14 : FunL D K 14 f14 := ⟨d14, _, rfl, fun_mk (st := d14.st) l14 c14 k14⟩
  have F15 : FunL D K 15 f15 := ⟨d15, _, rfl, fun_mk (st := d15.st) l15 c15 k15⟩
  have F16 : FunL D K 16 f16 := ⟨d16, _, rfl, fun_mk (st := d16.st) l16 c16 k16⟩
  have F17 : FunL D K 17 f17 := ⟨d17, _, rfl, fun_mk (st := d17.st) l17 c17 k17⟩
  have F18 : FunL D K 18 f18 := ⟨d18, _, rfl, fun_mk (st := d18.st) l18 c18 k18⟩
  have F19 : FunL D K 19 f19 := ⟨d19, _, rfl, fun_mk (st := d19.st) l19 c19 k19⟩
  have F20 : FunL D K 20 f20 := ⟨d20, _, rfl, fun_mk (st := d20.st) l20 c20 k20⟩
  have F21 : FunL D K 21 f21 := ⟨d21, _, rfl, fun_mk (st := d21.st) l21 c21 k21⟩
  have F22 : FunL D K 22 f22 := ⟨d22, _, rfl, fun_mk (st := d22.st) l22 c22 k22⟩
  have F23 : FunL D K 23 f23 := ⟨d23, _, rfl, fun_mk (st := d23.st) l23 c23 k23⟩
  have F24 : FunL D K 24 f24 := ⟨d24, _, rfl, fun_mk (st := d24.st) l24 c24 k24⟩
  have F25 : FunL D K 25 f25 := ⟨d25, _, rfl, fun_mk (st := d25.st) l25 c25 k25⟩
  have F26 : FunL D K 26 f26 := ⟨d26, _, rfl, fun_mk (st := d26.st) l26 c26 k26⟩
  have F27 : FunL D K 27 f27 := ⟨d27, _, rfl, fun_mk (st := d27.st) l27 c27 k27⟩
  have F28 : FunL D K 28 f28 := ⟨d28, _, rfl, fun_mk (st := d28.st) l28 c28 k28⟩
  have F29 : FunL D K 29 f29 := ⟨d29, _, rfl, fun_mk (st := d29.st) l29 c29 k29⟩
  have F30 : FunL D K 30 f30 := ⟨d30, _, rfl, fun_mk (st := d30.st) l30 c30 k30⟩
  have F45 : FunL D K 45 f45 := ⟨d45, _, rfl, fun_mk (st := d45.st) l45 c45 k45⟩
  have F46 : FunL D K 46 f46 := ⟨d46, _, rfl, fun_mk (st := d46.st) l46 c46 k46⟩
  have F48 : FunL D K 48 f48 := ⟨d48, _, rfl, fun_mk (st := d48.st) l48 c48 k48⟩
  have F49 : FunL D K 49 f49 := ⟨d49, _, rfl, fun_mk (st := d49.st) l49 c49 k49⟩
  have F50 : FunL D K 50 f50 := ⟨d50, _, rfl, fun_mk (st := d50.st) l50 c50 k50⟩
  have F51 : FunL D K 51 f51 := ⟨d51, _, rfl, fun_mk (st := d51.st) l51 c51 k51⟩
  have F67 : FunL D K 67 f67 := ⟨d67, _, rfl, fun_mk (st := d67.st) l67 c67 k67⟩
  have F101 : FunL D K 101 f101 := ⟨d101, _, rfl, fun_mk (st := d101.st) l101 c101 k101⟩
  have F102 : FunL D K 102 f102 := ⟨d102, _, rfl, fun_mk (st := d102.st) l102 c102 k102⟩
  have b : Base pg D (sg K C0 C1 C2 C3 C4 E0 E1 E2 E3 E4 E5 E10) K mg := by
    refine ⟨rfl, ⟨(by show pg.txts.Nodup; decide +kernel), (by show ∀ z ∈ pg.txts, PyData.strOk z = true; decide +kernel), (by show pg.flds.Nodup; decide +kernel)⟩, rfl, rfl, by decide +kernel, ?blt, ?con, ?fn, ?cls, ?exn, ?ins, ?mkc, ?mt, ?kin, ?kit, ?exc⟩
    case blt =>
      intro x hx
      simp only [blts, List.mem_cons, List.not_mem_nil, or_false] at hx
      rcases hx with rfl | rfl | rfl | rfl | rfl | rfl | rfl | rfl | rfl | rfl | rfl | rfl | rfl | rfl | rfl | rfl | rfl | rfl
      · exact PySem.W.mg_none_of X G z_len
      · exact PySem.W.mg_none_of X G z_max
      · exact PySem.W.mg_none_of X G z_min
      · exact PySem.W.mg_none_of X G z_abs
      · exact PySem.W.mg_none_of X G z_sum
      · exact PySem.W.mg_none_of X G z_all
      · exact PySem.W.mg_none_of X G z_any
      · exact PySem.W.mg_none_of X G z_sorted
      · exact PySem.W.mg_none_of X G z_list
      · exact PySem.W.mg_none_of X G z_tuple
      · exact PySem.W.mg_none_of X G z_int
      · exact PySem.W.mg_none_of X G z_isinstance
      · exact PySem.W.mg_none_of X G z_range
      · exact PySem.W.mg_none_of X G z_enumerate
      · exact PySem.W.mg_none_of X G z_zip
      · exact PySem.W.mg_none_of X G z_set
      · exact PySem.W.mg_none_of X G z_bool
      · exact PySem.W.mg_none_of X G z_str
    case con =>
      intro p hp
      simp only [pg, List.mem_cons, List.not_mem_nil, or_false] at hp
      rcases hp with rfl | rfl | rfl | rfl | rfl | rfl | rfl
      · exact ⟨t0, PySem.W.mg_of X G n0⟩
      · exact ⟨t1, PySem.W.mg_of X G n1⟩
      · exact ⟨t2, PySem.W.mg_of X G n2⟩
      · exact ⟨t3, PySem.W.mg_of X G n3⟩
      · exact ⟨t4, PySem.W.mg_of X G n4⟩
      · exact ⟨t5, PySem.W.mg_of X G n5⟩
      · exact ⟨t6, PySem.W.mg_of X G n6⟩
    case fn =>
      intro i x e
      match i, e with
      | 0, e => cases e; exact ⟨f0, PySem.W.mg_of X G a0, F0⟩
      | 1, e => cases e; exact ⟨f1, PySem.W.mg_of X G a1, F1⟩
      | 2, e => cases e; exact ⟨f2, PySem.W.mg_of X G a2, F2⟩
      | 3, e => cases e; exact ⟨f3, PySem.W.mg_of X G a3, F3⟩
      | 4, e => cases e; exact ⟨f4, PySem.W.mg_of X G a4, F4⟩
      | 5, e => cases e; exact ⟨f5, PySem.W.mg_of X G a5, F5⟩
      | 6, e => cases e; exact ⟨f6, PySem.W.mg_of X G a6, F6⟩
      | 7, e => cases e; exact ⟨f7, PySem.W.mg_of X G a7, F7⟩
      | 8, e => cases e; exact ⟨f8, PySem.W.mg_of X G a8, F8⟩
      | 9, e => cases e; exact ⟨f9, PySem.W.mg_of X G a9, F9⟩
      | 10, e => cases e; exact ⟨f10, PySem.W.mg_of X G a10, F10⟩
      | 11, e => cases e; exact ⟨f11, PySem.W.mg_of X G a11, F11⟩
      | 12, e => cases e
      | 13, e => cases e; exact ⟨f13, PySem.W.mg_of X G a13, F13⟩
      | 14, e => cases e; exact ⟨f14, PySem.W.mg_of X G a14, F14⟩
      | 15, e => cases e; exact ⟨f15, PySem.W.mg_of X G a15, F15⟩
      | 16, e => cases e; exact ⟨f16, PySem.W.mg_of X G a16, F16⟩
      | 17, e => cases e
      | 18, e => cases e
      | 19, e => cases e
      | 20, e => cases e
      | 21, e => cases e
      | 22, e => cases e
      | 23, e => cases e
      | 24, e => cases e; exact ⟨f24, PySem.W.mg_of X G a24, F24⟩
      | 25, e => cases e; exact ⟨f25, PySem.W.mg_of X G a25, F25⟩
      | 26, e => cases e; exact ⟨f26, PySem.W.mg_of X G a26, F26⟩
      | 27, e => cases e; exact ⟨f27, PySem.W.mg_of X G a27, F27⟩
      | 28, e => cases e; exact ⟨f28, PySem.W.mg_of X G a28, F28⟩
      | 29, e => cases e; exact ⟨f29, PySem.W.mg_of X G a29, F29⟩
      | 30, e => cases e; exact ⟨f30, PySem.W.mg_of X G a30, F30⟩
      | 31, e => cases e
      | 32, e => cases e
      | 33, e => cases e
      | 34, e => cases e
      | 35, e => cases e
      | 36, e => cases e
      | 37, e => cases e
      | 38, e => cases e
      | 39, e => cases e
      | 40, e => cases e
      | 41, e => cases e
      | 42, e => cases e
      | 43, e => cases e
      | 44, e => cases e
      | 45, e => cases e; exact ⟨f45, PySem.W.mg_of X G a45, F45⟩
      | 46, e => cases e; exact ⟨f46, PySem.W.mg_of X G a46, F46⟩
      | 47, e => cases e
      | 48, e => cases e; exact ⟨f48, PySem.W.mg_of X G a48, F48⟩
      | 49, e => cases e; exact ⟨f49, PySem.W.mg_of X G a49, F49⟩
      | 50, e => cases e; exact ⟨f50, PySem.W.mg_of X G a50, F50⟩
      | 51, e => cases e; exact ⟨f51, PySem.W.mg_of X G a51, F51⟩
      | 52, e => cases e
      | 53, e => cases e
      | 54, e => cases e
      | 55, e => cases e
      | 56, e => cases e
      | 57, e => cases e
      | 58, e => cases e
      | 59, e => cases e
      | 60, e => cases e
      | 61, e => cases e
      | 62, e => cases e
      | 63, e => cases e
      | 64, e => cases e
      | 65, e => cases e
      | 66, e => cases e
      | 67, e => cases e; exact ⟨f67, PySem.W.mg_of X G a67, F67⟩
      | 68, e => cases e
      | 69, e => cases e
      | 70, e => cases e
      | 71, e => cases e
      | 72, e => cases e
      | 73, e => cases e
      | 74, e => cases e
      | 75, e => cases e
      | 76, e => cases e
      | 77, e => cases e
      | 78, e => cases e
      | 79, e => cases e
      | 80, e => cases e
      | 81, e => cases e
      | 82, e => cases e
      | 83, e => cases e
      | 84, e => cases e
      | 85, e => cases e
      | 86, e => cases e
      | 87, e => cases e
      | 88, e => cases e
      | 89, e => cases e
      | 90, e => cases e
      | 91, e => cases e
      | 92, e => cases e
      | 93, e => cases e
      | 94, e => cases e
      | 95, e => cases e
      | 96, e => cases e
      | 97, e => cases e
      | 98, e => cases e
      | 99, e => cases e
      | 100, e => cases e
      | 101, e => cases e; exact ⟨f101, PySem.W.mg_of X G a101, F101⟩
      | 102, e => cases e; exact ⟨f102, PySem.W.mg_of X G a102, F102⟩
      | i + 103, e => cases e
    case cls =>
      intro i x e
      match i, e with
      | 0, e => cases e; exact ⟨C0, rfl, PySem.W.mg_of X G ac0⟩
      | 1, e => cases e; exact ⟨C1, rfl, PySem.W.mg_of X G ac1⟩
      | 2, e => cases e; exact ⟨C2, rfl, PySem.W.mg_of X G ac2⟩
      | 3, e => cases e; exact ⟨C3, rfl, PySem.W.mg_of X G ac3⟩
      | 4, e => cases e; exact ⟨C4, rfl, PySem.W.mg_of X G ac4⟩
      | 5, e => cases e
      | i + 6, e => cases e
    case exn =>
      intro i x e
      match i, e with
      | 0, e => cases e; exact ⟨E0, rfl, PySem.W.mg_of X G e0⟩
      | 1, e => cases e; exact ⟨E1, rfl, PySem.W.mg_of X G e1⟩
      | 2, e => cases e; exact ⟨E2, rfl, PySem.W.mg_of X G e2⟩
      | 3, e => cases e; exact ⟨E3, rfl, PySem.W.mg_of X G e3⟩
      | 4, e => cases e; exact ⟨E4, rfl, PySem.W.mg_of X G e4⟩
      | 5, e => cases e; exact ⟨E5, rfl, PySem.W.mg_of X G e5⟩
      | 6, e => cases e
      | 7, e => cases e
      | 8, e => cases e
      | 9, e => cases e
      | 10, e => cases e; exact ⟨E10, rfl, PySem.W.mg_of X G e10⟩
      | 11, e => cases e
      | 12, e => cases e
      | i + 13, e => cases e
    case ins =>
      intro k C e
      match k, e with
      | 0, e => cases e; exact ⟨⟨pg0, hd0, po0, sa0⟩, fun n hn => by
          simp only [pg, List.mem_cons, List.not_mem_nil, or_false] at hn
          rcases hn with rfl | rfl | rfl | rfl | rfl | rfl
          · exact n0_0
          · exact n0_1
          · exact n0_2
          · exact n0_3
          · exact n0_4
          · exact n0_5⟩
      | 1, e => cases e; exact ⟨⟨pg1, hd1, po1, sa1⟩, fun n hn => by
          simp only [pg, List.mem_cons, List.not_mem_nil, or_false] at hn
          rcases hn with rfl | rfl | rfl | rfl | rfl | rfl
          · exact n1_0
          · exact n1_1
          · exact n1_2
          · exact n1_3
          · exact n1_4
          · exact n1_5⟩
      | 2, e => cases e; exact ⟨⟨pg2, hd2, po2, sa2⟩, fun n hn => by
          simp only [pg, List.mem_cons, List.not_mem_nil, or_false] at hn
          rcases hn with rfl | rfl | rfl | rfl | rfl | rfl
          · exact n2_0
          · exact n2_1
          · exact n2_2
          · exact n2_3
          · exact n2_4
          · exact n2_5⟩
      | 3, e => cases e; exact ⟨⟨pg3, hd3, po3, sa3⟩, fun n hn => by
          simp only [pg, List.mem_cons, List.not_mem_nil, or_false] at hn
          rcases hn with rfl | rfl | rfl | rfl | rfl | rfl
          · exact n3_0
          · exact n3_1
          · exact n3_2
          · exact n3_3
          · exact n3_4
          · exact n3_5⟩
      | 4, e => cases e; exact ⟨⟨pg4, hd4, po4, sa4⟩, fun n hn => by
          simp only [pg, List.mem_cons, List.not_mem_nil, or_false] at hn
          rcases hn with rfl | rfl | rfl | rfl | rfl | rfl
          · exact n4_0
          · exact n4_1
          · exact n4_2
          · exact n4_3
          · exact n4_4
          · exact n4_5⟩
      | 5, e => cases e
      | k + 6, e => cases e
    case mkc =>
      intro k C e
      match k, e with
      | 0, e => cases e; exact ⟨kc0, mk0, in0⟩
      | 1, e => cases e; exact ⟨kc1, mk1, f17, in1, if1, F17⟩
      | 2, e => cases e; exact ⟨kc2, mk2, f19, in2, if2, F19⟩
      | 3, e => cases e; exact ⟨kc3, mk3, in3⟩
      | 4, e => cases e; exact ⟨kc4, mk4, f22, in4, if4, F22⟩
      | 5, e => cases e
      | k + 6, e => cases e
    case mt =>
      intro k C m n i e1 e2 e3
      match k, e1 with
      | 0, e1 =>
        cases e1
        match m, e2, e3 with
        | 0, e2, e3 => cases e3
        | 1, e2, e3 => cases e3
        | 2, e2, e3 => cases e3
        | 3, e2, e3 => cases e3
        | 4, e2, e3 => cases e3
        | 5, e2, e3 => cases e3
        | 6, e2, e3 => cases e3
        | 7, e2, e3 => cases e3
        | 8, e2, e3 => cases e3
        | 9, e2, e3 => cases e3
        | 10, e2, e3 => cases e3
        | 11, e2, e3 => cases e3
        | 12, e2, e3 => cases e3
        | 13, e2, e3 => cases e3
        | m + 14, e2, e3 => cases e2
      | 1, e1 =>
        cases e1
        match m, e2, e3 with
        | 0, e2, e3 => cases e2; cases e3; exact ⟨f18, ⟨m1_0, mf1_0, k18⟩, F18⟩
        | 1, e2, e3 => cases e3
        | 2, e2, e3 => cases e3
        | 3, e2, e3 => cases e3
        | 4, e2, e3 => cases e3
        | 5, e2, e3 => cases e3
        | 6, e2, e3 => cases e3
        | 7, e2, e3 => cases e3
        | 8, e2, e3 => cases e3
        | 9, e2, e3 => cases e3
        | 10, e2, e3 => cases e3
        | 11, e2, e3 => cases e3
        | 12, e2, e3 => cases e3
        | 13, e2, e3 => cases e3
        | m + 14, e2, e3 => cases e2
      | 2, e1 =>
        cases e1
        match m, e2, e3 with
        | 0, e2, e3 => cases e2; cases e3; exact ⟨f20, ⟨m2_0, mf2_0, k20⟩, F20⟩
        | 1, e2, e3 => cases e3
        | 2, e2, e3 => cases e3
        | 3, e2, e3 => cases e3
        | 4, e2, e3 => cases e3
        | 5, e2, e3 => cases e3
        | 6, e2, e3 => cases e3
        | 7, e2, e3 => cases e3
        | 8, e2, e3 => cases e3
        | 9, e2, e3 => cases e3
        | 10, e2, e3 => cases e3
        | 11, e2, e3 => cases e3
        | 12, e2, e3 => cases e3
        | 13, e2, e3 => cases e3
        | m + 14, e2, e3 => cases e2
      | 3, e1 =>
        cases e1
        match m, e2, e3 with
        | 0, e2, e3 => cases e2; cases e3; exact ⟨f21, ⟨m3_0, mf3_0, k21⟩, F21⟩
        | 1, e2, e3 => cases e3
        | 2, e2, e3 => cases e3
        | 3, e2, e3 => cases e3
        | 4, e2, e3 => cases e3
        | 5, e2, e3 => cases e3
        | 6, e2, e3 => cases e3
        | 7, e2, e3 => cases e3
        | 8, e2, e3 => cases e3
        | 9, e2, e3 => cases e3
        | 10, e2, e3 => cases e3
        | 11, e2, e3 => cases e3
        | 12, e2, e3 => cases e3
        | 13, e2, e3 => cases e3
        | m + 14, e2, e3 => cases e2
      | 4, e1 =>
        cases e1
        match m, e2, e3 with
        | 0, e2, e3 => cases e2; cases e3; exact ⟨f23, ⟨m4_0, mf4_0, k23⟩, F23⟩
        | 1, e2, e3 => cases e3
        | 2, e2, e3 => cases e3
        | 3, e2, e3 => cases e3
        | 4, e2, e3 => cases e3
        | 5, e2, e3 => cases e3
        | 6, e2, e3 => cases e3
        | 7, e2, e3 => cases e3
        | 8, e2, e3 => cases e3
        | 9, e2, e3 => cases e3
        | 10, e2, e3 => cases e3
        | 11, e2, e3 => cases e3
        | 12, e2, e3 => cases e3
        | 13, e2, e3 => cases e3
        | m + 14, e2, e3 => cases e2
      | 5, e1 => cases e1
      | k + 6, e1 => cases e1
    case kin =>
      intro k C e
      match k, e with
      | 0, e => cases e; exact ⟨cl0, sp, tk, mo0⟩
      | 1, e => cases e; exact ⟨cl1, sp, tk, mo1⟩
      | 2, e => cases e; exact ⟨cl2, sp, tk, mo2⟩
      | 3, e => cases e; exact ⟨cl3, sp, tk, mo3⟩
      | 4, e => cases e; exact ⟨cl4, sp, tk, mo4⟩
      | 5, e => cases e
      | k + 6, e => cases e
    case kit =>
      intro d t a b e1 e2
      cases d with
      | non =>
        cases e1
        cases t with
        | int => cases e2; exact kit_ty (by rfl)
        | bool => cases e2; exact kit_ty (by rfl)
        | str => cases e2; exact kit_ty (by rfl)
        | list => cases e2; exact kit_ty (by rfl)
        | tuple => cases e2; exact kit_ty (by rfl)
        | cls j =>
          match j, e2 with
          | 0, e2 => cases e2; exact kj0_NoneType
          | 1, e2 => cases e2; exact kj1_NoneType
          | 2, e2 => cases e2; exact kj2_NoneType
          | 3, e2 => cases e2; exact kj3_NoneType
          | 4, e2 => cases e2; exact kj4_NoneType
          | 5, e2 => cases e2
          | j + 6, e2 => cases e2
      | bool =>
        cases e1
        cases t with
        | int => cases e2; exact kit_ty (by rfl)
        | bool => cases e2; exact kit_ty (by rfl)
        | str => cases e2; exact kit_ty (by rfl)
        | list => cases e2; exact kit_ty (by rfl)
        | tuple => cases e2; exact kit_ty (by rfl)
        | cls j =>
          match j, e2 with
          | 0, e2 => cases e2; exact kj0_bool
          | 1, e2 => cases e2; exact kj1_bool
          | 2, e2 => cases e2; exact kj2_bool
          | 3, e2 => cases e2; exact kj3_bool
          | 4, e2 => cases e2; exact kj4_bool
          | 5, e2 => cases e2
          | j + 6, e2 => cases e2
      | int =>
        cases e1
        cases t with
        | int => cases e2; exact kit_ty (by rfl)
        | bool => cases e2; exact kit_ty (by rfl)
        | str => cases e2; exact kit_ty (by rfl)
        | list => cases e2; exact kit_ty (by rfl)
        | tuple => cases e2; exact kit_ty (by rfl)
        | cls j =>
          match j, e2 with
          | 0, e2 => cases e2; exact kj0_int
          | 1, e2 => cases e2; exact kj1_int
          | 2, e2 => cases e2; exact kj2_int
          | 3, e2 => cases e2; exact kj3_int
          | 4, e2 => cases e2; exact kj4_int
          | 5, e2 => cases e2
          | j + 6, e2 => cases e2
      | str =>
        cases e1
        cases t with
        | int => cases e2; exact kit_ty (by rfl)
        | bool => cases e2; exact kit_ty (by rfl)
        | str => cases e2; exact kit_ty (by rfl)
        | list => cases e2; exact kit_ty (by rfl)
        | tuple => cases e2; exact kit_ty (by rfl)
        | cls j =>
          match j, e2 with
          | 0, e2 => cases e2; exact kj0_str
          | 1, e2 => cases e2; exact kj1_str
          | 2, e2 => cases e2; exact kj2_str
          | 3, e2 => cases e2; exact kj3_str
          | 4, e2 => cases e2; exact kj4_str
          | 5, e2 => cases e2
          | j + 6, e2 => cases e2
      | list =>
        cases e1
        cases t with
        | int => cases e2; exact kit_ty (by rfl)
        | bool => cases e2; exact kit_ty (by rfl)
        | str => cases e2; exact kit_ty (by rfl)
        | list => cases e2; exact kit_ty (by rfl)
        | tuple => cases e2; exact kit_ty (by rfl)
        | cls j =>
          match j, e2 with
          | 0, e2 => cases e2; exact kj0_list
          | 1, e2 => cases e2; exact kj1_list
          | 2, e2 => cases e2; exact kj2_list
          | 3, e2 => cases e2; exact kj3_list
          | 4, e2 => cases e2; exact kj4_list
          | 5, e2 => cases e2
          | j + 6, e2 => cases e2
      | tuple =>
        cases e1
        cases t with
        | int => cases e2; exact kit_ty (by rfl)
        | bool => cases e2; exact kit_ty (by rfl)
        | str => cases e2; exact kit_ty (by rfl)
        | list => cases e2; exact kit_ty (by rfl)
        | tuple => cases e2; exact kit_ty (by rfl)
        | cls j =>
          match j, e2 with
          | 0, e2 => cases e2; exact kj0_tuple
          | 1, e2 => cases e2; exact kj1_tuple
          | 2, e2 => cases e2; exact kj2_tuple
          | 3, e2 => cases e2; exact kj3_tuple
          | 4, e2 => cases e2; exact kj4_tuple
          | 5, e2 => cases e2
          | j + 6, e2 => cases e2
      | dict =>
        cases e1
        cases t with
        | int => cases e2; exact kit_ty (by rfl)
        | bool => cases e2; exact kit_ty (by rfl)
        | str => cases e2; exact kit_ty (by rfl)
        | list => cases e2; exact kit_ty (by rfl)
        | tuple => cases e2; exact kit_ty (by rfl)
        | cls j =>
          match j, e2 with
          | 0, e2 => cases e2; exact kj0_dict
          | 1, e2 => cases e2; exact kj1_dict
          | 2, e2 => cases e2; exact kj2_dict
          | 3, e2 => cases e2; exact kj3_dict
          | 4, e2 => cases e2; exact kj4_dict
          | 5, e2 => cases e2
          | j + 6, e2 => cases e2
      | ins k =>
        match k, e1 with
        | 0, e1 =>
          cases e1
          cases t with
          | int => cases e2; exact ki0_int
          | bool => cases e2; exact ki0_bool
          | str => cases e2; exact ki0_str
          | list => cases e2; exact ki0_list
          | tuple => cases e2; exact ki0_tuple
          | cls j =>
            match j, e2 with
            | 0, e2 => cases e2; exact kk0_0
            | 1, e2 => cases e2; exact kk0_1
            | 2, e2 => cases e2; exact kk0_2
            | 3, e2 => cases e2; exact kk0_3
            | 4, e2 => cases e2; exact kk0_4
            | 5, e2 => cases e2
            | j + 6, e2 => cases e2
        | 1, e1 =>
          cases e1
          cases t with
          | int => cases e2; exact ki1_int
          | bool => cases e2; exact ki1_bool
          | str => cases e2; exact ki1_str
          | list => cases e2; exact ki1_list
          | tuple => cases e2; exact ki1_tuple
          | cls j =>
            match j, e2 with
            | 0, e2 => cases e2; exact kk1_0
            | 1, e2 => cases e2; exact kk1_1
            | 2, e2 => cases e2; exact kk1_2
            | 3, e2 => cases e2; exact kk1_3
            | 4, e2 => cases e2; exact kk1_4
            | 5, e2 => cases e2
            | j + 6, e2 => cases e2
        | 2, e1 =>
          cases e1
          cases t with
          | int => cases e2; exact ki2_int
          | bool => cases e2; exact ki2_bool
          | str => cases e2; exact ki2_str
          | list => cases e2; exact ki2_list
          | tuple => cases e2; exact ki2_tuple
          | cls j =>
            match j, e2 with
            | 0, e2 => cases e2; exact kk2_0
            | 1, e2 => cases e2; exact kk2_1
            | 2, e2 => cases e2; exact kk2_2
            | 3, e2 => cases e2; exact kk2_3
            | 4, e2 => cases e2; exact kk2_4
            | 5, e2 => cases e2
            | j + 6, e2 => cases e2
        | 3, e1 =>
          cases e1
          cases t with
          | int => cases e2; exact ki3_int
          | bool => cases e2; exact ki3_bool
          | str => cases e2; exact ki3_str
          | list => cases e2; exact ki3_list
          | tuple => cases e2; exact ki3_tuple
          | cls j =>
            match j, e2 with
            | 0, e2 => cases e2; exact kk3_0
            | 1, e2 => cases e2; exact kk3_1
            | 2, e2 => cases e2; exact kk3_2
            | 3, e2 => cases e2; exact kk3_3
            | 4, e2 => cases e2; exact kk3_4
            | 5, e2 => cases e2
            | j + 6, e2 => cases e2
        | 4, e1 =>
          cases e1
          cases t with
          | int => cases e2; exact ki4_int
          | bool => cases e2; exact ki4_bool
          | str => cases e2; exact ki4_str
          | list => cases e2; exact ki4_list
          | tuple => cases e2; exact ki4_tuple
          | cls j =>
            match j, e2 with
            | 0, e2 => cases e2; exact kk4_0
            | 1, e2 => cases e2; exact kk4_1
            | 2, e2 => cases e2; exact kk4_2
            | 3, e2 => cases e2; exact kk4_3
            | 4, e2 => cases e2; exact kk4_4
            | 5, e2 => cases e2
            | j + 6, e2 => cases e2
        | 5, e1 => cases e1
        | k + 6, e1 => cases e1
    case exc =>
      intro k C e
      match k, e with
      | 0, e => cases e; exact ⟨_, _, _, _, PySem.F.excBase_ValueError, xe0, ke0, be0, te0⟩
      | 1, e => cases e; exact ⟨_, _, _, _, PySem.F.excBase_ValueError, xe1, ke1, be1, te1⟩
      | 2, e => cases e; exact ⟨_, _, _, _, PySem.F.excBase_ValueError, xe2, ke2, be2, te2⟩
      | 3, e => cases e; exact ⟨_, _, _, _, PySem.F.excBase_ValueError, xe3, ke3, be3, te3⟩
      | 4, e => cases e; exact ⟨_, _, _, _, PySem.F.excBase_ValueError, xe4, ke4, be4, te4⟩
      | 5, e => cases e; exact ⟨_, _, _, _, PySem.F.excBase_ValueError, xe5, ke5, be5, te5⟩
      | 6, e => cases e
      | 7, e => cases e
      | 8, e => cases e
      | 9, e => cases e
      | 10, e => cases e; exact ⟨_, _, _, _, PySem.F.excBase_ValueError, xe10, ke10, be10, te10⟩
      | 11, e => cases e
      | 12, e => cases e
      | k + 13, e => cases e
  exact ⟨"_law_script", _, rfl, fun s v => .of_eq rfl, fun base _ _ => law_fn b ok_all (d := d102) rfl (fun_mk (st := d102.st) l102 c102 k102) rfl sy⟩
end MP.K10
set_option Elab.async false
set_option linter.all false
set_option maxRecDepth 100000
set_option autoImplicit false
namespace MP.K10
open PySem L2
structure Fs (T : Tab) (F : Nat → Option Fn) : Prop where
  p : FSur T F
  y : FWhy T F
  e2 : F 2 = some c_is_whole
  e3 : F 3 = some c_is_between
  e4 : F 4 = some c_are_heirs
  e5 : F 5 = some c_is_term
  e6 : F 6 = some c_is_letter
  e7 : F 7 = some c_check_letters
  e8 : F 8 = some c_are_days
  e9 : F 9 = some c_check_days
  e10 : F 10 = some c_due_days
  e24 : F 24 = some c_heir_of
  e25 : F 25 = some c_check_gone
  e26 : F 26 = some c_handed_out
  e27 : F 27 = some c_is_span
  e28 : F 28 = some c_check_spans
  e29 : F 29 = some c_between
  e30 : F 30 = some c_surely
  e46 : F 46 = some cl46
  e48 : F 48 = some cl48
  e49 : F 49 = some cl49
  e50 : F 50 = some cl50
  e51 : F 51 = some cl51
  e67 : F 67 = some cl67
  e101 : F 101 = some cl101
  e102 : F 102 = some cl102
  s3 : (T.sup 3).contains 3 = true
  s4 : (T.sup 4).contains 3 = false
def turnL (l : Letter) : Letter := ⟨l.heirs.reverse, l.terms.reverse⟩
def moreL (z : Int) (l : Letter) : Letter := ⟨l.heirs, (l.terms ++ [Term.day z]).take 4⟩
def isDay : Term → Bool
  | .day _ => true
  | _ => false
def plainL (l : Letter) : Letter := ⟨l.heirs, if l.terms.filter (fun t => !isDay t) = [] then [.when 0 0] else l.terms.filter fun t => !isDay t⟩
theorem VL.map {ls : List Letter} {f : Letter → Letter} (v : VL ls) (k : ∀ (n : Nat) l, VLet n l → VLet n (f l)) : VL (ls.map f) := by
  refine ⟨by rw [List.length_map]; exact v.l1, by rw [List.length_map]; exact v.l40, fun n l e => ?_⟩
  rw [List.getElem?_map] at e
  cases q : ls[n]? with
  | none => rw [q] at e; cases e
  | some m =>
    rw [q] at e
    cases e
    exact k n m (v.ok n m q)
theorem vl_turn {ls : List Letter} (v : VL ls) : VL (ls.map turnL) := VL.map v fun n l q =>
  ⟨by simp [turnL]; exact q.h1, by simp [turnL]; exact q.h3, fun x m => q.hb x (List.mem_reverse.mp m), by simp only [turnL]; unfold List.Nodup; rw [List.pairwise_reverse]; exact q.hn.imp Ne.symm, by simp [turnL]; exact q.t1, by simp [turnL]; exact q.t4, fun t m => q.tt t (List.mem_reverse.mp m)⟩
theorem vl_more {ls : List Letter} {z : Int} (v : VL ls) (z0 : 0 ≤ z) (z1 : z ≤ 60) : VL (ls.map (moreL z)) := VL.map v fun n l q => by
  have t1 := q.t1
  refine ⟨q.h1, q.h3, q.hb, q.hn, by simp [moreL]; omega, by simp [moreL]; omega, fun t m => ?_⟩
  have m := List.mem_of_mem_take m
  rw [List.mem_append] at m
  rcases m with m | m
  · exact q.tt t m
  · simp at m; subst m; exact ⟨z0, z1⟩
theorem vl_plain {ls : List Letter} (v : VL ls) : VL (ls.map plainL) := VL.map v fun n l q => by
  unfold plainL
  split
  · exact ⟨q.h1, q.h3, q.hb, q.hn, by simp, by simp, fun t m => by simp at m; subst m; exact ⟨⟨by omega, by omega⟩, by omega, by omega⟩⟩
  · rename_i ne
    refine ⟨q.h1, q.h3, q.hb, q.hn, ?_, ?_, fun t m => q.tt t (List.mem_filter.mp m).1⟩
    · exact List.length_pos_iff.mpr ne
    · exact Nat.le_trans (List.length_filter_le _ _) q.t4
theorem dues_turn (days : List (Option Int)) (ls : List Letter) : dues days (ls.map turnL) = dues days ls :=
  (dues_turned (all2_self fun l _ t => by simp [turnL])).symm
theorem dues_more (days : List (Option Int)) {ls : List Letter} (z : Int) (v : VL ls) : All2 LeO (dues days ls) (dues days (ls.map (moreL z))) := by
  have h : All2 (fun l m : Letter => l.terms ≠ [] ∧ l.terms.length ≤ 4 ∧ m = moreL z l) ls (ls.map (moreL z)) := all2_self fun l m => by
    obtain ⟨i, hi, e⟩ := List.mem_iff_getElem.mp m
    have q := v.ok i l (by rw [List.getElem?_eq_getElem hi, e])
    refine ⟨fun z => ?_, q.t4, rfl⟩
    have := q.t1
    rw [z] at this
    simp at this
  refine dues_rel2 (R := fun l m : Letter => l.terms ≠ [] ∧ l.terms.length ≤ 4 ∧ m = moreL z l) ?_ h
  rintro l m a b ⟨ne, l4, rfl⟩ q
  have base : OR (fun a b => a ≤ b) (latest (l.terms.map (dayOf days a))) (latest (l.terms.map (dayOf days b))) := latest_rel goes_le (All2.map2 fun t _ => dayOf_rel goes_le (All2.refl' le_refl' _) q fun x _ => Int.le_refl x)
  by_cases c : l.terms.length = 4
  · have : (moreL z l).terms = l.terms := by
      simp only [moreL]
      rw [List.take_append_of_le_length (by omega), List.take_of_length_le (by omega)]
    rw [this]
    exact base
  · have e : (moreL z l).terms = l.terms ++ [Term.day z] := by
      simp only [moreL]
      rw [List.take_of_length_le (by simp; omega)]
    rw [e, List.map_append]
    have up := latest_more (row := l.terms.map (dayOf days b)) (x := z) (by simpa using ne)
    revert base up
    show OR _ (latest _) (latest _) → OR _ (latest _) (latest (_ ++ [some z])) → OR _ (latest _) (latest (_ ++ [some z]))
    generalize latest (l.terms.map (dayOf days a)) = u
    generalize latest (l.terms.map (dayOf days b)) = v
    generalize latest (l.terms.map (dayOf days b) ++ [some z]) = w
    intro h1 h2
    cases u <;> cases v <;> cases w <;> simp only [OR] at h1 h2 ⊢
    omega
theorem all2_zip' {α β : Type} {P : α → β → Prop} {as : List α} {bs : List β} (q : All2 P as bs) : ∀ p ∈ as.zip bs, P p.1 p.2 := by
  induction q with
  | nil => intro p m; simp at m
  | cons x t ih =>
    intro p m
    rw [List.zip_cons_cons, List.mem_cons] at m
    rcases m with rfl | m
    · exact x
    · exact ih p m
theorem plain_noday {l : Letter} {x : Int} (m : Term.day x ∈ (plainL l).terms) : False := by
  unfold plainL at m
  simp only at m
  split at m
  · simp at m
  · have := (List.mem_filter.mp m).2
    simp [isDay] at this
section
variable {T : Tab} {F : Nat → Option Fn} {n : Nat} {h : Hm}
theorem ne_nilF {c : Fz} {vs : List Val} (d : isData 30 (.lst c vs) = true) : cmpM .ne h (.lst c vs) (.lst .own []) = some (!decide (vs = [])) := by
  have cl := closed_data _ 30 d
  have s1 : snap h (.lst c vs) = some (.lst c vs) := snap_closed cl
  have s2 : snap h (.lst .own []) = some (.lst .own []) := snap_closed rfl
  have d2 : isData 30 (.lst .own []) = true := rfl
  simp only [cmpM, eqM, s1, s2, d, d2, Bool.and_self, if_true, Option.map_some]
  cases vs <;> rfl
theorem pairs_fin {α : Type} {D D2 : List (Option Int)} : True := trivial
theorem b_repO' {o : Option Int} {v : Val} {k : Int} {Q : Val → Hm → Prop} {X : Nat → Hm → Prop} (e : v = encO o) (h0 : 0 ≤ k) (h1 : k ≤ 1000) (q : Q (encR (List.replicate k.toNat o)) h) : E (binM true .mul (.lst .own [v]) (.int k) h) Q X := by
  rw [b_repO e h0 h1]; exact q
theorem s_tup2 {a b c : Val} {Q : Val → Hm → Prop} {X : Nat → Hm → Prop} : E (slcM true (.tup [a, b, c]) none (some 2) h) Q X = Q (.tup [a, b]) h := rfl
theorem pf_days_right (f : Fs T F) {ls : List Letter} {days : List (Option Int)} {q : Int} (vd : VD 6 days) (vl : VL ls) : Pf (run T F (n + 12)) 101 [encLs ls, encR days, .int q] (.bl true) := by
  have hb2 : (2 : Nat) ≤ big := by decide
  have hb1 : (1 : Nat) ≤ big := by decide
  have hb3 : (3 : Nat) ≤ big := by decide
  have l40 := vl.l40
  have due : ∀ {d v : Val} {days : List (Option Int)} {ls : List Letter}, er v = encLs ls → er d = encR days → VD 6 days → VL ls → Pf (run T F (n + 11)) 10 [v, d] (encR (dues days ls)) := fun hv hd vd vl => pf_due_days (n := n + 4) f.p.e0 f.p.e1 (fun s sd => ga_check_days f.e2 f.e3 f.e4 f.e5 f.e6 f.e7 f.e8 f.e9 s sd) f.e10 hv hd vd vl
  refine .of_v rfl (e_run f.e101 rfl (by decide) ?_)
  have z0 : 0 ≤ q % 61 := Int.emod_nonneg _ (by decide)
  have z1 : q % 61 < 61 := Int.emod_lt_of_pos _ (by decide)
  have s0 : 0 ≤ q % 6 := Int.emod_nonneg _ (by decide)
  have s1 : q % 6 < 6 := Int.emod_lt_of_pos _ (by decide)
  have dR : ∀ r : List (Option Int), isData 30 (encR r) = true := fun r => data_of (er_encR' (c := .own)) (data_encR _) (by omega)
  -- first part
  refine w_cut 5 (fun e h => ∃ x6 x7 x9 x10 x11 x12 x13 x14 x15 x16 x17 x18 x19, e = [some (encLs ls), some (encR days), some (.int q), some (encR (dues days ls)), some (.int (q % 6)), some (encLs (ls.map turnL)), x6, x7, some (encLs (ls.map (moreL (q % 61)))), x9, x10, x11, x12, x13, x14, x15, x16, x17, x18, x19]) ?_ ?_
  · simp only [cl101, stake, ↓ws, wo, wl, List.replicate]
    refine e_pc (due er_encLs' er_encR' vd vl) (by simp only [wc, wd]) ?_
    simp only [b_modL (j := 6) (by decide), wo, wl, Nat.zero_add, Nat.reduceAdd, Nat.reduceLT, true_and]
    refine e_compM (xs := ls) (g := encL) (h1 := []) (fun l => encL (turnL l)) (by simp only [↓ws, wo, wl, wd]; exact ⟨stAt_stat _ _, trivial⟩) (fun l _ => ?_) ?_
    · simp only [encL, turnL, ↓ws, wo, wl, Nat.zero_add, Nat.reduceAdd, Nat.reduceLT, true_and, hb2, List.map_reverse]
    simp only [wo]
    rw [show ls.map (fun l => encL (turnL l)) = (ls.map turnL).map encL by rw [List.map_map]; rfl]
    refine e_pc (due (er_encLs' (c := .own)) er_encR' vd (vl_turn vl)) (by simp only [wc, wd, closed_map closed_encL]) ?_
    rw [dues_turn, c_ne_same (snap_closed (closed_encR _)) (snap_closed (closed_encR _)) rfl (dR _)]
    refine e_compM (xs := ls) (g := encL) (h1 := []) (fun l => encL (moreL (q % 61) l)) (by simp only [↓ws, wo, wl, wd]; exact ⟨stAt_stat _ _, trivial⟩) (fun l ml => ?_) ?_
    · have l4 : l.terms.length ≤ 4 := by
        obtain ⟨i, hi, e⟩ := List.mem_iff_getElem.mp ml
        exact (vl.ok i l (by rw [List.getElem?_eq_getElem hi, e])).t4
      simp only [encL, moreL, ↓ws, wo, wl, Nat.zero_add, Nat.reduceAdd, Nat.reduceLT, true_and, hb1, hb2, b_modL (j := 61) (by decide)]
      rw [b_cat (by rw [List.length_map]; simp; unfold big; omega), s_take (by decide)]
      refine ⟨?_, by trivial⟩
      rw [show l.terms.map encT ++ [.tup [.str 0, .int (q % 61)]] = (l.terms ++ [Term.day (q % 61)]).map encT by simp [encT], ← List.map_take]
      rfl
    simp only [wo, wl, Nat.zero_add, Nat.reduceAdd, Nat.reduceLT, true_and]
    rw [show ls.map (fun l => encL (moreL (q % 61) l)) = (ls.map (moreL (q % 61))).map encL by rw [List.map_map]; rfl]
    have rm := dues_more days (q % 61) vl
    have rz := all2_zip' rm
    refine w_for (xs := (dues days ls).zip (dues days (ls.map (moreL (q % 61))))) (g := fun p => .tup [encO p.1, encO p.2]) (fun pre e h => ∃ x6 x7 x9 x10 x11 x12 x13 x14 x15 x16 x17 x18 x19, e = [some (encLs ls), some (encR days), some (.int q), some (encR (dues days ls)), some (.int (q % 6)), some (encLs (ls.map turnL)), x6, x7, some (encLs (ls.map (moreL (q % 61)))), x9, x10, x11, x12, x13, x14, x15, x16, x17, x18, x19]) ?_ ?_ (fun e h q => q)
    · simp only [↓ws, wo, wl]
      refine e_pc (due (er_encLs' (c := .own)) er_encR' vd (vl_more vl z0 (by omega))) (by simp only [wc, wd, closed_map closed_encL]) ?_
      simp only [wo, zipM, isTup, if_true, srcOf, encR]
      exact ⟨fun h => stAt_zip (stAt_stat _ h) (stAt_stat _ h), _, _, _, _, _, _, _, _, _, _, _, _, _, rfl⟩
    · rintro pre ⟨o, u⟩ post ex e h ⟨x6, x7, x9, x10, x11, x12, x13, x14, x15, x16, x17, x18, x19, rfl⟩
      have rp := rz (o, u) (by rw [ex]; simp)
      simp only [↓ws, wo, wl, Nat.zero_add, Nat.reduceAdd, Nat.reduceLT, true_and, encO_non, c_neb]
      rcases o with _ | x <;> rcases u with _ | y <;> simp only [OR] at rp
      · simp only [Option.isNone, ↓ws, wo, wl, beq_self_eq_true, Bool.not_true]
        exact ⟨_, _, _, _, _, _, _, _, _, _, _, _, _, rfl⟩
      · simp only [Option.isNone, ↓ws, wo, wl, encO, beq_self_eq_true, Bool.not_true, Bool.not_false]
        rw [brV_f (by simpa using rp)]
        exact ⟨_, _, _, _, _, _, _, _, _, _, _, _, _, rfl⟩
  -- one happening later
  rintro e h ⟨x6, x7, x9, x10, x11, x12, x13, x14, x15, x16, x17, x18, x19, rfl⟩
  refine w_cut 1 (fun e h => ∃ x6 x7 x9 x10 x11 x12 x13 x14 x15 x16 x17 x18 x19, e = [some (encLs ls), some (encR days), some (.int q), some (encR (dues days ls)), some (.int (q % 6)), some (encLs (ls.map turnL)), x6, x7, some (encLs (ls.map (moreL (q % 61)))), x9, x10, x11, x12, x13, x14, x15, x16, x17, x18, x19]) ?_ ?_
  · simp only [cl101, sdrop, stake, ↓ws, wo, wl, wd, encO_at (row := days) s0 (by rw [vd.len]; omega), encO_non]
    cases ro : rowAt days (q % 6) with
    | none =>
      simp only [Option.isNone, Bool.not_true, ↓ws, wo, wl]
      exact ⟨_, _, _, _, _, _, _, _, _, _, _, _, _, rfl⟩
    | some x =>
      simp only [Option.isNone, Bool.not_false, ↓ws, wo, wl, encO, wd, encO_at (row := days) s0 (by rw [vd.len]; omega), ro]
      refine brV_if (fun t => ?_) fun t => ⟨_, _, _, _, _, _, _, _, _, _, _, _, _, rfl⟩
      have hx : x < 60 := by simpa using t
      have gx := rowAt_some ro
      have vx := vd.ok _ (List.mem_of_getElem? gx) x rfl
      simp only [Nat.zero_add, Nat.reduceAdd, Nat.reduceLT, true_and, wd, encO_at (row := days) s0 (by rw [vd.len]; omega), ro, encO, wo]
      have hg : (h ++ [Ob.lst (days.map encO)])[h.length]? = some (.lst (days.map encO)) := get_last
      rw [set_lst hg s0 (by rw [List.length_map, vd.len]; omega), show Val.int (x + 1) = encO (some (x + 1)) from rfl, ← List.map_set]
      have vd2 : VD 6 (days.set (q % 6).toNat (some (x + 1))) := ⟨by rw [List.length_set, vd.len], fun o' m => by
        rcases List.mem_or_eq_of_mem_set m with m | m
        · exact vd.ok o' m
        · rw [m]; intro d e; cases e; omega⟩
      have r1 : All2 (OR fun a b => a ≤ b ∧ b ≤ a + 1) days (days.set (q % 6).toNat (some (x + 1))) := (All2.refl' (fun o => by
        cases o with
        | none => trivial
        | some u => show u ≤ u ∧ u ≤ u + 1; omega) _).set_r gx (by show x ≤ x + 1 ∧ x + 1 ≤ x + 1; omega)
      have rD := dues_rel (goes_by (k := 1) (by omega)) r1 (ls := ls) fun _ _ u _ => by show u ≤ u ∧ u ≤ u + 1; omega
      have rz := all2_zip' rD
      have hg2 := get_set_self (p := .lst ((days.set (q % 6).toNat (some (x + 1))).map encO)) hg
      revert hg2
      generalize (h ++ [Ob.lst (days.map encO)]).set h.length (.lst ((days.set (q % 6).toNat (some (x + 1))).map encO)) = h2
      generalize h.length = fr
      generalize days.set (q % 6).toNat (some (x + 1)) = days2 at vd2 rD rz
      intro hg2
      refine w_for (xs := (dues days ls).zip (dues days2 ls)) (g := fun p => .tup [encO p.1, encO p.2]) (fun pre e h => ∃ x6 x7 x9 x10 x11 x12 x13 x14 x15 x16 x17 x18 x19, e = [some (encLs ls), some (encR days), some (.int q), some (encR (dues days ls)), some (.int (q % 6)), some (encLs (ls.map turnL)), x6, x7, some (encLs (ls.map (moreL (q % 61)))), x9, x10, x11, x12, x13, x14, x15, x16, x17, x18, x19]) ?_ ?_ (fun e h q => q)
      · simp only [↓ws, wo, wl]
        refine e_pur (snapL_cons (snap_closed (closed_encLs ls)) (snapL_cons (snap_flat hg2 closedL_row) snapL_nil)) (due er_encLs' er_encR' vd2 vl) ?_
        simp only [wo, zipM, isTup, if_true, srcOf, encR]
        exact ⟨fun h => stAt_zip (stAt_stat _ h) (stAt_stat _ h), _, _, _, _, _, _, _, _, _, _, _, _, _, rfl⟩
      · rintro pre ⟨o, u⟩ post ex e h ⟨x6, x7, x9, x10, x11, x12, x13, x14, x15, x16, x17, x18, x19, rfl⟩
        have rp := rz (o, u) (by rw [ex]; simp)
        simp only [↓ws, wo, wl, Nat.zero_add, Nat.reduceAdd, Nat.reduceLT, true_and, encO_non, c_neb]
        rcases o with _ | x <;> rcases u with _ | y <;> simp only [OR] at rp
        · simp only [Option.isNone, ↓ws, wo, wl, beq_self_eq_true, Bool.not_true]
          exact ⟨_, _, _, _, _, _, _, _, _, _, _, _, _, rfl⟩
        · simp only [Option.isNone, ↓ws, wo, wl, encO, beq_self_eq_true, Bool.not_true, Bool.not_false]
          simp only [rp.1, rp.2, decide_true, ↓ws, wo, wl, Bool.not_true]
          exact ⟨_, _, _, _, _, _, _, _, _, _, _, _, _, rfl⟩
  rintro e h ⟨x6, x7, x9, x10, x11, x12, x13, x14, x15, x16, x17, x18, x19, rfl⟩
  -- without days
  refine w_cut 2 (fun e h => ∃ x6 x7 x9 x10 x11 x13 x14 x15 x16 x17 x18 x19 fr, e = [some (encLs ls), some (encR days), some (.int q), some (encR (dues days ls)), some (.int (q % 6)), some (encLs (ls.map turnL)), x6, x7, some (encLs (ls.map (moreL (q % 61)))), x9, x10, x11, some (.ref fr), x13, x14, x15, x16, x17, x18, x19] ∧ h[fr]? = some (.lst ((ls.map plainL).map encL))) ?_ ?_
  · simp only [cl101, sdrop, stake, ↓ws, wo, wl, Nat.zero_add, Nat.reduceAdd, Nat.reduceLT, true_and, Nat.zero_le]
    have hg0 : (h ++ [Ob.lst []])[h.length]? = some (.lst []) := get_last
    revert hg0
    generalize h ++ [Ob.lst []] = h1
    generalize h.length = fr
    intro hg0
    refine w_for (xs := ls) (g := encL) (fun pre e h => ∃ x6 x7 x9 x10 x11 x13 x14 x15 x16 x17 x18 x19, e = [some (encLs ls), some (encR days), some (.int q), some (encR (dues days ls)), some (.int (q % 6)), some (encLs (ls.map turnL)), x6, x7, some (encLs (ls.map (moreL (q % 61)))), x9, x10, x11, some (.ref fr), x13, x14, x15, x16, x17, x18, x19] ∧ h[fr]? = some (.lst ((pre.map plainL).map encL))) ?_ ?_ ?_
    · simp only [↓ws, wo, wl, wd]
      exact ⟨fun h => stAt_stat _ h, _, _, _, _, _, _, _, _, _, _, _, _, rfl, hg0⟩
    · rintro pre l post ex e h2 ⟨x6, x7, x9, x10, x11, x13, x14, x15, x16, x17, x18, x19, rfl, hg⟩
      have lp : pre.length < 40 := by
        have := congrArg List.length ex
        simp at this
        omega
      simp only [encL, ↓ws, wo, wl, Nat.zero_add, Nat.reduceAdd, Nat.reduceLT, true_and]
      refine e_compF (xs := l.terms) (g := encT) (h1 := h2) (fun t => !isDay t) encT (by simp only [↓ws, wo, wl]; exact ⟨stAt_stat _ _, trivial⟩) (fun t mt => ?_) ?_
      · cases t <;> simp only [encT, isDay, ↓ws, wo, wl, Nat.zero_add, Nat.reduceAdd, Nat.reduceLT, true_and, Bool.not_true, Bool.not_false, decide_true, decide_false, Nat.reduceEqDiff] <;> simp
      · have dT : isData 30 (.lst .own ((l.terms.filter fun t => !isDay t).map encT)) = true := isData_le (n := 2) (by omega) (data_map data_encT)
        simp only [wo, wl, Nat.zero_add, Nat.reduceAdd, Nat.reduceLT, true_and]
        refine ⟨k_lst hg (by decide), ?_⟩
        simp only [ne_nilF dT, wo, Nat.zero_le, true_and]
        refine E_pick (fun v h' => v = .lst .own ((plainL l).terms.map encT) ∧ h' = h2) (fun t => ?_) (fun t => ?_) ?_
        · simp only [↓ws, wo, wl]
          have : l.terms.filter (fun t => !isDay t) ≠ [] := by simpa using t
          refine ⟨?_, by trivial⟩
          simp only [plainL, if_neg this]
        · simp only [↓ws, wo, wl, hb1, hb3, Nat.zero_add, Nat.reduceAdd, true_and]
          have : l.terms.filter (fun t => !isDay t) = [] := by simpa using t
          refine ⟨?_, by trivial⟩
          simp only [plainL, if_pos this]
          rfl
        · rintro _ _ ⟨rfl, rfl⟩
          simp only [hb2, true_and]
          rw [m_append hg (by simp; unfold big; omega)]
          refine ⟨_, _, _, _, _, _, _, _, _, _, _, _, rfl, ?_⟩
          rw [get_set_self hg]
          simp [encL, plainL]
    · rintro e h2 ⟨x6, x7, x9, x10, x11, x13, x14, x15, x16, x17, x18, x19, rfl, hg⟩
      exact ⟨_, _, _, _, _, _, _, _, _, _, _, _, _, rfl, hg⟩
  rintro e h ⟨x6, x7, x9, x10, x11, x13, x14, x15, x16, x17, x18, x19, fr, rfl, hg⟩
  -- all days later
  refine w_cut 1 (fun e h => ∃ x6 x7 x9 x10 x11 x12 x13 x14 x15 x16 x17 x18 x19, e = [some (encLs ls), some (encR days), some (.int q), some (encR (dues days ls)), some (.int (q % 6)), some (encLs (ls.map turnL)), x6, x7, some (encLs (ls.map (moreL (q % 61)))), x9, x10, x11, x12, x13, x14, x15, x16, x17, x18, x19]) ?_ ?_
  · simp only [cl101, sdrop, stake, ↓ws, wo, wl, Nat.zero_add, Nat.reduceAdd, Nat.reduceLT, true_and, hb1]
    refine e_compF (xs := days) (g := encO) (h1 := h) (fun o => o.isSome) encO (by simp only [↓ws, wo, wl, encR]; exact ⟨stAt_stat _ _, trivial⟩) (fun o mo => ?_) ?_
    · simp only [↓ws, wo, wl, Nat.zero_add, Nat.reduceAdd, Nat.reduceLT, true_and, encO_non]
      cases o <;> simp
    simp only [wo]
    rw [b_cat (by simp; have := List.length_filter_le (fun o : Option Int => o.isSome) days; rw [vd.len] at this; unfold big; omega)]
    have ei : intsOf ([.int 0] ++ (days.filter fun o => o.isSome).map encO) = some (0 :: days.filterMap id) := by
      have h1 : ∀ l : List (Option Int), intsOf ((l.filter fun o => o.isSome).map encO) = some (l.filterMap id) := by
        intro l
        induction l with
        | nil => rfl
        | cons a l ih => cases a <;> simp [encO, intsOf, ih]
      simp only [List.cons_append, List.nil_append, intsOf, h1]
    obtain ⟨m, em⟩ := maxI_some (l := 0 :: days.filterMap id) (by simp)
    have um := (maxI_spec em).2
    simp only [wo, ei, em]
    refine brV_if (fun t => ?_) fun t => ⟨_, _, _, _, _, _, _, _, _, _, _, _, _, rfl⟩
    have hm : m < 51 := by simpa using t
    have r1 : All2 (OR fun a b => b = a + 10) days (days.map fun o => o.map (· + 10)) := all2_self fun o _ => by cases o <;> simp [OR]
    have vd2 : VD 6 (days.map fun o => o.map (· + 10)) := ⟨by rw [List.length_map, vd.len], fun o mo => by
      obtain ⟨o', mo', rfl⟩ := List.mem_map.mp mo
      intro d ed
      cases o' with
      | none => cases ed
      | some x =>
        have ed : x + 10 = d := by simpa using ed
        have := vd.ok _ mo' x rfl
        have := um x (List.mem_cons_of_mem _ (List.mem_filterMap.mpr ⟨some x, mo', rfl⟩))
        omega⟩
    have rD := dues_rel (goes_sh (k := 10)) r1 (ls := ls.map plainL) fun l ml x mx => by
      obtain ⟨l', _, rfl⟩ := List.mem_map.mp ml
      exact (plain_noday mx).elim
    have eD : dues (days.map fun o => o.map (· + 10)) (ls.map plainL) = (dues days (ls.map plainL)).map fun o => o.map (· + 10) := by
      revert rD
      generalize dues days (ls.map plainL) = A
      generalize dues (days.map fun o => o.map (· + 10)) (ls.map plainL) = B
      intro rD
      induction rD with
      | nil => rfl
      | cons p t ih =>
        rename_i a b as bs
        rw [List.map_cons, ← ih]
        cases a <;> cases b <;> simp only [OR] at p
        · rfl
        · rw [p]; rfl
    have snp : snap h (.ref fr) = some (.lst .bor ((ls.map plainL).map encL)) := snap_flat hg (closedL_map closed_encL _)
    have addT : ∀ (rows : List (Option Int)) (e : En) (Q : Val → Hm → Prop) (cdl : List (Option Int)), True := fun _ _ _ _ => trivial
    refine e_compM (xs := days) (g := encO) (h1 := h) (fun o => encO (o.map (· + 10))) (by simp only [↓ws, wo, wl, encR]; exact ⟨stAt_stat _ _, trivial⟩) (fun o mo => ?_) ?_
    · simp only [↓ws, wo, wl, Nat.zero_add, Nat.reduceAdd, Nat.reduceLT, true_and, encO_non]
      cases o <;> simp [Option.isNone, ↓ws, wo, wl, encO, Option.map]
    simp only [wo]
    rw [show days.map (fun o => encO (o.map (· + 10))) = (days.map fun o => o.map (· + 10)).map encO by rw [List.map_map]; rfl]
    refine e_pur (snapL_cons snp (snapL_cons (snap_closed closed_row) snapL_nil)) (due er_encLs' er_encR' vd2 (vl_plain vl)) ?_
    refine e_compM (xs := dues days (ls.map plainL)) (g := encO) (h1 := h) (fun o => encO (o.map (· + 10))) ?_ (fun o mo => ?_) ?_
    · simp only [↓ws, wo, wl]
      refine e_pur (snapL_cons snp (snapL_cons (snap_closed (closed_encR _)) snapL_nil)) (due er_encLs' er_encR' vd (vl_plain vl)) ?_
      simp only [wo, encR]
      exact ⟨stAt_stat _ _, by trivial⟩
    · simp only [↓ws, wo, wl, Nat.zero_add, Nat.reduceAdd, Nat.reduceLT, true_and, encO_non]
      cases o <;> simp [Option.isNone, ↓ws, wo, wl, encO, Option.map]
    · simp only [wo]
      rw [show (dues days (ls.map plainL)).map (fun o => encO (o.map (· + 10))) = ((dues days (ls.map plainL)).map fun o => o.map (· + 10)).map encO by rw [List.map_map]; rfl, ← eD]
      have cn : ∀ Z : List (Option Int), cmpM .ne h (encR Z) (.lst .own (Z.map encO)) = some false := fun Z => c_ne_same (a := encR Z) (b := encR Z) (snap_closed (closed_encR _)) (snap_closed (closed_encR _)) rfl (dR _)
      rw [cn]
      simp only [wo]
      exact ⟨_, _, _, _, _, _, _, _, _, _, _, _, _, rfl⟩
  rintro e h ⟨x6, x7, x9, x10, x11, x12, x13, x14, x15, x16, x17, x18, x19, rfl⟩
  -- in order
  simp only [cl101, sdrop, ↓ws, wo, wl, Nat.zero_add, Nat.reduceAdd, Nat.reduceLT, true_and]
  have lD : (dues days ls).length = ls.length := dues_len _ _
  refine e_compF (xs := (dues days ls).zipIdx) (g := fun p => .tup [.int (p.2 : Nat), encO p.1]) (h1 := h) (fun p => p.1.isSome) (fun p => encP (p.1.getD 0, ((p.2 : Nat) : Int))) (by simp only [↓ws, wo, wl, wd, encR, isTup, true_and]; exact ⟨stAt_enum (stAt_stat _ _), trivial⟩) (fun p mp => ?_) ?_
  · simp only [↓ws, wo, wl, Nat.zero_add, Nat.reduceAdd, Nat.reduceLT, true_and, encO_non, hb2]
    refine ⟨⟨?_, by trivial⟩, fun t => ⟨?_, by trivial⟩⟩
    · cases p.1 <;> rfl
    · cases q : p.1 with
      | none => rw [q] at t; cases t
      | some x => rfl
  have ei : ((dues days ls).zipIdx.filter fun p => p.1.isSome).map (fun p => encP (p.1.getD 0, ((p.2 : Nat) : Int))) = (idxOf (dues days ls)).map encP := by
    unfold idxOf
    rw [List.map_map]; rfl
  rw [ei]
  simp only [wo, sortM_enc, wl, Nat.zero_add, Nat.reduceAdd, Nat.reduceLT, true_and]
  have vg : VD 10 (List.replicate 10 (none : Option Int)) := .of_ok (by decide +kernel)
  have ho := (rf_handed_out (T := T) (F := F) (n := n + 4) (v := encLs (ls.map turnL)) (d := encR days) (g := encR (List.replicate 10 none)) f.p.e0 f.p.e1 (fun s sd => ga_check_days f.e2 f.e3 f.e4 f.e5 f.e6 f.e7 f.e8 f.e9 s sd) f.e2 f.e3 f.e8 f.e24 f.e25 f.e26 er_encLs' er_encR' er_encR' vd vg (vl_turn vl)).pf (cleanL_map clean_encH _)
  refine e_compM (xs := handedOut (ls.map turnL) days (List.replicate 10 none)) (g := encH) (h1 := h) (fun p => encP (p.1, p.2.1)) ?_ (fun p mp => ?_) ?_
  · simp only [↓ws, wo, wl, Nat.zero_add, Nat.reduceAdd, Nat.reduceLT, true_and, hb1]
    refine b_repO' (o := none) rfl (by decide) (by decide) ?_
    refine e_pc ho (by simp only [wc, wd]) ?_
    simp only [wo]
    exact ⟨stAt_stat _ _, by trivial⟩
  · simp only [↓ws, wo, wl, Nat.zero_add, Nat.reduceAdd, Nat.reduceLT, true_and, encH]
    rw [s_tup2]
    exact ⟨rfl, by trivial⟩
  · simp only [wo]
    have eo : (handedOut (ls.map turnL) days (List.replicate 10 none)).map (fun p => encP (p.1, p.2.1)) = (sortP id (idxOf (dues days ls))).map encP := by
      unfold handedOut
      rw [dues_turn, List.map_map]
      rfl
    rw [eo]
    rw [c_eq_same (a := .lst .own ((sortP id (idxOf (dues days ls))).map encP)) (b := .lst .own ((sortP id (idxOf (dues days ls))).map encP)) (snap_closed (closed_map closed_encP)) (snap_closed (closed_map closed_encP)) rfl (isData_le (n := 2) (by omega) (data_map data_encP))]
    rfl
def wideS (o : Sp) : Sp := o.map fun p => (if p.1 - 1 > 0 then p.1 - 1 else 0, if p.2 + 1 < 60 then p.2 + 1 else 60)
theorem vs_wide {sp : List Sp} (v : VS sp) : VS (sp.map wideS) := ⟨by rw [List.length_map]; exact v.len, fun o m a b e => by
  obtain ⟨o', m', rfl⟩ := List.mem_map.mp m
  rcases o' with _ | ⟨x, y⟩
  · cases e
  · have := v.ok _ m' x y rfl
    simp only [wideS, Option.map_some, Option.some.injEq, Prod.mk.injEq] at e
    obtain ⟨rfl, rfl⟩ := e
    refine ⟨?_, ?_, ?_⟩ <;> (split <;> (try split) <;> omega)⟩
theorem wide_first {sp : List Sp} (v : VS sp) : All2 LeO (firstsOf (sp.map wideS)) (firstsOf sp) := by
  unfold firstsOf
  rw [List.map_map]
  refine All2.map2 fun o m => ?_
  rcases o with _ | ⟨x, y⟩
  · trivial
  · have := v.ok _ m x y rfl
    show (if x - 1 > 0 then x - 1 else 0) ≤ x
    split <;> omega
theorem wide_last {sp : List Sp} (v : VS sp) : All2 LeO (lastsOf sp) (lastsOf (sp.map wideS)) := by
  unfold lastsOf
  rw [List.map_map]
  refine All2.map2 fun o m => ?_
  rcases o with _ | ⟨x, y⟩
  · trivial
  · have := v.ok _ m x y rfl
    show y ≤ (if y + 1 < 60 then y + 1 else 60)
    split <;> omega
theorem leo_trans {a b c : Option Int} (h : LeO a b) (k : LeO b c) : LeO a c := by
  cases a <;> cases b <;> cases c <;> simp only [LeO, OR] at h k ⊢
  omega
theorem all2_trans : ∀ {a b c : List (Option Int)}, All2 LeO a b → All2 LeO b c → All2 LeO a c
  | _, _, _, .nil, .nil => .nil
  | _, _, _, .cons h t, .cons h' t' => .cons (leo_trans h h') (all2_trans t t')
theorem leo_isSome {a b : Option Int} (h : LeO a b) : a.isSome = b.isSome := by
  cases a <;> cases b <;> simp only [LeO, OR] at h <;> rfl
theorem hasDay_wide {sp : List Sp} {ls : List Letter} {g : Int} (v : VS sp) (h : hasDay sp ls g) : hasDay (sp.map wideS) ls g := by
  unfold hasDay at h ⊢
  rw [leo_isSome (rowAt_rel (dues_le (wide_first v) ls) g)]
  exact h
theorem surely_wide {sp : List Sp} {ls : List Letter} {a c : Int} (v : VS sp) (vl : VL ls) (a0 : 0 ≤ a) (c0 : 0 ≤ c) (ha : hasDay sp ls a) (hc : hasDay sp ls c) (h : surelyB ls (sp.map wideS) a c = true) : surelyB ls sp a c = true := by
  rw [surely_iff v vl a0 c0 ha hc]
  intro ds w
  obtain ⟨w1, w2⟩ := within_le' w
  exact (surely_iff (vs_wide v) vl a0 c0 (hasDay_wide v ha) (hasDay_wide v hc)).mp h ds (within_iff (all2_trans (wide_first v) w1) (all2_trans w2 (wide_last v)))
theorem surely_apart {sp : List Sp} {ls : List Letter} {a c x y : Int} (v : VS sp) (vl : VL ls) (a0 : 0 ≤ a) (c0 : 0 ≤ c) (ha : hasDay sp ls a) (hc : hasDay sp ls c) (ex : rowAt (dues (lastsOf sp) ls) a = some x) (ey : rowAt (dues (firstsOf sp) ls) c = some y) (h : x < y) : surelyB ls sp a c = true := by
  rw [surely_iff v vl a0 c0 ha hc]
  intro ds w
  obtain ⟨w1, w2⟩ := within_le' w
  have r1 := rowAt_rel (dues_le w2 ls) a
  have r2 := rowAt_rel (dues_le w1 ls) c
  rw [ex] at r1
  rw [ey] at r2
  obtain ⟨u, eu, lu⟩ := leo_some' r1 rfl
  obtain ⟨z, ez, lz⟩ := leo_some r2 rfl
  rw [aheadB_of eu ez]
  omega
theorem VL.take {ls : List Letter} (v : VL ls) (k : Nat) : VL (ls.take (k + 1)) := by
  have l1 := v.l1
  have l40 := v.l40
  refine ⟨by rw [List.length_take]; omega, by rw [List.length_take]; omega, fun n l e => ?_⟩
  have : n < k + 1 := by
    have := lt_of_getL e
    rw [List.length_take] at this
    omega
  rw [List.getElem?_take_of_lt this] at e
  exact v.ok n l e
theorem VLet.mono {k m : Int} {l : Letter} (v : VLet k l) (h : k ≤ m) : VLet m l := ⟨v.h1, v.h3, v.hb, v.hn, v.t1, v.t4, fun t mt => by
  have := v.tt t mt
  cases t <;> simp only [VT] at this ⊢ <;> omega⟩
theorem vl_twice {ls : List Letter} {l : Letter} (v : VL ls) (e : ls[ls.length - 1]? = some l) (m : ls.length ≤ 39) : VL (ls ++ [l]) := by
  refine ⟨by simp, by simp; omega, fun n q eq => ?_⟩
  by_cases h : n < ls.length
  · rw [List.getElem?_append_left h] at eq
    exact v.ok n q eq
  · rw [List.getElem?_append_right (by omega)] at eq
    have hn : n = ls.length := by
      cases z : n - ls.length with
      | zero => omega
      | succ k => rw [z] at eq; simp at eq
    rw [hn] at eq
    simp at eq
    subst eq
    exact VLet.mono (v.ok _ _ e) (by omega)
theorem dues_twice {days : List (Option Int)} {ls : List Letter} {l : Letter} (v : VL ls) (e : ls[ls.length - 1]? = some l) : (dues days (ls ++ [l]))[ls.length]? = (dues days ls)[ls.length - 1]? := by
  rw [dues_snoc, List.getElem?_append_right (by rw [dues_len]; omega), dues_len, Nat.sub_self, dues_at v.ok e]
  rfl
theorem chain_head {days : List (Option Int)} {ls : List Letter} {num : Int} (ok : ∀ (k : Nat) (l : Letter), ls[k]? = some l → VLet k l) (n0 : 0 ≤ num) (n1 : num < ls.length) : ∃ p r, chainOf days ls num = (num, p) :: r := by
  obtain ⟨l, p, t, el, ep, et, _⟩ := place_of (D := dues days ls) (days := days) ok n0 n1
  exact ⟨_, _, by simp [chainOf, chainF, el, ep]; exact ⟨rfl, rfl⟩⟩
theorem at_neg1 {α : Type} {l : List α} (h : 0 < l.length) : atI l (-1) = l[l.length - 1]? := by
  unfold atI ixN
  rw [if_neg (by omega), if_pos (by omega)]
  show l[(-1 + (l.length : Int)).toNat]? = _
  rw [show (-1 + (l.length : Int)).toNat = l.length - 1 by omega]
theorem says (f : Fs T F) {ns : List Int} (l : ns.length ≤ 63) {K : Nat} (hK : 64 ≤ K) (hK2 : K ≤ 5000000) (b : ∀ z ∈ ns, Bd K z) : ∃ h, run T F 14 102 [.lst .scr (ns.map .int)] [] = .ok (.bl true) h := by
  suffices H : E (run T F 14 102 [.lst .scr (ns.map .int)] []) (fun v _ => v = .bl true) nox by
    obtain ⟨v, h, e, rfl⟩ := ex_of_E H
    exact ⟨h, e⟩
  refine e_run f.e102 rfl (by decide) ?_
  have hb1 : (1 : Nat) ≤ big := by decide
  have hb2 : (2 : Nat) ≤ big := by decide
  have hb3 : (3 : Nat) ≤ big := by decide
  have due : ∀ {d v : Val} {days : List (Option Int)} {ls : List Letter}, er v = encLs ls → er d = encR days → VD 6 days → VL ls → Pf (run T F 13) 10 [v, d] (encR (dues days ls)) := fun hv hd vd vl => pf_due_days (n := 6) f.p.e0 f.p.e1 (fun s sd => ga_check_days f.e2 f.e3 f.e4 f.e5 f.e6 f.e7 f.e8 f.e9 s sd) f.e10 hv hd vd vl
  have btw : ∀ {d v : Val} {sp : List Sp} {ls : List Letter}, er v = encLs ls → er d = encSs sp → VS sp → VL ls → Pf (run T F 13) 29 [v, d] (.lst .own ((btwn ls sp).map encB)) := fun hv hd vs vl => (rf_between (n := 6) f.p.e0 f.p.e1 f.p.e13 (fun s sd => ga_check_spans f.e2 f.e3 f.e4 f.e5 f.e6 f.e7 f.e27 f.e28 s sd) f.e29 hv hd vs vl).pf (cleanL_map clean_encB _)
  have sur : ∀ {d v : Val} {sp : List Sp} {ls : List Letter} {one other : Int}, er v = encLs ls → er d = encSs sp → VS sp → VL ls → 0 ≤ one → 0 ≤ other → one ≠ other → hasDay sp ls one → hasDay sp ls other → Pf (run T F 13) 30 [v, d, .int one, .int other] (surelyV ls sp one other) := fun hv hd vs vl o0 p0 op ho hp => pf_surely (n := 5) f.p f.e2 f.e3 (fun s sd => ga_check_spans f.e2 f.e3 f.e4 f.e5 f.e6 f.e7 f.e27 f.e28 s sd) f.e30 hv hd vs vl o0 p0 op ho hp
  simp only [cl102, ↓ws, wo, wl, List.replicate]
  have ct : E (slcM true (.lst .scr (ns.map .int)) none (some 63) ([] : Hm)) (fun v h => v = .lst .own (ns.map .int) ∧ h = []) nox := by
    have c := cutM_take (vs := ns.map Val.int) (k := 63)
    simp only [slcM, wo]
    rw [show (63 : Int) = ((63 : Nat) : Int) from rfl, c, List.take_of_length_le (by simpa using l)]
    exact ⟨rfl, trivial⟩
  refine E_mono ct ?_ (fun k h x => x)
  rintro _ _ ⟨rfl, rfl⟩
  simp only [↓ws, wo, wl, sum_ints, Nat.reduceAdd, Nat.reduceLT, true_and]
  generalize ns.sum = w
  refine w_for (xs := List.range 2) (g := fun n => .int (n : Nat)) (fun pre e h => ∃ x2 x3 x4 x5 x6 x7 x8 x9 x10 x11 x12 x13 x14 x15 x16, e = [some (.lst .scr (ns.map .int)), some (.int w), x2, x3, x4, x5, x6, x7, x8, x9, x10, x11, x12, x13, x14, x15, x16]) ?_ ?_ ?_
  · simp only [↓ws, wo, wl]
    rw [rng1 (by omega) (by omega)]
    exact ⟨fun h => stAt_stat _ h, _, _, _, _, _, _, _, _, _, _, _, _, _, _, _, rfl⟩
  · rintro pre m post ex e h ⟨x2, x3, x4, x5, x6, x7, x8, x9, x10, x11, x12, x13, x14, x15, x16, rfl⟩
    obtain ⟨z1, z2, z3⟩ := range_split ex
    simp only [↓ws, wo, wl, Nat.reduceAdd, Nat.reduceLT, true_and]
    obtain ⟨ls, pl, gl⟩ := pf_letters (T := T) (F := F) (n := 10) f.e46 f.e48 f.e49 f.e50 (by' := m) (most := 39) hK hK2 l b (by omega) (by omega) (by omega) (by omega)
    refine e_pc pl (by simp only [wc]) ?_
    obtain ⟨days, pd, vd⟩ := pf_days (T := T) (F := F) (n := 11) f.e46 f.e51 (by' := m) hK hK2 l b (by omega) (by omega)
    refine e_pc pd (by simp only [wc]) ?_
    have vl := gl.vl (by omega)
    have l39 := gl.lm
    have n1 := gl.l1
    rw [b_fdivL (by decide)]
    refine e_pc (pf_days_right (n := 1) f vd vl) (by simp only [wc, wd]) ?_

    obtain ⟨sp, ps, vs⟩ := pf_spans (T := T) (F := F) (n := 11) f.e46 f.e67 (by' := m) (wide := 9) hK hK2 l b (by omega) (by omega) (by omega)
    refine e_pc ps (by simp only [wc]) ?_
    refine e_compM (xs := sp) (g := encSp) (h1 := h) (fun o => encSp (wideS o)) (by simp only [↓ws, wo, wl, encSs]; exact ⟨stAt_stat _ _, trivial⟩) (fun o mo => ?_) ?_
    · simp only [↓ws, wo, wl, Nat.zero_add, Nat.reduceAdd, Nat.reduceLT, true_and, encSp_non]
      rcases o with _ | ⟨x, y⟩
      · simp only [Option.isNone, ↓ws, wo, wl, encSp]; exact ⟨rfl, trivial⟩
      · simp only [Option.isNone, ↓ws, wo, wl, encSp, hb2, Nat.zero_add, Nat.reduceAdd, true_and]; exact ⟨rfl, trivial⟩
    simp only [wo, wl, Nat.zero_add, Nat.reduceAdd, Nat.reduceLT, true_and]
    rw [show sp.map (fun o => encSp (wideS o)) = (sp.map wideS).map encSp by rw [List.map_map]; rfl, show Val.lst .own ((sp.map wideS).map encSp) = encSs (sp.map wideS) from rfl]
    have vw := vs_wide vs
    rw [show encLs ls = .lst .own (ls.map encL) from rfl, s_take (by decide), show (8 : Int).toNat = 8 from rfl, ← List.map_take, show Val.lst .own ((ls.take 8).map encL) = encLs (ls.take 8) from rfl]
    have vf := VL.take vl 7
    have rel := dues_le (fl_le vs) (ls.take 8)
    have relw := dues_le (fl_le vw) (ls.take 8)
    have rw1 := dues_le (wide_first vs) (ls.take 8)
    have rw2 := dues_le (wide_last vs) (ls.take 8)
    have bl := btw (v := encLs (ls.take 8)) (d := encSs sp) er_encLs' er_encSs' vs vf
    have blw := btw (v := encLs (ls.take 8)) (d := encSs (sp.map wideS)) er_encLs' er_encSs' vw vf
    have lb : (btwn (ls.take 8) sp).length = (ls.take 8).length := by simp [btwn, dues_len]
    have eA : ∀ (s : List Sp) (g : Int), 0 ≤ g → g < (ls.take 8).length → VS s → ∃ o o', atI ((btwn (ls.take 8) s).map encB) g = some (encB (o, o')) ∧ rowAt (dues (firstsOf s) (ls.take 8)) g = o ∧ rowAt (dues (lastsOf s) (ls.take 8)) g = o' := by
      intro s g g0 g1 vs
      have l1 : g.toNat < (dues (firstsOf s) (ls.take 8)).length := by rw [dues_len]; omega
      have l2 : g.toNat < (dues (lastsOf s) (ls.take 8)).length := by rw [dues_len]; omega
      refine ⟨_, _, ?_, rfl, rfl⟩
      have ez : (btwn (ls.take 8) s)[g.toNat]? = some ((dues (firstsOf s) (ls.take 8))[g.toNat], (dues (lastsOf s) (ls.take 8))[g.toNat]) := List.getElem?_zip_eq_some.mpr ⟨List.getElem?_eq_getElem l1, List.getElem?_eq_getElem l2⟩
      rw [atI_of g0, List.getElem?_map, ez]
      simp only [Option.map_some, rowAt, List.getElem?_eq_getElem l1, List.getElem?_eq_getElem l2, Option.getD_some]
    revert lb eA
    generalize ls.take 8 = few at *
    intro lb eA
    refine w_for (xs := (btwn few sp).zip (btwn few (sp.map wideS))) (g := fun p => .tup [encB p.1, encB p.2]) (fun pre e h => ∃ x9 x10, e = [some (.lst .scr (ns.map .int)), some (.int w), some (.int m), some (encLs ls), some (encR days), some (encSs sp), some (encSs (sp.map wideS)), x7, some (encLs few), x9, x10, x11, x12, x13, x14, x15, x16]) ?_ ?_ ?_
    · simp only [↓ws, wo, wl]
      refine e_pc bl (by simp only [wc, wd]) ?_
      refine e_pc blw (by simp only [wc, wd]) ?_
      simp only [wo, zipM, isTup, if_true, srcOf]
      exact ⟨fun h => stAt_zip (stAt_stat _ h) (stAt_stat _ h), _, _, rfl⟩
    · rintro pre2 ⟨⟨o, o'⟩, ⟨u, u'⟩⟩ post2 ex2 e h2 ⟨x9, x10, rfl⟩
      have mz : ((o, o'), (u, u')) ∈ (btwn few sp).zip (btwn few (sp.map wideS)) := by rw [ex2]; simp
      obtain ⟨k, hk, ek⟩ := List.mem_iff_getElem.mp mz
      have ek2 : ((btwn few sp).zip (btwn few (sp.map wideS)))[k]? = some ((o, o'), (u, u')) := by rw [List.getElem?_eq_getElem hk, ek]
      obtain ⟨k1, k2⟩ := List.getElem?_zip_eq_some.mp ek2
      obtain ⟨k3, k4⟩ := List.getElem?_zip_eq_some.mp k1
      obtain ⟨k5, k6⟩ := List.getElem?_zip_eq_some.mp k2
      have q1 := rel.get2 k3 k4
      have q2 := rw1.get2 k5 k3
      have q3 := rw2.get2 k4 k6
      simp only [↓ws, wo, wl, Nat.zero_add, Nat.reduceAdd, Nat.reduceLT, true_and, isM_encB, c_neb]
      rcases o with _ | x <;> rcases o' with _ | y <;> rcases u with _ | z <;> rcases u' with _ | t <;> simp only [LeO, OR] at q1 q2 q3
      · simp only [Option.isNone, ↓ws, wo, wl, beq_self_eq_true, Bool.not_true]
        exact ⟨_, _, rfl⟩
      · simp only [Option.isNone, ↓ws, wo, wl, encB, encO, beq_self_eq_true, Bool.not_true, Bool.not_false]
        simp only [q1, q2, q3, decide_true, ↓ws, wo, wl, Bool.not_true]
        exact ⟨_, _, rfl⟩
    rintro e h2 ⟨x9, x10, rfl⟩
    simp only [↓ws, wo, wl, Nat.zero_add, Nat.reduceAdd, Nat.reduceLT, true_and]
    refine e_compF (xs := (btwn few sp).zipIdx) (g := fun p => .tup [.int (p.2 : Nat), encB p.1]) (h1 := h2) (fun p => p.1.1.isSome) (fun p => .int (p.2 : Nat)) ?_ (fun p mp => ?_) ?_
    · simp only [↓ws, wo, wl]
      refine e_pc bl (by simp only [wc, wd]) ?_
      simp only [wo, isTup, true_and]
      exact ⟨stAt_enum (stAt_stat _ _), by trivial⟩
    · simp only [↓ws, wo, wl, Nat.zero_add, Nat.reduceAdd, Nat.reduceLT, true_and, isM_encB]
      refine ⟨⟨?_, by trivial⟩, fun _ => by simp⟩
      cases p.1.1 <;> rfl
    have eG : ((btwn few sp).zipIdx.filter fun p => p.1.1.isSome).map (fun p => Val.int (p.2 : Nat)) = (((btwn few sp).zipIdx.filter fun p => p.1.1.isSome).map fun p => ((p.2 : Nat) : Int)).map Val.int := by rw [List.map_map]; rfl
    rw [eG]
    have okg : ∀ g ∈ (((btwn few sp).zipIdx.filter fun p => p.1.1.isSome).map fun p => ((p.2 : Nat) : Int)), 0 ≤ g ∧ g < few.length ∧ hasDay sp few g := by
      intro g mg
      obtain ⟨⟨⟨o, o'⟩, k⟩, mp, rfl⟩ := List.mem_map.mp mg
      obtain ⟨m1, m2⟩ := List.mem_filter.mp mp
      have g1 := List.mk_mem_zipIdx_iff_getElem?.mp m1
      have lk := lt_of_getL g1
      obtain ⟨k3, k4⟩ := List.getElem?_zip_eq_some.mp g1
      refine ⟨by simp only []; omega, by simp only []; omega, ?_⟩
      unfold hasDay rowAt
      simp only [Int.toNat_natCast, k3]
      exact m2
    have srt : (((btwn few sp).zipIdx.filter fun p => p.1.1.isSome).map fun p => ((p.2 : Nat) : Int)).Pairwise (· < ·) := by
      have h1 : ((btwn few sp).zipIdx.filter fun p => p.1.1.isSome).Pairwise (fun p q => p.2 < q.2) := by
        refine List.Pairwise.filter _ ?_
        rw [List.pairwise_iff_getElem]
        intro i j hi hj lt
        simp only [List.getElem_zipIdx]
        omega
      exact List.pairwise_map.mpr (h1.imp fun l => by omega)
    generalize (((btwn few sp).zipIdx.filter fun p => p.1.1.isSome).map fun p => ((p.2 : Nat) : Int)) = G at okg srt
    simp only [wo, wl, Nat.zero_add, Nat.reduceAdd, Nat.reduceLT, true_and]
    refine w_for (xs := G.zip (G.drop 1)) (g := fun p => .tup [.int p.1, .int p.2]) (fun pre e h => ∃ x10 x13 x14 x15, e = [some (.lst .scr (ns.map .int)), some (.int w), some (.int m), some (encLs ls), some (encR days), some (encSs sp), some (encSs (sp.map wideS)), x7, some (encLs few), x9, x10, some (.lst .own (G.map .int)), x12, x13, x14, x15, x16]) ?_ ?_ ?_
    · simp only [↓ws, wo, wl]
      rw [s_drop (by decide), show (1 : Int).toNat = 1 from rfl, ← List.map_drop]
      simp only [wo, zipM, isTup, if_true, srcOf]
      exact ⟨fun h => stAt_zip (stAt_stat _ h) (stAt_stat _ h), _, _, _, _, rfl⟩
    · rintro pre2 ⟨a, c⟩ post2 ex2 e h3 ⟨x10, x13, x14, x15, rfl⟩
      have mz : (a, c) ∈ G.zip (G.drop 1) := by rw [ex2]; simp
      obtain ⟨k, hk, ek⟩ := List.mem_iff_getElem.mp mz
      have ek2 : (G.zip (G.drop 1))[k]? = some (a, c) := by rw [List.getElem?_eq_getElem hk, ek]
      obtain ⟨k1, k2⟩ := List.getElem?_zip_eq_some.mp ek2
      rw [List.getElem?_drop] at k2
      obtain ⟨i1, j1⟩ := List.getElem?_eq_some_iff.mp k1
      obtain ⟨i2, j2⟩ := List.getElem?_eq_some_iff.mp k2
      have ac : a < c := by
        have := List.pairwise_iff_getElem.mp srt k (1 + k) i1 i2 (by omega)
        rw [j1, j2] at this
        exact this
      obtain ⟨a0, a1, ad⟩ := okg a (List.mem_of_getElem? k1)
      obtain ⟨c0, c1, cd⟩ := okg c (List.mem_of_getElem? k2)
      simp only [↓ws, wo, wl, Nat.zero_add, Nat.reduceAdd, Nat.reduceLT, true_and]
      refine e_pc (sur er_encLs' er_encSs' vs vf a0 c0 (by omega) ad cd) (by simp only [wc, wd]) ?_
      refine e_pc (sur er_encLs' er_encSs' vs vf c0 a0 (by omega) cd ad) (by simp only [wc, wd]) ?_
      simp only [wo, wl, Nat.zero_add, Nat.reduceAdd, Nat.reduceLT, true_and, surelyV_isi f.s3 f.s4]
      have hw := surely_wide vs vf a0 c0 ad cd
      refine E_pick (fun v h' => v = .bl false ∧ h3 = h') (fun t => ?_) (fun t => ?_) ?_
      · simp only [↓ws, wo, wl, surelyV_isi f.s3 f.s4]
        refine ⟨?_, by trivial⟩
        cases t2 : surelyB few sp c a
        · rfl
        · exact (not_both t t2).elim
      · exact ⟨rfl, rfl⟩
      rintro _ _ ⟨rfl, rfl⟩
      simp only [wo]
      refine e_pc (sur er_encLs' er_encSs' vw vf a0 c0 (by omega) (hasDay_wide vs ad) (hasDay_wide vs cd)) (by simp only [wc, wd]) ?_
      simp only [wo, surelyV_isi f.s3 f.s4]
      refine E_pick (fun v h' => v = .bl false ∧ h3 = h') (fun t => ?_) (fun t => ?_) ?_
      · simp only [↓ws, wo, wl, surelyV_isi f.s3 f.s4, hw t]
        exact ⟨rfl, by trivial⟩
      · exact ⟨rfl, rfl⟩
      rintro _ _ ⟨rfl, rfl⟩
      simp only [wo]
      refine e_pc bl (by simp only [wc, wd]) ?_
      obtain ⟨p1, p2, pa, pb, pc⟩ := eA sp a a0 a1 vs
      obtain ⟨r1, r2, ra, rb, rc⟩ := eA sp c c0 c1 vs
      have sa : p1.isSome = true := by rw [← pb]; exact ad
      have sc : r1.isSome = true := by rw [← rb]; exact cd
      have la := rowAt_rel rel a
      rw [pb, pc] at la
      cases p1 with
      | none => cases sa
      | some x =>
      cases p2 with
      | none => exact la.elim
      | some x' =>
      cases r1 with
      | none => cases sc
      | some y =>
      simp only [wo, pa, encB, encO]
      refine e_pc bl (by simp only [wc, wd]) ?_
      simp only [wo, ra, encB]
      refine E_pick (fun v h' => v = .bl false ∧ h3 = h') (fun t => ?_) (fun t => ?_) ?_
      · have := surely_apart vs vf a0 c0 ad cd pc rb (by simpa using t)
        simp only [↓ws, wo, wl, surelyV_isi f.s3 f.s4, this]
        exact ⟨rfl, by trivial⟩
      · exact ⟨rfl, rfl⟩
      rintro _ _ ⟨rfl, rfl⟩
      simp only [wo]
      exact ⟨_, _, _, _, rfl⟩
    rintro e h3 ⟨x10, x13, x14, x15, rfl⟩
    obtain ⟨q, hq⟩ : ∃ q, ls[ls.length - 1]? = some q := ⟨_, List.getElem?_eq_getElem (by omega)⟩
    have v2 := vl_twice vl hq (by omega)
    have cut1 : cutM (ls.map encL) (some (-1)) none = [encL q] := by
      unfold cutM
      rw [HT.sIx_none]
      have e1 : HT.sIx (ls.map encL).length 0 (some (-1)) = ls.length - 1 := by
        simp only [HT.sIx, List.length_map]
        first
        | omega
        | (split <;> omega)
        | (simp; omega)
      rw [e1, List.length_map, ← List.map_drop, show ls.drop (ls.length - 1) = [q] by
        rw [List.drop_eq_getElem_cons (by omega)]
        rw [List.getElem?_eq_getElem (by omega)] at hq
        cases hq
        rw [List.drop_eq_nil_of_le (by omega)]]
      rw [show ls.length - (ls.length - 1) = 1 by omega]
      rfl
    simp only [↓ws, wo, wl, Nat.zero_add, Nat.reduceAdd, Nat.reduceLT, true_and, wd]
    have sl : E (slcM true (encLs ls) (some (-1)) none h3) (fun v h => v = .lst .own [encL q] ∧ h3 = h) nox := by
      simp only [encLs, slcM, lo_lst, cut1]
      exact ⟨rfl, rfl⟩
    refine E_mono sl ?_ (fun k h x => x)
    rintro _ _ ⟨rfl, rfl⟩
    rw [show encLs ls = .lst .own (ls.map encL) from rfl, b_cat (by simp; unfold big; omega), show ls.map encL ++ [encL q] = (ls ++ [q]).map encL by simp]
    rw [show Val.lst .own ((ls ++ [q]).map encL) = encLs (ls ++ [q]) from rfl]
    refine e_pc (due er_encLs' er_encR' vd v2) (by simp only [wc, wd]) ?_
    have g1 : atI ((dues days (ls ++ [q])).map encO) (-1) = ((dues days (ls ++ [q]))[ls.length]?).map encO := by
      rw [at_neg1 (by rw [List.length_map, dues_len]; simp), List.length_map, dues_len, List.getElem?_map]
      simp
    have g2 : atI ((dues days ls).map encO) (-1) = ((dues days ls)[ls.length - 1]?).map encO := by
      rw [at_neg1 (by rw [List.length_map, dues_len]; omega), List.length_map, dues_len, List.getElem?_map]
    obtain ⟨o, eo⟩ : ∃ o, (dues days ls)[ls.length - 1]? = some o := ⟨_, List.getElem?_eq_getElem (by rw [dues_len]; omega)⟩
    rw [dues_twice vl hq, eo] at g1
    rw [eo] at g2
    simp only [wd, wo, g1, Option.map_some]
    rw [show Val.lst .own (ls.map encL) = encLs ls from rfl]
    refine e_pc (due er_encLs' er_encR' vd vl) (by simp only [wc, wd]) ?_
    simp only [wd, wo, g2, Option.map_some]
    rw [c_ne_same (snap_closed (closed_encO o)) (snap_closed (closed_encO o)) rfl (data_encO _ _)]
    simp only [wo, List.length_map]
    have nl : (ls.length : Int) < (ls ++ [q]).length := by simp; omega
    refine e_pc (pf_why (n := 5) f.y er_encLs' er_encR' vd v2 (by omega) nl) (by simp only [wc, wd]) ?_
    obtain ⟨p, r, ec⟩ := chain_head (days := days) v2.ok (by omega) nl
    rw [fld_oAns, ec]
    simp only [encP, wo, wl, decide_true, Bool.not_true]
    exact ⟨_, _, _, _, _, _, _, _, _, _, _, _, _, _, _, rfl⟩
  · rintro e h ⟨x2, x3, x4, x5, x6, x7, x8, x9, x10, x11, x12, x13, x14, x15, x16, rfl⟩
    simp only [↓ws, wo, wl, Nat.reduceAdd, Nat.reduceLT, true_and, Nat.zero_add, hb1, hb2]
    refine b_repO' (o := none) rfl (by decide) (by decide) ?_
    refine e_pc (due (v := .lst .own [.tup [.lst .own [.int 0], .lst .own [.tup [.str 0, .int 0]]]]) (ls := [⟨[0], [.day 0]⟩]) rfl (er_encR' (row := List.replicate (6 : Int).toNat none)) (.of_ok (by decide +kernel)) (.of_ok (by decide +kernel))) (by decide +kernel) ?_
    rw [show dues (List.replicate (6 : Int).toNat none) [⟨[0], [.day 0]⟩] = [some 0] by decide +kernel, show encR [some 0] = .lst .own [.int 0] from rfl, c_eq_same (a := .lst .own [.int 0]) (b := .lst .own [.int 0]) (snap_closed rfl) (snap_closed rfl) rfl rfl]
    rfl
end
end MP.K10
set_option Elab.async false
set_option linter.all false
set_option autoImplicit false
namespace MP.K10
theorem says' : Says pg D 14 102 := says_of fun ns K l h1 h2 b => says (T := pg.T) (F := tab D) (by constructor <;> first | rfl | (constructor <;> rfl)) l h1 h2 b
end MP.K10
open PySem PySem.W PyProof.Rows
set_option maxRecDepth 100000 in
set_option maxHeartbeats 0 in
theorem PySem.Challenge.cw_laterletters_k10_whole_kin_holds : PySem.Challenge.rw_laterletters_k10_whole_kin.Holds := by
  w_on; o_law; k_head; (case hw => w_witness2)
  k_fill
  refine MP.law_end (l := PySem.Challenge.rw_laterletters_k10_whole_kin) (n := 14) rfl rfl ⟨rfl, by decide, by decide⟩ (fun w h Y => PySem.W.kIn_of Y) ?F
  case F =>
    intro w mg fa h KX G hmg
    refine' MP.K10.all_mk 14 MP.K10.says' KX G hmg ?a0 ?l0 ?c0 ?k0 ?a1 ?l1 ?c1 ?k1 ?a2 ?l2 ?c2 ?k2 ?a3 ?l3 ?c3 ?k3 ?a4 ?l4 ?c4 ?k4 ?a5 ?l5 ?c5 ?k5 ?a6 ?l6 ?c6 ?k6 ?a7 ?l7 ?c7 ?k7 ?a8 ?l8 ?c8 ?k8 ?a9 ?l9 ?c9 ?k9 ?a10 ?l10 ?c10 ?k10 ?a11 ?l11 ?c11 ?k11 ?a13 ?l13 ?c13 ?k13 ?a14 ?l14 ?c14 ?k14 ?a15 ?l15 ?c15 ?k15 ?a16 ?l16 ?c16 ?k16 ?l17 ?c17 ?k17 ?l18 ?c18 ?k18 ?l19 ?c19 ?k19 ?l20 ?c20 ?k20 ?l21 ?c21 ?k21 ?l22 ?c22 ?k22 ?l23 ?c23 ?k23 ?a24 ?l24 ?c24 ?k24 ?a25 ?l25 ?c25 ?k25 ?a26 ?l26 ?c26 ?k26 ?a27 ?l27 ?c27 ?k27 ?a28 ?l28 ?c28 ?k28 ?a29 ?l29 ?c29 ?k29 ?a30 ?l30 ?c30 ?k30 ?a45 ?l45 ?c45 ?k45 ?a46 ?l46 ?c46 ?k46 ?a48 ?l48 ?c48 ?k48 ?a49 ?l49 ?c49 ?k49 ?a50 ?l50 ?c50 ?k50 ?a51 ?l51 ?c51 ?k51 ?a67 ?l67 ?c67 ?k67 ?a101 ?l101 ?c101 ?k101 ?a102 ?l102 ?c102 ?k102 ?e0 ?xe0 ?ke0 ?be0 ?te0 ?e1 ?xe1 ?ke1 ?be1 ?te1 ?e2 ?xe2 ?ke2 ?be2 ?te2 ?e3 ?xe3 ?ke3 ?be3 ?te3 ?e4 ?xe4 ?ke4 ?be4 ?te4 ?e5 ?xe5 ?ke5 ?be5 ?te5 ?e10 ?xe10 ?ke10 ?be10 ?te10 ?ac0 ?pg0 ?hd0 ?po0 ?sa0 ?n0_0 ?n0_1 ?n0_2 ?n0_3 ?n0_4 ?n0_5 ?kc0 ?mk0 ?in0 ?cl0 ?mo0 ?ki0_int ?ki0_bool ?ki0_str ?ki0_list ?ki0_tuple ?kj0_NoneType ?kj0_bool ?kj0_int ?kj0_str ?kj0_list ?kj0_tuple ?kj0_dict ?ac1 ?pg1 ?hd1 ?po1 ?sa1 ?n1_0 ?n1_1 ?n1_2 ?n1_3 ?n1_4 ?n1_5 ?kc1 ?mk1 ?in1 ?if1 ?m1_0 ?mf1_0 ?cl1 ?mo1 ?ki1_int ?ki1_bool ?ki1_str ?ki1_list ?ki1_tuple ?kj1_NoneType ?kj1_bool ?kj1_int ?kj1_str ?kj1_list ?kj1_tuple ?kj1_dict ?ac2 ?pg2 ?hd2 ?po2 ?sa2 ?n2_0 ?n2_1 ?n2_2 ?n2_3 ?n2_4 ?n2_5 ?kc2 ?mk2 ?in2 ?if2 ?m2_0 ?mf2_0 ?cl2 ?mo2 ?ki2_int ?ki2_bool ?ki2_str ?ki2_list ?ki2_tuple ?kj2_NoneType ?kj2_bool ?kj2_int ?kj2_str ?kj2_list ?kj2_tuple ?kj2_dict ?ac3 ?pg3 ?hd3 ?po3 ?sa3 ?n3_0 ?n3_1 ?n3_2 ?n3_3 ?n3_4 ?n3_5 ?kc3 ?mk3 ?in3 ?m3_0 ?mf3_0 ?cl3 ?mo3 ?ki3_int ?ki3_bool ?ki3_str ?ki3_list ?ki3_tuple ?kj3_NoneType ?kj3_bool ?kj3_int ?kj3_str ?kj3_list ?kj3_tuple ?kj3_dict ?ac4 ?pg4 ?hd4 ?po4 ?sa4 ?n4_0 ?n4_1 ?n4_2 ?n4_3 ?n4_4 ?n4_5 ?kc4 ?mk4 ?in4 ?if4 ?m4_0 ?mf4_0 ?cl4 ?mo4 ?ki4_int ?ki4_bool ?ki4_str ?ki4_list ?ki4_tuple ?kj4_NoneType ?kj4_bool ?kj4_int ?kj4_str ?kj4_list ?kj4_tuple ?kj4_dict ?kk0_0 ?kk0_1 ?kk0_2 ?kk0_3 ?kk0_4 ?kk1_0 ?kk1_1 ?kk1_2 ?kk1_3 ?kk1_4 ?kk2_0 ?kk2_1 ?kk2_2 ?kk2_3 ?kk2_4 ?kk3_0 ?kk3_1 ?kk3_2 ?kk3_3 ?kk3_4 ?kk4_0 ?kk4_1 ?kk4_2 ?kk4_3 ?kk4_4 ?sp ?tk ?n0 ?n1 ?n2 ?n3 ?n4 ?n5 ?n6 ?z_len ?z_max ?z_min ?z_abs ?z_sum ?z_all ?z_any ?z_sorted ?z_list ?z_tuple ?z_int ?z_isinstance ?z_range ?z_enumerate ?z_zip ?z_set ?z_bool ?z_str
    (case a0 => k_is)
    (case l0 => k_is)
    (case c0 => k_is)
    (case k0 => k_is)
    (case a1 => k_is)
    (case l1 => k_is)
    (case c1 => k_is)
    (case k1 => k_is)
    (case a2 => k_is)
    (case l2 => k_is)
    (case c2 => k_is)
    (case k2 => k_is)
    (case a3 => k_is)
    (case l3 => k_is)
    (case c3 => k_is)
    (case k3 => k_is)
    (case a4 => k_is)
    (case l4 => k_is)
    (case c4 => k_is)
    (case k4 => k_is)
    (case a5 => k_is)
    (case l5 => k_is)
    (case c5 => k_is)
    (case k5 => k_is)
    (case a6 => k_is)
    (case l6 => k_is)
    (case c6 => k_is)
    (case k6 => k_is)
    (case a7 => k_is)
    (case l7 => k_is)
    (case c7 => k_is)
    (case k7 => k_is)
    (case a8 => k_is)
    (case l8 => k_is)
    (case c8 => k_is)
    (case k8 => k_is)
    (case a9 => k_is)
    (case l9 => k_is)
    (case c9 => k_is)
    (case k9 => k_is)
    (case a10 => k_is)
    (case l10 => k_is)
    (case c10 => k_is)
    (case k10 => k_is)
    (case a11 => k_is)
    (case l11 => k_is)
    (case c11 => k_is)
    (case k11 => k_is)
    (case a13 => k_is)
    (case l13 => k_is)
    (case c13 => k_is)
    (case k13 => k_is)
    (case a14 => k_is)
    (case l14 => k_is)
    (case c14 => k_is)
    (case k14 => k_is)
    (case a15 => k_is)
    (case l15 => k_is)
    (case c15 => k_is)
    (case k15 => k_is)
    (case a16 => k_is)
    (case l16 => k_is)
    (case c16 => k_is)
    (case k16 => k_is)
    (case a24 => k_is)
    (case l24 => k_is)
    (case c24 => k_is)
    (case k24 => k_is)
    (case a25 => k_is)
    (case l25 => k_is)
    (case c25 => k_is)
    (case k25 => k_is)
    (case a26 => k_is)
    (case l26 => k_is)
    (case c26 => k_is)
    (case k26 => k_is)
    (case a27 => k_is)
    (case l27 => k_is)
    (case c27 => k_is)
    (case k27 => k_is)
    (case a28 => k_is)
    (case l28 => k_is)
    (case c28 => k_is)
    (case k28 => k_is)
    (case a29 => k_is)
    (case l29 => k_is)
    (case c29 => k_is)
    (case k29 => k_is)
    (case a30 => k_is)
    (case l30 => k_is)
    (case c30 => k_is)
    (case k30 => k_is)
    (case a45 => k_is)
    (case l45 => k_is)
    (case c45 => k_is)
    (case k45 => k_is)
    (case a46 => k_is)
    (case l46 => k_is)
    (case c46 => k_is)
    (case k46 => k_is)
    (case a48 => k_is)
    (case l48 => k_is)
    (case c48 => k_is)
    (case k48 => k_is)
    (case a49 => k_is)
    (case l49 => k_is)
    (case c49 => k_is)
    (case k49 => k_is)
    (case a50 => k_is)
    (case l50 => k_is)
    (case c50 => k_is)
    (case k50 => k_is)
    (case a51 => k_is)
    (case l51 => k_is)
    (case c51 => k_is)
    (case k51 => k_is)
    (case a67 => k_is)
    (case l67 => k_is)
    (case c67 => k_is)
    (case k67 => k_is)
    (case a101 => k_is)
    (case l101 => k_is)
    (case c101 => k_is)
    (case k101 => k_is)
    (case a102 => k_is)
    (case l102 => k_is)
    (case c102 => k_is)
    (case k102 => k_is)
    (case e0 => k_is)
    (case xe0 => k_exc)
    (case ke0 => k_is)
    (case be0 => k_is)
    (case te0 => k_is)
    (case e1 => k_is)
    (case xe1 => k_exc)
    (case ke1 => k_is)
    (case be1 => k_is)
    (case te1 => k_is)
    (case e2 => k_is)
    (case xe2 => k_exc)
    (case ke2 => k_is)
    (case be2 => k_is)
    (case te2 => k_is)
    (case e3 => k_is)
    (case xe3 => k_exc)
    (case ke3 => k_is)
    (case be3 => k_is)
    (case te3 => k_is)
    (case e4 => k_is)
    (case xe4 => k_exc)
    (case ke4 => k_is)
    (case be4 => k_is)
    (case te4 => k_is)
    (case e5 => k_is)
    (case xe5 => k_exc)
    (case ke5 => k_is)
    (case be5 => k_is)
    (case te5 => k_is)
    (case e10 => k_is)
    (case xe10 => k_exc)
    (case ke10 => k_is)
    (case be10 => k_is)
    (case te10 => k_is)
    (case ac0 => k_is)
    (case pg0 => k_is)
    (case hd0 => k_is)
    (case po0 => k_is)
    (case sa0 => k_is)
    (case n0_0 => k_is)
    (case n0_1 => k_is)
    (case n0_2 => k_is)
    (case n0_3 => k_is)
    (case n0_4 => k_is)
    (case n0_5 => k_is)
    (case kc0 => k_is)
    (case mk0 => k_is)
    (case in0 => k_is)
    (case cl0 => k_is)
    (case mo0 => k_is)
    (case ki0_int => first | rfl | k_is)
    (case ki0_bool => first | rfl | k_is)
    (case ki0_str => first | rfl | k_is)
    (case ki0_list => first | rfl | k_is)
    (case ki0_tuple => first | rfl | k_is)
    (case kj0_NoneType => first | rfl | k_is)
    (case kj0_bool => first | rfl | k_is)
    (case kj0_int => first | rfl | k_is)
    (case kj0_str => first | rfl | k_is)
    (case kj0_list => first | rfl | k_is)
    (case kj0_tuple => first | rfl | k_is)
    (case kj0_dict => first | rfl | k_is)
    (case ac1 => k_is)
    (case pg1 => k_is)
    (case hd1 => k_is)
    (case po1 => k_is)
    (case sa1 => k_is)
    (case n1_0 => k_is)
    (case n1_1 => k_is)
    (case n1_2 => k_is)
    (case n1_3 => k_is)
    (case n1_4 => k_is)
    (case n1_5 => k_is)
    (case kc1 => k_is)
    (case mk1 => k_is)
    (case in1 => k_is)
    (case if1 => k_is)
    (case m1_0 => k_is)
    (case mf1_0 => k_is)
    (case cl1 => k_is)
    (case mo1 => k_is)
    (case ki1_int => first | rfl | k_is)
    (case ki1_bool => first | rfl | k_is)
    (case ki1_str => first | rfl | k_is)
    (case ki1_list => first | rfl | k_is)
    (case ki1_tuple => first | rfl | k_is)
    (case kj1_NoneType => first | rfl | k_is)
    (case kj1_bool => first | rfl | k_is)
    (case kj1_int => first | rfl | k_is)
    (case kj1_str => first | rfl | k_is)
    (case kj1_list => first | rfl | k_is)
    (case kj1_tuple => first | rfl | k_is)
    (case kj1_dict => first | rfl | k_is)
    (case ac2 => k_is)
    (case pg2 => k_is)
    (case hd2 => k_is)
    (case po2 => k_is)
    (case sa2 => k_is)
    (case n2_0 => k_is)
    (case n2_1 => k_is)
    (case n2_2 => k_is)
    (case n2_3 => k_is)
    (case n2_4 => k_is)
    (case n2_5 => k_is)
    (case kc2 => k_is)
    (case mk2 => k_is)
    (case in2 => k_is)
    (case if2 => k_is)
    (case m2_0 => k_is)
    (case mf2_0 => k_is)
    (case cl2 => k_is)
    (case mo2 => k_is)
    (case ki2_int => first | rfl | k_is)
    (case ki2_bool => first | rfl | k_is)
    (case ki2_str => first | rfl | k_is)
    (case ki2_list => first | rfl | k_is)
    (case ki2_tuple => first | rfl | k_is)
    (case kj2_NoneType => first | rfl | k_is)
    (case kj2_bool => first | rfl | k_is)
    (case kj2_int => first | rfl | k_is)
    (case kj2_str => first | rfl | k_is)
    (case kj2_list => first | rfl | k_is)
    (case kj2_tuple => first | rfl | k_is)
    (case kj2_dict => first | rfl | k_is)
    (case ac3 => k_is)
    (case pg3 => k_is)
    (case hd3 => k_is)
    (case po3 => k_is)
    (case sa3 => k_is)
    (case n3_0 => k_is)
    (case n3_1 => k_is)
    (case n3_2 => k_is)
    (case n3_3 => k_is)
    (case n3_4 => k_is)
    (case n3_5 => k_is)
    (case kc3 => k_is)
    (case mk3 => k_is)
    (case in3 => k_is)
    (case m3_0 => k_is)
    (case mf3_0 => k_is)
    (case cl3 => k_is)
    (case mo3 => k_is)
    (case ki3_int => first | rfl | k_is)
    (case ki3_bool => first | rfl | k_is)
    (case ki3_str => first | rfl | k_is)
    (case ki3_list => first | rfl | k_is)
    (case ki3_tuple => first | rfl | k_is)
    (case kj3_NoneType => first | rfl | k_is)
    (case kj3_bool => first | rfl | k_is)
    (case kj3_int => first | rfl | k_is)
    (case kj3_str => first | rfl | k_is)
    (case kj3_list => first | rfl | k_is)
    (case kj3_tuple => first | rfl | k_is)
    (case kj3_dict => first | rfl | k_is)
    (case ac4 => k_is)
    (case pg4 => k_is)
    (case hd4 => k_is)
    (case po4 => k_is)
    (case sa4 => k_is)
    (case n4_0 => k_is)
    (case n4_1 => k_is)
    (case n4_2 => k_is)
    (case n4_3 => k_is)
    (case n4_4 => k_is)
    (case n4_5 => k_is)
    (case kc4 => k_is)
    (case mk4 => k_is)
    (case in4 => k_is)
    (case if4 => k_is)
    (case m4_0 => k_is)
    (case mf4_0 => k_is)
    (case cl4 => k_is)
    (case mo4 => k_is)
    (case ki4_int => first | rfl | k_is)
    (case ki4_bool => first | rfl | k_is)
    (case ki4_str => first | rfl | k_is)
    (case ki4_list => first | rfl | k_is)
    (case ki4_tuple => first | rfl | k_is)
    (case kj4_NoneType => first | rfl | k_is)
    (case kj4_bool => first | rfl | k_is)
    (case kj4_int => first | rfl | k_is)
    (case kj4_str => first | rfl | k_is)
    (case kj4_list => first | rfl | k_is)
    (case kj4_tuple => first | rfl | k_is)
    (case kj4_dict => first | rfl | k_is)
    (case kk0_0 => first | rfl | k_is)
    (case kk0_1 => first | rfl | k_is)
    (case kk0_2 => first | rfl | k_is)
    (case kk0_3 => first | rfl | k_is)
    (case kk0_4 => first | rfl | k_is)
    (case kk1_0 => first | rfl | k_is)
    (case kk1_1 => first | rfl | k_is)
    (case kk1_2 => first | rfl | k_is)
    (case kk1_3 => first | rfl | k_is)
    (case kk1_4 => first | rfl | k_is)
    (case kk2_0 => first | rfl | k_is)
    (case kk2_1 => first | rfl | k_is)
    (case kk2_2 => first | rfl | k_is)
    (case kk2_3 => first | rfl | k_is)
    (case kk2_4 => first | rfl | k_is)
    (case kk3_0 => first | rfl | k_is)
    (case kk3_1 => first | rfl | k_is)
    (case kk3_2 => first | rfl | k_is)
    (case kk3_3 => first | rfl | k_is)
    (case kk3_4 => first | rfl | k_is)
    (case kk4_0 => first | rfl | k_is)
    (case kk4_1 => first | rfl | k_is)
    (case kk4_2 => first | rfl | k_is)
    (case kk4_3 => first | rfl | k_is)
    (case kk4_4 => first | rfl | k_is)
    (case sp => k_is)
    (case tk => k_is)
    (case n0 => k_is)
    (case n1 => k_is)
    (case n2 => k_is)
    (case n3 => k_is)
    (case n4 => k_is)
    (case n5 => k_is)
    (case n6 => k_is)
    (case z_len => k_is)
    (case z_max => k_is)
    (case z_min => k_is)
    (case z_abs => k_is)
    (case z_sum => k_is)
    (case z_all => k_is)
    (case z_any => k_is)
    (case z_sorted => k_is)
    (case z_list => k_is)
    (case z_tuple => k_is)
    (case z_int => k_is)
    (case z_isinstance => k_is)
    (case z_range => k_is)
    (case z_enumerate => k_is)
    (case z_zip => k_is)
    (case z_set => k_is)
    (case z_bool => k_is)
    (case z_str => k_is)
    (case l17 => k_is)
    (case c17 => k_is)
    (case k17 => k_is)
    (case l18 => k_is)
    (case c18 => k_is)
    (case k18 => k_is)
    (case l19 => k_is)
    (case c19 => k_is)
    (case k19 => k_is)
    (case l20 => k_is)
    (case c20 => k_is)
    (case k20 => k_is)
    (case l21 => k_is)
    (case c21 => k_is)
    (case k21 => k_is)
    (case l22 => k_is)
    (case c22 => k_is)
    (case k22 => k_is)
    (case l23 => k_is)
    (case c23 => k_is)
    (case k23 => k_is)
