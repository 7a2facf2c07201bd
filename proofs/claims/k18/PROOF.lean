import PyProof.Rows.All
import Wide.All
import OpenK.AllK
import Wide.FinOn
import HandS.ForMost
import HandS.ForExc
import HandS.Nested
import HandS.Deep
import PyProof.NeKinds
import HandS.Dict
import HandS.DictEq
import HandS.Wide
import HandS.TupMul
import HandS.TupLe
import HandS.Style
import HandS.SortRule
import HandS.SortInts
import HandS.Zip
import HandS.Conv
import HandS.More
import HandS.CallSlots
import HandS.Exc
import HandS.ExcOwn
import HandS.IsInst
import HandS.ExcIs
import HandS.HotCalls
import HandS.Lambda
import HandS.ReHeld
import PyProof.ZipIter
import HandS.SetFor
import KE.KDictZip
import PyProof.ListRange
import PyProof.Rows.SeqMore3
import HandS.Sort
import HandS.WordsExc
import HandS.EndBits
import HandS.EndTab
import PyProof.TableCode
import PySem.Challenge.RW_laterletters_k18_promises_by_hand
set_option Elab.async false
set_option linter.all false
set_option maxRecDepth 100000
namespace MP
open PySem L2

/-- a list that is known to stand still: ours, lent by a caller, the script -/
inductive Fz where
  | own | bor | scr
  deriving DecidableEq
abbrev MKey := Sum Int Nat
inductive Val where
  | non | bl (b : Bool) | int (i : Int) | str (n : Nat)
  | tup (vs : List Val)
  | lst (c : Fz) (vs : List Val)
  | dct (c : Fz) (ks : List MKey) (vs : List Val)
  | obj (c : Fz) (k : Nat) (fs : List Nat) (vs : List Val)
  | ref (i : Nat)
  | err (k : Nat)
  | clo (l : Nat) (caps : List Val)
instance : Inhabited Val := ⟨.non⟩
inductive Ob where
  | lst (vs : List Val)
  | dct (ks : List MKey) (vs : List Val)
  | ins (k : Nat) (fs : List Nat) (vs : List Val)
  | dead
abbrev Hm := List Ob
abbrev En := List (Option Val)

/-- what comes out -/
inductive R (α : Type) where
  | ok (a : α) (h : Hm)
  | exc (k : Nat) (h : Hm)
  | bad
def R.bind {α β : Type} (r : R α) (f : α → Hm → R β) : R β := match r with
  | .ok a h => f a h
  | .exc k h => .exc k h
  | .bad => .bad
def R.of {α : Type} (o : Option α) (h : Hm) : R α := match o with
  | some a => .ok a h
  | none => .bad

mutual
def deep (lk : Nat → Option Val) : Val → Option Val
  | .tup vs => match deepL lk vs with | some ws => some (.tup ws) | none => none
  | .lst c vs => match deepL lk vs with | some ws => some (.lst c ws) | none => none
  | .dct c ks vs => match deepL lk vs with | some ws => some (.dct c ks ws) | none => none
  | .obj c k fs vs => match deepL lk vs with | some ws => some (.obj c k fs ws) | none => none
  | .ref i => lk i
  | .non => some .non
  | .bl b => some (.bl b)
  | .int i => some (.int i)
  | .str n => some (.str n)
  | .err k => some (.err k)
  | .clo _ _ => none
def deepL (lk : Nat → Option Val) : List Val → Option (List Val)
  | [] => some []
  | v :: vs => match deep lk v with
    | some w => match deepL lk vs with
      | some ws => some (w :: ws)
      | none => none
    | none => none
end
/-- references followed, but never to e -/
def followX (e : Nat) : Nat → Fz → Hm → Nat → Option Val
  | 0, _, _, _ => none
  | n + 1, c, h, i => if i = e then none else match h[i]? with
    | some (.lst vs) => match deepL (followX e n c h) vs with | some ws => some (.lst c ws) | none => none
    | some (.dct ks vs) => match deepL (followX e n c h) vs with | some ws => some (.dct c ks ws) | none => none
    | some (.ins k fs vs) => match deepL (followX e n c h) vs with | some ws => some (.obj c k fs ws) | none => none
    | some .dead => none
    | none => none
def follow : Nat → Fz → Hm → Nat → Option Val
  | 0, _, _, _ => none
  | n + 1, c, h, i => match h[i]? with
    | some (.lst vs) => match deepL (follow n c h) vs with | some ws => some (.lst c ws) | none => none
    | some (.dct ks vs) => match deepL (follow n c h) vs with | some ws => some (.dct c ks ws) | none => none
    | some (.ins k fs vs) => match deepL (follow n c h) vs with | some ws => some (.obj c k fs ws) | none => none
    | some .dead => none
    | none => none
/-- as it is now, lent -/
def snap (h : Hm) (v : Val) : Option Val := deep (follow 9 .bor h) v
def snapL (h : Hm) (vs : List Val) : Option (List Val) := deepL (follow 9 .bor h) vs
/-- as it is now, for ever -/
def froz (h : Hm) (v : Val) : Option Val := deep (follow 9 .own h) v
mutual
/-- nothing lent, nothing that may change -/
def clean : Val → Bool
  | .tup vs => cleanL vs
  | .lst c vs => decide (c ≠ .bor) && cleanL vs
  | .dct c _ vs => decide (c ≠ .bor) && cleanL vs
  | .obj c _ _ vs => decide (c ≠ .bor) && cleanL vs
  | .ref _ => false
  | .clo _ _ => false
  | _ => true
def cleanL : List Val → Bool
  | [] => true
  | v :: vs => clean v && cleanL vs
end
mutual
/-- no reference within -/
def closed : Val → Bool
  | .tup vs => closedL vs
  | .lst _ vs => closedL vs
  | .dct _ _ vs => closedL vs
  | .obj _ _ _ vs => closedL vs
  | .ref _ => false
  | .clo _ _ => false
  | _ => true
def closedL : List Val → Bool
  | [] => true
  | v :: vs => closed v && closedL vs
end

mutual
def eqV : Val → Val → Bool
  | .non, .non => true
  | .bl a, .bl b => a == b
  | .bl a, .int j => (if a then 1 else 0) == j
  | .int i, .bl b => i == (if b then 1 else 0)
  | .int i, .int j => i == j
  | .str x, .str y => x == y
  | .lst _ xs, .lst _ ys => eqVs xs ys
  | .tup xs, .tup ys => eqVs xs ys
  | _, _ => false
def eqVs : List Val → List Val → Bool
  | [], [] => true
  | x :: xs, y :: ys => eqV x y && eqVs xs ys
  | _, _ => false
end
/-- data of at most so many levels: no dicts, no objects -/
def isData : Nat → Val → Bool
  | _, .non => true
  | _, .bl _ => true
  | _, .int _ => true
  | _, .str _ => true
  | n + 1, .tup vs => vs.all (isData n)
  | n + 1, .lst _ vs => vs.all (isData n)
  | _, _ => false
/-- a dict and a text -/
def isDS : Val → Val → Bool
  | .dct _ _ _, .str _ => true
  | _, _ => false
def eqM (h : Hm) (x y : Val) : Option Bool := match snap h x with
  | some a => match snap h y with
    | some b => if isData 30 a && isData 30 b then some (eqV a b) else if isDS a b then some false else none
    | none => none
  | none => none
/-- None, bools, ints, texts -/
def flat : Val → Bool
  | .non => true
  | .bl _ => true
  | .int _ => true
  | .str _ => true
  | _ => false

def big : Nat := 1000000

def lstOf (h : Hm) : Val → Option (List Val)
  | .lst _ vs => some vs
  | .ref i => match h[i]? with | some (.lst vs) => some vs | _ => none
  | _ => none
def seqOf (h : Hm) : Val → Option (List Val)
  | .tup vs => some vs
  | .lst _ vs => some vs
  | .ref i => match h[i]? with | some (.lst vs) => some vs | _ => none
  | _ => none
/-- a list other than the script -/
def catOf (h : Hm) : Val → Option (List Val)
  | .lst .own vs => some vs
  | .lst .bor vs => some vs
  | .ref i => match h[i]? with | some (.lst vs) => some vs | _ => none
  | _ => none
def dctOf (h : Hm) : Val → Option (List MKey × List Val)
  | .dct _ ks vs => some (ks, vs)
  | .ref i => match h[i]? with | some (.dct ks vs) => some (ks, vs) | _ => none
  | _ => none
def insOf (h : Hm) : Val → Option (Nat × List Nat × List Val)
  | .obj _ k fs vs => some (k, fs, vs)
  | .ref i => match h[i]? with | some (.ins k fs vs) => some (k, fs, vs) | _ => none
  | _ => none
def intOf : Val → Option Int
  | .int i => some i
  | _ => none
def intsOf : List Val → Option (List Int)
  | [] => some []
  | .int i :: vs => match intsOf vs with | some r => some (i :: r) | none => none
  | _ :: _ => none
def blsOf : List Val → Option (List Bool)
  | [] => some []
  | .bl b :: vs => match blsOf vs with | some r => some (b :: r) | none => none
  | _ :: _ => none
def keyOf : Val → Option MKey
  | .int i => some (.inl i)
  | .str n => some (.inr n)
  | _ => none
def assoc {κ : Type} [DecidableEq κ] : List κ → List Val → κ → Option Val
  | k :: ks, v :: vs, x => if k = x then some v else assoc ks vs x
  | _, _, _ => none
def assocPut {κ : Type} [DecidableEq κ] : List κ → List Val → κ → Val → List κ × List Val
  | k :: ks, v :: vs, x, y => if k = x then (k :: ks, y :: vs) else ((k :: (assocPut ks vs x y).1), (v :: (assocPut ks vs x y).2))
  | _, _, x, y => ([x], [y])
def replK {κ : Type} [DecidableEq κ] : List κ → List Val → κ → Val → List Val
  | k :: ks, v :: vs, x, y => (if k = x then y else v) :: replK ks vs x y
  | _, _, _, _ => []
def dctPut (ks : List MKey) (vs : List Val) (x : MKey) (y : Val) : List MKey × List Val :=
  if (ks.any fun q => decide (q = x)) = true then (ks, replK ks vs x y) else (ks ++ [x], vs ++ [y])
/-- a new list: frozen (z), or at the next address -/
def mkL (z : Bool) (vs : List Val) (h : Hm) : R Val := if z then .ok (.lst .own vs) h else .ok (.ref h.length) (h ++ [.lst vs])

inductive BOp where
  | add | sub | mul | fdiv | mod | pow
  deriving DecidableEq
inductive COp where
  | eq | ne | lt | le | gt | ge | is | isn | inn | nin
  deriving DecidableEq
def repL : Nat → List Val → List Val
  | 0, _ => []
  | n + 1, vs => vs ++ repL n vs
def binI : BOp → Int → Int → Option Int
  | .add, i, j => some (i + j)
  | .sub, i, j => some (i - j)
  | .mul, i, j => if i.natAbs.log2 + j.natAbs.log2 < 100000000 then some (i * j) else none
  | .fdiv, i, j => if 0 < j ∧ j < 1000000000 then some (i / j) else none
  | .mod, i, j => if 0 < j then some (i % j) else none
  | .pow, i, j => if 0 ≤ j ∧ j ≤ 1000 ∧ i.natAbs < 1000 then some (i ^ j.toNat) else none
def binM (z : Bool) (o : BOp) (x y : Val) (h : Hm) : R Val := match x, y with
  | .int i, .int j => match binI o i j with | some k => .ok (.int k) h | none => .bad
  | .tup vs, .tup ws => match o with
    | .add => if vs.length ≠ 0 ∧ vs.length + ws.length ≤ big then .ok (.tup (vs ++ ws)) h else .bad
    | _ => .bad
  | .tup vs, .int k => match o with
    | .mul => if vs.length ≠ 0 ∧ 2 ≤ k ∧ k ≤ 1000 ∧ vs.length ≤ 1000 then .ok (.tup (repL k.toNat vs)) h else .bad
    | _ => .bad
  | x, .int k => match o, catOf h x with
    | .mul, some vs => if 0 ≤ k ∧ k ≤ 1000000 ∧ vs.length * k.toNat ≤ big then mkL z (repL k.toNat vs) h else .bad
    | _, _ => .bad
  | x, y => match o, catOf h x, catOf h y with
    | .add, some vs, some ws => if vs.length + ws.length ≤ big then mkL z (vs ++ ws) h else .bad
    | _, _, _ => .bad
def lexL : List Int → List Int → Bool
  | [], [] => false
  | [], _ :: _ => true
  | _ :: _, [] => false
  | x :: xs, y :: ys => if x = y then lexL xs ys else decide (x < y)
def ordI : COp → Int → Int → Option Bool
  | .lt, i, j => some (decide (i < j))
  | .le, i, j => some (decide (i ≤ j))
  | .gt, i, j => some (decide (j < i))
  | .ge, i, j => some (decide (j ≤ i))
  | _, _, _ => none
def ordM (o : COp) (x y : Val) : Option Bool := match x, y with
  | .int i, .int j => ordI o i j
  | .tup vs, .tup ws => match intsOf vs, intsOf ws with
    | some is, some js => match o with
      | .lt => some (lexL is js)
      | .ge => if is.length = js.length then some (!lexL is js) else none
      | _ => none
    | _, _ => none
  | _, _ => none
def isM (x y : Val) : Option Bool := match y with
  | .non => match x with
    | .non => some true
    | .clo _ _ => none
    | .err _ => none
    | _ => some false
  | .bl b => match x with | .bl a => some (a == b) | .non => some false | _ => none
  | _ => none
def inM (h : Hm) (x y : Val) : Option Bool := match seqOf h y with
  | some vs => if flat x && vs.all flat then some (vs.any fun v => eqV v x) else
      match snap h x, snapL h vs with
      | some a, some ws => if isData 29 a && ws.all (isData 29) then some (ws.any fun w => eqV w a) else none
      | _, _ => none
  | none => match dctOf h y with
    | some (ks, _) => match keyOf x with
      | some k => some (ks.any fun q => decide (q = k))
      | none => none
    | none => none
def cmpM (o : COp) (h : Hm) (x y : Val) : Option Bool := match o with
  | .eq => eqM h x y
  | .ne => (eqM h x y).map (!·)
  | .is => isM x y
  | .isn => (isM x y).map (!·)
  | .inn => inM h x y
  | .nin => (inM h x y).map (!·)
  | o => ordM o x y

def cutM (vs : List Val) (lo hi : Option Int) : List Val := (vs.drop (HT.sIx vs.length 0 lo)).take (HT.sIx vs.length vs.length hi - HT.sIx vs.length 0 lo)
def idxM (x i : Val) (h : Hm) : R Val := match i with
  | .int j => match seqOf h x with
    | some vs => match atI vs j with | some v => .ok v h | none => .bad
    | none => .bad
  | .str n => match dctOf h x with
    | some (ks, vs) => match assoc ks vs (.inr n) with | some v => .ok v h | none => .bad
    | none => .bad
  | _ => .bad
def slcM (z : Bool) (x : Val) (lo hi : Option Int) (h : Hm) : R Val := match x with
  | .tup vs => if HT.sIx vs.length 0 lo = 0 ∧ HT.sIx vs.length vs.length hi = vs.length then .bad else .ok (.tup (cutM vs lo hi)) h
  | x => match lstOf h x with
    | some vs => mkL z (cutM vs lo hi) h
    | none => .bad
def fldM (x : Val) (f : Nat) (h : Hm) : R Val := match insOf h x with
  | some (_, fs, vs) => match assoc fs vs f with | some v => .ok v h | none => .bad
  | none => .bad

inductive Ty where
  | int | bool | str | list | tuple | cls (k : Nat) | exn (k : Nat) | ve
  deriving DecidableEq
/-- what an error is one of: by the classes above its own -/
def isiE (sup : Nat → List Nat) (k : Nat) : Ty → Bool
  | .exn j => (sup k).contains j
  | .ve => true
  | _ => false
/-- sup k: the own classes that k is one of (with itself) -/
def isiM (sup : Nat → List Nat) (h : Hm) (v : Val) (t : Ty) : Option Bool := match v with
  | .non => some false
  | .bl _ => some (decide (t = .int ∨ t = .bool))
  | .int _ => some (decide (t = .int))
  | .str _ => some (decide (t = .str))
  | .tup _ => some (decide (t = .tuple))
  | .lst _ _ => some (decide (t = .list))
  | .dct _ _ _ => some false
  | .obj _ k _ _ => some (match t with | .cls j => (sup k).contains j | _ => false)
  | .ref i => match h[i]? with
    | some (.lst _) => some (decide (t = .list))
    | some (.dct _ _) => some false
    | some (.ins k _ _) => some (match t with | .cls j => (sup k).contains j | _ => false)
    | some .dead => none
    | none => none
  | .err _ => none
  | .clo _ _ => none

def insI (x : Int) : List Int → List Int
  | [] => [x]
  | y :: ys => if x ≤ y then x :: y :: ys else y :: insI x ys
def sortI : List Int → List Int
  | [] => []
  | x :: xs => insI x (sortI xs)
def nubI : List Int → List Int
  | [] => []
  | x :: xs => if xs.contains x then nubI xs else x :: nubI xs
/-- x before y: by the first of two ints, then by the second -/
def ltPr (p q : Int × Int) : Bool := if p.1 = q.1 then decide (p.2 < q.2) else decide (p.1 < q.1)
def insP {α : Type} (k : α → Int × Int) (x : α) : List α → List α
  | [] => [x]
  | y :: ys => if ltPr (k y) (k x) then y :: insP k x ys else x :: y :: ys
def sortP {α : Type} (k : α → Int × Int) : List α → List α
  | [] => []
  | x :: xs => insP k x (sortP k xs)
def pairOf : Val → Int × Int
  | .tup [.int i, .int j] => (i, j)
  | _ => (0, 0)
def isPair : Val → Bool
  | .tup [.int _, .int _] => true
  | _ => false
/-- a tuple with a whole number ahead -/
def isTf : Val → Bool
  | .tup (.int _ :: _) => true
  | _ => false
def fstI : Val → Int
  | .tup (.int i :: _) => i
  | _ => 0
/-- a tuple with two whole numbers ahead -/
def isTt : Val → Bool
  | .tup (.int _ :: .int _ :: _) => true
  | _ => false
def fst2 : Val → Int × Int
  | .tup (.int i :: .int j :: _) => (i, j)
  | _ => (0, 0)
def sortM (vs : List Val) : Option (List Val) := match intsOf vs with
  | some is => some ((sortI is).map .int)
  | none => if vs.all isPair then some (sortP pairOf vs) else if vs.all isTf && decide (vs.map fstI).Nodup then some (sortP (fun v => (fstI v, 0)) vs)
    else if vs.all isTt && decide (vs.map fst2).Nodup then some (sortP fst2 vs) else none
def maxI : List Int → Option Int
  | [] => none
  | [x] => some x
  | x :: xs => match maxI xs with | some y => some (if y < x then x else y) | none => none
inductive BI where
  | len | max1 | max2 | min2 | abs | sum | all | any | sorted | list | tuple | toInt
  | sortedSet | lenSet | listRng | listZip
  deriving DecidableEq
def biM (b : BI) (z : Bool) (vs : List Val) (h : Hm) : R Val := match b, vs with
  | .len, [x] => match seqOf h x with
    | some ws => .ok (.int ws.length) h
    | none => .bad
  | .max1, [x] => match lstOf h x with
    | some ws => match intsOf ws with
      | some is => match maxI is with | some m => .ok (.int m) h | none => .bad
      | none => .bad
    | none => .bad
  | .max2, [.int i, .int j] => .ok (.int (if j > i then j else i)) h
  | .min2, [.int i, .int j] => .ok (.int (if j < i then j else i)) h
  | .abs, [.int i] => .ok (.int (if i < 0 then -i else i)) h
  | .sum, [x] => match lstOf h x with
    | some ws => match intsOf ws with | some is => .ok (.int is.sum) h | none => .bad
    | none => .bad
  | .all, [x] => match lstOf h x with
    | some ws => match blsOf ws with | some bs => .ok (.bl (bs.all id)) h | none => .bad
    | none => .bad
  | .any, [x] => match lstOf h x with
    | some ws => match blsOf ws with | some bs => .ok (.bl (bs.any id)) h | none => .bad
    | none => .bad
  | .sorted, [x] => match lstOf h x with
    | some ws => match sortM ws with | some r => mkL z r h | none => .bad
    | none => .bad
  | .list, [x] => match seqOf h x with
    | some ws => mkL z ws h
    | none => .bad
  | .tuple, [x] => match lstOf h x with
    | some ws => .ok (.tup ws) h
    | none => .bad
  | .toInt, [.bl b] => .ok (.int (if b then 1 else 0)) h
  | .toInt, [.int i] => .ok (.int i) h
  | .sortedSet, [x] => match lstOf h x with
    | some ws => match intsOf ws with
      | some is => if is.length < 64 then mkL z ((sortI (nubI is)).map .int) h else .bad
      | none => .bad
    | none => .bad
  | .lenSet, [x] => match lstOf h x with
    | some ws => match intsOf ws with
      | some is => if is.length < 64 then .ok (.int (nubI is).length) h else .bad
      | none => .bad
    | none => .bad
  | .listZip, [x, y] => match lstOf h x with
    | some vs => match lstOf h y with
      | some ws => mkL z ((vs.zip ws).map fun p => .tup [p.1, p.2]) h
      | none => .bad
    | none => .bad
  | .listRng, [.int i, .int j] => if 0 ≤ i ∧ i ≤ 1000000 ∧ 0 ≤ j ∧ j ≤ 1000000 then mkL z ((List.range (j - i).toNat).map fun n => .int (i + (n : Nat))) h else .bad
  | .listRng, [.int j] => if 0 ≤ j ∧ j ≤ 1000000 then mkL z ((List.range j.toNat).map fun n => .int (n : Nat)) h else .bad
  | _, _ => .bad
inductive MI where
  | append | extend | pop | reverse | clear | index | count | get
  deriving DecidableEq
/-- what has such a method -/
def methK (m : MI) (h : Hm) (x : Val) : Bool := match m with
  | .get => (dctOf h x).isSome
  | _ => (lstOf h x).isSome
def findI (x : Val) : List Val → Option Nat
  | [] => none
  | v :: vs => if eqV v x then some 0 else match findI x vs with | some n => some (n + 1) | none => none
def methM (m : MI) (x : Val) (as : List Val) (h : Hm) : R Val := match m, as with
  | .append, [y] => match x with
    | .ref i => match h[i]? with
      | some (.lst vs) => if vs.length < big then .ok .non (h.set i (.lst (vs ++ [y]))) else .bad
      | _ => .bad
    | _ => .bad
  | .extend, [y] => match x with
    | .ref i => match h[i]?, catOf h y with
      | some (.lst vs), some ws => if vs.length + ws.length ≤ big then .ok .non (h.set i (.lst (vs ++ ws))) else .bad
      | _, _ => .bad
    | _ => .bad
  | .pop, [] => match x with
    | .ref i => match h[i]? with
      | some (.lst vs) => match vs.getLast? with
        | some y => .ok y (h.set i (.lst vs.dropLast))
        | none => .bad
      | _ => .bad
    | _ => .bad
  | .reverse, [] => match x with
    | .ref i => match h[i]? with
      | some (.lst vs) => .ok .non (h.set i (.lst vs.reverse))
      | _ => .bad
    | _ => .bad
  | .clear, [] => match x with
    | .ref i => match h[i]? with
      | some (.lst _) => .ok .non (h.set i (.lst []))
      | _ => .bad
    | _ => .bad
  | .index, [y] => match lstOf h x with
    | some vs => if flat y && vs.all flat then (match findI y vs with | some n => .ok (.int n) h | none => .bad) else .bad
    | none => .bad
  | .count, [y] => match lstOf h x with
    | some vs => if flat y && vs.all flat then .ok (.int ((vs.filter fun v => eqV v y).length : Nat)) h else .bad
    | none => .bad
  | .get, [y] => match dctOf h x, keyOf y with
    | some (ks, vs), some k => .ok ((assoc ks vs k).getD .non) h
    | _, _ => .bad
  | _, _ => .bad

/-- how a def is called: as it stands; by values alone; the same, the list is ours -/
inductive Md where
  | din
  | dir | pur | top
  deriving DecidableEq
inductive Pat where
  | nm (i : Nat)
  | tp (q : Pat)
  | nil
  | cons (p q : Pat)
inductive C where
  | var (i : Nat) | cst (v : Val)
  | bin (z : Bool) (o : BOp) (a b : C) | neg (a : C)
  | cmp (o : COp) (a b : C) | cmp2 (o p : COp) (a b c : C) | cmp3 (o p q : COp) (a b c d : C)
  | not (a : C) | and (a b : C) | or (a b : C) | ite (t a b : C)
  | idx (a i : C) | slc (z : Bool) (a lo hi : C) | rev (z : Bool) (a : C)
  | fld (a : C) (f : Nat)
  | nil | cons (a b : C) | omit | part (a : C)
  | tup (as : C) | lst (z : Bool) (as : C) | dct (ks : List MKey) (as : C)
  | call (z : Md) (f : Nat) (as : C)
  | bi (b : BI) (z : Bool) (as : C)
  | meth (m : MI) (o as : C)
  | ocall (z : Md) (m : Nat) (o as : C)
  | new (k : Nat) (as : C)
  | comp (z : Bool) (own : List Nat) (p : Pat) (it cd e : C)
  | isi (a : C) (t : Ty)
  | lam (l : Nat) | callv (i : Nat) (as : C)
  | slcS (z : Bool) (a lo st : C) | inR (n : Bool) (x as : C)
  | iSeq (a : C) | iRng (as : C) | iEnum (a : C) | iZip (as : C)
  | mapC (z : Bool) (own : List Nat) (p : Pat) (it : C) (f : Nat) (as : C)
inductive S where
  | nil | seq (a b : S) | pass
  | asg (p : Pat) (e : C)
  | par (ps : List Nat) (as : C)
  | setI (o i e : C) | setF (o : C) (f : Nat) (e : C)
  | aug (i : Nat) (o : BOp) (e : C) | augF (x : C) (f : Nat) (o : BOp) (e : C)
  | ex (e : C)
  | ite (c : C) (a b : S) | loop (p : Pat) (it : C) (b : S) | whl (c : C) (b : S)
  | ret (e : C) | retN | rais (k : Nat)
  | tryX (b : S) (k i j : Nat) | tryN (b : S) (k : Nat) (hd : S)

inductive Src where
  | stat (vs : List Val)
  | live (i : Nat)
  | enum (s : Src)
  | zip (s t : Src)
  | zip3 (s t u : Src)
def Src.len (h : Hm) : Src → Option Nat
  | .stat vs => some vs.length
  | .live i => match h[i]? with | some (.lst vs) => some vs.length | _ => none
  | .enum s => s.len h
  | .zip s t => match s.len h, t.len h with | some a, some b => some (min a b) | _, _ => none
  | .zip3 s t u => match s.len h, t.len h, u.len h with | some a, some b, some c => some (min a (min b c)) | _, _, _ => none
def Src.at (h : Hm) (k : Nat) : Src → Option Val
  | .stat vs => vs[k]?
  | .live i => match h[i]? with | some (.lst vs) => vs[k]? | _ => none
  | .enum s => match s.at h k with | some v => some (.tup [.int k, v]) | none => none
  | .zip s t => match s.at h k, t.at h k with | some a, some b => some (.tup [a, b]) | _, _ => none
  | .zip3 s t u => match s.at h k, t.at h k, u.at h k with | some a, some b, some c => some (.tup [a, b, c]) | _, _, _ => none
def srcOf (h : Hm) : Val → Option Src
  | .tup vs => some (.stat vs)
  | .lst _ vs => some (.stat vs)
  | .ref i => match h[i]? with | some (.lst _) => some (.live i) | _ => none
  | _ => none
def rngM : List Val → Option Src
  | [.int j] => if -1000000 ≤ j ∧ j ≤ 1000000 then some (.stat ((List.range j.toNat).map fun n => .int (n : Nat))) else none
  | [.int i, .int j] => if -1000000 ≤ i ∧ i ≤ 1000000 ∧ -1000000 ≤ j ∧ j ≤ 1000000 then some (.stat ((List.range (j - i).toNat).map fun n => .int (i + (n : Nat)))) else none
  | [.int i, .int j, .int c] => if 0 ≤ i ∧ i ≤ 1000000 ∧ 0 ≤ j ∧ j ≤ 1000000 ∧ 0 < c ∧ c ≤ 1000 then some (.stat ((List.range ((j - i + c - 1) / c).toNat).map fun n => .int (i + (n : Nat) * c))) else none
  | _ => none
def isTup : Val → Bool
  | .tup _ => true
  | _ => false
def zipM (h : Hm) : List Val → Option Src
  | [a, b] => if isTup a = isTup b then (match srcOf h a, srcOf h b with | some s, some t => some (.zip s t) | _, _ => none) else none
  | [a, b, c] => if isTup a || isTup b || isTup c then none else (match srcOf h a, srcOf h b, srcOf h c with | some s, some t, some u => some (.zip3 s t u) | _, _, _ => none)
  | _ => none

mutual
def bindP : Pat → Val → En → Option En
  | .nm i, v, e => if i < e.length then some (e.set i (some v)) else none
  | .tp q, v, e => match v with
    | .tup vs => bindPs q vs e
    | _ => none
  | .nil, _, _ => none
  | .cons _ _, _, _ => none
def bindPs : Pat → List Val → En → Option En
  | .nil, vs, e => match vs with | [] => some e | _ => none
  | .cons p q, vs, e => match vs with
    | v :: vs => match bindP p v e with | some e' => bindPs q vs e' | none => none
    | [] => none
  | .nm _, _, _ => none
  | .tp _, _, _ => none
end
def wipeM (e : En) : List Nat → En
  | [] => e
  | v :: vs => (wipeM e vs).set v none

/-- a lambda: its number, how many parameters, the owner's slots that it captures, its code -/
abbrev Lm := Nat × Nat × List Nat × C
/-- lambdas of the frames that run: each frame's own, and its names; the last one first -/
abbrev Fr := List (Nat × List Lm × En)
abbrev CallF := Nat → List Val → Hm → Fr → R Val
/-- the tables: an own class's __init__, its methods, what it is one of, what an error is one of -/
structure Tab where
  init : Nat → Option Nat
  meth : Nat → Nat → Option Nat
  sup : Nat → List Nat
  esup : Nat → List Nat
  /-- what the handler's def tells of an error -/
  wh : Nat → Option Int
  /-- the words for an error: of which class it must be, the word -/
  wrd : List (Nat × Nat) := []
def Tab.wd (T : Tab) (c : Nat) : Option Nat := (T.wrd.find? fun p => (T.esup c).contains p.1).map (·.2)
/-- what a block knows of lambdas: how one of another frame is called; the frames that its callees see -/
structure LC where
  id : Nat
  lam : Nat → List Val → List Val → Hm → R Val
  push : En → Fr
/-- a call of a def that is told by its values alone: what is handed in is lent, what comes out is ours -/
def pureM (cl : CallF) (f : Nat) (vs : List Val) (h : Hm) : R Val := match snapL h vs with
  | some ws => match cl f ws [] [] with
    | .ok v h' => match froz h' v with
      | some t => if clean t then .ok t h else .bad
      | none => .bad
    | .exc k _ => .exc k h
    | .bad => .bad
  | none => .bad
/-- the same, but the list that comes out may be changed (what is in it may not) -/
def topM (cl : CallF) (f : Nat) (vs : List Val) (h : Hm) : R Val := match snapL h vs with
  | some ws => match cl f ws [] [] with
    | .ok (.ref i) h' => match h'[i]? with
      | some (.lst us) => match deepL (followX i 9 .own h') us with
        | some ts => if cleanL ts then .ok (.ref h.length) (h ++ [.lst ts]) else .bad
        | none => .bad
      | _ => .bad
    | .exc k _ => .exc k h
    | _ => .bad
  | none => .bad
def callM (cl : CallF) (z : Md) (f : Nat) (vs : List Val) (h : Hm) (fr : Fr) : R Val := match z with
  | .dir => cl f vs h fr
  | .din => cl f vs h []
  | .pur => pureM cl f vs h
  | .top => topM cl f vs h
def clsOf (h : Hm) (v : Val) : Option Nat := match insOf h v with | some (k, _, _) => some k | none => none
def newM (T : Tab) (cl : CallF) (k : Nat) (vs : List Val) (h : Hm) : R Val := match T.init k with
  | none => if vs.length = 0 then .ok (.ref h.length) (h ++ [.ins k [] []]) else .bad
  | some f => match cl f (.ref h.length :: vs) (h ++ [.ins k [] []]) [] with
    | .ok .non h' => .ok (.ref h.length) h'
    | .exc k h' => .exc k h'
    | _ => .bad
/-- the loop of a comprehension: rem turns of n are left, acc is made so far -/
def compM (turn : Val → Hm → R (Option Val)) (s : Src) (n : Nat) : Nat → List Val → Hm → R (List Val)
  | 0, acc, h => match s.len h with | some m => if m = n then .ok acc h else .bad | none => .bad
  | rem + 1, acc, h => match s.len h with
    | some m => if m = n then (match s.at h (n - (rem + 1)) with
      | some v => match turn v h with
        | .ok (some w) h' => compM turn s n rem (acc ++ [w]) h'
        | .ok none h' => compM turn s n rem acc h'
        | .exc _ _ => .bad
        | .bad => .bad
      | none => .bad) else .bad
    | none => .bad

/-- x[lo::st] of a list -/
def everyM {α : Type} (xs : List α) (lo st : Int) : List α :=
  (sliceRange (sliceBounds (some lo) none (some st) xs.length).1 (sliceBounds (some lo) none (some st) xs.length).2.1 (sliceBounds (some lo) none (some st) xs.length).2.2).filterMap (xs[·]?)
def slcSM (z : Bool) (x : Val) (lo st : Int) (h : Hm) : R Val := match lstOf h x with
  | some vs => if 1 ≤ st then mkL z (everyM vs lo st) h else .bad
  | none => .bad
/-- a display's end: the dict stood empty at i while its values were made -/
def dspM (ks : List MKey) (i : Nat) (vs : List Val) (h : Hm) : R Val := match h[i]? with
  | some (.dct [] []) => if vs.length = ks.length then .ok (.ref i) (h.set i (.dct ks vs)) else .bad
  | _ => .bad
/-- i in range(..) -/
def inRM : List Val → Int → Option Bool
  | [.int j], i => some (decide (0 ≤ i) && decide (i < j))
  | _, _ => none
section
variable (T : Tab) (cl : CallF) (L : LC)
mutual
def evE : C → En → Hm → R Val
  | .var i, e, h => match e[i]? with | some (some v) => .ok v h | _ => .bad
  | .cst v, _, h => .ok v h
  | .bin z o a b, e, h => (evE a e h).bind fun x h => (evE b e h).bind fun y h => binM z o x y h
  | .neg a, e, h => (evE a e h).bind fun x h => match x with | .int i => .ok (.int (-i)) h | _ => .bad
  | .cmp o a b, e, h => (evE a e h).bind fun x h => (evE b e h).bind fun y h => match cmpM o h x y with | some r => .ok (.bl r) h | none => .bad
  | .cmp2 o p a b c, e, h => (evE a e h).bind fun x h => (evE b e h).bind fun y h => match cmpM o h x y with
    | some true => (evE c e h).bind fun w h => match cmpM p h y w with | some r => .ok (.bl r) h | none => .bad
    | some false => .ok (.bl false) h
    | none => .bad
  | .cmp3 o p q a b c d, e, h => (evE a e h).bind fun x h => (evE b e h).bind fun y h => match cmpM o h x y with
    | some true => (evE c e h).bind fun w h => match cmpM p h y w with
      | some true => (evE d e h).bind fun u h => match cmpM q h w u with | some r => .ok (.bl r) h | none => .bad
      | some false => .ok (.bl false) h
      | none => .bad
    | some false => .ok (.bl false) h
    | none => .bad
  | .not a, e, h => (evE a e h).bind fun x h => match x with | .bl b => .ok (.bl (!b)) h | _ => .bad
  | .and a b, e, h => (evE a e h).bind fun x h => match x with
    | .bl true => evE b e h
    | .bl false => .ok (.bl false) h
    | _ => .bad
  | .or a b, e, h => (evE a e h).bind fun x h => match x with
    | .bl true => .ok (.bl true) h
    | .bl false => evE b e h
    | _ => .bad
  | .ite t a b, e, h => (evE t e h).bind fun x h => match x with
    | .bl true => evE a e h
    | .bl false => evE b e h
    | _ => .bad
  | .idx a i, e, h => (evE a e h).bind fun x h => (evE i e h).bind fun y h => idxM x y h
  | .slc z a lo hi, e, h => (evE a e h).bind fun x h => (evP lo e h).bind fun l h => (evP hi e h).bind fun u h => slcM z x l u h
  | .rev z a, e, h => (evE a e h).bind fun x h => match lstOf h x with | some vs => mkL z vs.reverse h | none => .bad
  | .fld a f, e, h => (evE a e h).bind fun x h => fldM x f h
  | .tup as, e, h => (evA as e h).bind fun vs h => if vs.length ≤ big then .ok (.tup vs) h else .bad
  | .lst z as, e, h => (evA as e h).bind fun vs h => if vs.length ≤ big then mkL z vs h else .bad
  | .dct ks as, e, h => (evA as e (h ++ [.dct [] []])).bind fun vs h2 => dspM ks h.length vs h2
  | .call z f as, e, h => (evA as e h).bind fun vs h => callM cl z f vs h (L.push e)
  | .bi b z as, e, h => (evA as e h).bind fun vs h => biM b z vs h
  | .meth m o as, e, h => (evE o e h).bind fun x h => if methK m h x then (evA as e h).bind fun vs h => methM m x vs h else .bad
  | .ocall z m o as, e, h => (evE o e h).bind fun x h => match clsOf h x with
    | some k => match T.meth k m with
      | some f => (evA as e h).bind fun vs h => callM cl z f (x :: vs) h []
      | none => .bad
    | none => .bad
  | .new k as, e, h => (evA as e h).bind fun vs h => newM T cl k vs h
  | .comp z own p it cd x, e, h => (evI it e h).bind fun s h => match s.len h with
    | some n => (compM (fun v h => match bindP p v (wipeM e own) with
        | some e' => (evE cd e' h).bind fun c h => match c with
          | .bl true => (evE x e' h).bind fun w h => .ok (some w) h
          | .bl false => .ok none h
          | _ => .bad
        | none => .bad) s n n [] h).bind fun vs h => mkL z vs h
    | none => .bad
  | .isi a t, e, h => (evE a e h).bind fun x h => match isiM T.sup h x t with | some r => .ok (.bl r) h | none => match x with
    | .err k => .ok (.bl (isiE T.esup k t)) h
    | _ => .bad
  | .lam l, _, h => .ok (.clo l [.int L.id]) h
  | .callv i as, e, h => match e[i]? with
    | some (some (.clo l cs)) => (evA as e h).bind fun vs h => L.lam l cs vs h
    | _ => .bad
  | .slcS z a lo st, e, h => (evE a e h).bind fun x h => (evE lo e h).bind fun l h => (evE st e h).bind fun u h => match l, u with
    | .int i, .int j => slcSM z x i j h
    | _, _ => .bad
  | .inR n x as, e, h => (evE x e h).bind fun v h => (evA as e h).bind fun vs h => match v with
    | .int i => match inRM vs i with | some b => .ok (.bl (if n then !b else b)) h | none => .bad
    | _ => .bad
  | .mapC z own p it f as, e, h => (evI it e h).bind fun s h => match s.len h with
    | some n => (compM (fun v h => match bindP p v (wipeM e own) with
        | some e' => ((evA as e' h).bind fun ms h => callM cl .dir f ms h (L.push e)).bind fun w h => .ok (some w) h
        | none => .bad) s n n [] h).bind fun vs h => mkL z vs h
    | none => .bad
  | _, _, _ => .bad
termination_by structural c => c
def evP : C → En → Hm → R (Option Int)
  | .omit, _, h => .ok none h
  | .part a, e, h => (evE a e h).bind fun x h => match x with | .int i => .ok (some i) h | _ => .bad
  | _, _, _ => .bad
termination_by structural c => c
def evA : C → En → Hm → R (List Val)
  | .nil, _, h => .ok [] h
  | .cons a b, e, h => (evE a e h).bind fun x h => (evA b e h).bind fun xs h => .ok (x :: xs) h
  | _, _, _ => .bad
termination_by structural c => c
def evI : C → En → Hm → R Src
  | .iSeq a, e, h => (evE a e h).bind fun x h => R.of (srcOf h x) h
  | .iRng as, e, h => (evA as e h).bind fun vs h => R.of (rngM vs) h
  | .iEnum a, e, h => (evE a e h).bind fun x h => if isTup x then .bad else match srcOf h x with | some s => .ok (.enum s) h | none => .bad
  | .iZip as, e, h => (evA as e h).bind fun vs h => R.of (zipM h vs) h
  | _, _, _ => .bad
termination_by structural c => c
end
end
inductive RS where
  | nx (e : En) (h : Hm)
  | bk (e : En) (h : Hm)
  | ct (e : En) (h : Hm)
  | rt (v : Val) (h : Hm)
  | exc (k : Nat) (e : En) (h : Hm)
  | bad
/-- an expression's end, in the names e -/
def RS.on {α : Type} (r : R α) (e : En) (f : α → Hm → RS) : RS := match r with
  | .ok a h => f a h
  | .exc k h => .exc k e h
  | .bad => .bad
/-- the next statement -/
def RS.then (r : RS) (f : En → Hm → RS) : RS := match r with
  | .nx e h => f e h
  | r => r
def setAll : List Nat → List Val → En → Option En
  | [], [], e => some e
  | i :: is, v :: vs, e => if i < e.length then setAll is vs (e.set i (some v)) else none
  | _, _, _ => none
/-- the loop of a for: rem turns of n are left -/
def forM' (turn : Val → En → Hm → RS) (s : Src) (n : Nat) : Nat → En → Hm → RS
  | 0, e, h => match s.len h with | some m => if m = n then .nx e h else .bad | none => .bad
  | rem + 1, e, h => match s.len h with
    | some m => if m = n then (match s.at h (n - (rem + 1)) with
      | some v => match turn v e h with
        | .nx e' h' => forM' turn s n rem e' h'
        | .ct e' h' => forM' turn s n rem e' h'
        | .bk e' h' => .nx e' h'
        | .rt v h' => .rt v h'
        | .exc k e' h' => .exc k e' h'
        | .bad => .bad
      | none => .bad) else .bad
    | none => .bad
/-- the loop of a while: at most so many turns -/
def whlM (test : En → Hm → R Val) (body : En → Hm → RS) : Nat → En → Hm → RS
  | 0, _, _ => .bad
  | n + 1, e, h => match test e h with
    | .ok (.bl true) h' => match body e h' with
      | .nx e' h' => whlM test body n e' h'
      | .ct e' h' => whlM test body n e' h'
      | .bk e' h' => .nx e' h'
      | .rt v h' => .rt v h'
      | .exc k e' h' => .exc k e' h'
      | .bad => .bad
    | .ok (.bl false) h' => .nx e h'
    | .exc k h' => .exc k e h'
    | _ => .bad
/-- x.f = v -/
def setFM (x : Val) (f : Nat) (v : Val) (h : Hm) : Option Hm := match x with
  | .ref i => match h[i]? with
    | some (.ins k fs vs) => if fs.length = vs.length ∧ fs.length < 900 then some (h.set i (.ins k (assocPut fs vs f v).1 (assocPut fs vs f v).2)) else none
    | _ => none
  | _ => none
/-- x[i] = v -/
def setIM (x i v : Val) (h : Hm) : Option Hm := match x with
  | .ref a => match h[a]?, i with
    | some (.lst vs), .int j => match ixN vs.length j with
      | some n => some (h.set a (.lst (vs.set n v)))
      | none => none
    | some (.dct ks vs), i => match keyOf i with
      | some k => if ks.length = vs.length ∧ ks.length < big then some (h.set a (.dct (dctPut ks vs k v).1 (dctPut ks vs k v).2)) else none
      | none => none
    | _, _ => none
  | _ => none
def fuelW : Nat := 2000
/-- a suite that tells an error's word: the slots of the error and of the list that it makes -/
def wordS : S → Option (Nat × Nat)
  | .seq (.rais i) (.rais j) => some (i, j)
  | _ => none
/-- a suite that answers one Bool -/
def retS : S → Option Bool
  | .seq (.ret (.cst (.bl v))) .nil => some v
  | _ => none
theorem retS_of {s : S} {v : Bool} (h : retS s = some v) : s = .seq (.ret (.cst (.bl v))) .nil := by
  unfold retS at h
  split at h
  · cases h; rfl
  · cases h
section
variable (T : Tab) (cl : CallF) (L : LC)
def exS : S → En → Hm → RS
  | .nil, e, h => .nx e h
  | .pass, e, h => .nx e h
  | .seq a b, e, h => (exS a e h).then fun e h => exS b e h
  | .asg p x, e, h => .on (evE T cl L x e h) e fun v h => match bindP p v e with | some e' => .nx e' h | none => .bad
  | .par is as, e, h => .on (evA T cl L as e h) e fun vs h => match setAll is vs e with | some e' => .nx e' h | none => .bad
  | .setI o i x, e, h => .on (evE T cl L x e h) e fun v h => .on (evE T cl L o e h) e fun w h => .on (evE T cl L i e h) e fun u h =>
    match setIM w u v h with | some h' => .nx e h' | none => .bad
  | .setF o f x, e, h => .on (evE T cl L x e h) e fun v h => .on (evE T cl L o e h) e fun w h => match setFM w f v h with | some h' => .nx e h' | none => .bad
  | .aug i o x, e, h => match e[i]? with
    | some (some (.int a)) => .on (evE T cl L x e h) e fun v h => match v with
      | .int b => match binI o a b with | some k => .nx (e.set i (some (.int k))) h | none => .bad
      | _ => .bad
    | _ => .bad
  | .augF x f o y, e, h => .on (evE T cl L x e h) e fun w h => match fldM w f h with
    | .ok (.int a) _ => .on (evE T cl L y e h) e fun v h2 => match v with
      | .int b => match binI o a b with
        | some k => if clsOf h w = clsOf h2 w then (match setFM w f (.int k) h2 with | some h' => .nx e h' | none => .bad) else .bad
        | none => .bad
      | _ => .bad
    | _ => .bad
  | .ex x, e, h => .on (evE T cl L x e h) e fun _ h => .nx e h
  | .ite c a b, e, h => .on (evE T cl L c e h) e fun v h => match v with
    | .bl true => exS a e h
    | .bl false => exS b e h
    | _ => .bad
  | .loop p it b, e, h => .on (evI T cl L it e h) e fun s h => match s.len h with
    | some n => forM' (fun v e h => match bindP p v e with | some e' => exS b e' h | none => .bad) s n n e h
    | none => .bad
  | .whl c b, e, h => whlM (evE T cl L c) (exS b) fuelW e h
  | .ret x, e, h => .on (evE T cl L x e h) e fun v h => .rt v h
  | .retN, _, h => .rt .non h
  | .rais k, e, h => .exc k e h
  | .tryX b k i j, e, h => match exS b e h with
    | .exc c e' h' => if (T.esup c).contains k then (match T.wh c with
        | some z => if i < e'.length then .nx ((e'.set j (some (.int z))).set i none) h' else .bad
        | none => .bad) else .exc c e' h'
    | .nx e' h' => .nx e' h'
    | .rt v h' => .rt v h'
    | _ => .bad
  | .tryN b k hd, e, h => match exS b e h with
    | .exc c e' h' => if (T.esup c).contains k then (match wordS hd with
        | some q => (match T.wd c with
          | some t => if q.1 < e'.length ∧ q.2 < e'.length then .rt (.str t) h' else .bad
          | none => .bad)
        | none => (match exS hd e' h' with
          | .nx e2 h2 => .nx e2 h2
          | .rt v h2 => .rt v h2
          | _ => .bad)) else .exc c e' h'
    | .nx e' h' => .nx e' h'
    | .rt v h' => .rt v h'
    | _ => .bad
termination_by structural s => s
end
/-- a def: its parameters' and its names' number, its body; its own lambdas -/
structure Fn where
  np : Nat
  ns : Nat
  body : S
  lams : List Lm
  tk : Bool
def RS.fin : RS → R Val
  | .nx _ h => .ok .non h
  | .rt v h => .ok v h
  | .exc k _ h => .exc k h
  | _ => .bad
/-- made by the frame n -/
def isId (n : Nat) : List Val → Bool
  | [.int i] => i == n
  | _ => false
mutual
/-- none of this frame's lambdas within -/
def lfree (n : Nat) : Val → Bool
  | .tup vs => lfreeL n vs
  | .lst _ vs => lfreeL n vs
  | .dct _ _ vs => lfreeL n vs
  | .obj _ _ _ vs => lfreeL n vs
  | .clo _ cs => !isId n cs
  | _ => true
def lfreeL (n : Nat) : List Val → Bool
  | [] => true
  | v :: vs => lfree n v && lfreeL n vs
end
def lfreeO (n : Nat) : Ob → Bool
  | .lst vs => lfreeL n vs
  | .dct _ vs => lfreeL n vs
  | .ins _ _ vs => lfreeL n vs
  | .dead => true
/-- what may hold a frame's lambdas is no more known when the frame is left -/
def scrub (n : Nat) (h : Hm) : Hm := h.map fun o => if lfreeO n o then o else .dead
def leaveM (e : Bool) (n : Nat) (r : R Val) : R Val := if e then r else match r with
  | .ok v h => if lfree n v then .ok v (scrub n h) else .bad
  | .exc k h => .exc k (scrub n h)
  | .bad => .bad
/-- a lambda of the frames that run: itself, its frame's names, the frames ahead -/
def findL (l : Nat) (cs : List Val) : Fr → Option (Lm × En × Fr)
  | [] => none
  | (n, ls, e) :: fr => if isId n cs then (match ls.find? (fun p => p.1 == l) with
    | some p => some (p, e, fr)
    | none => none) else findL l cs fr
/-- a slot's value, if any -/
def slotM (e : En) (j : Nat) : Option Val := match e[j]? with
  | some o => o
  | none => none
abbrev LamF := Nat → List Val → List Val → Hm → Fr → R Val
/-- the frames that a def sees -/
def Fn.fr (d : Fn) (fr : Fr) : Fr := if d.tk then fr else []
/-- .. and hands on -/
def Fn.lc (d : Fn) (n : Nat) (lam : LamF) (fr : Fr) : LC := ⟨n, fun l cs vs h => lam l cs vs h (d.fr fr), fun e => if d.lams.isEmpty then d.fr fr else (n, d.lams, e) :: d.fr fr⟩
/-- the defs: F i is the i-th; so deep; and lambdas -/
def runs (T : Tab) (F : Nat → Option Fn) : Nat → CallF × LamF
  | 0 => (fun _ _ _ _ => .bad, fun _ _ _ _ _ => .bad)
  | n + 1 => (fun f vs h fr => match F f with
      | some d => if vs.length = d.np ∧ d.np ≤ d.ns then
          leaveM d.lams.isEmpty (n + 1) (exS T (runs T F n).1 (d.lc (n + 1) (runs T F n).2 fr) d.body (vs.map some ++ List.replicate (d.ns - d.np) none) h).fin
        else .bad
      | none => .bad,
    fun l cs vs h fr => match findL l cs fr with
      | some (p, e, rest) => if vs.length = p.2.1 then evE T (runs T F n).1 ⟨0, fun l cs vs h => (runs T F n).2 l cs vs h rest, fun _ => rest⟩ p.2.2.2 (vs.map some ++ p.2.2.1.map (slotM e)) h else .bad
      | none => .bad)
def run (T : Tab) (F : Nat → Option Fn) (n : Nat) : CallF := (runs T F n).1
def runL (T : Tab) (F : Nat → Option Fn) (n : Nat) : LamF := (runs T F n).2
end MP
set_option Elab.async false
set_option linter.all false
set_option maxRecDepth 100000
set_option autoImplicit false
namespace MP
open PySem PySem.Spec PyProof.Rows L2

/-- b: lent by callers, never handed on as ours; x: a list under construction that no value knows -/
structure Bor where
  b : Addr → Prop
  x : Addr → Prop
/-- the tables of code objects, and how their code objects are named -/
class Tabs where
  t : List NdefX.NTab
variable [Tabs]
/-- what may come behind: ours may change, new ones may come; tables of code objects may grow -/
structure Next (A : List Addr) (H : Hp) (A' : List Addr) (H' : Hp) : Prop where
  pre : ∃ new, A' = A ++ new ∧ ∀ a ∈ new, H a = none
  keep : ∀ a o, H a = some o → a ∉ A → (∀ ps, o ≠ .tbl ps) → H' a = some o
  still : ∀ a o, H a = some o → ∃ o', H' a = some o'
  tb : NdefX.TabsN Tabs.t H → NdefX.TabsN Tabs.t H'
/-- .. and what is under construction was so, or is new -/
structure Since (B : Bor) (A : List Addr) (H : Hp) (B' : Bor) (A' : List Addr) (H' : Hp) : Prop where
  nx : Next A H A' H'
  x : ∀ a, B'.x a → B.x a ∨ H a = none
  b : ∀ a, B'.b a → B.b a ∨ H a = none
/-- a lambda's text: its name, parameters, body, scope -/
structure LamI where
  qual : Str
  params : Arguments
  body : Expr
  scope : Scope
/-- the function object of a lambda, with these cells, its code object at c -/
def LamO (f : Addr) (I : LamI) (cl : List (Str × Addr)) (c : Addr) : HO := .ext fun h => ∃ (pm ctv : Value), h.get? f = some (PySem.W.kla_obj "<lambda>" I.qual I.params I.body I.scope cl pm c ctv)
theorem lamO_ne {f : Addr} {I : LamI} {cl : List (Str × Addr)} {c : Addr} (ps : Array Value) : LamO f I cl c ≠ .tbl ps := fun z => by
  unfold LamO at z
  cases z
/-- what is fixed: the written part, the texts, the own classes, the fields' names, the lambdas' texts, the tables of code objects; and of the running frame: the cells of the lambdas that it may know, its entry -/
structure Sg where
  K : PySem.W.Frag
  txts : List Str
  cls : Nat → Option Addr
  exc : Nat → Option Addr
  fld : List Str
  lam : Nat → LamI → Prop
  c : Nat → Nat → Option (List (Str × Addr))
  e : Option (Bor × List Addr × Hp)
/-- since the frame's entry -/
def Sg.fr (G : Sg) (B : Bor) (A : List Addr) (H : Hp) : Prop := match G.e with
  | some (B0, A0, H0) => Since B0 A0 H0 B A H
  | none => True
abbrev Out (B : Bor) (A : List Addr) (a : Addr) : Prop := a ∉ A ∧ ¬ B.x a
/-- o stands at a, nobody may change it -/
def Still (B : Bor) (A : List Addr) (H : Hp) (c : Fz) (a : Addr) (o : HO) : Prop := c ≠ .scr ∧ H a = some o ∧ Out B A a ∧ (c = .own → ¬ B.b a)
def KLst (K : PySem.W.Frag) (a : Addr) (xs : List V) : Prop :=
  ∃ (o : Obj) (its : Array Value) (n : Nat), K.lookup a = some o ∧ o.cls = .type "list" ∧ o.dict = none ∧ o.data = .seq its n ∧ its.size ≤ sizeLine ∧ Vals xs its.toList
/-- a list that stands still -/
def LstOk (G : Sg) (B : Bor) (A : List Addr) (H : Hp) (c : Fz) (a : Addr) (xs : List V) : Prop := match c with
  | .scr => (∃ o, H a = some (.frz o (.lst xs)) ∧ Out B A a) ∨ KLst G.K a xs
  | c => Still B A H c a (.lst xs)
def RKey (G : Sg) : MKey → Key → Prop
  | .inl i, k => k = .inl i
  | .inr n, k => ∃ z, G.txts[n]? = some z ∧ k = .inr z
def RKeys (G : Sg) : List MKey → List Key → Prop
  | [], ks => ks = []
  | m :: ms, ks => ∃ k r, ks = k :: r ∧ RKey G m k ∧ RKeys G ms r
def RFs (G : Sg) : List Nat → List Str → Prop
  | [], fs => fs = []
  | m :: ms, fs => ∃ k r, fs = k :: r ∧ G.fld[m]? = some k ∧ RFs G ms r
mutual
def RV (G : Sg) (B : Bor) (A : List Addr) (H : Hp) : Val → V → Prop
  | .non, x => x = .non
  | .bl b, x => x = .bl b
  | .int i, x => x = .int i
  | .str n, x => ∃ z, G.txts[n]? = some z ∧ x = .str z
  | .tup vs, x => ∃ a xs, x = .ref a ∧ H a = some (.tup xs) ∧ Out B A a ∧ xs.length ≤ sizeLine ∧ RVs G B A H vs xs
  | .lst c vs, x => ∃ a xs, x = .ref a ∧ LstOk G B A H c a xs ∧ xs.length ≤ sizeLine ∧ RVs G B A H vs xs
  | .dct c ks vs, x => ∃ a kvs, x = .ref a ∧ Still B A H c a (.dK kvs) ∧ kvs.length ≤ sizeLine ∧ RKeys G ks (kvs.map (·.1)) ∧ RVs G B A H vs (kvs.map (·.2))
  | .obj c k fs vs, x => ∃ a C dx fv, x = .ref a ∧ G.cls k = some C ∧ Still B A H c a (.ins C dx fv) ∧ RFs G fs (fv.map (·.1)) ∧ RVs G B A H vs (fv.map (·.2))
  | .ref i, x => ∃ a, x = .ref a ∧ A[i]? = some a
  | .err _, _ => False
  | .clo l cs, x => ∃ m f cl c I, cs = [.int (m : Nat)] ∧ x = .ref f ∧ G.c l m = some cl ∧ G.lam l I ∧ H f = some (LamO f I cl c) ∧ Out B A f ∧ H c = some (LamX.CodeO c I.qual) ∧ Out B A c
def RVs (G : Sg) (B : Bor) (A : List Addr) (H : Hp) : List Val → List V → Prop
  | [], xs => xs = []
  | v :: vs, xs => ∃ y ys, xs = y :: ys ∧ RV G B A H v y ∧ RVs G B A H vs ys
end
/-- an object of ours -/
def RO (G : Sg) (B : Bor) (A : List Addr) (H : Hp) : Ob → Addr → Prop
  | .lst vs, a => ∃ xs, H a = some (.lst xs) ∧ xs.length ≤ sizeLine ∧ RVs G B A H vs xs
  | .dct ks vs, a => ∃ kvs, H a = some (.dK kvs) ∧ kvs.length ≤ sizeLine ∧ RKeys G ks (kvs.map (·.1)) ∧ RVs G B A H vs (kvs.map (·.2))
  | .ins k fs vs, a => ∃ C dx fv, H a = some (.ins C dx fv) ∧ G.cls k = some C ∧ RFs G fs (fv.map (·.1)) ∧ RVs G B A H vs (fv.map (·.2))
  | .dead, a => (∃ xs, H a = some (.lst xs)) ∨ (∃ kvs, H a = some (.dK kvs)) ∨ ∃ C dx fv, H a = some (.ins C dx fv)
structure Fits (G : Sg) (B : Bor) (A : List Addr) (h : Hm) (H : Hp) : Prop where
  len : A.length = h.length
  nd : A.Nodup
  ob : ∀ (i : Nat) (o : Ob) (a : Addr), h[i]? = some o → A[i]? = some a → RO G B A H o a
  bt : ∀ a, B.b a → H a ≠ none
  bx : ∀ a, B.x a → a ∉ A ∧ ∃ xs, H a = some (.lst xs)
  fr : G.fr B A H
  tb : NdefX.TabsN Tabs.t H
/-- the names -/
def RE (G : Sg) (B : Bor) (A : List Addr) (H : Hp) (e : En) (σ : L2.St) : Prop :=
  e.length = σ.length ∧ ∀ (i : Nat) (v : Val), e[i]? = some (some v) → ∃ x, σ[i]? = some (some x) ∧ RV G B A H v x

section
variable {G : Sg} {B : Bor} {A A' A'' : List Addr} {H H' H'' : Hp} {h : Hm}
/-- no table, nothing of another make -/
def Pl (u : HO) : Prop := (∀ ps, u ≠ .tbl ps) ∧ ∀ φ, u ≠ .ext φ
theorem pl_lst {xs : List V} : Pl (.lst xs) := ⟨(fun _ z => by cases z), (fun _ z => by cases z)⟩
theorem pl_dK {kvs : List (Key × V)} : Pl (.dK kvs) := ⟨(fun _ z => by cases z), (fun _ z => by cases z)⟩
theorem pl_ins {C dx : Addr} {fv : List (Str × V)} : Pl (.ins C dx fv) := ⟨(fun _ z => by cases z), (fun _ z => by cases z)⟩
theorem tab_set {P : Addr} {nm : Nat → Nat → Str} {p : Addr} {o u : HO} (e : H p = some u) (pl : Pl u) (t : NdefX.TabN H P nm) : NdefX.TabN (upd H p o) P nm := by
  obtain ⟨ps, h1, h2, h3⟩ := t
  have nP : P ≠ p := fun z => by
    rw [z, e] at h1
    exact pl.1 ps (Option.some.inj h1)
  refine ⟨ps, by rw [upd_ne nP]; exact h1, h2, fun pos cv hc => ?_⟩
  obtain ⟨c, e1, e2⟩ := h3 pos cv hc
  refine ⟨c, e1, ?_⟩
  rw [upd_ne]
  · exact e2
  · intro z
    rw [z, e] at e2
    exact pl.2 _ (Option.some.inj e2)
theorem Next.refl : Next A H A H := ⟨⟨[], by simp, fun _ z => by cases z⟩, fun _ _ e _ _ => e, fun _ o e => ⟨o, e⟩, fun t => t⟩
theorem Next.mem (n : Next A H A' H') {a : Addr} (m : a ∈ A) : a ∈ A' := by
  obtain ⟨new, e, _⟩ := n.pre
  rw [e]
  exact List.mem_append_left _ m
theorem Next.nmem (n : Next A H A' H') {a : Addr} {o : HO} (e : H a = some o) (m : a ∉ A) : a ∉ A' := by
  obtain ⟨new, e1, f⟩ := n.pre
  rw [e1]
  intro z
  rcases List.mem_append.mp z with z | z
  · exact m z
  · rw [f a z] at e
    cases e
theorem Next.free (n : Next A H A' H') {a : Addr} (e : H' a = none) : H a = none := by
  cases q : H a with
  | none => rfl
  | some o =>
    obtain ⟨o', e'⟩ := n.still a o q
    rw [e] at e'
    cases e'
theorem Next.trans (n : Next A H A' H') (m : Next A' H' A'' H'') : Next A H A'' H'' := by
  obtain ⟨n1, e1, f1⟩ := id n.pre
  obtain ⟨n2, e2, f2⟩ := id m.pre
  refine ⟨⟨n1 ++ n2, by rw [e2, e1, List.append_assoc], fun a q => ?_⟩, fun a o q z k => m.keep a o (n.keep a o q z k) (n.nmem q z) k, fun a o q => ?_, fun t => m.tb (n.tb t)⟩
  · rcases List.mem_append.mp q with q | q
    · exact f1 a q
    · exact n.free (f2 a q)
  · obtain ⟨o1, q1⟩ := n.still a o q
    exact m.still a o1 q1
theorem Next.get (n : Next A H A' H') {i : Nat} {a : Addr} (e : A[i]? = some a) : A'[i]? = some a := by
  obtain ⟨new, e1, _⟩ := n.pre
  rw [e1, List.getElem?_append_left (List.getElem?_eq_some_iff.mp e).1]
  exact e
theorem Still.mono {c : Fz} {a : Addr} {o : HO} (s : Still B A H c a o) (n : Next A H A' H') (k : ∀ ps, o ≠ .tbl ps) : Still B A' H' c a o :=
  ⟨s.1, n.keep a o s.2.1 s.2.2.1.1 k, ⟨n.nmem s.2.1 s.2.2.1.1, s.2.2.1.2⟩, s.2.2.2⟩
theorem LstOk.mono {c : Fz} {a : Addr} {xs : List V} (s : LstOk G B A H c a xs) (n : Next A H A' H') : LstOk G B A' H' c a xs := by
  cases c with
  | scr =>
    rcases s with ⟨o, e, m⟩ | k
    · exact .inl ⟨o, n.keep _ _ e m.1 (fun _ z => by cases z), n.nmem e m.1, m.2⟩
    · exact .inr k
  | own => exact Still.mono s n fun _ z => by cases z
  | bor => exact Still.mono s n fun _ z => by cases z
theorem LstOk.sq {c : Fz} {a : Addr} {xs : List V} (s : LstOk G B A H c a xs) : SqL G.K H a xs := by
  cases c with
  | scr =>
    rcases s with ⟨o, e, m⟩ | k
    · exact .inl (.inr ⟨o, e⟩)
    · exact .inr k
  | own => exact .inl (.inl s.2.1)
  | bor => exact .inl (.inl s.2.1)
mutual
theorem RV.mono (n : Next A H A' H') : ∀ (v : Val) {x : V}, RV G B A H v x → RV G B A' H' v x
  | .non, _, r => r
  | .bl _, _, r => r
  | .int _, _, r => r
  | .str _, _, r => r
  | .tup vs, x, r => by
    unfold RV at r ⊢
    obtain ⟨a, xs, e, q, m, z, r⟩ := r
    exact ⟨a, xs, e, n.keep _ _ q m.1 (fun _ z => by cases z), ⟨n.nmem q m.1, m.2⟩, z, RVs.mono n vs r⟩
  | .lst c vs, x, r => by
    unfold RV at r ⊢
    obtain ⟨a, xs, e, q, z, r⟩ := r
    exact ⟨a, xs, e, q.mono n, z, RVs.mono n vs r⟩
  | .dct c ks vs, x, r => by
    unfold RV at r ⊢
    obtain ⟨a, kvs, e, q, z, k, r⟩ := r
    exact ⟨a, kvs, e, q.mono n (fun _ z => by cases z), z, k, RVs.mono n vs r⟩
  | .obj c k fs vs, x, r => by
    unfold RV at r ⊢
    obtain ⟨a, C, dx, fv, e, ec, q, f, r⟩ := r
    exact ⟨a, C, dx, fv, e, ec, q.mono n (fun _ z => by cases z), f, RVs.mono n vs r⟩
  | .ref i, x, r => by
    unfold RV at r ⊢
    obtain ⟨a, e, q⟩ := r
    exact ⟨a, e, n.get q⟩
  | .err _, _, r => by
    unfold RV at r
    exact r.elim
  | .clo l cs, x, r => by
    unfold RV at r ⊢
    obtain ⟨m, f, cl, c, I, ec, e, h1, h2, h3, h4, h5, h6⟩ := r
    exact ⟨m, f, cl, c, I, ec, e, h1, h2, n.keep _ _ h3 h4.1 lamO_ne, ⟨n.nmem h3 h4.1, h4.2⟩, n.keep _ _ h5 h6.1 LamX.codeO_ne, ⟨n.nmem h5 h6.1, h6.2⟩⟩
theorem RVs.mono (n : Next A H A' H') : ∀ (vs : List Val) {xs : List V}, RVs G B A H vs xs → RVs G B A' H' vs xs
  | [], _, r => r
  | v :: vs, xs, r => by
    unfold RVs at r ⊢
    obtain ⟨y, ys, e, r1, r2⟩ := r
    exact ⟨y, ys, e, RV.mono n v r1, RVs.mono n vs r2⟩
end
theorem RE.mono {e : En} {σ : L2.St} (r : RE G B A H e σ) (n : Next A H A' H') : RE G B A' H' e σ :=
  ⟨r.1, fun i v q => by
    obtain ⟨x, q1, q2⟩ := r.2 i v q
    exact ⟨x, q1, RV.mono n v q2⟩⟩
theorem RO.mono {o : Ob} {a : Addr} (n : Next A H A' H') (k : ∀ u, H a = some u → H' a = some u) (r : RO G B A H o a) : RO G B A' H' o a := by
  cases o with
  | lst vs =>
    obtain ⟨xs, e, z, r⟩ := r
    exact ⟨xs, k _ e, z, RVs.mono n vs r⟩
  | dct ks vs =>
    obtain ⟨kvs, e, z, kk, r⟩ := r
    exact ⟨kvs, k _ e, z, kk, RVs.mono n vs r⟩
  | ins c fs vs =>
    obtain ⟨C, dx, fv, e, ec, f, r⟩ := r
    exact ⟨C, dx, fv, k _ e, ec, f, RVs.mono n vs r⟩
  | dead =>
    rcases r with ⟨xs, e⟩ | ⟨kvs, e⟩ | ⟨C, dx, fv, e⟩
    · exact .inl ⟨xs, k _ e⟩
    · exact .inr (.inl ⟨kvs, k _ e⟩)
    · exact .inr (.inr ⟨C, dx, fv, k _ e⟩)
/-- .. whatever it is -/
theorem RO.toDead {o : Ob} {a : Addr} (r : RO G B A H o a) : RO G B A H .dead a := by
  cases o with
  | lst vs => obtain ⟨xs, e, _⟩ := r; exact .inl ⟨_, e⟩
  | dct ks vs => obtain ⟨kvs, e, _⟩ := r; exact .inr (.inl ⟨_, e⟩)
  | ins c fs vs => obtain ⟨C, dx, fv, e, _⟩ := r; exact .inr (.inr ⟨_, _, _, e⟩)
  | dead => exact r
theorem RO.there {o : Ob} {a : Addr} (r : RO G B A H o a) : ∃ u, H a = some u := by
  cases o with
  | lst vs => obtain ⟨xs, e, _⟩ := r; exact ⟨_, e⟩
  | dct ks vs => obtain ⟨kvs, e, _⟩ := r; exact ⟨_, e⟩
  | ins c fs vs => obtain ⟨C, dx, fv, e, _⟩ := r; exact ⟨_, e⟩
  | dead => rcases r with ⟨xs, e⟩ | ⟨kvs, e⟩ | ⟨C, dx, fv, e⟩ <;> exact ⟨_, e⟩
theorem Since.next {B' : Bor} (s : Since B A H B' A' H') (n : Next A' H' A'' H'') : Since B A H B' A'' H'' := ⟨s.nx.trans n, s.x, s.b⟩
theorem Since.of (n : Next A H A' H') : Since B A H B A' H' := ⟨n, fun _ z => .inl z, fun _ z => .inl z⟩
theorem Since.trans {B' B'' : Bor} (s : Since B A H B' A' H') (t : Since B' A' H' B'' A'' H'') : Since B A H B'' A'' H'' :=
  ⟨s.nx.trans t.nx, fun a z => (t.x a z).elim (s.x a) fun k => .inr (s.nx.free k), fun a z => (t.b a z).elim (s.b a) fun k => .inr (s.nx.free k)⟩
theorem Sg.fr_next (f : G.fr B A H) (n : Next A H A' H') : G.fr B A' H' := by
  unfold Sg.fr at f ⊢
  split
  · rename_i B0 A0 H0 e
    rw [e] at f
    exact f.next n
  · trivial
theorem Sg.fr_since {B' : Bor} (f : G.fr B A H) (n : Since B A H B' A' H') : G.fr B' A' H' := by
  unfold Sg.fr at f ⊢
  split
  · rename_i B0 A0 H0 e
    rw [e] at f
    exact f.trans n
  · trivial
theorem tabs_next (t : NdefX.TabsN Tabs.t H) (n : Next A H A' H') : NdefX.TabsN Tabs.t H' := n.tb t
theorem Fits.there (F : Fits G B A h H) {a : Addr} (m : a ∈ A) : ∃ u, H a = some u := by
  obtain ⟨i, hi, e⟩ := List.getElem_of_mem m
  have hi' : i < h.length := by rw [← F.len]; exact hi
  exact (F.ob i h[i] a (List.getElem?_eq_getElem hi') (by rw [List.getElem?_eq_getElem hi, e])).there
/-- a fresh address is none of ours -/
theorem Fits.new (F : Fits G B A h H) {p : Addr} (e : H p = none) : Out B A p := by
  refine ⟨fun m => ?_, fun m => ?_⟩
  · obtain ⟨u, q⟩ := F.there m
    rw [e] at q
    cases q
  · obtain ⟨_, _, q⟩ := F.bx p m
    rw [e] at q
    cases q
theorem Fits.newB (F : Fits G B A h H) {p : Addr} (e : H p = none) : ¬ B.b p := fun m => F.bt p m e
/-- something new that is none of ours -/
theorem next_new {p : Addr} {o : HO} (e : H p = none) : Next A H A (upd H p o) :=
  ⟨⟨[], by simp, fun _ z => by cases z⟩, fun a u q _ _ => by rw [upd_ne (ne_of_none q e)]; exact q, fun a u q => ⟨u, by rw [upd_ne (ne_of_none q e)]; exact q⟩, fun t => t.ext fun b o q => by rw [upd_ne (ne_of_none q e)]; exact q⟩
theorem Fits.step (F : Fits G B A h H) (n : Next A H A H') (k : ∀ a ∈ A, ∀ u, H a = some u → H' a = some u) : Fits G B A h H' :=
  ⟨F.len, F.nd, fun i o a e1 e2 => RO.mono n (k a (List.mem_of_getElem? e2)) (F.ob i o a e1 e2), fun a b => by
    cases q : H a with
    | none => exact absurd q (F.bt a b)
    | some u =>
      obtain ⟨u', q'⟩ := n.still a u q
      rw [q']
      simp, fun a b => by
    obtain ⟨m, xs, q⟩ := F.bx a b
    exact ⟨m, xs, n.keep _ _ q m (fun _ z => by cases z)⟩, Sg.fr_next F.fr n, tabs_next F.tb n⟩
theorem Fits.other (F : Fits G B A h H) {p : Addr} {o : HO} (e : H p = none) : Fits G B A h (upd H p o) :=
  F.step (next_new e) fun a _ u q => by rw [upd_ne (ne_of_none q e)]; exact q
/-- a new one of ours -/
theorem next_mine {p : Addr} {o : HO} (e : H p = none) : Next A H (A ++ [p]) (upd H p o) :=
  ⟨⟨[p], rfl, fun a z => by rw [List.mem_singleton.mp z]; exact e⟩, fun a u q _ _ => by rw [upd_ne (ne_of_none q e)]; exact q, fun a u q => ⟨u, by rw [upd_ne (ne_of_none q e)]; exact q⟩, fun t => t.ext fun b o q => by rw [upd_ne (ne_of_none q e)]; exact q⟩
theorem Fits.push (F : Fits G B A h H) {p : Addr} {o : HO} {b : Ob} (e : H p = none) (r : RO G B (A ++ [p]) (upd H p o) b p) : Fits G B (A ++ [p]) (h ++ [b]) (upd H p o) := by
  have hn : p ∉ A := (F.new e).1
  refine ⟨by simp [F.len], ?_, fun i u a e1 e2 => ?_, fun a b => ?_, fun a b => ?_, Sg.fr_next F.fr (next_mine e), tabs_next (A := A) (A' := A ++ [p]) F.tb (next_mine e)⟩
  · rw [List.nodup_append]
    refine ⟨F.nd, by simp, fun x hx y hy => ?_⟩
    rw [List.mem_singleton.mp hy]
    intro z
    exact hn (z ▸ hx)
  · by_cases hi : i < h.length
    · rw [List.getElem?_append_left hi] at e1
      rw [List.getElem?_append_left (by rw [F.len]; exact hi)] at e2
      exact RO.mono (next_mine e) (fun u q => by rw [upd_ne (ne_of_none q e)]; exact q) (F.ob i u a e1 e2)
    · rw [List.getElem?_append_right (by omega)] at e1
      rw [List.getElem?_append_right (by rw [F.len]; omega)] at e2
      have e3 : i - A.length = i - h.length := by rw [F.len]
      rw [e3] at e2
      cases hj : i - h.length with
      | zero =>
        rw [hj] at e1 e2
        simp at e1 e2
        subst e1 e2
        exact r
      | succ j =>
        rw [hj] at e1
        simp at e1
  · by_cases z : a = p
    · rw [z, upd_same]
      simp
    · rw [upd_ne z]
      exact F.bt a b
  · obtain ⟨m, xs, q⟩ := F.bx a b
    have z : a ≠ p := ne_of_none q e
    refine ⟨fun k => ?_, xs, by rw [upd_ne z]; exact q⟩
    rcases List.mem_append.mp k with k | k
    · exact m k
    · exact z (List.mem_singleton.mp k)
/-- one of ours changed -/
theorem next_set {p : Addr} {o u : HO} (m : p ∈ A) (e : H p = some u) (pl : Pl u) : Next A H A (upd H p o) :=
  ⟨⟨[], by simp, fun _ z => by cases z⟩, fun a w q z _ => by
    rw [upd_ne]
    · exact q
    · intro k
      subst k
      exact z m, fun a w q => by
    by_cases k : a = p
    · exact ⟨o, by rw [k, upd_same]⟩
    · exact ⟨w, by rw [upd_ne k]; exact q⟩, fun t p hp => tab_set e pl (t p hp)⟩
theorem Fits.kind (F : Fits G B A h H) {a : Addr} (m : a ∈ A) : (∃ xs, H a = some (.lst xs)) ∨ (∃ kvs, H a = some (.dK kvs)) ∨ ∃ C dx fv, H a = some (.ins C dx fv) := by
  obtain ⟨i, hi, e⟩ := List.getElem_of_mem m
  have hi' : i < h.length := by rw [← F.len]; exact hi
  exact (F.ob i h[i] a (List.getElem?_eq_getElem hi') (by rw [List.getElem?_eq_getElem hi, e])).toDead
theorem Fits.pl (F : Fits G B A h H) {a : Addr} (m : a ∈ A) : ∃ u, H a = some u ∧ Pl u := by
  rcases F.kind m with ⟨xs, e⟩ | ⟨kvs, e⟩ | ⟨C, dx, fv, e⟩
  · exact ⟨_, e, pl_lst⟩
  · exact ⟨_, e, pl_dK⟩
  · exact ⟨_, e, pl_ins⟩
theorem Fits.set (F : Fits G B A h H) {i : Nat} {p : Addr} {o : HO} {b : Ob} (e : A[i]? = some p) (r : RO G B A (upd H p o) b p) : Fits G B A (h.set i b) (upd H p o) := by
  have m : p ∈ A := List.mem_of_getElem? e
  obtain ⟨u, q, pl⟩ := F.pl m
  have hiA := (List.getElem?_eq_some_iff.mp e).1
  refine ⟨by rw [List.length_set]; exact F.len, F.nd, fun j w a e1 e2 => ?_, fun a b => ?_, fun a b => ?_, Sg.fr_next F.fr (next_set m q pl), tabs_next F.tb (next_set m q pl)⟩
  · by_cases k : j = i
    · subst k
      have ea : a = p := Option.some.inj (e2.symm.trans e)
      subst ea
      rw [List.getElem?_set_self (by rw [← F.len]; exact hiA)] at e1
      cases e1
      exact r
    · rw [List.getElem?_set_ne (Ne.symm k)] at e1
      refine RO.mono (next_set m q pl) (fun u q => ?_) (F.ob j w a e1 e2)
      rw [upd_ne]
      · exact q
      · intro z
        subst z
        exact k ((List.getElem?_inj hiA F.nd).mp (e.trans e2.symm)).symm
  · by_cases z : a = p
    · rw [z, upd_same]
      simp
    · rw [upd_ne z]
      exact F.bt a b
  · obtain ⟨k, xs, q⟩ := F.bx a b
    have z : a ≠ p := fun z => k (by rw [z]; exact m)
    exact ⟨k, xs, by rw [upd_ne z]; exact q⟩

theorem RVs.length : ∀ {vs : List Val} {xs : List V}, RVs G B A H vs xs → vs.length = xs.length
  | [], _, r => by
    unfold RVs at r
    rw [r]
    rfl
  | v :: vs, xs, r => by
    unfold RVs at r
    obtain ⟨y, ys, e, _, r2⟩ := r
    rw [e, List.length_cons, List.length_cons, RVs.length r2]
theorem RVs.get : ∀ {vs : List Val} {xs : List V} {i : Nat} {v : Val}, RVs G B A H vs xs → vs[i]? = some v → ∃ x, xs[i]? = some x ∧ RV G B A H v x
  | [], _, _, _, _, e => by simp at e
  | w :: vs, xs, i, v, r, e => by
    unfold RVs at r
    obtain ⟨y, ys, e1, r1, r2⟩ := r
    subst e1
    cases i with
    | zero =>
      simp at e
      subst e
      exact ⟨y, by simp, r1⟩
    | succ i =>
      simp at e
      obtain ⟨x, h1, h2⟩ := RVs.get r2 e
      exact ⟨x, by simpa using h1, h2⟩
theorem RVs.back : ∀ {vs : List Val} {xs : List V} {i : Nat} {x : V}, RVs G B A H vs xs → xs[i]? = some x → ∃ v, vs[i]? = some v ∧ RV G B A H v x
  | [], _, _, _, r, e => by
    unfold RVs at r
    rw [r] at e
    simp at e
  | w :: vs, xs, i, x, r, e => by
    unfold RVs at r
    obtain ⟨y, ys, e1, r1, r2⟩ := r
    subst e1
    cases i with
    | zero =>
      simp at e
      subst e
      exact ⟨w, by simp, r1⟩
    | succ i =>
      simp at e
      obtain ⟨v, h1, h2⟩ := RVs.back r2 e
      exact ⟨v, by simpa using h1, h2⟩
theorem RVs.append : ∀ {vs ws : List Val} {xs ys : List V}, RVs G B A H vs xs → RVs G B A H ws ys → RVs G B A H (vs ++ ws) (xs ++ ys)
  | [], _, _, _, r, q => by
    unfold RVs at r
    rw [r]
    exact q
  | v :: vs, ws, xs, ys, r, q => by
    unfold RVs at r
    obtain ⟨y, zs, e, r1, r2⟩ := r
    subst e
    show RVs G B A H (v :: (vs ++ ws)) (y :: (zs ++ ys))
    unfold RVs
    exact ⟨y, _, rfl, r1, RVs.append r2 q⟩
theorem RVs.one {v : Val} {x : V} (r : RV G B A H v x) : RVs G B A H [v] [x] := by
  unfold RVs
  exact ⟨x, [], rfl, r, by unfold RVs; rfl⟩
theorem RVs.nil : RVs G B A H [] [] := by unfold RVs; rfl
theorem RVs.cons {v : Val} {vs : List Val} {x : V} {xs : List V} (r : RV G B A H v x) (q : RVs G B A H vs xs) : RVs G B A H (v :: vs) (x :: xs) := by
  unfold RVs
  exact ⟨x, xs, rfl, r, q⟩
theorem RVs.uncons {v : Val} {vs : List Val} {xs : List V} (r : RVs G B A H (v :: vs) xs) : ∃ y ys, xs = y :: ys ∧ RV G B A H v y ∧ RVs G B A H vs ys := by
  unfold RVs at r
  exact r
theorem RVs.ofnil {xs : List V} (r : RVs G B A H [] xs) : xs = [] := by
  unfold RVs at r
  exact r
theorem RVs.take : ∀ (n : Nat) {vs : List Val} {xs : List V}, RVs G B A H vs xs → RVs G B A H (vs.take n) (xs.take n)
  | 0, _, _, _ => by simp; exact RVs.nil
  | n + 1, [], xs, r => by
    rw [r.ofnil]
    simp
    exact RVs.nil
  | n + 1, v :: vs, xs, r => by
    obtain ⟨y, ys, e, r1, r2⟩ := r.uncons
    subst e
    simp
    exact .cons r1 (RVs.take n r2)
theorem RVs.drop : ∀ (n : Nat) {vs : List Val} {xs : List V}, RVs G B A H vs xs → RVs G B A H (vs.drop n) (xs.drop n)
  | 0, _, _, r => by simpa using r
  | n + 1, [], xs, r => by
    rw [r.ofnil]
    simp
    exact RVs.nil
  | n + 1, v :: vs, xs, r => by
    obtain ⟨y, ys, e, r1, r2⟩ := r.uncons
    subst e
    simpa using RVs.drop n r2
theorem RVs.reverse : ∀ {vs : List Val} {xs : List V}, RVs G B A H vs xs → RVs G B A H vs.reverse xs.reverse
  | [], xs, r => by
    rw [r.ofnil]
    simp
    exact RVs.nil
  | v :: vs, xs, r => by
    obtain ⟨y, ys, e, r1, r2⟩ := r.uncons
    subst e
    rw [List.reverse_cons, List.reverse_cons]
    exact (RVs.reverse r2).append (.one r1)
theorem RVs.set : ∀ (n : Nat) {vs : List Val} {xs : List V} {v : Val} {x : V}, RVs G B A H vs xs → RV G B A H v x → RVs G B A H (vs.set n v) (xs.set n x)
  | n, [], xs, _, _, r, _ => by
    rw [r.ofnil]
    simp
    exact RVs.nil
  | 0, w :: vs, xs, v, x, r, q => by
    obtain ⟨y, ys, e, r1, r2⟩ := r.uncons
    subst e
    simp
    exact .cons q r2
  | n + 1, w :: vs, xs, v, x, r, q => by
    obtain ⟨y, ys, e, r1, r2⟩ := r.uncons
    subst e
    simp
    exact .cons r1 (RVs.set n r2 q)
theorem RVs.dropLast {vs : List Val} {xs : List V} (r : RVs G B A H vs xs) : RVs G B A H vs.dropLast xs.dropLast := by
  rw [List.dropLast_eq_take, List.dropLast_eq_take, r.length]
  exact r.take _
theorem RVs.rep {vs : List Val} {xs : List V} (r : RVs G B A H vs xs) : ∀ n, RVs G B A H (repL n vs) (List.replicate n xs).flatten
  | 0 => by
    unfold repL
    simp
    exact RVs.nil
  | n + 1 => by
    unfold repL
    rw [List.replicate_succ, List.flatten_cons]
    exact r.append (RVs.rep r n)
theorem RVs.ints : ∀ {vs : List Val} {is : List Int} {xs : List V}, RVs G B A H vs xs → intsOf vs = some is → xs = is.map V.int
  | [], is, xs, r, e => by
    unfold intsOf at e
    cases e
    rw [r.ofnil]
    rfl
  | v :: vs, is, xs, r, e => by
    obtain ⟨y, ys, e1, r1, r2⟩ := r.uncons
    cases v <;> simp [intsOf] at e
    rename_i i
    cases q : intsOf vs with
    | none => rw [q] at e; simp at e
    | some is' =>
      rw [q] at e
      simp at e
      subst e
      unfold RV at r1
      rw [e1, r1, RVs.ints r2 q]
      rfl
theorem RVs.bls : ∀ {vs : List Val} {bs : List Bool} {xs : List V}, RVs G B A H vs xs → blsOf vs = some bs → xs = bs.map V.bl
  | [], is, xs, r, e => by
    unfold blsOf at e
    cases e
    rw [r.ofnil]
    rfl
  | v :: vs, is, xs, r, e => by
    obtain ⟨y, ys, e1, r1, r2⟩ := r.uncons
    cases v <;> simp [blsOf] at e
    rename_i i
    cases q : blsOf vs with
    | none => rw [q] at e; simp at e
    | some is' =>
      rw [q] at e
      simp at e
      subst e
      unfold RV at r1
      rw [e1, r1, RVs.bls r2 q]
      rfl
theorem RVs.ofInts : ∀ (is : List Int), RVs G B A H (is.map Val.int) (is.map V.int)
  | [] => RVs.nil
  | i :: is => .cons (by unfold RV; rfl) (RVs.ofInts is)
/-- the same text -/
structure SameG (G G' : Sg) : Prop where
  K : G.K = G'.K
  txts : G.txts = G'.txts
  cls : G.cls = G'.cls
  exc : G.exc = G'.exc
  fld : G.fld = G'.fld
  lam : G.lam = G'.lam
theorem SameG.rfl' : SameG G G := ⟨rfl, rfl, rfl, rfl, rfl, rfl⟩
theorem SameG.symm {G' : Sg} (s : SameG G G') : SameG G' G := ⟨s.1.symm, s.2.symm, s.3.symm, s.4.symm, s.5.symm, s.6.symm⟩
theorem SameG.trans {G' G'' : Sg} (s : SameG G G') (t : SameG G' G'') : SameG G G'' := ⟨s.1.trans t.1, s.2.trans t.2, s.3.trans t.3, s.4.trans t.4, s.5.trans t.5, s.6.trans t.6⟩
theorem LstOk.same {G' : Sg} (s : SameG G G') {c : Fz} {a : Addr} {xs : List V} (r : LstOk G B A H c a xs) : LstOk G' B A H c a xs := by
  cases c with
  | scr =>
    rcases r with r | k
    · exact .inl r
    · exact .inr (by rw [← s.K]; exact k)
  | own => exact r
  | bor => exact r
theorem RKeys.same {G' : Sg} (s : SameG G G') : ∀ {ms : List MKey} {ks : List Key}, RKeys G ms ks → RKeys G' ms ks
  | [], _, r => r
  | m :: ms, _, r => by
    unfold RKeys at r ⊢
    obtain ⟨k, q, e, h1, h2⟩ := r
    refine ⟨k, q, e, ?_, RKeys.same s h2⟩
    cases m with
    | inl i => exact h1
    | inr n => unfold RKey at h1 ⊢; rw [← s.txts]; exact h1
theorem RFs.same {G' : Sg} (s : SameG G G') : ∀ {ms : List Nat} {ks : List Str}, RFs G ms ks → RFs G' ms ks
  | [], _, r => r
  | m :: ms, _, r => by
    unfold RFs at r ⊢
    obtain ⟨k, q, e, h1, h2⟩ := r
    exact ⟨k, q, e, by rw [← s.fld]; exact h1, RFs.same s h2⟩
/-- which closures a change of the readings' cells leaves as they are -/
def CK (G G' : Sg) (ok : Nat → Bool) : Prop := ∀ l (m : Nat) cl, ok m = true → G.c l m = some cl → G'.c l m = some cl
mutual
/-- all closures within are of such frames -/
def okC (ok : Nat → Bool) : Val → Prop
  | .tup vs => okCs ok vs
  | .lst _ vs => okCs ok vs
  | .dct _ _ vs => okCs ok vs
  | .obj _ _ _ vs => okCs ok vs
  | .clo _ cs => ∀ m : Nat, cs = [.int (m : Nat)] → ok m = true
  | _ => True
def okCs (ok : Nat → Bool) : List Val → Prop
  | [] => True
  | v :: vs => okC ok v ∧ okCs ok vs
end
mutual
theorem okC_all : ∀ v : Val, okC (fun _ => true) v
  | .tup vs => okCs_all vs
  | .lst _ vs => okCs_all vs
  | .dct _ _ vs => okCs_all vs
  | .obj _ _ _ vs => okCs_all vs
  | .clo _ _ => fun _ _ => rfl
  | .non => True.intro
  | .bl _ => True.intro
  | .int _ => True.intro
  | .str _ => True.intro
  | .ref _ => True.intro
  | .err _ => True.intro
theorem okCs_all : ∀ vs : List Val, okCs (fun _ => true) vs
  | [] => True.intro
  | v :: vs => ⟨okC_all v, okCs_all vs⟩
end
mutual
theorem okC_free {n : Nat} : ∀ v : Val, lfree n v = true → okC (fun m => !(m == n)) v
  | .tup vs, h => okCs_free vs (by simpa [lfree] using h)
  | .lst _ vs, h => okCs_free vs (by simpa [lfree] using h)
  | .dct _ _ vs, h => okCs_free vs (by simpa [lfree] using h)
  | .obj _ _ _ vs, h => okCs_free vs (by simpa [lfree] using h)
  | .clo _ cs, h => fun m e => by
    subst e
    simp [lfree, isId] at h
    simp
    omega
  | .non, _ => True.intro
  | .bl _, _ => True.intro
  | .int _, _ => True.intro
  | .str _, _ => True.intro
  | .ref _, _ => True.intro
  | .err _, _ => True.intro
theorem okCs_free {n : Nat} : ∀ vs : List Val, lfreeL n vs = true → okCs (fun m => !(m == n)) vs
  | [], _ => True.intro
  | v :: vs, h => by
    rw [lfreeL, Bool.and_eq_true] at h
    exact ⟨okC_free v h.1, okCs_free vs h.2⟩
end
mutual
theorem RV.same {G' : Sg} {ok : Nat → Bool} (s : SameG G G') (k : CK G G' ok) : ∀ (v : Val) {x : V}, okC ok v → RV G B A H v x → RV G' B A H v x
  | .non, _, _, r => r
  | .bl _, _, _, r => r
  | .int _, _, _, r => r
  | .str _, _, _, r => by
    unfold RV at r ⊢
    rw [← s.txts]
    exact r
  | .tup vs, x, o, r => by
    unfold RV at r ⊢
    obtain ⟨a, xs, e, q, m, z, r⟩ := r
    exact ⟨a, xs, e, q, m, z, RVs.same s k vs o r⟩
  | .lst c vs, x, o, r => by
    unfold RV at r ⊢
    obtain ⟨a, xs, e, q, z, r⟩ := r
    exact ⟨a, xs, e, q.same s, z, RVs.same s k vs o r⟩
  | .dct c ks vs, x, o, r => by
    unfold RV at r ⊢
    obtain ⟨a, kvs, e, q, z, kk, r⟩ := r
    exact ⟨a, kvs, e, q, z, kk.same s, RVs.same s k vs o r⟩
  | .obj c k' fs vs, x, o, r => by
    unfold RV at r ⊢
    obtain ⟨a, C, dx, fv, e, ec, q, f, r⟩ := r
    exact ⟨a, C, dx, fv, e, by rw [← s.cls]; exact ec, q, f.same s, RVs.same s k vs o r⟩
  | .ref i, x, _, r => by
    unfold RV at r ⊢
    exact r
  | .err _, _, _, r => by
    unfold RV at r
    exact r.elim
  | .clo l cs, x, o, r => by
    unfold RV at r ⊢
    obtain ⟨m, f, cl, c, I, ec, e, h1, h2, h3⟩ := r
    exact ⟨m, f, cl, c, I, ec, e, k l m cl (o m ec) h1, by rw [← s.lam]; exact h2, h3⟩
theorem RVs.same {G' : Sg} {ok : Nat → Bool} (s : SameG G G') (k : CK G G' ok) : ∀ (vs : List Val) {xs : List V}, okCs ok vs → RVs G B A H vs xs → RVs G' B A H vs xs
  | [], _, _, r => r
  | v :: vs, xs, o, r => by
    unfold RVs at r ⊢
    obtain ⟨y, ys, e, r1, r2⟩ := r
    exact ⟨y, ys, e, RV.same s k v o.1 r1, RVs.same s k vs o.2 r2⟩
end
/-- all closures in an object are of such frames -/
def okO (ok : Nat → Bool) : Ob → Prop
  | .lst vs => okCs ok vs
  | .dct _ vs => okCs ok vs
  | .ins _ _ vs => okCs ok vs
  | .dead => True
theorem RO.same {G' : Sg} {ok : Nat → Bool} (s : SameG G G') (k : CK G G' ok) {o : Ob} {a : Addr} (q : okO ok o) (r : RO G B A H o a) : RO G' B A H o a := by
  cases o with
  | lst vs =>
    obtain ⟨xs, e, z, r⟩ := r
    exact ⟨xs, e, z, RVs.same s k vs q r⟩
  | dct ks vs =>
    obtain ⟨kvs, e, z, kk, r⟩ := r
    exact ⟨kvs, e, z, kk.same s, RVs.same s k vs q r⟩
  | ins c fs vs =>
    obtain ⟨C, dx, fv, e, ec, f, r⟩ := r
    exact ⟨C, dx, fv, e, by rw [← s.cls]; exact ec, f.same s, RVs.same s k vs q r⟩
  | dead => exact r
theorem Fits.same {G' : Sg} {ok : Nat → Bool} (s : SameG G G') (k : CK G G' ok) (q : ∀ o ∈ h, okO ok o) (F : Fits G B A h H) (f : G'.fr B A H) : Fits G' B A h H :=
  ⟨F.len, F.nd, fun i o a e1 e2 => RO.same s k (q o (List.mem_of_getElem? e1)) (F.ob i o a e1 e2), F.bt, F.bx, f, F.tb⟩
/-- the heap without what a frame's lambdas may be in -/
theorem Fits.scrub {G' : Sg} {n : Nat} (s : SameG G G') (k : CK G G' fun m => !(m == n)) (F : Fits G B A h H) (f : G'.fr B A H) : Fits G' B A (scrub n h) H := by
  refine ⟨by rw [F.len]; unfold MP.scrub; rw [List.length_map], F.nd, fun i o a e1 e2 => ?_, F.bt, F.bx, f, F.tb⟩
  unfold MP.scrub at e1
  rw [List.getElem?_map] at e1
  cases q : h[i]? with
  | none => rw [q] at e1; cases e1
  | some o' =>
    rw [q] at e1
    have e1 : (if lfreeO n o' then o' else Ob.dead) = o := Option.some.inj e1
    have r := F.ob i o' a q e2
    by_cases c : lfreeO n o' = true
    · rw [if_pos c] at e1
      subst e1
      refine RO.same s k ?_ r
      cases o' with
      | lst vs => exact okCs_free vs c
      | dct ks vs => exact okCs_free vs c
      | ins kk fs vs => exact okCs_free vs c
      | dead => exact True.intro
    · rw [if_neg c] at e1
      subst e1
      exact r.toDead
theorem okO_all (o : Ob) : okO (fun _ => true) o := by
  cases o with
  | lst vs => exact okCs_all vs
  | dct ks vs => exact okCs_all vs
  | ins k fs vs => exact okCs_all vs
  | dead => exact True.intro
abbrev Rl (α β : Type) := List Addr → Hp → α → β → Prop
def Post {α β : Type} (G : Sg) (B : Bor) (W : WX) (σ : L2.St) (rl : Rl α β) (A : List Addr) (H : Hp) (r : R α) (k : α → β → Hm → List Addr → Hp → Prop) : Prop := match r with
  | .ok v h' => ∀ A' H' x, Fits G B A' h' H' → Next A H A' H' → rl A' H' v x → k v x h' A' H'
  | .exc c h' => ∀ A' H' C, Fits G B A' h' H' → Next A H A' H' → G.exc c = some C → W (.ref C) none σ H'
  | .bad => False
variable {α β γ δ : Type} {W : WX} {σ : L2.St} {rl : Rl α β} {rl' : Rl γ δ} {r : R α} {k k' : α → β → Hm → List Addr → Hp → Prop}
theorem Post.shift (p : Post G B W σ rl A H r k) (n : Next A H A' H') : Post G B W σ rl A' H' r k := by
  cases r with
  | ok v h' => exact fun A2 H2 x f m q => p A2 H2 x f (n.trans m) q
  | exc c h' => exact fun A2 H2 C f m q => p A2 H2 C f (n.trans m) q
  | bad => exact p
theorem Post.bind {f : α → Hm → R γ} {k : γ → δ → Hm → List Addr → Hp → Prop} (p : Post G B W σ rl' A H (r.bind f) k) :
    Post G B W σ rl A H r fun v _ h' A' H' => Post G B W σ rl' A' H' (f v h') k := by
  cases r with
  | ok v h' => exact fun A' H' x _ m _ => Post.shift (r := f v h') p m
  | exc c h' => exact p
  | bad => exact p
theorem Post.imp (p : Post G B W σ rl A H r k) (i : ∀ v x h' A' H', Fits G B A' h' H' → Next A H A' H' → rl A' H' v x → k v x h' A' H' → k' v x h' A' H') : Post G B W σ rl A H r k' := by
  cases r with
  | ok v h' => exact fun A' H' x f m q => i v x h' A' H' f m q (p A' H' x f m q)
  | exc c h' => exact p
  | bad => exact p
end
abbrev RVr (G : Sg) (B : Bor) : Rl Val V := fun A H v x => RV G B A H v x
abbrev RVsr (G : Sg) (B : Bor) : Rl (List Val) (List V) := fun A H v x => RVs G B A H v x
end MP
set_option Elab.async false
set_option linter.all false
set_option maxRecDepth 100000
set_option autoImplicit false
namespace MP
open PySem PySem.Spec PyProof.Rows L2
variable [Tabs]
section
variable {G : Sg} {B B' : Bor} {A A' : List Addr} {H H' : Hp} {h h' : Hm}
/-- lent: B and all of ours stand still while the callee runs -/
abbrev lent (B : Bor) (A : List Addr) : Bor := ⟨fun a => B.b a ∨ a ∈ A, B.x⟩
theorem Still.lend {c : Fz} {a : Addr} {o : HO} (s : Still B A H c a o) : Still (lent B A) [] H c a o :=
  ⟨s.1, s.2.1, ⟨by simp, s.2.2.1.2⟩, fun e z => z.elim (s.2.2.2 e) s.2.2.1.1⟩
mutual
theorem deep_snap {lk : Nat → Option Val} (hlk : ∀ i w x, lk i = some w → RV G B A H (.ref i) x → RV G (lent B A) [] H w x) : ∀ (v : Val) {w : Val} {x : V}, deep lk v = some w → RV G B A H v x → RV G (lent B A) [] H w x
  | .non, w, x, e, r => by
    simp only [deep, Option.some.injEq] at e
    subst e
    exact r
  | .bl _, w, x, e, r => by
    simp only [deep, Option.some.injEq] at e
    subst e
    exact r
  | .int _, w, x, e, r => by
    simp only [deep, Option.some.injEq] at e
    subst e
    exact r
  | .str _, w, x, e, r => by
    simp only [deep, Option.some.injEq] at e
    subst e
    exact r
  | .err _, w, x, e, r => by
    unfold RV at r
    exact r.elim
  | .clo _ _, w, x, e, r => by
    simp only [deep] at e
    cases e
  | .ref i, w, x, e, r => by
    simp only [deep] at e
    exact hlk i w x e r
  | .tup vs, w, x, e, r => by
    simp only [deep] at e
    split at e
    · rename_i ws q
      cases e
      unfold RV at r ⊢
      obtain ⟨a, xs, e1, e2, m, z, r⟩ := r
      exact ⟨a, xs, e1, e2, ⟨by simp, m.2⟩, z, deepL_snap hlk vs q r⟩
    · cases e
  | .lst c vs, w, x, e, r => by
    simp only [deep] at e
    split at e
    · rename_i ws q
      cases e
      unfold RV at r ⊢
      obtain ⟨a, xs, e1, e2, z, r⟩ := r
      refine ⟨a, xs, e1, ?_, z, deepL_snap hlk vs q r⟩
      cases c with
      | scr =>
        rcases e2 with ⟨o, e2, m⟩ | k
        · exact .inl ⟨o, e2, by simp, m.2⟩
        · exact .inr k
      | own => exact Still.lend e2
      | bor => exact Still.lend e2
    · cases e
  | .dct c ks vs, w, x, e, r => by
    simp only [deep] at e
    split at e
    · rename_i ws q
      cases e
      unfold RV at r ⊢
      obtain ⟨a, kvs, e1, e2, z, k, r⟩ := r
      exact ⟨a, kvs, e1, e2.lend, z, k, deepL_snap hlk vs q r⟩
    · cases e
  | .obj c k fs vs, w, x, e, r => by
    simp only [deep] at e
    split at e
    · rename_i ws q
      cases e
      unfold RV at r ⊢
      obtain ⟨a, C, dx, fv, e1, ec, e2, f, r⟩ := r
      exact ⟨a, C, dx, fv, e1, ec, e2.lend, f, deepL_snap hlk vs q r⟩
    · cases e
theorem deepL_snap {lk : Nat → Option Val} (hlk : ∀ i w x, lk i = some w → RV G B A H (.ref i) x → RV G (lent B A) [] H w x) : ∀ (vs : List Val) {ws : List Val} {xs : List V}, deepL lk vs = some ws → RVs G B A H vs xs → RVs G (lent B A) [] H ws xs
  | [], ws, xs, e, r => by
    simp only [deepL, Option.some.injEq] at e
    subst e
    rw [r.ofnil]
    exact RVs.nil
  | v :: vs, ws, xs, e, r => by
    simp only [deepL] at e
    split at e
    · rename_i w q1
      split at e
      · rename_i ws' q2
        cases e
        obtain ⟨y, ys, e1, r1, r2⟩ := r.uncons
        subst e1
        exact .cons (deep_snap hlk v q1 r1) (deepL_snap hlk vs q2 r2)
      · cases e
    · cases e
end
theorem follow_snap (F : Fits G B A h H) : ∀ (n i : Nat) (w : Val) (x : V), follow n .bor h i = some w → RV G B A H (.ref i) x → RV G (lent B A) [] H w x
  | 0, _, _, _, e, _ => by
    unfold follow at e
    cases e
  | n + 1, i, w, x, e, r => by
    unfold follow at e
    unfold RV at r
    obtain ⟨a, rfl, ea⟩ := r
    have st : ∀ {o : HO}, H a = some o → Still (lent B A) [] H .bor a o := fun {o} q => ⟨by decide, q, ⟨by simp, fun z => (F.bx a z).1 (List.mem_of_getElem? ea)⟩, fun z => by cases z⟩
    cases eo : h[i]? with
    | none => rw [eo] at e; cases e
    | some o =>
      have ro := F.ob i o a eo ea
      rw [eo] at e
      cases o with
      | lst vs =>
        obtain ⟨xs, q, z, r⟩ := ro
        simp only at e
        split at e
        · rename_i ws q1
          cases e
          unfold RV
          exact ⟨a, xs, rfl, st q, z, deepL_snap (follow_snap F n) vs q1 r⟩
        · cases e
      | dct ks vs =>
        obtain ⟨kvs, q, z, k, r⟩ := ro
        simp only at e
        split at e
        · rename_i ws q1
          cases e
          unfold RV
          exact ⟨a, kvs, rfl, st q, z, k, deepL_snap (follow_snap F n) vs q1 r⟩
        · cases e
      | ins c fs vs =>
        obtain ⟨C, dx, fv, q, ec, f, r⟩ := ro
        simp only at e
        split at e
        · rename_i ws q1
          cases e
          unfold RV
          exact ⟨a, C, dx, fv, rfl, ec, st q, f, deepL_snap (follow_snap F n) vs q1 r⟩
        · cases e
      | dead => cases e
theorem snap_ok (F : Fits G B A h H) {v w : Val} {x : V} (e : snap h v = some w) (r : RV G B A H v x) : RV G (lent B A) [] H w x := deep_snap (follow_snap F 9) v e r
theorem snapL_ok (F : Fits G B A h H) {v w : List Val} {x : List V} (e : snapL h v = some w) (r : RVs G B A H v x) : RVs G (lent B A) [] H w x := deepL_snap (follow_snap F 9) v e r

/-- A: the caller's; A', h': the callee's, that began with nothing; B1: what the caller knows then; Ex: what is not followed -/
structure Back (G : Sg) (B B1 : Bor) (A : List Addr) (A' : List Addr) (h' : Hm) (H' : Hp) (Ex : Addr → Prop) : Prop where
  F' : Fits G (lent B A) A' h' H'
  apart : ∀ a ∈ A', ¬ Ex a → Out B1 A a ∧ ¬ B1.b a
  st : ∀ (c : Fz) (a : Addr) (o : HO), c ≠ .bor → Still (lent B A) A' H' c a o → Still B1 A H' c a o
  tup : ∀ (a : Addr) (xs : List V), H' a = some (.tup xs) → Out B1 A a
  frz : ∀ (a : Addr) (ob : Obj) (u : HO), H' a = some (.frz ob u) → Out B1 A a
theorem still_back {c : Fz} {a : Addr} {o : HO} (nb : c ≠ .bor) (s : Still (lent B A) A' H' c a o) : Still B A H' c a o := by
  cases c with
  | scr => exact absurd rfl s.1
  | bor => exact absurd rfl nb
  | own => exact ⟨by decide, s.2.1, ⟨fun m => s.2.2.2 rfl (.inr m), s.2.2.1.2⟩, fun _ m => s.2.2.2 rfl (.inl m)⟩
theorem Fits.notup (F : Fits G B A h H) {a : Addr} {xs : List V} (e : H a = some (.tup xs)) : Out B A a := by
  refine ⟨fun m => ?_, fun m => ?_⟩
  · rcases F.kind m with ⟨_, q⟩ | ⟨_, q⟩ | ⟨_, _, _, q⟩ <;> (rw [e] at q; cases q)
  · obtain ⟨_, _, q⟩ := F.bx a m
    rw [e] at q
    cases q
theorem Fits.nofrz (F : Fits G B A h H) {a : Addr} {ob : Obj} {u : HO} (e : H a = some (.frz ob u)) : Out B A a := by
  refine ⟨fun m => ?_, fun m => ?_⟩
  · rcases F.kind m with ⟨_, q⟩ | ⟨_, q⟩ | ⟨_, _, _, q⟩ <;> (rw [e] at q; cases q)
  · obtain ⟨_, _, q⟩ := F.bx a m
    rw [e] at q
    cases q
mutual
theorem deep_froz {B1 : Bor} {Ex : Addr → Prop} (K : Back G B B1 A A' h' H' Ex) {lk : Nat → Option Val} (hlk : ∀ i w x, lk i = some w → clean w = true → RV G (lent B A) A' H' (.ref i) x → RV G B1 A H' w x) : ∀ (v : Val) {w : Val} {x : V}, deep lk v = some w → clean w = true → RV G (lent B A) A' H' v x → RV G B1 A H' w x
  | .non, w, x, e, _, r => by
    simp only [deep, Option.some.injEq] at e
    subst e
    exact r
  | .bl _, w, x, e, _, r => by
    simp only [deep, Option.some.injEq] at e
    subst e
    exact r
  | .int _, w, x, e, _, r => by
    simp only [deep, Option.some.injEq] at e
    subst e
    exact r
  | .str _, w, x, e, _, r => by
    simp only [deep, Option.some.injEq] at e
    subst e
    exact r
  | .err _, w, x, e, _, r => by
    unfold RV at r
    exact r.elim
  | .clo _ _, w, x, e, _, r => by
    simp only [deep] at e
    cases e
  | .ref i, w, x, e, c, r => by
    simp only [deep] at e
    exact hlk i w x e c r
  | .tup vs, w, x, e, c, r => by
    simp only [deep] at e
    split at e
    · rename_i ws q
      cases e
      unfold clean at c
      unfold RV at r ⊢
      obtain ⟨a, xs, e1, e2, m, z, r⟩ := r
      exact ⟨a, xs, e1, e2, K.tup _ _ e2, z, deepL_froz K hlk vs q c r⟩
    · cases e
  | .lst c vs, w, x, e, cl, r => by
    simp only [deep] at e
    split at e
    · rename_i ws q
      cases e
      unfold clean at cl
      rw [Bool.and_eq_true, decide_eq_true_eq] at cl
      unfold RV at r ⊢
      obtain ⟨a, xs, e1, e2, z, r⟩ := r
      refine ⟨a, xs, e1, ?_, z, deepL_froz K hlk vs q cl.2 r⟩
      cases c with
      | scr =>
        rcases e2 with ⟨o, e2, m⟩ | k
        · exact .inl ⟨o, e2, K.frz _ _ _ e2⟩
        · exact .inr k
      | own => exact K.st _ _ _ cl.1 e2
      | bor => exact absurd rfl cl.1
    · cases e
  | .dct c ks vs, w, x, e, cl, r => by
    simp only [deep] at e
    split at e
    · rename_i ws q
      cases e
      unfold clean at cl
      rw [Bool.and_eq_true, decide_eq_true_eq] at cl
      unfold RV at r ⊢
      obtain ⟨a, kvs, e1, e2, z, k, r⟩ := r
      exact ⟨a, kvs, e1, K.st _ _ _ cl.1 e2, z, k, deepL_froz K hlk vs q cl.2 r⟩
    · cases e
  | .obj c k fs vs, w, x, e, cl, r => by
    simp only [deep] at e
    split at e
    · rename_i ws q
      cases e
      unfold clean at cl
      rw [Bool.and_eq_true, decide_eq_true_eq] at cl
      unfold RV at r ⊢
      obtain ⟨a, C, dx, fv, e1, ec, e2, f, r⟩ := r
      exact ⟨a, C, dx, fv, e1, ec, K.st _ _ _ cl.1 e2, f, deepL_froz K hlk vs q cl.2 r⟩
    · cases e
theorem deepL_froz {B1 : Bor} {Ex : Addr → Prop} (K : Back G B B1 A A' h' H' Ex) {lk : Nat → Option Val} (hlk : ∀ i w x, lk i = some w → clean w = true → RV G (lent B A) A' H' (.ref i) x → RV G B1 A H' w x) : ∀ (vs : List Val) {ws : List Val} {xs : List V}, deepL lk vs = some ws → cleanL ws = true → RVs G (lent B A) A' H' vs xs → RVs G B1 A H' ws xs
  | [], ws, xs, e, _, r => by
    simp only [deepL, Option.some.injEq] at e
    subst e
    rw [r.ofnil]
    exact RVs.nil
  | v :: vs, ws, xs, e, c, r => by
    simp only [deepL] at e
    split at e
    · rename_i w q1
      split at e
      · rename_i ws' q2
        cases e
        unfold cleanL at c
        rw [Bool.and_eq_true] at c
        obtain ⟨y, ys, e1, r1, r2⟩ := r.uncons
        subst e1
        exact .cons (deep_froz K hlk v q1 c.1 r1) (deepL_froz K hlk vs q2 c.2 r2)
      · cases e
    · cases e
end
theorem follow_froz {B1 : Bor} {Ex : Addr → Prop} (K : Back G B B1 A A' h' H' Ex) (e : Nat) (he : ∀ (i : Nat) (a : Addr), A'[i]? = some a → i ≠ e → ¬ Ex a) : ∀ (n i : Nat) (w : Val) (x : V), followX e n .own h' i = some w → clean w = true → RV G (lent B A) A' H' (.ref i) x → RV G B1 A H' w x
  | 0, _, _, _, e, _, _ => by
    unfold followX at e
    cases e
  | n + 1, i, w, x, ew, cl, r => by
    unfold followX at ew
    split at ew
    · cases ew
    rename_i ne
    unfold RV at r
    obtain ⟨a, rfl, ea⟩ := r
    have ap := K.apart a (List.mem_of_getElem? ea) (he i a ea ne)
    have st : ∀ {o : HO}, H' a = some o → Still B1 A H' .own a o := fun {o} q => ⟨by decide, q, ap.1, fun _ => ap.2⟩
    cases eo : h'[i]? with
    | none => rw [eo] at ew; cases ew
    | some o =>
      have ro := K.F'.ob i o a eo ea
      rw [eo] at ew
      cases o with
      | lst vs =>
        obtain ⟨xs, q, z, r⟩ := ro
        simp only at ew
        split at ew
        · rename_i ws q1
          cases ew
          unfold clean at cl
          rw [Bool.and_eq_true] at cl
          unfold RV
          exact ⟨a, xs, rfl, st q, z, deepL_froz K (follow_froz K e he n) vs q1 cl.2 r⟩
        · cases ew
      | dct ks vs =>
        obtain ⟨kvs, q, z, k, r⟩ := ro
        simp only at ew
        split at ew
        · rename_i ws q1
          cases ew
          unfold clean at cl
          rw [Bool.and_eq_true] at cl
          unfold RV
          exact ⟨a, kvs, rfl, st q, z, k, deepL_froz K (follow_froz K e he n) vs q1 cl.2 r⟩
        · cases ew
      | ins c fs vs =>
        obtain ⟨C, dx, fv, q, ec, f, r⟩ := ro
        simp only at ew
        split at ew
        · rename_i ws q1
          cases ew
          unfold clean at cl
          rw [Bool.and_eq_true] at cl
          unfold RV
          exact ⟨a, C, dx, fv, rfl, ec, st q, f, deepL_froz K (follow_froz K e he n) vs q1 cl.2 r⟩
        · cases ew
      | dead => cases ew
theorem followX_big : ∀ (n e i : Nat) (c : Fz) (h : Hm), h.length ≤ e → followX e n c h i = follow n c h i
  | 0, _, _, _, _, _ => rfl
  | n + 1, e, i, c, h, l => by
    unfold followX follow
    have ih : followX e n c h = follow n c h := funext fun j => followX_big n e j c h l
    rw [ih]
    split
    · rename_i q
      rw [List.getElem?_eq_none (by omega)]
    · rfl
theorem froz_ok {h : Hm} (F : Fits G B A h H') (F' : Fits G (lent B A) A' h' H') (ap : ∀ a ∈ A', Out B A a ∧ ¬ B.b a) {v w : Val} {x : V} (e : froz h' v = some w) (c : clean w = true) (r : RV G (lent B A) A' H' v x) : RV G B A H' w x := by
  have K : Back G B B A A' h' H' (fun _ => False) := ⟨F', fun a m _ => ap a m, fun c a o nb s => still_back nb s, fun a xs q => F.notup q, fun a ob u q => F.nofrz q⟩
  unfold froz at e
  have e1 : follow 9 .own h' = followX h'.length 9 .own h' := funext fun j => (followX_big 9 _ j _ h' (Nat.le_refl _)).symm
  rw [e1] at e
  exact deep_froz K (follow_froz K _ (fun _ _ _ _ z => z) 9) v e c r

structure Sg.Good (G : Sg) : Prop where
  nd : G.txts.Nodup
  ok : ∀ z ∈ G.txts, PyData.strOk z = true
  fnd : G.fld.Nodup
mutual
def toPD (G : Sg) : Val → PyData
  | .non => .none
  | .bl b => .bool b
  | .int i => .int i
  | .str n => .str ((G.txts[n]?).getD Str.empty)
  | .tup vs => .tuple (toPDs G vs)
  | .lst _ vs => .list (toPDs G vs)
  | _ => .none
def toPDs (G : Sg) : List Val → List PyData
  | [] => []
  | v :: vs => toPD G v :: toPDs G vs
end
theorem toPDs_map (vs : List Val) : toPDs G vs = vs.map (toPD G) := by
  induction vs with
  | nil => simp [toPDs]
  | cons v vs ih => simp [toPDs, ih]
theorem dpAll_of {n : Nat} (ih : ∀ (a : Val) (x : V), isData n a = true → RV G B A H a x → Dp G.K H x (toPD G a)) : ∀ (vs : List Val) {xs : List V}, vs.all (isData n) = true → RVs G B A H vs xs → DpAll G.K H xs (toPDs G vs)
  | [], xs, _, r => by
    rw [r.ofnil]
    unfold toPDs
    exact .nil
  | v :: vs, xs, d, r => by
    rw [List.all_cons, Bool.and_eq_true] at d
    obtain ⟨y, ys, e1, r1, r2⟩ := r.uncons
    subst e1
    unfold toPDs
    exact .cons (ih v y d.1 r1) (dpAll_of ih vs d.2 r2)
theorem dp_of : ∀ (n : Nat) (a : Val) (x : V), isData n a = true → RV G B A H a x → Dp G.K H x (toPD G a)
  | n, .non, x, _, r => by
    unfold RV at r
    subst r
    unfold toPD
    exact .non
  | n, .bl b, x, _, r => by
    unfold RV at r
    subst r
    unfold toPD
    exact .bl b
  | n, .int i, x, _, r => by
    unfold RV at r
    subst r
    unfold toPD
    exact .int i
  | n, .str m, x, _, r => by
    unfold RV at r
    obtain ⟨z, e, rfl⟩ := r
    unfold toPD
    rw [e]
    exact .str z
  | 0, .tup vs, x, d, r => by simp [isData] at d
  | 0, .lst c vs, x, d, r => by simp [isData] at d
  | n + 1, .tup vs, x, d, r => by
    unfold isData at d
    unfold RV at r
    obtain ⟨a, xs, rfl, e, _, _, r⟩ := r
    unfold toPD
    exact .tup (SqT.of e) (dpAll_of (dp_of n) vs d r)
  | n + 1, .lst c vs, x, d, r => by
    unfold isData at d
    unfold RV at r
    obtain ⟨a, xs, rfl, e, _, r⟩ := r
    unfold toPD
    exact .lst e.sq (dpAll_of (dp_of n) vs d r)
  | n, .dct _ _ _, x, d, r => by cases n <;> simp [isData] at d
  | n, .obj _ _ _ _, x, d, r => by cases n <;> simp [isData] at d
  | n, .ref _, x, d, r => by cases n <;> simp [isData] at d
  | n, .err _, x, d, r => by cases n <;> simp [isData] at d
  | n, .clo _ _, x, d, r => by cases n <;> simp [isData] at d
theorem layAll_of {n : Nat} (ih : ∀ a : Val, isData n a = true → (toPD G a).canLay0 = true ∧ (toPD G a).depth ≤ n) : ∀ (vs : List Val), vs.all (isData n) = true → PyData.canLayAll0 (toPDs G vs) = true ∧ PyData.depthAll (toPDs G vs) ≤ n
  | [], _ => by
    unfold toPDs PyData.canLayAll0 PyData.depthAll
    exact ⟨rfl, Nat.zero_le _⟩
  | v :: vs, d => by
    rw [List.all_cons, Bool.and_eq_true] at d
    unfold toPDs PyData.canLayAll0 PyData.depthAll
    obtain ⟨h1, h2⟩ := ih v d.1
    obtain ⟨h3, h4⟩ := layAll_of ih vs d.2
    exact ⟨by rw [h1, h3]; rfl, Nat.max_le.mpr ⟨h2, h4⟩⟩
theorem lay_of (g : G.Good) : ∀ (n : Nat) (a : Val), isData n a = true → (toPD G a).canLay0 = true ∧ (toPD G a).depth ≤ n
  | n, .non, _ => by
    unfold toPD PyData.canLay0 PyData.depth
    exact ⟨rfl, Nat.zero_le _⟩
  | n, .bl b, _ => by
    unfold toPD PyData.canLay0 PyData.depth
    exact ⟨rfl, Nat.zero_le _⟩
  | n, .int i, _ => by
    unfold toPD PyData.canLay0 PyData.depth
    exact ⟨rfl, Nat.zero_le _⟩
  | n, .str m, _ => by
    unfold toPD PyData.canLay0 PyData.depth
    refine ⟨?_, Nat.zero_le _⟩
    cases e : G.txts[m]? with
    | none => exact (by decide +kernel : PyData.strOk Str.empty = true)
    | some z => exact g.ok z (List.mem_of_getElem? e)
  | 0, .tup vs, d => by simp [isData] at d
  | 0, .lst c vs, d => by simp [isData] at d
  | n + 1, .tup vs, d => by
    unfold isData at d
    unfold toPD PyData.canLay0 PyData.depth
    obtain ⟨h1, h2⟩ := layAll_of (lay_of g n) vs d
    exact ⟨h1, Nat.succ_le_succ h2⟩
  | n + 1, .lst c vs, d => by
    unfold isData at d
    unfold toPD PyData.canLay0 PyData.depth
    obtain ⟨h1, h2⟩ := layAll_of (lay_of g n) vs d
    exact ⟨h1, Nat.succ_le_succ h2⟩
  | n, .dct _ _ _, d => by cases n <;> simp [isData] at d
  | n, .obj _ _ _ _, d => by cases n <;> simp [isData] at d
  | n, .ref _, d => by cases n <;> simp [isData] at d
  | n, .err _, d => by cases n <;> simp [isData] at d
  | n, .clo _ _, d => by cases n <;> simp [isData] at d
theorem shaped_of (g : G.Good) {n : Nat} {a : Val} (hn : n ≤ 64) (d : isData n a = true) : SeqAt.shaped (toPD G a) = true := by
  obtain ⟨h1, h2⟩ := lay_of g n a d
  unfold SeqAt.shaped
  rw [h1, Bool.true_and, decide_eq_true_eq]
  exact Nat.le_trans h2 hn
theorem txt_eq (g : G.Good) {m n : Nat} {x y : Str} (e1 : G.txts[m]? = some x) (e2 : G.txts[n]? = some y) : (m == n) = (x == y) := by
  rw [Bool.eq_iff_iff, beq_iff_eq, beq_iff_eq]
  constructor
  · intro e
    subst e
    exact Option.some.inj (e1.symm.trans e2)
  · intro e
    subst e
    exact (List.getElem?_inj (List.getElem?_eq_some_iff.mp e1).1 g.nd).mp (e1.trans e2.symm)
mutual
theorem eqv_of (g : G.Good) {A2 : List Addr} {H2 : Hp} {B2 : Bor} : ∀ (a b : Val) {x y : V}, RV G B A H a x → RV G B2 A2 H2 b y → (∃ n, isData n a = true) → (∃ n, isData n b = true) → eqV a b = PyData.eqv (toPD G a) (toPD G b)
  | .str m, .str n, x, y, r1, r2, _, _ => by
    unfold RV at r1 r2
    obtain ⟨z1, e1, _⟩ := r1
    obtain ⟨z2, e2, _⟩ := r2
    simp only [toPD, e1, e2, Option.getD_some, eqV, PyData.eqv]
    exact txt_eq g e1 e2
  | .lst _ vs, .lst _ ws, x, y, r1, r2, ⟨n1, d1⟩, ⟨n2, d2⟩ => by
    cases n1 <;> simp only [isData] at d1 <;> try cases d1
    cases n2 <;> simp only [isData] at d2 <;> try cases d2
    unfold RV at r1 r2
    obtain ⟨_, _, _, _, _, r1⟩ := r1
    obtain ⟨_, _, _, _, _, r2⟩ := r2
    simp only [toPD, eqV, PyData.eqv]
    exact eqvs_of g vs ws r1 r2 (fun v hv => ⟨_, List.all_eq_true.mp d1 v hv⟩) (fun v hv => ⟨_, List.all_eq_true.mp d2 v hv⟩)
  | .tup vs, .tup ws, x, y, r1, r2, ⟨n1, d1⟩, ⟨n2, d2⟩ => by
    cases n1 <;> simp only [isData] at d1 <;> try cases d1
    cases n2 <;> simp only [isData] at d2 <;> try cases d2
    unfold RV at r1 r2
    obtain ⟨_, _, _, _, _, _, r1⟩ := r1
    obtain ⟨_, _, _, _, _, _, r2⟩ := r2
    simp only [toPD, eqV, PyData.eqv]
    exact eqvs_of g vs ws r1 r2 (fun v hv => ⟨_, List.all_eq_true.mp d1 v hv⟩) (fun v hv => ⟨_, List.all_eq_true.mp d2 v hv⟩)
  | .non, b, x, y, _, _, _, ⟨n, d⟩ => by cases b <;> first | (simp only [toPD, eqV, PyData.eqv]; done) | (cases n <;> simp [isData] at d)
  | .bl _, b, x, y, _, _, _, ⟨n, d⟩ => by cases b <;> first | (simp only [toPD, eqV, PyData.eqv]; done) | (cases n <;> simp [isData] at d)
  | .int _, b, x, y, _, _, _, ⟨n, d⟩ => by cases b <;> first | (simp only [toPD, eqV, PyData.eqv]; done) | (cases n <;> simp [isData] at d)
  | .str _, .non, x, y, _, _, _, _ => by simp only [toPD, eqV, PyData.eqv]
  | .str _, .bl _, x, y, _, _, _, _ => by simp only [toPD, eqV, PyData.eqv]
  | .str _, .int _, x, y, _, _, _, _ => by simp only [toPD, eqV, PyData.eqv]
  | .str _, .tup _, x, y, _, _, _, _ => by simp only [toPD, eqV, PyData.eqv]
  | .str _, .lst _ _, x, y, _, _, _, _ => by simp only [toPD, eqV, PyData.eqv]
  | .lst _ _, .non, x, y, _, _, _, _ => by simp only [toPD, eqV, PyData.eqv]
  | .lst _ _, .bl _, x, y, _, _, _, _ => by simp only [toPD, eqV, PyData.eqv]
  | .lst _ _, .int _, x, y, _, _, _, _ => by simp only [toPD, eqV, PyData.eqv]
  | .lst _ _, .str _, x, y, _, _, _, _ => by simp only [toPD, eqV, PyData.eqv]
  | .lst _ _, .tup _, x, y, _, _, _, _ => by simp only [toPD, eqV, PyData.eqv]
  | .tup _, .non, x, y, _, _, _, _ => by simp only [toPD, eqV, PyData.eqv]
  | .tup _, .bl _, x, y, _, _, _, _ => by simp only [toPD, eqV, PyData.eqv]
  | .tup _, .int _, x, y, _, _, _, _ => by simp only [toPD, eqV, PyData.eqv]
  | .tup _, .str _, x, y, _, _, _, _ => by simp only [toPD, eqV, PyData.eqv]
  | .tup _, .lst _ _, x, y, _, _, _, _ => by simp only [toPD, eqV, PyData.eqv]
  | .dct _ _ _, _, x, y, _, _, ⟨n, d⟩, _ => by cases n <;> simp [isData] at d
  | .obj _ _ _ _, _, x, y, _, _, ⟨n, d⟩, _ => by cases n <;> simp [isData] at d
  | .ref _, _, x, y, _, _, ⟨n, d⟩, _ => by cases n <;> simp [isData] at d
  | .err _, _, x, y, _, _, ⟨n, d⟩, _ => by cases n <;> simp [isData] at d
  | .clo _ _, _, x, y, _, _, ⟨n, d⟩, _ => by cases n <;> simp [isData] at d
  | .str _, .dct _ _ _, x, y, _, _, _, ⟨n, d⟩ => by cases n <;> simp [isData] at d
  | .str _, .obj _ _ _ _, x, y, _, _, _, ⟨n, d⟩ => by cases n <;> simp [isData] at d
  | .str _, .ref _, x, y, _, _, _, ⟨n, d⟩ => by cases n <;> simp [isData] at d
  | .str _, .err _, x, y, _, _, _, ⟨n, d⟩ => by cases n <;> simp [isData] at d
  | .str _, .clo _ _, x, y, _, _, _, ⟨n, d⟩ => by cases n <;> simp [isData] at d
  | .lst _ _, .dct _ _ _, x, y, _, _, _, ⟨n, d⟩ => by cases n <;> simp [isData] at d
  | .lst _ _, .obj _ _ _ _, x, y, _, _, _, ⟨n, d⟩ => by cases n <;> simp [isData] at d
  | .lst _ _, .ref _, x, y, _, _, _, ⟨n, d⟩ => by cases n <;> simp [isData] at d
  | .lst _ _, .err _, x, y, _, _, _, ⟨n, d⟩ => by cases n <;> simp [isData] at d
  | .lst _ _, .clo _ _, x, y, _, _, _, ⟨n, d⟩ => by cases n <;> simp [isData] at d
  | .tup _, .dct _ _ _, x, y, _, _, _, ⟨n, d⟩ => by cases n <;> simp [isData] at d
  | .tup _, .obj _ _ _ _, x, y, _, _, _, ⟨n, d⟩ => by cases n <;> simp [isData] at d
  | .tup _, .ref _, x, y, _, _, _, ⟨n, d⟩ => by cases n <;> simp [isData] at d
  | .tup _, .err _, x, y, _, _, _, ⟨n, d⟩ => by cases n <;> simp [isData] at d
  | .tup _, .clo _ _, x, y, _, _, _, ⟨n, d⟩ => by cases n <;> simp [isData] at d
theorem eqvs_of (g : G.Good) {A2 : List Addr} {H2 : Hp} {B2 : Bor} : ∀ (vs ws : List Val) {xs ys : List V}, RVs G B A H vs xs → RVs G B2 A2 H2 ws ys → (∀ v ∈ vs, ∃ n, isData n v = true) → (∀ v ∈ ws, ∃ n, isData n v = true) → eqVs vs ws = PyData.eqvAll (toPDs G vs) (toPDs G ws)
  | [], [], _, _, _, _, _, _ => by simp only [toPDs, eqVs, PyData.eqvAll]
  | [], _ :: _, _, _, _, _, _, _ => by simp only [toPDs, eqVs, PyData.eqvAll]
  | _ :: _, [], _, _, _, _, _, _ => by simp only [toPDs, eqVs, PyData.eqvAll]
  | v :: vs, w :: ws, xs, ys, r1, r2, d1, d2 => by
    obtain ⟨_, _, _, r1, r1'⟩ := r1.uncons
    obtain ⟨_, _, _, r2, r2'⟩ := r2.uncons
    simp only [toPDs, eqVs, PyData.eqvAll]
    rw [eqv_of g v w r1 r2 (d1 v List.mem_cons_self) (d2 w List.mem_cons_self), eqvs_of g vs ws r1' r2' (fun u hu => d1 u (List.mem_cons_of_mem _ hu)) fun u hu => d2 u (List.mem_cons_of_mem _ hu)]
end
end
end MP
set_option Elab.async false
set_option linter.all false
set_option maxRecDepth 100000
namespace MP
open PySem L2 PySem.SeqAt AutoSeq1 MeetsSeq Sem
section
theorem str_eq_declines_dict (b : Str) (u : Tok) (l : Addr) (dd : Option Addr) (es : Array DictEntry) (ep : Nat) (sl : Array (Option Value)) :
    Meets (Builtin.«str.__eq__» ⟨[.str b u, .ref l], []⟩) (fun _ R s => s.heap.get? l = some { cls := .type "dict", dict := dd, data := .dict es ep, slots := sl } ∧ R (.ok (.ret .notImplemented)) s) :=
  .of_wp fun prog w A R s h => by obtain ⟨hp, g, d, tk, os⟩ := s; obtain ⟨hl, h⟩ := h; wp_walk using wpAny_loadPart' hl, wpAny_load hl; exact ⟨_, rfl, h⟩
theorem str_ne_declines_dict (b : Str) (u : Tok) (l : Addr) (dd : Option Addr) (es : Array DictEntry) (ep : Nat) (sl : Array (Option Value)) :
    Meets (Builtin.«str.__ne__» ⟨[.str b u, .ref l], []⟩) (fun _ R s => s.heap.get? l = some { cls := .type "dict", dict := dd, data := .dict es ep, slots := sl } ∧ R (.ok (.ret .notImplemented)) s) :=
  .of_wp fun prog w A R s h => by obtain ⟨hp, g, d, tk, os⟩ := s; obtain ⟨hl, h⟩ := h; wp_walk using wpAny_loadPart' hl, wpAny_load hl; exact ⟨_, rfl, h⟩
variable {prog : Program} {w : World} {K : Type} [DecidableEq K] {knd : KeyKind prog w K} {A : Around} {E : Value → Shared → Prop} {s : Shared} {Q : Value → Shared → Prop}
theorem rc_dict_str {a : Addr} {ka : List (K × Value)} (b : Str) (u : Tok) (da : s.heap.DictOf knd a ka) (hu : A.units < cLine) (h : Q (.bool false) s) : wpAny (model prog w) A (richCompare .Eq (.ref a) (.str b u)) Q E s := by
  have ht := da.typeIs
  obtain ⟨⟨cls, dd, data, sl⟩, es, ep, ho, hx, hd, _⟩ := id da
  simp only at hd
  subst hd
  have hc : cls = .type "dict" := hx.1
  subst hc
  refine rc_eq_decline_or (k := false) ht (typeIs_str s b u) (by decide) F.sub_str_dict F.slot_dict_eq F.slot_str_eq_refl
    (fun Q' hq => ?_)
    (fun _ hq => call_meets F.slot_str_eq_refl (typeIs_str s b u) F.entry_str_eq (F.args_str_eq_2 _ _) (str_eq_declines_dict b u a dd es ep sl) ⟨ho, hq⟩)
    (fun _ hq => wpAny_of_eq (rfl : isSame (.ref a) (.str b u) = pure false) hq) (.inr hu) h
  refine wpAny_call_entry F.slot_dict_eq ht F.entry_dict_eq ?_ (F.args_dict_eq_2 _ _)
  show wpAny _ _ (Builtin.Dict.dictSlotArgs "__eq__" ⟨[.ref a, .str b u], []⟩ >>= _) _ _ s
  refine wpAny_bind ?_
  unfold Builtin.Dict.dictSlotArgs
  refine wpAny_bind (wpAny_notOrdered_dict ht ?_)
  show wpAny _ _ (Pure.pure (Value.ref a, Value.str b u)) _ _ s
  refine wpAny_pure ?_
  refine wpAny_bind (wpAny_isInstance (T := "str") (typeIs_str s b u) F.sub_str_dict ?_)
  simp only [Bool.not_false, if_true]
  refine wpAny_bind (wpAny_rule ?_)
  exact wpAny_pure ⟨_, rfl, hq⟩
theorem rcne_dict_str {a : Addr} {ka : List (K × Value)} (b : Str) (u : Tok) (da : s.heap.DictOf knd a ka) (hu : A.units < cLine) (h : Q (.bool true) s) : wpAny (model prog w) A (richCompare .NotEq (.ref a) (.str b u)) Q E s := by
  have ht := da.typeIs
  obtain ⟨⟨cls, dd, data, sl⟩, es, ep, ho, hx, hd, _⟩ := id da
  simp only at hd
  subst hd
  have hc : cls = .type "dict" := hx.1
  subst hc
  refine rc_ne_decline_or (k := false) ht (typeIs_str s b u) (by decide) F.sub_str_dict F.slot_dict_ne F.slot_str_ne_refl
    (fun Q' hq => ?_)
    (fun _ hq => call_meets F.slot_str_ne_refl (typeIs_str s b u) F.entry_str_ne (F.args_str_ne_2 _ _) (str_ne_declines_dict b u a dd es ep sl) ⟨ho, hq⟩)
    (fun _ hq => wpAny_of_eq (rfl : isSame (.ref a) (.str b u) = pure false) hq) (.inr hu) h
  refine wpAny_call_entry F.slot_dict_ne ht F.entry_dict_ne ?_ (F.args_dict_ne_2 _ _)
  show wpAny _ _ (Builtin.Dict.dictSlotArgs "__ne__" ⟨[.ref a, .str b u], []⟩ >>= _) _ _ s
  refine wpAny_bind ?_
  unfold Builtin.Dict.dictSlotArgs
  refine wpAny_bind (wpAny_notOrdered_dict ht ?_)
  show wpAny _ _ (Pure.pure (Value.ref a, Value.str b u)) _ _ s
  refine wpAny_pure ?_
  refine wpAny_bind (wpAny_isInstance (T := "str") (typeIs_str s b u) F.sub_str_dict ?_)
  simp only [Bool.not_false, if_true]
  refine wpAny_bind (wpAny_rule ?_)
  exact wpAny_pure ⟨_, rfl, hq⟩
end
end MP
set_option Elab.async false
set_option linter.all false
set_option maxRecDepth 100000
set_option autoImplicit false
namespace MP
open PySem PySem.Spec PyProof.Rows L2
variable [Tabs]
/-- an end of which no exception is asked -/
def PV (G : Sg) (B : Bor) (A : List Addr) (H : Hp) (r : R Val) (Q : VK) : Prop := Post G B (fun _ _ _ _ => True) [] (RVr G B) A H r fun _ x _ _ H' => Q x H'
section
variable {G : Sg} {B : Bor} {A : List Addr} {H : Hp} {h : Hm} {X : Cx} {Q : VK}
theorem PV.ok {v : Val} {h' : Hm} (p : PV G B A H (.ok v h') Q) {A' : List Addr} {H' : Hp} {x : V} (F : Fits G B A' h' H') (n : Next A H A' H') (r : RV G B A' H' v x) : Q x H' := p A' H' x F n r
theorem Post.toPV {W : WX} {σ : L2.St} {r : R Val} {k : Val → V → Hm → List Addr → Hp → Prop} (p : Post G B W σ (RVr G B) A H r k) (i : ∀ v x h' A' H', Fits G B A' h' H' → Next A H A' H' → RV G B A' H' v x → k v x h' A' H' → Q x H') : PV G B A H r Q := by
  cases r with
  | ok v h' => exact fun A' H' x f m q => i v x h' A' H' f m q (p A' H' x f m q)
  | exc c h' => exact fun _ _ _ _ _ _ => trivial
  | bad => exact p
theorem big_le {n : Nat} (e : n ≤ big) : n ≤ sizeLine := by
  rw [sizeLine_eq]
  unfold big at e
  omega
theorem big_lt {n : Nat} (e : n < big) : n < sizeLine := by
  rw [sizeLine_eq]
  unfold big at e
  omega
theorem seqOf_ok (F : Fits G B A h H) {v : Val} {vs : List Val} {x : V} (e : seqOf h v = some vs) (r : RV G B A H v x) :
    ∃ a xs, x = .ref a ∧ (SqL G.K H a xs ∨ SqT G.K H a xs) ∧ xs.length ≤ sizeLine ∧ RVs G B A H vs xs := by
  cases v <;> simp only [seqOf] at e <;> try cases e
  · unfold RV at r
    obtain ⟨a, xs, rfl, e, _, z, r⟩ := r
    exact ⟨a, xs, rfl, .inr (SqT.of e), z, r⟩
  · rename_i c
    unfold RV at r
    obtain ⟨a, xs, rfl, e, z, r⟩ := r
    exact ⟨a, xs, rfl, .inl e.sq, z, r⟩
  · rename_i i
    unfold RV at r
    obtain ⟨a, rfl, ea⟩ := r
    split at e
    · rename_i ws q
      cases e
      obtain ⟨xs, e, z, r⟩ := F.ob i _ a q ea
      exact ⟨a, xs, rfl, .inl (SqL.of e), z, r⟩
    · cases e
theorem lstOf_ok (F : Fits G B A h H) {v : Val} {vs : List Val} {x : V} (e : lstOf h v = some vs) (r : RV G B A H v x) :
    ∃ a xs, x = .ref a ∧ SqL G.K H a xs ∧ xs.length ≤ sizeLine ∧ RVs G B A H vs xs := by
  cases v <;> simp only [lstOf] at e <;> try cases e
  · rename_i c
    unfold RV at r
    obtain ⟨a, xs, rfl, e, z, r⟩ := r
    exact ⟨a, xs, rfl, e.sq, z, r⟩
  · rename_i i
    unfold RV at r
    obtain ⟨a, rfl, ea⟩ := r
    split at e
    · rename_i ws q
      cases e
      obtain ⟨xs, e, z, r⟩ := F.ob i _ a q ea
      exact ⟨a, xs, rfl, SqL.of e, z, r⟩
    · cases e
theorem catOf_ok (F : Fits G B A h H) {v : Val} {vs : List Val} {x : V} (e : catOf h v = some vs) (r : RV G B A H v x) :
    ∃ a xs, x = .ref a ∧ H a = some (.lst xs) ∧ xs.length ≤ sizeLine ∧ RVs G B A H vs xs := by
  cases v <;> try (simp [catOf] at e; done)
  · rename_i c vs
    unfold RV at r
    obtain ⟨a, xs, rfl, q, z, r⟩ := r
    cases c <;> simp [catOf] at e <;> subst e
    · exact ⟨a, xs, rfl, q.2.1, z, r⟩
    · exact ⟨a, xs, rfl, q.2.1, z, r⟩
  · rename_i i
    unfold RV at r
    obtain ⟨a, rfl, ea⟩ := r
    simp only [catOf] at e
    split at e
    · rename_i ws q
      cases e
      obtain ⟨xs, e, z, r⟩ := F.ob i _ a q ea
      exact ⟨a, xs, rfl, e, z, r⟩
    · cases e
theorem dctOf_ok (F : Fits G B A h H) {v : Val} {ks : List MKey} {vs : List Val} {x : V} (e : dctOf h v = some (ks, vs)) (r : RV G B A H v x) :
    ∃ a kvs, x = .ref a ∧ H a = some (.dK kvs) ∧ kvs.length ≤ sizeLine ∧ RKeys G ks (kvs.map (·.1)) ∧ RVs G B A H vs (kvs.map (·.2)) := by
  cases v <;> simp only [dctOf] at e <;> try cases e
  · rename_i c
    unfold RV at r
    obtain ⟨a, kvs, rfl, e, z, k, r⟩ := r
    exact ⟨a, kvs, rfl, e.2.1, z, k, r⟩
  · rename_i i
    unfold RV at r
    obtain ⟨a, rfl, ea⟩ := r
    split at e
    · rename_i ks' vs' q
      cases e
      obtain ⟨kvs, e, z, k, r⟩ := F.ob i _ a q ea
      exact ⟨a, kvs, rfl, e, z, k, r⟩
    · cases e
theorem insOf_ok (F : Fits G B A h H) {v : Val} {k : Nat} {fs : List Nat} {vs : List Val} {x : V} (e : insOf h v = some (k, fs, vs)) (r : RV G B A H v x) :
    ∃ a C dx fv, x = .ref a ∧ H a = some (.ins C dx fv) ∧ G.cls k = some C ∧ RFs G fs (fv.map (·.1)) ∧ RVs G B A H vs (fv.map (·.2)) := by
  cases v <;> simp only [insOf] at e <;> try cases e
  · rename_i c
    unfold RV at r
    obtain ⟨a, C, dx, fv, rfl, ec, e, f, r⟩ := r
    exact ⟨a, C, dx, fv, rfl, e.2.1, ec, f, r⟩
  · rename_i i
    unfold RV at r
    obtain ⟨a, rfl, ea⟩ := r
    split at e
    · rename_i k' fs' vs' q
      cases e
      obtain ⟨C, dx, fv, e, ec, f, r⟩ := F.ob i _ a q ea
      exact ⟨a, C, dx, fv, rfl, e, ec, f, r⟩
    · cases e
/-- a list was made at p -/
theorem mkL_ok {z : Bool} {vs : List Val} {xs : List V} (F : Fits G B A h H) (p : PV G B A H (mkL z vs h) Q) (r : RVs G B A H vs xs) (l : xs.length ≤ sizeLine) {d : Addr} (e : H d = none) : Q (.ref d) (upd H d (.lst xs)) := by
  unfold mkL at p
  cases z with
  | true =>
    rw [if_pos rfl] at p
    refine p.ok (F.other e) (next_new e) ?_
    unfold RV
    exact ⟨d, xs, rfl, ⟨by decide, upd_same, F.new e, fun _ => F.newB e⟩, l, RVs.mono (next_new e) vs r⟩
  | false =>
    rw [if_neg Bool.false_ne_true] at p
    refine p.ok (F.push e ⟨xs, upd_same, l, RVs.mono (next_mine e) vs r⟩) (next_mine e) ?_
    unfold RV
    exact ⟨d, rfl, by rw [← F.len]; simp⟩
theorem tup_ok {vs : List Val} {xs : List V} (F : Fits G B A h H) (p : PV G B A H (.ok (.tup vs) h) Q) (r : RVs G B A H vs xs) (l : xs.length ≤ sizeLine) {d : Addr} (e : H d = none) : Q (.ref d) (upd H d (.tup xs)) := by
  refine p.ok (F.other e) (next_new e) ?_
  unfold RV
  exact ⟨d, xs, rfl, upd_same, F.new e, l, RVs.mono (next_new e) vs r⟩
/-- a tuple that stood -/
theorem tup_old {vs : List Val} {xs : List V} {a : Addr} (F : Fits G B A h H) (p : PV G B A H (.ok (.tup vs) h) Q) (e : H a = some (.tup xs)) (r : RVs G B A H vs xs) (l : xs.length ≤ sizeLine) : Q (.ref a) H := by
  refine p.ok F .refl ?_
  unfold RV
  exact ⟨a, xs, rfl, e, F.notup e, l, r⟩
theorem rv_int {i : Int} : RV G B A H (.int i) (.int i) := by unfold RV; rfl
theorem rv_bl {b : Bool} : RV G B A H (.bl b) (.bl b) := by unfold RV; rfl
theorem rv_non : RV G B A H .non .non := by unfold RV; rfl
theorem int_ok {i : Int} (F : Fits G B A h H) (p : PV G B A H (.ok (.int i) h) Q) : Q (.int i) H := p.ok F .refl rv_int
theorem bl_ok {b : Bool} (F : Fits G B A h H) (p : PV G B A H (.ok (.bl b) h) Q) : Q (.bl b) H := p.ok F .refl rv_bl
theorem val_ok {v : Val} {x : V} (F : Fits G B A h H) (p : PV G B A H (.ok v h) Q) (r : RV G B A H v x) : Q x H := p.ok F .refl r

def opB : BOp → Operator
  | .add => .Add
  | .sub => .Sub
  | .mul => .Mult
  | .fdiv => .FloorDiv
  | .mod => .Mod
  | .pow => .Pow
def rBin (G : Sg) (B : Bor) (z : Bool) (o : BOp) : R2 := fun x y H Q => ∃ A h v w, Fits G B A h H ∧ RV G B A H v x ∧ RV G B A H w y ∧ PV G B A H (binM z o v w h) Q
theorem mulOk {i j : Int} (c : i.natAbs.log2 + j.natAbs.log2 < 100000000) : IntMulOk i j := by
  have b : ∀ x : Int, Builtin.Int.intBits x ≤ x.natAbs.log2 + 1 := fun x => by
    unfold Builtin.Int.intBits
    split <;> omega
  have h1 := b i
  have h2 := b j
  have e : bitsLine = 134217728 := by decide
  unfold IntMulOk
  intro z
  rw [Bool.and_eq_true] at z
  have z2 := z.2
  unfold Builtin.Int.intTooBig at z2
  have z3 := of_decide_eq_true z2
  rw [e] at z3
  omega
theorem binI_ok {o : BOp} {i j k : Int} (e : binI o i j = some k) {pins : List (Addr × Obj)} {s : Shared} {σ : L2.St} {v u : Value} (I : Inv X pins σ H s) (rx : RelV (.int i) v) (ry : RelV (.int j) u) (q : Q (.int k) H) :
    wpAny (model X.prog X.w) X.A (binaryOp (opB o) v u) (EP X pins σ Q) X.xe s := by
  cases o <;> simp only [binI] at e
  · cases e
    exact op_add pins s σ H _ _ v u Q I rx ry ⟨i, j, rfl, rfl, q⟩
  · cases e
    exact op_sub pins s σ H _ _ v u Q I rx ry ⟨i, j, rfl, rfl, q⟩
  · split at e
    · rename_i c
      cases e
      exact (opI fun _ _ _ _ _ _ _ hc q => mul_int q hc : OpR X (binaryOp .Mult) (rI IntMulOk fun i j => .int (i * j))) pins s σ H _ _ v u Q I rx ry ⟨i, j, rfl, rfl, mulOk c, q⟩
    · cases e
  · split at e
    · rename_i c
      cases e
      exact op_fdiv pins s σ H _ _ v u Q I rx ry ⟨i, j, rfl, rfl, ⟨c.1, by omega⟩, q⟩
    · cases e
  · split at e
    · rename_i c
      cases e
      exact op_mod pins s σ H _ _ v u Q I rx ry ⟨i, j, rfl, rfl, c, q⟩
    · cases e
  · split at e
    · rename_i c
      cases e
      exact op_pow pins s σ H _ _ v u Q I rx ry ⟨i, j, rfl, rfl, ⟨c.1, by omega, Nat.lt_trans c.2.2 (by decide)⟩, q⟩
    · cases e
theorem op_binM {z : Bool} {o : BOp} (hX : X.K = G.K) : OpR X (binaryOp (opB o)) (rBin G B z o) := by
  intro pins s σ H x y v u Q I rx ry ⟨A, h, a, b, F, ra, rb, p⟩
  unfold binM at p
  split at p
  · -- ints
    rename_i i j
    unfold RV at ra rb
    subst ra rb
    split at p
    · rename_i k e
      exact binI_ok e I rx ry (int_ok F p)
    · exact p.elim
  · -- tuples
    rename_i vs ws
    split at p
    · split at p
      · rename_i c
        have ra' := ra
        have rb' := rb
        unfold RV at ra' rb'
        obtain ⟨a1, xs, rfl, e1, _, z1, r1⟩ := ra'
        obtain ⟨a2, ys, rfl, e2, _, z2, r2⟩ := rb'
        have l1 := r1.length
        have l2 := r2.length
        have lz : xs.length + ys.length ≤ sizeLine := by rw [← l1, ← l2]; exact big_le c.2
        refine op_catT pins s σ H _ _ v u Q I rx ry ⟨a1, a2, xs, ys, rfl, rfl, SqT.of e1, SqT.of e2, fun e => c.1 (by rw [l1, e]; rfl), lz, fun e => ?_, fun _ d hd => ?_⟩
        · have e' : ws = [] := List.length_eq_zero_iff.mp (by rw [l2, e]; rfl)
          rw [e', List.append_nil] at p
          exact tup_old F p e1 r1 z1
        · exact tup_ok F p (r1.append r2) (by rw [List.length_append]; exact lz) hd
      · exact p.elim
    · exact p.elim
  · -- a tuple, so often
    rename_i vs k
    split at p
    · split at p
      · rename_i c
        have ra' := ra
        unfold RV at ra' rb
        obtain ⟨a1, xs, rfl, e1, _, z1, r1⟩ := ra'
        subst rb
        have l1 := r1.length
        rw [l1] at c
        refine op_repT pins s σ H _ _ v u Q I rx ry ⟨a1, k, xs, rfl, rfl, SqT.of e1, fun e => c.1 (by rw [e]; rfl), c.2.1, c.2.2.1, c.2.2.2, fun d hd => ?_⟩
        refine tup_ok F p (r1.rep _) ?_ hd
        have h1 : xs.length * k.toNat ≤ 1000 * 1000 := Nat.mul_le_mul c.2.2.2 (by omega)
        have h2 : (List.replicate k.toNat xs).flatten.length = k.toNat * xs.length := by simp
        rw [h2, Nat.mul_comm]
        refine Nat.le_trans h1 ?_
        rw [sizeLine_eq]
        decide
      · exact p.elim
    · exact p.elim
  · -- a list, so often
    rename_i k _ _
    split at p
    · rename_i vs e
      split at p
      · rename_i c
        unfold RV at rb
        subst rb
        obtain ⟨a1, xs, rfl, e1, z1, r1⟩ := catOf_ok F e ra
        have l1 := r1.length
        rw [l1] at c
        have lz : xs.length * k.toNat ≤ sizeLine := big_le c.2.2
        refine op_rep pins s σ H _ _ v u Q I rx ry ⟨a1, k, xs, rfl, rfl, e1, by omega, by omega, lz, fun d hd => ?_⟩
        exact mkL_ok F p (r1.rep _) (by simpa [List.length_flatten, Nat.mul_comm] using lz) hd
      · exact p.elim
    · exact p.elim
  · split at p
    · rename_i e1 e2
      split at p
      · rename_i c
        obtain ⟨a1, xs, rfl, q1, z1, r1⟩ := catOf_ok F e1 ra
        obtain ⟨a2, ys, rfl, q2, z2, r2⟩ := catOf_ok F e2 rb
        have lz : xs.length + ys.length ≤ sizeLine := by rw [← r1.length, ← r2.length]; exact big_le c
        exact op_cat pins s σ H _ _ v u Q I rx ry ⟨a1, a2, xs, ys, rfl, rfl, q1, q2, lz, fun d hd => mkL_ok F p (r1.append r2) (by rw [List.length_append]; exact lz) hd⟩
      · exact p.elim
    · exact p.elim

def opC : COp → CmpOp
  | .eq => .Eq
  | .ne => .NotEq
  | .lt => .Lt
  | .le => .LtE
  | .gt => .Gt
  | .ge => .GtE
  | .is => .Is
  | .isn => .IsNot
  | .inn => .In
  | .nin => .NotIn
def rCmp (G : Sg) (B : Bor) (o : COp) : R2 := fun x y H Q => ∃ A h v w b, Fits G B A h H ∧ RV G B A H v x ∧ RV G B A H w y ∧ cmpM o h v w = some b ∧ Q (.bl b) H
theorem eqM_ok (g : G.Good) (F : Fits G B A h H) {v w : Val} {x y : V} {b : Bool} (e : eqM h v w = some b) (r : RV G B A H v x) (q : RV G B A H w y) :
    (∃ d1 d2, Dp G.K H x d1 ∧ Dp G.K H y d2 ∧ SeqAt.shaped d1 = true ∧ SeqAt.shaped d2 = true ∧ PyData.eqv d1 d2 = b) ∨ (b = false ∧ ∃ a kvs z, x = .ref a ∧ H a = some (.dK kvs) ∧ y = .str z) := by
  unfold eqM at e
  split at e
  · rename_i a ea
    split at e
    · rename_i c ec
      split at e
      · rename_i hd
        rw [Bool.and_eq_true] at hd
        cases e
        have r1 := snap_ok F ea r
        have r2 := snap_ok F ec q
        exact .inl ⟨toPD G a, toPD G c, dp_of 30 a x hd.1 r1, dp_of 30 c y hd.2 r2, shaped_of g (by decide) hd.1, shaped_of g (by decide) hd.2, (eqv_of g a c r1 r2 ⟨_, hd.1⟩ ⟨_, hd.2⟩).symm⟩
      · split at e
        · rename_i hs
          cases e
          have r1 := snap_ok F ea r
          have r2 := snap_ok F ec q
          unfold isDS at hs
          split at hs
          · unfold RV at r1 r2
            obtain ⟨a, kvs, rfl, e1, _⟩ := r1
            obtain ⟨z, _, rfl⟩ := r2
            exact .inr ⟨rfl, a, kvs, z, rfl, e1.2.1, rfl⟩
          · cases hs
        · cases e
    · cases e
  · cases e
theorem flat_data {v : Val} (e : flat v = true) (n : Nat) : isData n v = true := by
  cases v <;> simp [flat] at e <;> cases n <;> simp [isData]
theorem any_eqv (g : G.Good) {B2 : Bor} {A2 : List Addr} {H2 : Hp} {c : Val} {y : V} (rc : RV G B2 A2 H2 c y) (dc : ∃ n, isData n c = true) : ∀ (vs : List Val) {xs : List V}, RVs G B A H vs xs → (∀ v ∈ vs, ∃ n, isData n v = true) →
    (vs.any fun v => eqV v c) = (toPDs G vs).any fun d => PyData.eqv d (toPD G c)
  | [], _, _, _ => by simp [toPDs]
  | v :: vs, xs, r, d => by
    obtain ⟨_, _, _, r1, r2⟩ := r.uncons
    rw [toPDs, List.any_cons, List.any_cons, eqv_of g v c r1 rc (d v List.mem_cons_self) dc, any_eqv g rc dc vs r2 fun u hu => d u (List.mem_cons_of_mem _ hu)]
/-- the items and the thing that is looked for -/
theorem in_ok (g : G.Good) (F : Fits G B A h H) {v w : Val} {vs : List Val} {x y : V} {b : Bool} (es : seqOf h w = some vs) (e : inM h v w = some b) (r : RV G B A H v x) (q : RV G B A H w y) :
    ∃ d ds, Dp G.K H x d ∧ (Dp G.K H y (.list ds) ∨ Dp G.K H y (.tuple ds)) ∧ SeqAt.shaped d = true ∧ SeqAt.shaped (.list ds) = true ∧ (ds.any fun z => PyData.eqv z d) = b := by
  unfold inM at e
  rw [es] at e
  simp only at e
  obtain ⟨a, xs, rfl, hs, _, rs⟩ := seqOf_ok F es q
  have fin : ∀ {ws : List Val} {c : Val} {B2 : Bor} {A2 : List Addr}, ws.all (isData 29) = true → isData 29 c = true → RVs G B2 A2 H ws xs → RV G B2 A2 H c x → (ws.any fun w => eqV w c) = b →
      ∃ d ds, Dp G.K H x d ∧ (Dp G.K H (.ref a) (.list ds) ∨ Dp G.K H (.ref a) (.tuple ds)) ∧ SeqAt.shaped d = true ∧ SeqAt.shaped (.list ds) = true ∧ (ds.any fun z => PyData.eqv z d) = b := by
    intro ws c B2 A2 hw hc rw_ rc hb
    have da := dpAll_of (dp_of (G := G) (B := B2) (A := A2) (H := H) 29) ws hw rw_
    refine ⟨toPD G c, toPDs G ws, dp_of 29 c x hc rc, ?_, shaped_of g (by decide) hc, ?_, ?_⟩
    · rcases hs with hs | hs
      · exact .inl (.lst hs da)
      · exact .inr (.tup hs da)
    · have l := lay_of g 30 (.tup ws) (by unfold isData; exact hw)
      unfold SeqAt.shaped PyData.canLay0 PyData.depth
      obtain ⟨l1, l2⟩ := layAll_of (G := G) (lay_of g 29) ws hw
      rw [l1, Bool.true_and, decide_eq_true_eq]
      omega
    · rw [← hb, any_eqv g rc ⟨_, hc⟩ ws rw_ fun v hv => ⟨_, List.all_eq_true.mp hw v hv⟩]
  split at e
  · rename_i c
    rw [Bool.and_eq_true] at c
    cases e
    exact fin (List.all_eq_true.mpr fun v hv => flat_data (List.all_eq_true.mp c.2 v hv) 29) (flat_data c.1 29) rs r rfl
  · split at e
    · rename_i c ws e1 e2
      split at e
      · rename_i d
        rw [Bool.and_eq_true] at d
        cases e
        exact fin d.2 d.1 (snapL_ok F e2 rs) (snap_ok F e1 r) rfl
      · cases e
    · cases e
theorem key_eq (g : G.Good) : ∀ {a b : MKey} {x y : Key}, RKey G a x → RKey G b y → decide (a = b) = decide (x = y)
  | .inl i, .inl j, _, _, r1, r2 => by
    unfold RKey at r1 r2
    subst r1 r2
    simp
  | .inr m, .inr n, _, _, r1, r2 => by
    obtain ⟨z1, e1, rfl⟩ := r1
    obtain ⟨z2, e2, rfl⟩ := r2
    have := txt_eq g e1 e2
    rw [Bool.eq_iff_iff, beq_iff_eq, beq_iff_eq] at this
    rw [Bool.eq_iff_iff, decide_eq_true_eq, decide_eq_true_eq]
    constructor
    · intro e
      rw [this.mp (Sum.inr.inj e)]
    · intro e
      rw [this.mpr (Sum.inr.inj e)]
  | .inl i, .inr n, _, _, r1, r2 => by
    unfold RKey at r1
    obtain ⟨z2, e2, rfl⟩ := r2
    subst r1
    simp
  | .inr n, .inl i, _, _, r1, r2 => by
    unfold RKey at r2
    obtain ⟨z2, e2, rfl⟩ := r1
    subst r2
    simp
theorem keyOf_ok {v : Val} {k : MKey} {x : V} (e : keyOf v = some k) (r : RV G B A H v x) : ∃ q, x = kV q ∧ RKey G k q := by
  cases v <;> simp [keyOf] at e
  · subst e
    unfold RV at r
    exact ⟨.inl _, r, rfl⟩
  · subst e
    unfold RV at r
    obtain ⟨z, e, rfl⟩ := r
    exact ⟨.inr z, rfl, z, e, rfl⟩
theorem keys_any (g : G.Good) {k : MKey} {q : Key} (rk : RKey G k q) : ∀ {ks : List MKey} {kvs : List (Key × V)}, RKeys G ks (kvs.map (·.1)) → (ks.any fun m => decide (m = k)) = (valV kvs q).isSome
  | [], kvs, r => by
    unfold RKeys at r
    have : kvs = [] := by simpa using r
    subst this
    rfl
  | m :: ms, [], r => by
    unfold RKeys at r
    obtain ⟨_, _, e, _⟩ := r
    cases e
  | m :: ms, p :: kvs, r => by
    unfold RKeys at r
    obtain ⟨k1, r1, e, h1, h2⟩ := r
    rw [List.map_cons, List.cons.injEq] at e
    rw [← valV_any, List.any_cons, List.any_cons, valV_any, ← keys_any g rk (by rw [e.2]; exact h2 : RKeys G ms (kvs.map (·.1))), key_eq g h1 rk, e.1]
theorem isM_ok {v w : Val} {x y : V} {b : Bool} (e : isM v w = some b) (r : RV G B A H v x) (q : RV G B A H w y) : (y = .non ∧ decide (x = .non) = b) ∨ (∃ a c : Bool, x = .bl a ∧ y = .bl c ∧ decide (a = c) = b) ∨ (x = .non ∧ (∃ c : Bool, y = .bl c) ∧ b = false) := by
  unfold isM at e
  split at e
  · unfold RV at q
    refine .inl ⟨q, ?_⟩
    split at e
    · unfold RV at r
      subst r
      simpa using e
    · cases e
    · cases e
    · rename_i n1 n2 n3
      cases e
      cases v <;> simp only [RV] at r
      · exact (n1 rfl).elim
      · subst r; rfl
      · subst r; rfl
      · obtain ⟨_, _, rfl⟩ := r; rfl
      · obtain ⟨_, _, rfl, _⟩ := r; rfl
      · obtain ⟨_, _, rfl, _⟩ := r; rfl
      · obtain ⟨_, _, rfl, _⟩ := r; rfl
      · obtain ⟨_, _, _, _, rfl, _⟩ := r; rfl
      · obtain ⟨_, rfl, _⟩ := r; rfl
      · exact (n2 _ _ rfl).elim
  · split at e
    · cases e
      unfold RV at r q
      exact .inr (.inl ⟨_, _, r, q, by rw [Bool.eq_iff_iff]; simp⟩)
    · cases e
      unfold RV at r q
      exact .inr (.inr ⟨r, ⟨_, q⟩, rfl⟩)
    · cases e
  · cases e
theorem lexL_eq : ∀ ns ms : List Int, lexL ns ms = HT.lexLt ns ms
  | [], [] => rfl
  | [], _ :: _ => rfl
  | _ :: _, [] => rfl
  | x :: xs, y :: ys => by
    unfold lexL
    rw [HT.lexLt_cons, lexL_eq xs ys]
theorem lexAt_ge : ∀ (k i : Nat) (ns ms : List Int), ns.length = i + k → ms.length = i + k →
    Ob.lexAt (fun j => decide (ns.getD j 0 = ms.getD j 0)) (fun j => decide (ms.getD j 0 ≤ ns.getD j 0)) true i k = !lexL (ns.drop i) (ms.drop i)
  | 0, i, ns, ms, h1, h2 => by
    rw [Ob.lexAt_zero, List.drop_eq_nil_of_le (by omega), List.drop_eq_nil_of_le (by omega)]
    rfl
  | k + 1, i, ns, ms, h1, h2 => by
    have l1 : i < ns.length := by omega
    have l2 : i < ms.length := by omega
    rw [Ob.lexAt_succ, List.drop_eq_getElem_cons l1, List.drop_eq_getElem_cons l2]
    unfold lexL
    simp only [List.getD_eq_getElem?_getD, List.getElem?_eq_getElem l1, List.getElem?_eq_getElem l2, Option.getD_some, decide_eq_true_eq]
    by_cases e : ns[i] = ms[i]
    · rw [if_pos e, if_pos e]
      have := lexAt_ge k (i + 1) ns ms (by omega) (by omega)
      simpa only [List.getD_eq_getElem?_getD] using this
    · rw [if_neg e, if_neg e]
      rw [Bool.eq_iff_iff]
      simp
theorem op_geT {X : Cx} (hu : X.A.units < cLine) : OpR X (compareOp .GtE) (fun x y H Q => ∃ (a b : Addr) (ns ms : List Int), x = .ref a ∧ y = .ref b ∧ SqT X.K H a (ns.map V.int) ∧ SqT X.K H b (ms.map V.int) ∧ ns.length = ms.length ∧ Q (.bl (!lexL ns ms)) H) := by
  intro pins s σ H x y v u Q I rx ry h
  obtain ⟨a, b, ns, ms, rfl, rfl, ha, hb, hl, q⟩ := h
  cases rx
  cases ry
  obtain ⟨its, r1, p1, _⟩ := I.tuple ha
  obtain ⟨its2, r2, p2, _⟩ := I.tuple hb
  have i1 : IntsAre its ns := Vals.ints r1
  have i2 : IntsAre its2 ms := Vals.ints r2
  have e1 : its.toArray.size = ns.length := by rw [List.size_toArray]; exact i1.length
  have e2 : its2.toArray.size = ms.length := by rw [List.size_toArray]; exact i2.length
  have at1 : ∀ j (h1 : j < its.toArray.size), ∃ t, its.toArray[j] = .int (ns.getD j 0) t := fun j h1 => PyProof.Rows.IntsAre.int_at i1 _ _ (by simp at h1; simp [h1])
  have at2 : ∀ j (h1 : j < its2.toArray.size), ∃ t, its2.toArray[j] = .int (ms.getD j 0) t := fun j h1 => PyProof.Rows.IntsAre.int_at i2 _ _ (by simp at h1; simp [h1])
  have R := Ob.RcOp.tuples_ge (A := X.A) (s := s) (e := fun j => decide (ns.getD j 0 = ms.getD j 0)) (r := fun j => decide (ms.getD j 0 ≤ ns.getD j 0)) p1 p2 hu (fun j h1 h2 => by
    obtain ⟨t, et⟩ := at1 j h1
    obtain ⟨t', et'⟩ := at2 j h2
    rw [et, et']
    have z : (ns.getD j 0 == ms.getD j 0) = decide (ns.getD j 0 = ms.getD j 0) := by
      by_cases q : ns.getD j 0 = ms.getD j 0
      · rw [decide_eq_true q]; exact beq_iff_eq.mpr q
      · rw [decide_eq_false q]; exact beq_eq_false_iff_ne.mpr q
    rw [← z]
    exact SeqAt.EqAt.int_int _ _ _ _) (fun j h1 h2 _ => by
    obtain ⟨t, et⟩ := at1 j h1
    obtain ⟨t', et'⟩ := at2 j h2
    rw [et, et']
    exact Ob.RcOp.ge_int _ _ _ _)
  have e3 : (decide (its.toArray.size ≥ its2.toArray.size)) = true := by
    rw [e1, e2, hl]
    simp
  rw [e3, e1, e2, ← hl, Nat.min_self] at R
  have e4 := lexAt_ge ns.length 0 ns ms (by omega) (by omega)
  rw [List.drop_zero, List.drop_zero] at e4
  rw [e4] at R
  exact R _ _ _ _ ⟨.bl _, H, I, rfl, q⟩

theorem op_cmpM (g : G.Good) {o : COp} (hX : X.K = G.K) (hu : X.A.units + 65 < cLine) : OpR X (compareOp (opC o)) (rCmp G B o) := by
  intro pins s σ H x y v u Q I rx ry ⟨A, h, a, b, c, F, ra, rb, e, q⟩
  have ordI_ok : ∀ {i j : Int}, x = .int i → y = .int j → ordI o i j = some c → wpAny (model X.prog X.w) X.A (compareOp (opC o) v u) (EP X pins σ Q) X.xe s := by
    intro i j ex ey e
    subst ex ey
    cases o <;> simp [ordI] at e <;> subst e
    · exact op_lt pins s σ H _ _ v u Q I rx ry ⟨i, j, rfl, rfl, q⟩
    · exact op_le pins s σ H _ _ v u Q I rx ry ⟨i, j, rfl, rfl, q⟩
    · exact op_gt pins s σ H _ _ v u Q I rx ry ⟨i, j, rfl, rfl, q⟩
    · exact op_ge pins s σ H _ _ v u Q I rx ry ⟨i, j, rfl, rfl, q⟩
  have ord : o ≠ .eq → o ≠ .ne → o ≠ .is → o ≠ .isn → o ≠ .inn → o ≠ .nin → ordM o a b = some c → wpAny (model X.prog X.w) X.A (compareOp (opC o) v u) (EP X pins σ Q) X.xe s := by
    intro _ _ _ _ _ _ e
    unfold ordM at e
    split at e
    · unfold RV at ra rb
      exact ordI_ok ra rb e
    · split at e
      · rename_i vs ws is js e1 e2
        unfold RV at ra rb
        obtain ⟨p1, xs, rfl, q1, _, _, r1⟩ := ra
        obtain ⟨p2, ys, rfl, q2, _, _, r2⟩ := rb
        have i1 := RVs.ints r1 e1
        have i2 := RVs.ints r2 e2
        subst i1 i2
        cases o <;> simp at e
        · subst e
          rw [lexL_eq] at q
          exact op_ltT (by omega) pins s σ H _ _ v u Q I rx ry ⟨p1, p2, is, js, rfl, rfl, SqT.of q1, SqT.of q2, q⟩
        · obtain ⟨l, e⟩ := e
          have e' : c = !lexL is js := by rw [e, Bool.not_not]
          subst e'
          exact op_geT (by omega) pins s σ H _ _ v u Q I rx ry ⟨p1, p2, is, js, rfl, rfl, SqT.of q1, SqT.of q2, l, q⟩
      · cases e
    · cases e
  cases o with
  | eq =>
    obtain ⟨d1, d2, h1, h2, h3, h4, h5⟩ | ⟨rfl, a1, kvs, z, rfl, ha, rfl⟩ := eqM_ok g F e ra rb
    rotate_left
    · obtain ⟨zz, hd, vs, rel, dd⟩ := dk_rd I.hok (.inl ha)
      cases (show v = Value.ref a1 from rx)
      obtain ⟨t, et⟩ := (show ∃ t, u = Value.str z t from ry)
      subst et
      exact rc_dict_str z t dd (by omega) ⟨.bl false, H, I, rfl, q⟩
    exact op_eqD (by omega) pins s σ H x y v u Q I rx ry ⟨d1, d2, by rw [hX]; exact h1, by rw [hX]; exact h2, h3, h4, by rw [h5]; exact q⟩
  | ne =>
    unfold cmpM at e
    obtain ⟨c', e1, e2⟩ := Option.map_eq_some_iff.mp e
    obtain ⟨d1, d2, h1, h2, h3, h4, h5⟩ | ⟨rfl, a1, kvs, z, rfl, ha, rfl⟩ := eqM_ok g F e1 ra rb
    rotate_left
    · obtain ⟨zz, hd, vs, rel, dd⟩ := dk_rd I.hok (.inl ha)
      cases (show v = Value.ref a1 from rx)
      obtain ⟨t, et⟩ := (show ∃ t, u = Value.str z t from ry)
      subst et
      exact rcne_dict_str z t dd (by omega) ⟨.bl true, H, I, rfl, by rw [← e2] at q; exact q⟩
    exact op_neD (by omega) pins s σ H x y v u Q I rx ry ⟨d1, d2, by rw [hX]; exact h1, by rw [hX]; exact h2, h3, h4, by rw [h5, e2]; exact q⟩
  | is =>
    rcases isM_ok e ra rb with ⟨rfl, e⟩ | ⟨a1, b1, rfl, rfl, e⟩ | ⟨rfl, ⟨b1, rfl⟩, rfl⟩
    · exact op_isN pins s σ H x _ v u Q I rx ry ⟨rfl, by rw [e]; exact q⟩
    · exact op_isBl pins s σ H _ _ v u Q I rx ry ⟨a1, b1, rfl, rfl, by rw [e]; exact q⟩
    · cases (show v = Value.none from rx)
      cases (show u = Value.bool b1 from ry)
      exact wpAny_is_other rfl (fun z => by cases z) ⟨.bl false, H, I, rfl, q⟩
  | isn =>
    unfold cmpM at e
    obtain ⟨c', e1, e2⟩ := Option.map_eq_some_iff.mp e
    rcases isM_ok e1 ra rb with ⟨rfl, e⟩ | ⟨a1, b1, rfl, rfl, e⟩ | ⟨rfl, ⟨b1, rfl⟩, rfl⟩
    · exact op_notN pins s σ H x _ v u Q I rx ry ⟨rfl, by rw [e, e2]; exact q⟩
    · exact op_notBl pins s σ H _ _ v u Q I rx ry ⟨a1, b1, rfl, rfl, by rw [e, e2]; exact q⟩
    · cases (show v = Value.none from rx)
      cases (show u = Value.bool b1 from ry)
      exact wpAny_isNot_other rfl (fun z => by cases z) ⟨.bl true, H, I, rfl, by rw [← e2] at q; exact q⟩
  | inn =>
    unfold cmpM at e
    cases es : seqOf h b with
    | some vs =>
      obtain ⟨d, ds, h1, h2, h3, h4, h5⟩ := in_ok g F es e ra rb
      rw [← hX] at h1 h2
      obtain ⟨as, r1⟩ := Dp.reads I d x v h1 rx
      have hh : SeqAt.shaped (.tuple ds) = true := by
        unfold SeqAt.shaped PyData.canLay0 PyData.depth at h4 ⊢
        exact h4
      rcases h2 with h2 | h2
      · obtain ⟨bs, r2⟩ := Dp.reads I (.list ds) y u h2 ry
        exact SeqAt.in_list_reads r2 r1 (SeqAt.canLay_of_shaped h4) (SeqAt.canLay_of_shaped h3) (room_in_shaped h3 hu) ⟨.bl _, H, I, rfl, by rw [h5]; exact q⟩
      · obtain ⟨bs, r2⟩ := Dp.reads I (.tuple ds) y u h2 ry
        exact SeqAt.in_tuple_reads r2 r1 (SeqAt.canLay_of_shaped hh) (SeqAt.canLay_of_shaped h3) (room_in_shaped h3 hu) ⟨.bl _, H, I, rfl, by rw [h5]; exact q⟩
    | none =>
      unfold inM at e
      rw [es] at e
      simp only at e
      split at e
      · rename_i ks vs ed
        split at e
        · rename_i k ek
          cases e
          obtain ⟨p, kvs, rfl, hp, _, hk, _⟩ := dctOf_ok F ed rb
          obtain ⟨kk, rfl, rk⟩ := keyOf_ok ek ra
          rw [keys_any g rk hk] at q
          cases ry
          exact d_in (o := valV kvs kk) (by omega) I (DGet.k hp) rx fun s' I' => ⟨.bl _, H, I', rfl, q⟩
        · cases e
      · cases e
  | nin =>
    unfold cmpM at e
    obtain ⟨c', e1, e2⟩ := Option.map_eq_some_iff.mp e
    subst e2
    cases es : seqOf h b with
    | some vs =>
      obtain ⟨d, ds, h1, h2, h3, h4, h5⟩ := in_ok g F es e1 ra rb
      rw [← hX] at h1 h2
      obtain ⟨as, r1⟩ := Dp.reads I d x v h1 rx
      have hh : SeqAt.shaped (.tuple ds) = true := by
        unfold SeqAt.shaped PyData.canLay0 PyData.depth at h4 ⊢
        exact h4
      rcases h2 with h2 | h2
      · obtain ⟨bs, r2⟩ := Dp.reads I (.list ds) y u h2 ry
        exact SeqAt.notIn_list_reads r2 r1 (SeqAt.canLay_of_shaped h4) (SeqAt.canLay_of_shaped h3) (room_in_shaped h3 hu) ⟨.bl _, H, I, rfl, by rw [h5]; exact q⟩
      · obtain ⟨bs, r2⟩ := Dp.reads I (.tuple ds) y u h2 ry
        exact SeqAt.notIn_tuple_reads r2 r1 (SeqAt.canLay_of_shaped hh) (SeqAt.canLay_of_shaped h3) (room_in_shaped h3 hu) ⟨.bl _, H, I, rfl, by rw [h5]; exact q⟩
    | none =>
      unfold inM at e1
      rw [es] at e1
      simp only at e1
      split at e1
      · rename_i ks vs ed
        split at e1
        · rename_i k ek
          cases e1
          obtain ⟨p, kvs, rfl, hp, _, hk, _⟩ := dctOf_ok F ed rb
          obtain ⟨kk, rfl, rk⟩ := keyOf_ok ek ra
          rw [keys_any g rk hk] at q
          cases ry
          exact d_notIn (o := valV kvs kk) (by omega) I (DGet.k hp) rx fun s' I' => ⟨.bl _, H, I', rfl, q⟩
        · cases e1
      · cases e1
  | lt => exact ord (by decide) (by decide) (by decide) (by decide) (by decide) (by decide) e
  | le => exact ord (by decide) (by decide) (by decide) (by decide) (by decide) (by decide) e
  | gt => exact ord (by decide) (by decide) (by decide) (by decide) (by decide) (by decide) e
  | ge => exact ord (by decide) (by decide) (by decide) (by decide) (by decide) (by decide) e
end
end MP
set_option Elab.async false
set_option linter.all false
set_option maxRecDepth 100000
set_option autoImplicit false
namespace MP
open PySem PySem.Spec PyProof.Rows L2 SrtO Srt
/-- a tuple with a whole number ahead -/
def Tf (h : Heap) (v : Value) (x : Int) : Prop := ∃ a o xs n t, v = .ref a ∧ h.get? a = some o ∧ o.cls = .type "tuple" ∧ o.data = .seq xs n ∧ xs[0]? = some (.int x t)
theorem Tf.keeps {h h' : Heap} {v : Value} {x : Int} (p : Tf h v x) (k : ∀ b o, h.get? b = some o → o.cls = .type "tuple" → h'.get? b = some o) : Tf h' v x := by
  obtain ⟨a, o, xs, n, t, e, ho, hc, r⟩ := p
  exact ⟨a, o, xs, n, t, e, k a o ho hc, hc, r⟩
theorem tf_firsts {h : Heap} : ∀ {vs : List Value}, (∀ v ∈ vs, ∃ x, Tf h v x) → ∃ fs : List Value, PySem.W.KatTups h vs fs ∧ fs.length = vs.length ∧ ∀ f ∈ fs, ∃ x t, f = Value.int x t
  | [], _ => ⟨[], trivial, rfl, fun _ m => nomatch m⟩
  | v :: vs, hp => by
    obtain ⟨fs, h1, h2, h3⟩ := tf_firsts fun u m => hp u (List.mem_cons_of_mem _ m)
    obtain ⟨x, a, o, xs, n, t, e, ho, hc, hd, hf⟩ := hp v List.mem_cons_self
    refine ⟨.int x t :: fs, ⟨⟨a, o, xs, n, e, ho, hc, hd, hf⟩, h1⟩, by simp [h2], fun f m => ?_⟩
    rcases List.mem_cons.mp m with e | m
    · exact ⟨x, t, e⟩
    · exact h3 f m
section
variable {prog : Program} {w : World} {A : Around} {E : Value → Shared → Prop} {s : Shared}
theorem kat_self {b : Bool} {Q : Bool → Shared → Prop} : ∀ (xs : List Value) (i : Nat), Q false s → PySem.W.KatLex prog w A b false Q (xs.zip xs) i s
  | [], _, h => PySem.W.kat_nil h
  | x :: xs, i, h => by
    rw [List.zip_cons_cons]
    exact PySem.W.kat_cons (SeqAt.EqAt.same x prog w _ _ (PySem.W.kat_yes (kat_self xs (i + 1) h)))
theorem tf_cmp {vs : List Value} {k : Value → Int} (hp : ∀ v ∈ vs, Tf s.heap v (k v)) (inj : ∀ v ∈ vs, ∀ u ∈ vs, k v = k u → v = u) : Cmp prog w A s (tuples' true) (fun p => p.1 ∈ vs) (lt2 fun v u => lexB (k v, 0) (k u, 0)) := by
  intro p q hm hm'
  show wpAny (model prog w) A (keyLt' (tuples' true) p.1 q.1) (fun r s' => s' = s ∧ r = lexB (k p.1, 0) (k q.1, 0)) (fun _ _ => False) s
  by_cases e : k p.1 = k q.1
  · rw [← inj _ hm _ hm' e]
    have r0 : lexB (k p.1, 0) (k p.1, 0) = false := by
      refine lexB_no.mpr ?_
      simp
    rw [r0]
    obtain ⟨a, o, xs, n, t, e1, ho, hc, hd, hf⟩ := hp _ hm
    rw [e1]
    refine PySem.W.kat_lt ho hd ho hd ?_
    rw [show decide (xs.size < xs.size) = false by simp]
    exact kat_self _ _ ⟨rfl, rfl⟩
  · have r0 : lexB (k p.1, 0) (k q.1, 0) = decide (k p.1 < k q.1) := by
      unfold lexB
      rw [if_neg e]
    rw [r0]
    obtain ⟨a, o, xs, n, t, e1, ho, hc, hd, hf⟩ := hp _ hm
    obtain ⟨a', o', xs', n', t', e1', ho', hc', hd', hf'⟩ := hp _ hm'
    rw [e1, e1']
    refine PySem.W.kat_lt ho hd ho' hd' ?_
    have c1 : ∃ r, xs.toList = .int (k p.1) t :: r := by
      rw [← Array.getElem?_toList] at hf
      cases q : xs.toList with
      | nil => rw [q] at hf; simp at hf
      | cons x r => rw [q] at hf; simp at hf; exact ⟨r, by rw [hf]⟩
    have c2 : ∃ r, xs'.toList = .int (k q.1) t' :: r := by
      rw [← Array.getElem?_toList] at hf'
      cases q : xs'.toList with
      | nil => rw [q] at hf'; simp at hf'
      | cons x r => rw [q] at hf'; simp at hf'; exact ⟨r, by rw [hf']⟩
    obtain ⟨r1, d1⟩ := c1
    obtain ⟨r2, d2⟩ := c2
    rw [d1, d2, List.zip_cons_cons]
    refine PySem.W.kat_cons (SeqAt.EqAt.int_int _ t _ t' prog w _ _ ?_)
    refine PySem.W.kat_go (fun e3 => ?_) (fun _ => ?_)
    · exact absurd (by simpa using e3) e
    · exact PySem.W.kat_no (oneLt_int ⟨rfl, by rw [e1, e1']⟩)
theorem tf_sortable {a : Addr} {vs : List Value} {k : Value → Int} (h0 : 0 < vs.length) (hp : ∀ v ∈ vs, Tf s.heap v (k v)) (inj : ∀ v ∈ vs, ∀ u ∈ vs, k v = k u → v = u) (ha : ∀ o, s.heap.get? a = some o → o.cls ≠ .type "tuple") : SortableO prog w A s a vs fun v u => lexB (k v, 0) (k u, 0) := by
  intro h' keep
  have hp' : ∀ v ∈ vs, Tf h' v (k v) := fun v hm => (hp v hm).keeps fun b o e c => keep b o (fun z => by subst z; exact ha o e c) e
  obtain ⟨fs, h1, h2, h3⟩ := tf_firsts fun v hm => ⟨_, hp' v hm⟩
  refine ⟨tuples' true, fun Q E hq => ?_, tf_cmp hp' inj⟩
  refine PySem.W.kat_kind (T := .type "int") h1 (by omega) (fun f hm => ?_) (by rfl) ?_
  · obtain ⟨x, t, rfl⟩ := h3 f hm
    exact PySem.W.Looks.now
  · have e : (Value.type "int" != Value.type "tuple") = true := by first | decide +kernel | rfl | decide
    rw [e]
    exact hq
theorem sorted_tf {l : Addr} {vs : List Value} {k : Value → Int} {Q : Value → Shared → Prop} (hl : s.heap.IsList l vs.toArray) (hz : vs.length ≤ sizeLine) (hp : ∀ v ∈ vs, Tf s.heap v (k v)) (inj : ∀ v ∈ vs, ∀ u ∈ vs, k v = k u → v = u)
    (h : ∀ (h' : Heap) (d : Addr) (out : List Value), Srtd (fun v u => lexB (k v, 0) (k u, 0)) out → Stb (fun v u => lexB (k v, 0) (k u, 0)) out vs → (∀ b o, s.heap.get? b = some o → h'.get? b = some o) → s.heap.objs.size ≤ d → (∃ n, h'.get? d = some (seqObj "list" out.toArray n)) → Q (.ref d) { s with heap := h' }) :
    wpAny (model prog w) A (call (.builtin "sorted") [.ref l]) Q E s := by
  refine sorted_ord (swo_lex fun v => (k v, 0)) hl hz (fun h2 h₁ a ha kk => ?_) fun out hs hb => ?_
  · refine tf_sortable (s := { s with heap := h₁ }) (by omega) (fun v hm => (hp v hm).keeps fun b o e _ => (kk b o e).2) inj fun o e => ?_
    have e' : some o = some (seqObj "list" vs.toArray 0) := e.symm.trans ha
    cases e'
    intro c
    exact absurd (Value.type.inj c) (by decide)
  · exact h _ _ out hs hb (fun b o e => sortedAll_old e) (Nat.le_succ _) (sortedAll_at s.heap vs out.toArray)
end
/-- sorted(xs), xs a list of tuples with distinct whole numbers ahead (k says which) -/
def rSortedTf (K : PySem.W.Frag) : List V → Hp → VK → Prop := fun vs H Q => ∃ (a : Addr) (xs : List V) (k : V → Int), vs = [V.ref a] ∧ SqL K H a xs ∧ (∀ x ∈ xs, ∃ t ys, x = V.ref t ∧ H t = some (.tup (.int (k x) :: ys))) ∧ (∀ x ∈ xs, ∀ y ∈ xs, k x = k y → x = y) ∧
  ∀ ys p, SrtO.Srtd (L2.ltP fun x => (k x, 0)) ys → SrtO.Stb (L2.ltP fun x => (k x, 0)) ys xs → H p = none → Q (.ref p) (upd H p (.lst ys))
section
variable {X : Cx}
theorem cr_sortedTf : CallR X (.builtin "sorted") (rSortedTf X.K) := by
  intro pins s σ H vs us Q I r h
  obtain ⟨a, xs, k, rfl, hs, hx, inj, q⟩ := h
  obtain ⟨its, rv, hl, hz⟩ := I.list hs
  obtain ⟨u, rfl, ru⟩ := vals1 r
  obtain rfl : u = Value.ref a := ru
  obtain ⟨e1, e2⟩ := refs_back rv fun x m => by
    obtain ⟨t, _, e, _⟩ := hx x m
    exact ⟨t, e⟩
  have back : ∀ v ∈ its, backV v ∈ xs := fun v hv => by rw [e1]; exact List.mem_map.mpr ⟨_, hv, rfl⟩
  refine sorted_tf (k := fun u => k (backV u)) hl.isList (by rw [← rv.length]; exact hz) (fun v hv => ?_) (fun v hv u hu e => ?_) fun h' d out h1 h2 kp hd hn => ?_
  · obtain ⟨t, rfl⟩ := e2 v hv
    obtain ⟨t', ys, e, ht⟩ := hx _ (back _ hv)
    cases e
    obtain ⟨_, its2, r2, o, ho, hc, n, hd⟩ := I.hok _ _ ht
    cases r2 with
    | cons ri rr =>
      obtain ⟨t1, rfl⟩ := ri
      exact ⟨t, o, _, n, t1, rfl, ho, hc, hd, by simp⟩
  · have eq := inj _ (back v hv) _ (back u hu) e
    obtain ⟨t, rfl⟩ := e2 v hv
    obtain ⟨t', rfl⟩ := e2 u hu
    exact congrArg Value.ref (V.ref.inj eq)
  · have h3 : ∀ u ∈ out, ∃ a, u = Value.ref a := fun u hu => e2 u (h2.perm.mem_iff.mp hu)
    obtain ⟨n, hn⟩ := hn
    have hb : SrtO.Stb (L2.ltP fun x => (k x, 0)) (out.map backV) xs := by
      rw [e1]
      exact SrtO.Stb.map (ltP_swo fun x => (k x, 0)) backV h2
    refine ⟨.ref d, upd H d (.lst (out.map backV)), I.laid (t' := s.toks) kp hd ⟨?_, out, n, vals_back h3, hn⟩, rfl, q _ d (SrtO.srtd_map h1) hb (I.hok.fresh hd)⟩
    rw [hb.len]
    exact hz
end
end MP
set_option Elab.async false
set_option linter.all false
set_option maxRecDepth 100000
set_option autoImplicit false
namespace MP
open PySem PySem.Spec PyProof.Rows L2 SrtO Srt
/-- a tuple with two whole numbers ahead -/
def Tf2 (h : Heap) (v : Value) (x : Int × Int) : Prop := ∃ a o xs n t t', v = .ref a ∧ h.get? a = some o ∧ o.cls = .type "tuple" ∧ o.data = .seq xs n ∧ xs[0]? = some (.int x.1 t) ∧ xs[1]? = some (.int x.2 t')
theorem Tf2.keeps {h h' : Heap} {v : Value} {x : Int × Int} (p : Tf2 h v x) (k : ∀ b o, h.get? b = some o → o.cls = .type "tuple" → h'.get? b = some o) : Tf2 h' v x := by
  obtain ⟨a, o, xs, n, t, t', e, ho, hc, r⟩ := p
  exact ⟨a, o, xs, n, t, t', e, k a o ho hc, hc, r⟩
theorem tf2_firsts {h : Heap} : ∀ {vs : List Value}, (∀ v ∈ vs, ∃ x, Tf2 h v x) → ∃ fs : List Value, PySem.W.KatTups h vs fs ∧ fs.length = vs.length ∧ ∀ f ∈ fs, ∃ x t, f = Value.int x t
  | [], _ => ⟨[], trivial, rfl, fun _ m => nomatch m⟩
  | v :: vs, hp => by
    obtain ⟨fs, h1, h2, h3⟩ := tf2_firsts fun u m => hp u (List.mem_cons_of_mem _ m)
    obtain ⟨x, a, o, xs, n, t, t', e, ho, hc, hd, hf, hf2⟩ := hp v List.mem_cons_self
    refine ⟨.int x.1 t :: fs, ⟨⟨a, o, xs, n, e, ho, hc, hd, hf⟩, h1⟩, by simp [h2], fun f m => ?_⟩
    rcases List.mem_cons.mp m with e | m
    · exact ⟨x.1, t, e⟩
    · exact h3 f m
section
variable {prog : Program} {w : World} {A : Around} {E : Value → Shared → Prop} {s : Shared}
theorem two_ahead {xs : Array Value} {a b : Value} (h0 : xs[0]? = some a) (h1 : xs[1]? = some b) : ∃ r, xs.toList = a :: b :: r := by
  rw [← Array.getElem?_toList] at h0 h1
  cases q : xs.toList with
  | nil => rw [q] at h0; simp at h0
  | cons x r =>
    cases r with
    | nil => rw [q] at h1; simp at h1
    | cons y r => rw [q] at h0 h1; simp at h0 h1; exact ⟨r, by rw [h0, h1]⟩
theorem tf2_cmp {vs : List Value} {k : Value → Int × Int} (hp : ∀ v ∈ vs, Tf2 s.heap v (k v)) (inj : ∀ v ∈ vs, ∀ u ∈ vs, k v = k u → v = u) : Cmp prog w A s (tuples' true) (fun p => p.1 ∈ vs) (lt2 fun v u => lexB (k v) (k u)) := by
  intro p q hm hm'
  show wpAny (model prog w) A (keyLt' (tuples' true) p.1 q.1) (fun r s' => s' = s ∧ r = lexB (k p.1) (k q.1)) (fun _ _ => False) s
  by_cases e0 : k p.1 = k q.1
  · rw [← inj _ hm _ hm' e0]
    have r0 : lexB (k p.1) (k p.1) = false := by
      unfold lexB
      rw [if_pos rfl]
      simp
    rw [r0]
    obtain ⟨a, o, xs, n, t, t', e1, ho, hc, hd, hf⟩ := hp _ hm
    rw [e1]
    refine PySem.W.kat_lt ho hd ho hd ?_
    rw [show decide (xs.size < xs.size) = false by simp]
    exact kat_self _ _ ⟨rfl, rfl⟩
  · obtain ⟨a, o, xs, n, t, t1, e1, ho, hc, hd, hf, hg⟩ := hp _ hm
    obtain ⟨a', o', xs', n', t', t1', e1', ho', hc', hd', hf', hg'⟩ := hp _ hm'
    obtain ⟨r1, d1⟩ := two_ahead hf hg
    obtain ⟨r2, d2⟩ := two_ahead hf' hg'
    generalize hb : lexB (k p.1) (k q.1) = rb
    rw [e1, e1']
    refine PySem.W.kat_lt ho hd ho' hd' ?_
    rw [d1, d2, List.zip_cons_cons, List.zip_cons_cons]
    refine PySem.W.kat_cons (SeqAt.EqAt.int_int _ t _ t' prog w _ _ ?_)
    by_cases e : (k p.1).1 = (k q.1).1
    · have r0 : rb = decide ((k p.1).2 < (k q.1).2) := by
        rw [← hb]
        unfold lexB
        rw [if_pos e]
      have e2 : ¬ (k p.1).2 = (k q.1).2 := fun z => e0 (Prod.ext e z)
      rw [r0]
      refine PySem.W.kat_go (fun e3 => ?_) (fun e3 => ?_)
      · refine PySem.W.kat_cons (SeqAt.EqAt.int_int _ t1 _ t1' prog w _ _ ?_)
        refine PySem.W.kat_go (fun e3 => ?_) (fun _ => ?_)
        · exact absurd (by simpa using e3) e2
        · refine PySem.W.kat_no ?_
          exact TS.oneLt_ints _ (And.intro rfl rfl)
      · exact absurd e (by simpa using e3)
    · have r0 : rb = decide ((k p.1).1 < (k q.1).1) := by
        rw [← hb]
        unfold lexB
        rw [if_neg e]
      rw [r0]
      refine PySem.W.kat_go (fun e3 => ?_) (fun _ => ?_)
      · exact absurd (by simpa using e3) e
      · exact PySem.W.kat_no (oneLt_int ⟨rfl, rfl⟩)
theorem tf2_sortable {a : Addr} {vs : List Value} {k : Value → Int × Int} (h0 : 0 < vs.length) (hp : ∀ v ∈ vs, Tf2 s.heap v (k v)) (inj : ∀ v ∈ vs, ∀ u ∈ vs, k v = k u → v = u) (ha : ∀ o, s.heap.get? a = some o → o.cls ≠ .type "tuple") : SortableO prog w A s a vs fun v u => lexB (k v) (k u) := by
  intro h' keep
  have hp' : ∀ v ∈ vs, Tf2 h' v (k v) := fun v hm => (hp v hm).keeps fun b o e c => keep b o (fun z => by subst z; exact ha o e c) e
  obtain ⟨fs, h1, h2, h3⟩ := tf2_firsts fun v hm => ⟨_, hp' v hm⟩
  refine ⟨tuples' true, fun Q E hq => ?_, tf2_cmp hp' inj⟩
  refine PySem.W.kat_kind (T := .type "int") h1 (by omega) (fun f hm => ?_) (by rfl) ?_
  · obtain ⟨x, t, rfl⟩ := h3 f hm
    exact PySem.W.Looks.now
  · have e : (Value.type "int" != Value.type "tuple") = true := by first | decide +kernel | rfl | decide
    rw [e]
    exact hq
theorem sorted_tf2 {l : Addr} {vs : List Value} {k : Value → Int × Int} {Q : Value → Shared → Prop} (hl : s.heap.IsList l vs.toArray) (hz : vs.length ≤ sizeLine) (hp : ∀ v ∈ vs, Tf2 s.heap v (k v)) (inj : ∀ v ∈ vs, ∀ u ∈ vs, k v = k u → v = u)
    (h : ∀ (h' : Heap) (d : Addr) (out : List Value), Srtd (fun v u => lexB (k v) (k u)) out → Stb (fun v u => lexB (k v) (k u)) out vs → (∀ b o, s.heap.get? b = some o → h'.get? b = some o) → s.heap.objs.size ≤ d → (∃ n, h'.get? d = some (seqObj "list" out.toArray n)) → Q (.ref d) { s with heap := h' }) :
    wpAny (model prog w) A (call (.builtin "sorted") [.ref l]) Q E s := by
  refine sorted_ord (swo_lex fun v => k v) hl hz (fun h2 h₁ a ha kk => ?_) fun out hs hb => ?_
  · refine tf2_sortable (s := { s with heap := h₁ }) (by omega) (fun v hm => (hp v hm).keeps fun b o e _ => (kk b o e).2) inj fun o e => ?_
    have e' : some o = some (seqObj "list" vs.toArray 0) := e.symm.trans ha
    cases e'
    intro c
    exact absurd (Value.type.inj c) (by decide)
  · exact h _ _ out hs hb (fun b o e => sortedAll_old e) (Nat.le_succ _) (sortedAll_at s.heap vs out.toArray)
end
/-- sorted(xs), xs a list of tuples with distinct whole numbers ahead (k says which) -/
def rSortedTf2 (K : PySem.W.Frag) : List V → Hp → VK → Prop := fun vs H Q => ∃ (a : Addr) (xs : List V) (k : V → Int × Int), vs = [V.ref a] ∧ SqL K H a xs ∧ (∀ x ∈ xs, ∃ t ys, x = V.ref t ∧ H t = some (.tup (.int (k x).1 :: .int (k x).2 :: ys))) ∧ (∀ x ∈ xs, ∀ y ∈ xs, k x = k y → x = y) ∧
  ∀ ys p, SrtO.Srtd (L2.ltP k) ys → SrtO.Stb (L2.ltP k) ys xs → H p = none → Q (.ref p) (upd H p (.lst ys))
section
variable {X : Cx}
theorem cr_sortedTf2 : CallR X (.builtin "sorted") (rSortedTf2 X.K) := by
  intro pins s σ H vs us Q I r h
  obtain ⟨a, xs, k, rfl, hs, hx, inj, q⟩ := h
  obtain ⟨its, rv, hl, hz⟩ := I.list hs
  obtain ⟨u, rfl, ru⟩ := vals1 r
  obtain rfl : u = Value.ref a := ru
  obtain ⟨e1, e2⟩ := refs_back rv fun x m => by
    obtain ⟨t, _, e, _⟩ := hx x m
    exact ⟨t, e⟩
  have back : ∀ v ∈ its, backV v ∈ xs := fun v hv => by rw [e1]; exact List.mem_map.mpr ⟨_, hv, rfl⟩
  refine sorted_tf2 (k := fun u => k (backV u)) hl.isList (by rw [← rv.length]; exact hz) (fun v hv => ?_) (fun v hv u hu e => ?_) fun h' d out h1 h2 kp hd hn => ?_
  · obtain ⟨t, rfl⟩ := e2 v hv
    obtain ⟨t', ys, e, ht⟩ := hx _ (back _ hv)
    cases e
    obtain ⟨_, its2, r2, o, ho, hc, n, hd⟩ := I.hok _ _ ht
    cases r2 with
    | cons ri rr =>
      obtain ⟨t1, rfl⟩ := ri
      cases rr with
      | cons ri2 rr2 =>
        obtain ⟨t2, rfl⟩ := ri2
        exact ⟨t, o, _, n, t1, t2, rfl, ho, hc, hd, by simp, by simp⟩
  · have eq := inj _ (back v hv) _ (back u hu) e
    obtain ⟨t, rfl⟩ := e2 v hv
    obtain ⟨t', rfl⟩ := e2 u hu
    exact congrArg Value.ref (V.ref.inj eq)
  · have h3 : ∀ u ∈ out, ∃ a, u = Value.ref a := fun u hu => e2 u (h2.perm.mem_iff.mp hu)
    obtain ⟨n, hn⟩ := hn
    have hb : SrtO.Stb (L2.ltP k) (out.map backV) xs := by
      rw [e1]
      exact SrtO.Stb.map (ltP_swo k) backV h2
    refine ⟨.ref d, upd H d (.lst (out.map backV)), I.laid (t' := s.toks) kp hd ⟨?_, out, n, vals_back h3, hn⟩, rfl, q _ d (SrtO.srtd_map h1) hb (I.hok.fresh hd)⟩
    rw [hb.len]
    exact hz
end
end MP
set_option Elab.async false
set_option linter.all false
set_option maxRecDepth 100000
set_option autoImplicit false
namespace MP
open PySem PySem.Spec PyProof.Rows L2
variable [Tabs]
section
variable {G : Sg} {B : Bor} {A : List Addr} {H : Hp} {h : Hm} {X : Cx} {Q : VK}
theorem atI_rel {vs : List Val} {xs : List V} {i : Int} {v : Val} (r : RVs G B A H vs xs) (e : atI vs i = some v) : ∃ x, atI xs i = some x ∧ RV G B A H v x := by
  unfold atI at e ⊢
  rw [← r.length]
  cases q : ixN vs.length i with
  | none => rw [q] at e; cases e
  | some j =>
    rw [q] at e
    exact r.get e
theorem assoc_rel (g : G.Good) {k : MKey} {q : Key} (rk : RKey G k q) : ∀ {ks : List MKey} {vs : List Val} {kvs : List (Key × V)}, RKeys G ks (kvs.map (·.1)) → RVs G B A H vs (kvs.map (·.2)) →
    (∀ v, assoc ks vs k = some v → ∃ x, valV kvs q = some x ∧ RV G B A H v x) ∧ (assoc ks vs k = none → valV kvs q = none)
  | [], vs, kvs, r, _ => by
    unfold RKeys at r
    have : kvs = [] := by simpa using r
    subst this
    refine ⟨fun v e => ?_, fun _ => rfl⟩
    cases vs <;> cases e
  | m :: ms, vs, [], r, _ => by
    unfold RKeys at r
    obtain ⟨_, _, e, _⟩ := r
    cases e
  | m :: ms, [], p :: kvs, _, r => by
    have := r.ofnil
    cases this
  | m :: ms, v :: vs, p :: kvs, r, r2 => by
    unfold RKeys at r
    obtain ⟨k1, r1, e, h1, h2⟩ := r
    rw [List.map_cons, List.cons.injEq] at e
    obtain ⟨y, ys, e2, q1, q2⟩ := r2.uncons
    rw [List.map_cons, List.cons.injEq] at e2
    have ke := key_eq g h1 rk
    rw [← e.1] at ke
    have ih := assoc_rel g rk (ks := ms) (vs := vs) (kvs := kvs) (by rw [e.2]; exact h2) (by rw [e2.2]; exact q2)
    unfold assoc
    by_cases c : m = k
    · have c2 : p.1 = q := by
        rw [decide_eq_true c] at ke
        exact of_decide_eq_true ke.symm
      rw [if_pos c, valV_pos c2]
      refine ⟨fun w e3 => ?_, fun e3 => by cases e3⟩
      cases e3
      exact ⟨p.2, rfl, by rw [e2.1]; exact q1⟩
    · have c2 : ¬ p.1 = q := by
        rw [decide_eq_false c] at ke
        exact of_decide_eq_false ke.symm
      rw [if_neg c, valV_neg c2]
      exact ih
def rIdx (G : Sg) (B : Bor) : R2 := fun x y H Q => ∃ A h v w, Fits G B A h H ∧ RV G B A H v x ∧ RV G B A H w y ∧ PV G B A H (idxM v w h) Q
theorem ix_dict (hu : X.A.units + 1 < cLine) : IxR X (fun x y H Q => ∃ a v, x = .ref a ∧ DGet H a y (some v) ∧ Q v H) := by
  intro value slice pins s σ H x y v u Q I rx ry ⟨a, w, ex, g, q⟩ hs
  subst ex
  cases rx
  exact tail_any (ops := [.ref a, u]) (dict_typeIs I g) PySem.F.slot_dict_getitem.lookup (d_getItem hu I g ry fun w' s3 I3 rw' => ⟨w, H, I3, rw', q⟩) hs
theorem ix_idxM (g : G.Good) (hX : X.K = G.K) (hu : X.A.units + 1 < cLine) : IxR X (rIdx G B) := by
  intro value slice pins s σ H x y v u Q I rx ry ⟨A, h, a, b, F, ra, rb, p⟩ hs
  unfold idxM at p
  split at p
  · rename_i j
    unfold RV at rb
    subst rb
    split at p
    · rename_i vs e
      obtain ⟨d, xs, rfl, hq, _, r⟩ := seqOf_ok F e ra
      split at p
      · rename_i w ew
        obtain ⟨z, ez, rz⟩ := atI_rel r ew
        rcases hq with hq | hq
        · exact ix_list value slice pins s σ H _ _ v u Q I rx ry ⟨d, xs, j, z, rfl, rfl, by rw [hX]; exact hq, ez, val_ok F p rz⟩ hs
        · exact ix_tup value slice pins s σ H _ _ v u Q I rx ry ⟨d, xs, j, z, rfl, rfl, by rw [hX]; exact hq, ez, val_ok F p rz⟩ hs
      · exact p.elim
    · exact p.elim
  · rename_i n
    unfold RV at rb
    obtain ⟨z, ez, rfl⟩ := rb
    split at p
    · rename_i ks vs e
      obtain ⟨d, kvs, rfl, hd, _, rk, r⟩ := dctOf_ok F e ra
      split at p
      · rename_i w ew
        obtain ⟨y, ey, ry'⟩ := (assoc_rel g (k := .inr n) (q := .inr z) ⟨z, ez, rfl⟩ rk r).1 w ew
        have gg := DGet.k (k := .inr z) hd
        rw [ey] at gg
        exact ix_dict hu value slice pins s σ H _ _ v u Q I rx ry ⟨d, y, rfl, gg, val_ok F p ry'⟩ hs
      · exact p.elim
    · exact p.elim
  · exact p.elim
def rSlc (G : Sg) (B : Bor) (z : Bool) : V → Option Int → Option Int → Hp → VK → Prop := fun x lo hi H Q => ∃ A h v, Fits G B A h H ∧ RV G B A H v x ∧ PV G B A H (slcM z v lo hi h) Q
theorem cut_rel {vs : List Val} {xs : List V} (r : RVs G B A H vs xs) (lo hi : Option Int) : RVs G B A H (cutM vs lo hi) (cutV xs lo hi) := by
  unfold cutM cutV
  rw [r.length]
  exact (r.drop _).take _
theorem sl_slcM {z : Bool} (hX : X.K = G.K) : SlR X (rSlc G B z) := by
  intro pins s σ H x v vl vu lo hi sl Q I rx hs pl pu ⟨A, h, a, F, ra, p⟩
  unfold slcM at p
  split at p
  · rename_i vs
    unfold RV at ra
    obtain ⟨d, xs, rfl, e, _, l, r⟩ := ra
    split at p
    · exact p.elim
    · rename_i c
      rw [r.length] at c
      exact sl_tup pins s σ H _ v vl vu lo hi sl Q I rx hs pl pu ⟨d, xs, rfl, SqT.of e, c, fun q hq => tup_ok F p (cut_rel r lo hi) (Nat.le_trans (cutV_length xs lo hi) l) hq⟩
  · split at p
    · rename_i vs e
      obtain ⟨d, xs, rfl, hq, l, r⟩ := lstOf_ok F e ra
      exact sl_list pins s σ H _ v vl vu lo hi sl Q I rx hs pl pu ⟨d, xs, rfl, by rw [hX]; exact hq, fun q hq => mkL_ok F p (cut_rel r lo hi) (Nat.le_trans (cutV_length xs lo hi) l) hq⟩
    · exact p.elim
def rBi (G : Sg) (B : Bor) (b : BI) (z : Bool) : List V → Hp → VK → Prop := fun xs H Q => ∃ A h vs, Fits G B A h H ∧ RVs G B A H vs xs ∧ PV G B A H (biM b z vs h) Q
theorem maxI_ok : ∀ {ns : List Int} {m : Int}, maxI ns = some m → m ∈ ns ∧ ∀ y ∈ ns, y ≤ m
  | [], m, e => by cases e
  | [x], m, e => by
    unfold maxI at e
    cases e
    simp
  | x :: y :: r, m, e => by
    rw [maxI] at e
    · cases q : maxI (y :: r) with
      | none => rw [q] at e; cases e
      | some k =>
        rw [q] at e
        simp only [Option.some.injEq] at e
        obtain ⟨h1, h2⟩ := maxI_ok q
        by_cases c : k < x
        · rw [if_pos c] at e
          subst e
          refine ⟨List.mem_cons_self, fun w hw => ?_⟩
          rcases List.mem_cons.mp hw with z | z
          · omega
          · have := h2 w z
            omega
        · rw [if_neg c] at e
          subst e
          refine ⟨List.mem_cons_of_mem _ h1, fun w hw => ?_⟩
          rcases List.mem_cons.mp hw with z | z
          · omega
          · exact h2 w z
    · intro z
      cases z
theorem max_uniq {ns : List Int} {m k : Int} (h1 : m ∈ ns ∧ ∀ y ∈ ns, y ≤ m) (h2 : k ∈ ns) (h3 : ∀ y, y ∈ ns → y ≤ k) : k = m := by
  have a := h1.2 k h2
  have b := h3 m h1.1
  omega
theorem insI_perm (x : Int) : ∀ ys : List Int, (insI x ys).Perm (x :: ys)
  | [] => .refl _
  | y :: ys => by
    unfold insI
    split
    · exact .refl _
    · exact ((insI_perm x ys).cons y).trans (.swap x y ys)
theorem sortI_perm : ∀ xs : List Int, (sortI xs).Perm xs
  | [] => .refl _
  | x :: xs => (insI_perm x (sortI xs)).trans ((sortI_perm xs).cons x)
theorem insI_sorted (x : Int) : ∀ ys : List Int, ys.Pairwise (· ≤ ·) → (insI x ys).Pairwise (· ≤ ·)
  | [], _ => by
    unfold insI
    simp
  | y :: ys, s => by
    have s' := List.pairwise_cons.mp s
    unfold insI
    split
    · rename_i c
      refine List.pairwise_cons.mpr ⟨fun z hz => ?_, s⟩
      rcases List.mem_cons.mp hz with e | hz
      · rw [e]; exact c
      · exact Int.le_trans c (s'.1 z hz)
    · rename_i c
      refine List.pairwise_cons.mpr ⟨fun z hz => ?_, insI_sorted x ys s'.2⟩
      rcases List.mem_cons.mp ((insI_perm x ys).mem_iff.mp hz) with e | hz
      · rw [e]; omega
      · exact s'.1 z hz
theorem sortI_sorted : ∀ xs : List Int, (sortI xs).Pairwise (· ≤ ·)
  | [] => .nil
  | x :: xs => insI_sorted x _ (sortI_sorted xs)
theorem sorted_uniq : ∀ {l m : List Int}, l.Perm m → l.Pairwise (· ≤ ·) → m.Pairwise (· ≤ ·) → l = m
  | [], m, p, _, _ => (List.nil_perm.mp p).symm
  | x :: l, [], p, _, _ => by
    have := p.length_eq
    simp at this
  | x :: l, y :: m, p, s, t => by
    have s' := List.pairwise_cons.mp s
    have t' := List.pairwise_cons.mp t
    have h1 : x ≤ y := by
      rcases List.mem_cons.mp (p.mem_iff.mpr (List.mem_cons_self (a := y) (l := m))) with e | e
      · omega
      · exact s'.1 y e
    have h2 : y ≤ x := by
      rcases List.mem_cons.mp (p.mem_iff.mp (List.mem_cons_self (a := x) (l := l))) with e | e
      · omega
      · exact t'.1 x e
    have e : x = y := by omega
    subst e
    rw [sorted_uniq p.cons_inv s'.2 t'.2]

theorem insP_rel {kv : Val → Int × Int} {kx : V → Int × Int} {v : Val} {x : V} (r : RV G B A H v x) (e : kv v = kx x) : ∀ {vs : List Val} {xs : List V}, RVs G B A H vs xs → vs.map kv = xs.map kx → RVs G B A H (insP kv v vs) (insP kx x xs) ∧ (insP kv v vs).map kv = (insP kx x xs).map kx
  | [], xs, q, _ => by
    rw [q.ofnil]
    unfold insP
    exact ⟨.one r, by simp [e]⟩
  | w :: vs, xs, q, m => by
    obtain ⟨y, ys, e1, q1, q2⟩ := q.uncons
    subst e1
    rw [List.map_cons, List.map_cons, List.cons.injEq] at m
    unfold insP
    rw [e, m.1]
    obtain ⟨h1, h2⟩ := insP_rel r e q2 m.2
    split
    · exact ⟨.cons q1 h1, by simp [m.1, h2]⟩
    · exact ⟨.cons r (.cons q1 q2), by simp [e, m.1, m.2]⟩
theorem sortP_rel {kv : Val → Int × Int} {kx : V → Int × Int} : ∀ {vs : List Val} {xs : List V}, RVs G B A H vs xs → vs.map kv = xs.map kx → RVs G B A H (sortP kv vs) (sortP kx xs) ∧ (sortP kv vs).map kv = (sortP kx xs).map kx
  | [], xs, q, _ => by
    rw [q.ofnil]
    exact ⟨RVs.nil, rfl⟩
  | w :: vs, xs, q, m => by
    obtain ⟨y, ys, e1, q1, q2⟩ := q.uncons
    subst e1
    rw [List.map_cons, List.map_cons, List.cons.injEq] at m
    obtain ⟨h1, h2⟩ := sortP_rel q2 m.2
    unfold sortP
    exact insP_rel q1 m.1 h1 h2
theorem insP_srt (k : V → Int × Int) (x : V) : ∀ ys : List V, SrtO.Srtd (ltP k) ys → SrtO.Srtd (ltP k) (insP k x ys) ∧ SrtO.Stb (ltP k) (insP k x ys) (x :: ys)
  | [], _ => ⟨List.pairwise_singleton _ _, SrtO.Stb.refl _⟩
  | y :: ys, s => by
    have s' := List.pairwise_cons.mp s
    unfold insP
    split
    · rename_i c
      obtain ⟨h1, h2⟩ := insP_srt k x ys s'.2
      have c' : ltP k y x = true := c
      refine ⟨List.pairwise_cons.mpr ⟨fun z hz => ?_, h1⟩, ?_⟩
      · rcases List.mem_cons.mp (h2.perm.mem_iff.mp hz) with e | hz
        · subst e
          have a := SrtO.lexB_iff.mp c'
          refine SrtO.lexB_no.mpr ?_
          omega
        · exact s'.1 z hz
      · refine ⟨(h2.perm.cons y).trans (.swap x y ys), fun z => ?_⟩
        have e1 := h2.cls z
        rw [List.filter_cons, List.filter_cons, List.filter_cons, e1, List.filter_cons]
        by_cases q1 : SrtO.eqv (ltP k) z x = true
        · by_cases q2 : SrtO.eqv (ltP k) z y = true
          · have a1 := SrtO.eqv_iff.mp q1
            have a2 := SrtO.eqv_iff.mp q2
            have b1 := SrtO.lexB_no.mp a1.1
            have b2 := SrtO.lexB_no.mp a1.2
            have b3 := SrtO.lexB_no.mp a2.1
            have b4 := SrtO.lexB_no.mp a2.2
            have b5 := SrtO.lexB_iff.mp c'
            omega
          · simp only [if_neg q2, if_pos q1]
        · simp only [if_neg q1]
    · rename_i c
      have c' : ltP k y x = false := by
        have : ltPr (k y) (k x) = false := by simpa using c
        exact this
      refine ⟨List.pairwise_cons.mpr ⟨fun z hz => ?_, s⟩, SrtO.Stb.refl _⟩
      rcases List.mem_cons.mp hz with e | hz
      · rw [e]
        exact c'
      · have a := SrtO.lexB_no.mp (s'.1 z hz)
        have b := SrtO.lexB_no.mp c'
        refine SrtO.lexB_no.mpr ?_
        omega
theorem sortP_srt (k : V → Int × Int) : ∀ xs : List V, SrtO.Srtd (ltP k) (sortP k xs) ∧ SrtO.Stb (ltP k) (sortP k xs) xs
  | [] => ⟨.nil, SrtO.Stb.refl _⟩
  | x :: xs => by
    obtain ⟨h1, h2⟩ := sortP_srt k xs
    obtain ⟨h3, h4⟩ := insP_srt k x (sortP k xs) h1
    exact ⟨h3, h4.trans (SrtO.Stb.app (SrtO.Stb.refl [x]) h2)⟩
/-- a pair's two ints, off the heap -/
def kH (H : Hp) (x : V) : Int × Int := match x with
  | .ref t => match H t with
    | some (.tup [.int i, .int j]) => (i, j)
    | _ => (0, 0)
  | _ => (0, 0)
theorem pair_rel {v : Val} {x : V} (c : isPair v = true) (r : RV G B A H v x) : pairOf v = kH H x ∧ ∃ t, x = .ref t ∧ H t = some (.tup [.int (kH H x).1, .int (kH H x).2]) := by
  unfold isPair at c
  split at c
  · unfold RV at r
    obtain ⟨a, xs, rfl, e, _, _, r⟩ := r
    obtain ⟨y1, ys1, e1, r1, r2⟩ := r.uncons
    obtain ⟨y2, ys2, e2, r3, r4⟩ := r2.uncons
    have e3 := r4.ofnil
    unfold RV at r1 r3
    subst r1 r3 e3 e2 e1
    have hk : ∀ i j, H a = some (.tup [.int i, .int j]) → kH H (.ref a) = (i, j) := fun i j e => by
      unfold kH
      simp only [e]
    rw [hk _ _ e]
    exact ⟨rfl, a, rfl, e⟩
  · cases c
theorem pairs_rel : ∀ {vs : List Val} {xs : List V}, vs.all isPair = true → RVs G B A H vs xs → vs.map pairOf = xs.map (kH H) ∧ ∀ x ∈ xs, ∃ t, x = .ref t ∧ H t = some (.tup [.int (kH H x).1, .int (kH H x).2])
  | [], xs, _, r => by
    rw [r.ofnil]
    exact ⟨rfl, fun _ z => by cases z⟩
  | v :: vs, xs, c, r => by
    rw [List.all_cons, Bool.and_eq_true] at c
    obtain ⟨y, ys, e, r1, r2⟩ := r.uncons
    subst e
    obtain ⟨h1, h2⟩ := pairs_rel c.2 r2
    obtain ⟨h3, h4⟩ := pair_rel c.1 r1
    refine ⟨by simp [h1, h3], fun x hx => ?_⟩
    rcases List.mem_cons.mp hx with e | hx
    · rw [e]
      exact h4
    · exact h2 x hx
/-- a tuple's first whole number, off the heap -/
def tH (H : Hp) (x : V) : Int := match x with
  | .ref t => match H t with
    | some (.tup (.int i :: _)) => i
    | _ => 0
  | _ => 0
theorem tf_rel {v : Val} {x : V} (c : isTf v = true) (r : RV G B A H v x) : fstI v = tH H x ∧ ∃ t ys, x = .ref t ∧ H t = some (.tup (.int (tH H x) :: ys)) := by
  unfold isTf at c
  split at c
  · unfold RV at r
    obtain ⟨a, xs, rfl, e, _, _, r⟩ := r
    obtain ⟨y1, ys1, e1, r1, r2⟩ := r.uncons
    unfold RV at r1
    subst r1 e1
    have hk : ∀ i ys, H a = some (.tup (.int i :: ys)) → tH H (.ref a) = i := fun i ys e => by
      unfold tH
      simp only [e]
    rw [hk _ _ e]
    exact ⟨rfl, a, ys1, rfl, e⟩
  · cases c
theorem tfs_rel : ∀ {vs : List Val} {xs : List V}, vs.all isTf = true → RVs G B A H vs xs → vs.map fstI = xs.map (tH H) ∧ ∀ x ∈ xs, ∃ t ys, x = .ref t ∧ H t = some (.tup (.int (tH H x) :: ys))
  | [], xs, _, r => by
    rw [r.ofnil]
    exact ⟨rfl, fun _ z => by cases z⟩
  | v :: vs, xs, c, r => by
    rw [List.all_cons, Bool.and_eq_true] at c
    obtain ⟨y, ys, e, r1, r2⟩ := r.uncons
    subst e
    obtain ⟨h1, h2⟩ := tfs_rel c.2 r2
    obtain ⟨h3, h4⟩ := tf_rel c.1 r1
    refine ⟨by simp [h1, h3], fun x hx => ?_⟩
    rcases List.mem_cons.mp hx with e | hx
    · rw [e]
      exact h4
    · exact h2 x hx
/-- a tuple's first two whole numbers, off the heap -/
def tH2 (H : Hp) (x : V) : Int × Int := match x with
  | .ref t => match H t with
    | some (.tup (.int i :: .int j :: _)) => (i, j)
    | _ => (0, 0)
  | _ => (0, 0)
theorem tt_rel {v : Val} {x : V} (c : isTt v = true) (r : RV G B A H v x) : fst2 v = tH2 H x ∧ ∃ t ys, x = .ref t ∧ H t = some (.tup (.int (tH2 H x).1 :: .int (tH2 H x).2 :: ys)) := by
  unfold isTt at c
  split at c
  · unfold RV at r
    obtain ⟨a, xs, rfl, e, _, _, r⟩ := r
    obtain ⟨y1, ys1, e1, r1, r2⟩ := r.uncons
    obtain ⟨y2, ys2, e2, r3, r4⟩ := r2.uncons
    unfold RV at r1 r3
    subst r1 r3 e2 e1
    have hk : ∀ i j ys, H a = some (.tup (.int i :: .int j :: ys)) → tH2 H (.ref a) = (i, j) := fun i j ys e => by
      unfold tH2
      simp only [e]
    rw [hk _ _ _ e]
    exact ⟨rfl, a, ys2, rfl, e⟩
  · cases c
theorem tts_rel : ∀ {vs : List Val} {xs : List V}, vs.all isTt = true → RVs G B A H vs xs → vs.map fst2 = xs.map (tH2 H) ∧ ∀ x ∈ xs, ∃ t ys, x = .ref t ∧ H t = some (.tup (.int (tH2 H x).1 :: .int (tH2 H x).2 :: ys))
  | [], xs, _, r => by
    rw [r.ofnil]
    exact ⟨rfl, fun _ z => by cases z⟩
  | v :: vs, xs, c, r => by
    rw [List.all_cons, Bool.and_eq_true] at c
    obtain ⟨y, ys, e, r1, r2⟩ := r.uncons
    subst e
    obtain ⟨h1, h2⟩ := tts_rel c.2 r2
    obtain ⟨h3, h4⟩ := tt_rel c.1 r1
    refine ⟨by simp [h1, h3], fun x hx => ?_⟩
    rcases List.mem_cons.mp hx with e | hx
    · rw [e]
      exact h4
    · exact h2 x hx
theorem inj_nd {κ : Type} {k : V → κ} : ∀ {xs : List V}, (xs.map k).Nodup → ∀ x ∈ xs, ∀ y ∈ xs, k x = k y → x = y
  | [], _, x, m, _, _, _ => by cases m
  | a :: xs, h, x, mx, y, my, e => by
    rw [List.map_cons, List.nodup_cons] at h
    rcases List.mem_cons.mp mx with ex | nx
    · rcases List.mem_cons.mp my with ey | ny
      · rw [ex, ey]
      · rw [ex] at e
        exact absurd (List.mem_map.mpr ⟨y, ny, e.symm⟩) h.1
    · rcases List.mem_cons.mp my with ey | ny
      · rw [ey] at e
        exact absurd (List.mem_map.mpr ⟨x, nx, e⟩) h.1
      · exact inj_nd h.2 x nx y ny e
def calB : BI → Value
  | .len => .builtin "len"
  | .max1 => .builtin "max"
  | .max2 => .builtin "max"
  | .min2 => .builtin "min"
  | .abs => .builtin "abs"
  | .sum => .builtin "sum"
  | .all => .builtin "all"
  | .any => .builtin "any"
  | .sorted => .builtin "sorted"
  | .list => .type "list"
  | .tuple => .type "tuple"
  | .toInt => .type "int"
  | _ => .none
theorem call_biM {b : BI} {z : Bool} (hX : X.K = G.K) (hc : X.calm = true) (nb : b ≠ .sortedSet ∧ b ≠ .lenSet ∧ b ≠ .listRng ∧ b ≠ .listZip) : CallR X (calB b) (rBi G B b z) := by
  intro pins s σ H xs us Q I r ⟨A, h, vs, F, rv, p⟩
  unfold biM at p
  split at p
  · -- len
    obtain ⟨x, _, rfl, rx, q⟩ := rv.uncons
    have q0 := q.ofnil
    subst q0
    split at p
    · rename_i ws e
      obtain ⟨a, ys, rfl, hq, _, rr⟩ := seqOf_ok F e rx
      rw [rr.length] at p
      refine call_len_seq pins s σ H _ us Q I r ⟨a, ys, rfl, ?_, int_ok F p⟩
      rw [hX]
      exact hq
    · exact p.elim
  · -- max of a list
    obtain ⟨x, _, rfl, rx, q⟩ := rv.uncons
    have q0 := q.ofnil
    subst q0
    split at p
    · rename_i ws e
      obtain ⟨a, ys, rfl, hq, _, rr⟩ := lstOf_ok F e rx
      split at p
      · rename_i is ei
        split at p
        · rename_i m em
          have ey := RVs.ints rr ei
          subst ey
          have mk := maxI_ok em
          refine cr_max hc pins s σ H _ us Q I r ⟨a, is, rfl, by rw [hX]; exact hq, List.length_pos_of_mem mk.1, fun k h1 h2 => ?_⟩
          rw [max_uniq mk h1 h2]
          exact int_ok F p
        · exact p.elim
      · exact p.elim
    · exact p.elim
  · -- max, min, abs
    rename_i i j
    obtain ⟨x, _, rfl, rx, q⟩ := rv.uncons
    obtain ⟨y, _, rfl, ry, q⟩ := q.uncons
    have q0 := q.ofnil
    subst q0
    unfold RV at rx ry
    subst rx ry
    exact call_max2 hc pins s σ H _ us Q I r ⟨i, j, rfl, int_ok F p⟩
  · rename_i i j
    obtain ⟨x, _, rfl, rx, q⟩ := rv.uncons
    obtain ⟨y, _, rfl, ry, q⟩ := q.uncons
    have q0 := q.ofnil
    subst q0
    unfold RV at rx ry
    subst rx ry
    exact call_min2 hc pins s σ H _ us Q I r ⟨i, j, rfl, int_ok F p⟩
  · rename_i i
    obtain ⟨x, _, rfl, rx, q⟩ := rv.uncons
    have q0 := q.ofnil
    subst q0
    unfold RV at rx
    subst rx
    exact call_abs pins s σ H _ us Q I r ⟨i, rfl, int_ok F p⟩
  · -- sum
    obtain ⟨x, _, rfl, rx, q⟩ := rv.uncons
    have q0 := q.ofnil
    subst q0
    split at p
    · rename_i ws e
      obtain ⟨a, ys, rfl, hq, _, rr⟩ := lstOf_ok F e rx
      split at p
      · rename_i is ei
        have ey := RVs.ints rr ei
        subst ey
        exact cr_sum hc pins s σ H _ us Q I r ⟨a, is, rfl, by rw [hX]; exact hq, int_ok F p⟩
      · exact p.elim
    · exact p.elim
  · -- all
    obtain ⟨x, _, rfl, rx, q⟩ := rv.uncons
    have q0 := q.ofnil
    subst q0
    split at p
    · rename_i ws e
      obtain ⟨a, ys, rfl, hq, _, rr⟩ := lstOf_ok F e rx
      split at p
      · rename_i is ei
        have ey := RVs.bls rr ei
        subst ey
        exact cr_all hc pins s σ H _ us Q I r ⟨a, is, rfl, by rw [hX]; exact hq, bl_ok F p⟩
      · exact p.elim
    · exact p.elim
  · -- any
    obtain ⟨x, _, rfl, rx, q⟩ := rv.uncons
    have q0 := q.ofnil
    subst q0
    split at p
    · rename_i ws e
      obtain ⟨a, ys, rfl, hq, _, rr⟩ := lstOf_ok F e rx
      split at p
      · rename_i is ei
        have ey := RVs.bls rr ei
        subst ey
        exact cr_any hc pins s σ H _ us Q I r ⟨a, is, rfl, by rw [hX]; exact hq, bl_ok F p⟩
      · exact p.elim
    · exact p.elim
  · -- sorted
    obtain ⟨x, _, rfl, rx, q⟩ := rv.uncons
    have q0 := q.ofnil
    subst q0
    split at p
    · rename_i ws e
      obtain ⟨a, ys, rfl, hq, l, rr⟩ := lstOf_ok F e rx
      split at p
      · rename_i out eo
        unfold sortM at eo
        split at eo
        · rename_i is ei
          cases eo
          have ey := RVs.ints rr ei
          subst ey
          rw [List.length_map] at l
          refine cr_sortedI pins s σ H _ us Q I r ⟨a, is, rfl, by rw [hX]; exact hq, fun ns' d h1 h2 hd => ?_⟩
          have es : ns' = sortI is := sorted_uniq (h1.trans (sortI_perm is).symm) h2 (sortI_sorted is)
          subst es
          exact mkL_ok F p (RVs.ofInts _) (by rw [List.length_map, (sortI_perm is).length_eq]; exact l) hd
        · split at eo
          · rename_i c
            cases eo
            obtain ⟨h1, h2⟩ := pairs_rel c rr
            obtain ⟨h3, _⟩ := sortP_rel rr h1
            obtain ⟨h4, h5⟩ := sortP_srt (kH H) ys
            refine cr_sortedPO pins s σ H _ us Q I r ⟨a, ys, kH H, rfl, by rw [hX]; exact hq, h2, fun zs d s1 s2 hd => ?_⟩
            have es : zs = sortP (kH H) ys := SrtO.stb_uniq (ltP_swo _) s1 h4 (s2.trans ⟨h5.perm.symm, fun x => (h5.cls x).symm⟩)
            subst es
            exact mkL_ok F p h3 (by rw [h5.perm.length_eq]; exact l) hd
          · split at eo
            · rename_i c
              cases eo
              rw [Bool.and_eq_true, decide_eq_true_eq] at c
              obtain ⟨h1, h2⟩ := tfs_rel c.1 rr
              have hm : ws.map (fun v => (fstI v, (0 : Int))) = ys.map fun x => (tH H x, (0 : Int)) := by
                have := congrArg (List.map fun i : Int => (i, (0 : Int))) h1
                rw [List.map_map, List.map_map] at this
                exact this
              obtain ⟨h3, _⟩ := sortP_rel rr hm
              obtain ⟨h4, h5⟩ := sortP_srt (fun x => (tH H x, 0)) ys
              refine cr_sortedTf pins s σ H _ us Q I r ⟨a, ys, tH H, rfl, by rw [hX]; exact hq, h2, inj_nd (by rw [← h1]; exact c.2), fun zs d s1 s2 hd => ?_⟩
              have es : zs = sortP (fun x => (tH H x, 0)) ys := SrtO.stb_uniq (ltP_swo _) s1 h4 (s2.trans ⟨h5.perm.symm, fun x => (h5.cls x).symm⟩)
              subst es
              exact mkL_ok F p h3 (by rw [h5.perm.length_eq]; exact l) hd
            · split at eo
              · rename_i c
                cases eo
                rw [Bool.and_eq_true, decide_eq_true_eq] at c
                obtain ⟨h1, h2⟩ := tts_rel c.1 rr
                obtain ⟨h3, _⟩ := sortP_rel rr h1
                obtain ⟨h4, h5⟩ := sortP_srt (tH2 H) ys
                refine cr_sortedTf2 pins s σ H _ us Q I r ⟨a, ys, tH2 H, rfl, by rw [hX]; exact hq, h2, inj_nd (by rw [← h1]; exact c.2), fun zs d s1 s2 hd => ?_⟩
                have es : zs = sortP (tH2 H) ys := SrtO.stb_uniq (ltP_swo _) s1 h4 (s2.trans ⟨h5.perm.symm, fun x => (h5.cls x).symm⟩)
                subst es
                exact mkL_ok F p h3 (by rw [h5.perm.length_eq]; exact l) hd
              · cases eo
      · exact p.elim
    · exact p.elim
  · -- list
    obtain ⟨x, _, rfl, rx, q⟩ := rv.uncons
    have q0 := q.ofnil
    subst q0
    split at p
    · rename_i ws e
      obtain ⟨a, ys, rfl, hq, l, rr⟩ := seqOf_ok F e rx
      exact call_list_of pins s σ H _ us Q I r ⟨a, ys, rfl, by rw [hX]; exact hq, fun d hd => mkL_ok F p rr l hd⟩
    · exact p.elim
  · -- tuple
    obtain ⟨x, _, rfl, rx, q⟩ := rv.uncons
    have q0 := q.ofnil
    subst q0
    split at p
    · rename_i ws e
      obtain ⟨a, ys, rfl, hq, l, rr⟩ := lstOf_ok F e rx
      exact call_tuple_of pins s σ H _ us Q I r ⟨a, ys, rfl, .inl ⟨by rw [hX]; exact hq, fun d hd => tup_ok F p rr l hd⟩⟩
    · exact p.elim
  · -- int
    rename_i k
    obtain ⟨x, _, rfl, rx, q⟩ := rv.uncons
    have q0 := q.ofnil
    subst q0
    unfold RV at rx
    subst rx
    exact call_int1 pins s σ H _ us Q I r (.inr ⟨k, rfl, int_ok F p⟩)
  · rename_i k
    obtain ⟨x, _, rfl, rx, q⟩ := rv.uncons
    have q0 := q.ofnil
    subst q0
    unfold RV at rx
    subst rx
    exact call_int1 pins s σ H _ us Q I r (.inl ⟨k, rfl, int_ok F p⟩)
  · exact absurd rfl nb.1
  · exact absurd rfl nb.2.1
  · exact absurd rfl nb.2.2.2
  · exact absurd rfl nb.2.2.1
  · exact absurd rfl nb.2.2.1
  · exact p.elim
end
end MP
set_option Elab.async false
set_option linter.all false
set_option maxRecDepth 100000
set_option autoImplicit false
namespace MP
open PySem PySem.Spec PyProof.Rows L2
variable [Tabs]
section
variable {G : Sg} {B : Bor} {A : List Addr} {H : Hp} {h : Hm} {X : Cx} {Q : VK}
def idM : MI → String
  | .append => "list.append"
  | .extend => "list.extend"
  | .pop => "list.pop"
  | .reverse => "list.reverse"
  | .clear => "list.clear"
  | .index => "list.index"
  | .count => "list.count"
  | .get => "dict.get"
def tyM : MI → String
  | .get => "dict"
  | _ => "list"
def rMeth (G : Sg) (B : Bor) (m : MI) : V → List V → Hp → VK → Prop := fun x xs H Q => ∃ A h v vs, Fits G B A h H ∧ RV G B A H v x ∧ RVs G B A H vs xs ∧ PV G B A H (methM m v vs h) Q
/-- one of ours, a list, is written -/
theorem lst_set {i : Nat} {a : Addr} {xs ys : List V} {ws : List Val} {w : Val} {y : V} (F : Fits G B A h H) (ea : A[i]? = some a) (hx : H a = some (.lst xs)) (p : PV G B A H (.ok w (h.set i (.lst ws))) Q)
    (r : RVs G B A H ws ys) (l : ys.length ≤ sizeLine) (ry : RV G B A H w y) : Q y (upd H a (.lst ys)) := by
  have m := List.mem_of_getElem? ea
  have n : Next A H A (upd H a (.lst ys)) := next_set m hx pl_lst
  exact p.ok (F.set ea ⟨ys, upd_same, l, RVs.mono n ws r⟩) n (RV.mono n w ry)
theorem findI_ok {x : Val} : ∀ {vs : List Val} {n : Nat}, findI x vs = some n → ∃ z, vs[n]? = some z ∧ eqV z x = true ∧ ∀ m w, m < n → vs[m]? = some w → eqV w x = false
  | [], n, e => by cases e
  | v :: vs, n, e => by
    unfold findI at e
    split at e
    · rename_i c
      cases e
      exact ⟨v, rfl, c, fun m w hm => by omega⟩
    · rename_i c
      split at e
      · rename_i k ek
        cases e
        obtain ⟨z, h1, h2, h3⟩ := findI_ok ek
        refine ⟨z, by simpa using h1, h2, fun m w hm hw => ?_⟩
        cases m with
        | zero =>
          simp at hw
          subst hw
          simpa using c
        | succ m => exact h3 m w (by omega) (by simpa using hw)
      · cases e
theorem mt_methM (g : G.Good) {m : MI} (hX : X.K = G.K) (hu : X.A.units + 65 < cLine) (nc : m ≠ .count) : MtR X (idM m) (rMeth G B m) := by
  intro pins s σ H x xs v us Q I rx rs ⟨A, h, w, ws, F, ra, rv, p⟩
  unfold methM at p
  split at p
  · -- append
    rename_i y
    split at p
    · rename_i i
      split at p
      · rename_i vs e
        split at p
        · rename_i c
          unfold RV at ra
          obtain ⟨a, rfl, ea⟩ := ra
          obtain ⟨xs', hx, l, r⟩ := F.ob i _ a e ea
          obtain ⟨z, _, rfl, rz, q⟩ := rv.uncons
          have q0 := q.ofnil
          subst q0
          rw [r.length] at c
          exact mt_append pins s σ H _ _ v us Q I rx rs ⟨a, xs', z, rfl, rfl, hx, big_lt c, lst_set F ea hx p (r.append (.one rz)) (by rw [List.length_append]; exact big_lt c) rv_non⟩
        · exact p.elim
      · exact p.elim
    · exact p.elim
  · -- extend
    rename_i y
    split at p
    · rename_i i
      split at p
      · rename_i vs ws' e1 e2
        split at p
        · rename_i c
          unfold RV at ra
          obtain ⟨a, rfl, ea⟩ := ra
          obtain ⟨xs', hx, l, r⟩ := F.ob i _ a e1 ea
          obtain ⟨z, _, rfl, rz, q⟩ := rv.uncons
          have q0 := q.ofnil
          subst q0
          obtain ⟨b, zs, rfl, hz, _, r2⟩ := catOf_ok F e2 rz
          rw [r.length, r2.length] at c
          exact mt_extend pins s σ H _ _ v us Q I rx rs ⟨a, b, xs', zs, rfl, rfl, hx, hz, big_le c, lst_set F ea hx p (r.append r2) (by rw [List.length_append]; exact big_le c) rv_non⟩
        · exact p.elim
      · exact p.elim
    · exact p.elim
  · -- pop
    split at p
    · rename_i i
      split at p
      · rename_i vs e
        split at p
        · rename_i y ey
          unfold RV at ra
          obtain ⟨a, rfl, ea⟩ := ra
          obtain ⟨xs', hx, l, r⟩ := F.ob i _ a e ea
          have q0 := rv.ofnil
          subst q0
          rw [List.getLast?_eq_getElem?, r.length] at ey
          obtain ⟨z, ez, rz⟩ := r.get ey
          exact mt_pop pins s σ H _ _ v us Q I rx rs ⟨a, xs', z, rfl, rfl, hx, ez, lst_set F ea hx p r.dropLast (by rw [List.length_dropLast]; omega) rz⟩
        · exact p.elim
      · exact p.elim
    · exact p.elim
  · -- reverse
    split at p
    · rename_i i
      split at p
      · rename_i vs e
        unfold RV at ra
        obtain ⟨a, rfl, ea⟩ := ra
        obtain ⟨xs', hx, l, r⟩ := F.ob i _ a e ea
        have q0 := rv.ofnil
        subst q0
        exact mt_reverse pins s σ H _ _ v us Q I rx rs ⟨a, xs', rfl, rfl, hx, lst_set F ea hx p r.reverse (by rw [List.length_reverse]; exact l) rv_non⟩
      · exact p.elim
    · exact p.elim
  · -- clear
    split at p
    · rename_i i
      split at p
      · rename_i vs e
        unfold RV at ra
        obtain ⟨a, rfl, ea⟩ := ra
        obtain ⟨xs', hx, l, r⟩ := F.ob i _ a e ea
        have q0 := rv.ofnil
        subst q0
        exact mt_clear pins s σ H _ _ v us Q I rx rs ⟨a, xs', rfl, rfl, hx, lst_set F ea hx p RVs.nil (Nat.zero_le _) rv_non⟩
      · exact p.elim
    · exact p.elim
  · -- index
    rename_i y
    split at p
    · rename_i vs e
      split at p
      · rename_i c
        rw [Bool.and_eq_true] at c
        split at p
        · rename_i n en
          obtain ⟨a, ys, rfl, hq, l, r⟩ := lstOf_ok F e ra
          obtain ⟨z, _, rfl, rz, q⟩ := rv.uncons
          have q0 := q.ofnil
          subst q0
          obtain ⟨t, h1, h2, h3⟩ := findI_ok en
          have dv : ∀ u ∈ vs, isData 1 u = true := fun u hu => flat_data (List.all_eq_true.mp c.2 u hu) 1
          have da : vs.all (isData 1) = true := List.all_eq_true.mpr dv
          have dy : isData 1 y = true := flat_data c.1 1
          have key : ∀ (m : Nat) (u : Val), vs[m]? = some u → eqV u y = PyData.eqv (toPD G u) (toPD G y) := fun m u hm => by
            obtain ⟨xu, _, ru⟩ := r.get hm
            exact eqv_of g u y ru rz ⟨1, dv u (List.mem_of_getElem? hm)⟩ ⟨1, dy⟩
          have hs : SeqAt.shaped (.list (toPDs G vs)) = true := by
            obtain ⟨l1, l2⟩ := layAll_of (G := G) (lay_of g 1) vs da
            unfold SeqAt.shaped PyData.canLay0 PyData.depth
            rw [l1, Bool.true_and, decide_eq_true_eq]
            omega
          refine mt_indexD hu pins s σ H _ _ v us Q I rx rs ⟨a, z, toPD G y, toPDs G vs, n, toPD G t, rfl, rfl, ?_, ?_, hs, shaped_of g (by decide) dy, ?_, ?_, fun m w hm hw => ?_, int_ok F p⟩
          · rw [hX]
            exact .lst hq (dpAll_of (dp_of 1) vs da r)
          · rw [hX]
            exact dp_of 1 y z dy rz
          · rw [toPDs_map, List.getElem?_map, h1]
            rfl
          · rw [← key n t h1]
            exact h2
          · rw [toPDs_map, List.getElem?_map] at hw
            cases eu : vs[m]? with
            | none => rw [eu] at hw; cases hw
            | some u =>
              rw [eu] at hw
              cases hw
              rw [← key m u eu]
              exact h3 m u hm eu
        · exact p.elim
      · exact p.elim
    · exact p.elim
  · exact absurd rfl nc
  · -- get
    rename_i y
    split at p
    · rename_i ks vs k e1 e2
      obtain ⟨a, kvs, rfl, hd, _, rk, r⟩ := dctOf_ok F e1 ra
      obtain ⟨z, _, rfl, rz, q⟩ := rv.uncons
      have q0 := q.ofnil
      subst q0
      obtain ⟨kk, rfl, rkk⟩ := keyOf_ok e2 rz
      obtain ⟨u, rfl, ru⟩ := Vals.one rs
      cases rx
      refine d_get1 (o := valV kvs kk) (by omega) I (DGet.k hd) ru fun w' s' I' rw' => ⟨_, H, I', rw', ?_⟩
      obtain ⟨h1, h2⟩ := assoc_rel g rkk rk r
      cases ea : assoc ks vs k with
      | none =>
        rw [ea] at p
        rw [h2 ea]
        exact val_ok F p rv_non
      | some w =>
        rw [ea] at p
        obtain ⟨x', e3, rx'⟩ := h1 w ea
        rw [e3]
        exact val_ok F p rx'
    · exact p.elim
  · exact p.elim
def rSetI (G : Sg) (B : Bor) : V → V → V → Hp → (Hp → Prop) → Prop := fun o i v H Q => ∃ A h a b c h', Fits G B A h H ∧ RV G B A H a o ∧ RV G B A H b i ∧ RV G B A H c v ∧ setIM a b c h = some h' ∧ ∀ H', Fits G B A h' H' → Next A H A H' → Q H'
theorem repl_rel (g : G.Good) {k : MKey} {q : Key} (rk : RKey G k q) {w : Val} {y : V} (rw_ : RV G B A H w y) : ∀ {ks : List MKey} {vs : List Val} {kvs : List (Key × V)}, RKeys G ks (kvs.map (·.1)) → RVs G B A H vs (kvs.map (·.2)) →
    RKeys G ks ((kvs.map fun kv => if kv.1 = q then (kv.1, y) else kv).map (·.1)) ∧ RVs G B A H (replK ks vs k w) ((kvs.map fun kv => if kv.1 = q then (kv.1, y) else kv).map (·.2))
  | [], vs, kvs, r, r2 => by
    unfold RKeys at r
    have : kvs = [] := by simpa using r
    subst this
    have e : vs = [] := List.length_eq_zero_iff.mp (by rw [r2.length]; rfl)
    subst e
    exact ⟨by unfold RKeys; rfl, RVs.nil⟩
  | m :: ms, vs, [], r, _ => by
    unfold RKeys at r
    obtain ⟨_, _, e, _⟩ := r
    cases e
  | m :: ms, [], p :: kvs, _, r => by
    have := r.ofnil
    cases this
  | m :: ms, v :: vs, p :: kvs, r, r2 => by
    unfold RKeys at r
    obtain ⟨k1, r1, e, h1, h2⟩ := r
    rw [List.map_cons, List.cons.injEq] at e
    obtain ⟨y', ys, e2, q1, q2⟩ := r2.uncons
    rw [List.map_cons, List.cons.injEq] at e2
    have ke := key_eq g h1 rk
    rw [← e.1] at ke
    have ih := repl_rel g rk rw_ (ks := ms) (vs := vs) (kvs := kvs) (by rw [e.2]; exact h2) (by rw [e2.2]; exact q2)
    rw [List.map_cons, List.map_cons, List.map_cons]
    unfold replK
    by_cases c : m = k
    · have c2 : p.1 = q := by
        rw [decide_eq_true c] at ke
        exact of_decide_eq_true ke.symm
      rw [if_pos c, if_pos c2]
      refine ⟨?_, .cons rw_ ih.2⟩
      unfold RKeys
      exact ⟨_, _, rfl, by rw [e.1]; exact h1, ih.1⟩
    · have c2 : ¬ p.1 = q := by
        rw [decide_eq_false c] at ke
        exact of_decide_eq_false ke.symm
      rw [if_neg c, if_neg c2]
      refine ⟨?_, .cons (by rw [e2.1]; exact q1) ih.2⟩
      unfold RKeys
      exact ⟨_, _, rfl, by rw [e.1]; exact h1, ih.1⟩
theorem RKeys.append {ks ms : List MKey} {qs rs : List Key} (h1 : RKeys G ks qs) (h2 : RKeys G ms rs) : RKeys G (ks ++ ms) (qs ++ rs) := by
  induction ks generalizing qs with
  | nil =>
    unfold RKeys at h1
    rw [h1]
    exact h2
  | cons k ks ih =>
    unfold RKeys at h1
    obtain ⟨q, r, e, a, b⟩ := h1
    rw [e]
    show RKeys G (k :: (ks ++ ms)) (q :: (r ++ rs))
    unfold RKeys
    exact ⟨_, _, rfl, a, ih b⟩
theorem put_rel (g : G.Good) {k : MKey} {q : Key} (rk : RKey G k q) {w : Val} {y : V} (rw_ : RV G B A H w y) {ks : List MKey} {vs : List Val} {kvs : List (Key × V)} (h1 : RKeys G ks (kvs.map (·.1))) (h2 : RVs G B A H vs (kvs.map (·.2))) :
    RKeys G (dctPut ks vs k w).1 ((putK kvs q y).map (·.1)) ∧ RVs G B A H (dctPut ks vs k w).2 ((putK kvs q y).map (·.2)) := by
  unfold dctPut putK
  rw [keys_any g rk h1, ← valV_any]
  split
  · exact repl_rel g rk rw_ h1 h2
  · rw [List.map_append, List.map_append]
    exact ⟨h1.append (by unfold RKeys; exact ⟨q, [], rfl, rk, by unfold RKeys; rfl⟩), h2.append (.one rw_)⟩
theorem set_setIM (g : G.Good) (hu : X.A.units + 1 < cLine) : PSet X (rSetI G B) := by
  intro pins s σ H o i v ov iv u Q I ro ri rv ⟨A, h, a, b, c, h', F, ra, rb, rc, e, k⟩
  unfold setIM at e
  split at e
  · rename_i n
    unfold RV at ra
    obtain ⟨p, rfl, ep⟩ := ra
    have m := List.mem_of_getElem? ep
    split at e
    · rename_i vs j eo
      unfold RV at rb
      subst rb
      obtain ⟨xs, hx, l, r⟩ := F.ob n _ p eo ep
      split at e
      · rename_i t et
        cases e
        rw [r.length] at et
        have nx : Next A H A (upd H p (.lst (xs.set t v))) := next_set m hx pl_lst
        exact set_list pins s σ H _ _ v ov iv u Q I ro ri rv ⟨p, xs, j, t, rfl, rfl, hx, et, k _ (F.set ep ⟨_, upd_same, by rw [List.length_set]; exact l, RVs.mono nx _ (r.set t rc)⟩) nx⟩
      · cases e
    · rename_i ks vs _ eo
      split at e
      · rename_i kk ek
        split at e
        · rename_i c
          cases e
          obtain ⟨kvs, hx, l, rk, r⟩ := F.ob n _ p eo ep
          obtain ⟨q, rfl, rq⟩ := keyOf_ok ek rb
          cases ro
          have nx : Next A H A (upd H p (.dK (putK kvs q v))) := next_set m hx pl_dK
          obtain ⟨k1, k2⟩ := put_rel g rq rc rk r
          have lk : kvs.length < sizeLine := by
            have := r.length
            rw [List.length_map] at this
            have := c.2
            rw [c.1] at this
            exact big_lt (by omega)
          refine d_setItem hu I (DPut.k hx lk) ri rv fun s' I' => ⟨_, I', k _ (F.set ep ⟨_, upd_same, ?_, k1, RVs.mono nx _ k2⟩) nx⟩
          exact Nat.le_trans (length_putK kvs q v) lk
        · cases e
      · cases e
    · cases e
  · cases e
theorem fld_rel (g : G.Good) {f : Nat} {n : Str} (ef : G.fld[f]? = some n) : ∀ {fs : List Nat} {vs : List Val} {fv : List (Str × V)} {v : Val}, RFs G fs (fv.map (·.1)) → RVs G B A H vs (fv.map (·.2)) → assoc fs vs f = some v → ∃ x, fv.lookup n = some x ∧ RV G B A H v x
  | [], vs, fv, v, _, _, e => by cases vs <;> cases e
  | m :: ms, [], fv, v, _, _, e => by cases e
  | m :: ms, w :: vs, [], v, r, _, e => by
    unfold RFs at r
    obtain ⟨_, _, e, _⟩ := r
    cases e
  | m :: ms, w :: vs, p :: fv, v, r, r2, e => by
    unfold RFs at r
    obtain ⟨k, r1, e1, h1, h2⟩ := r
    rw [List.map_cons, List.cons.injEq] at e1
    obtain ⟨y, ys, e2, q1, q2⟩ := r2.uncons
    rw [List.map_cons, List.cons.injEq] at e2
    unfold assoc at e
    obtain ⟨p1, p2⟩ := p
    simp only at e1 e2
    by_cases c : m = f
    · rw [if_pos c] at e
      cases e
      have : p1 = n := by
        rw [c, ef] at h1
        rw [e1.1]
        exact (Option.some.inj h1).symm
      refine ⟨p2, ?_, by rw [e2.1]; exact q1⟩
      rw [List.lookup_cons, this]
      simp
    · rw [if_neg c] at e
      have : p1 ≠ n := by
        intro z
        rw [e1.1] at z
        subst z
        exact c ((List.getElem?_inj (List.getElem?_eq_some_iff.mp h1).1 g.fnd).mp (h1.trans ef.symm))
      obtain ⟨x, a1, a2⟩ := fld_rel g ef (fs := ms) (vs := vs) (fv := fv) (by rw [e1.2]; exact h2) (by rw [e2.2]; exact q2) e
      refine ⟨x, ?_, a2⟩
      rw [List.lookup_cons]
      have : (n == p1) = false := by
        rw [beq_eq_false_iff_ne]
        exact fun z => this z.symm
      rw [this]
      exact a1
theorem putF_rel (g : G.Good) {f : Nat} {n : Str} (ef : G.fld[f]? = some n) {w : Val} {y : V} (rw_ : RV G B A H w y) : ∀ {fs : List Nat} {vs : List Val} {fv : List (Str × V)}, RFs G fs (fv.map (·.1)) → RVs G B A H vs (fv.map (·.2)) → fs.length = vs.length →
    RFs G (assocPut fs vs f w).1 ((putF n y fv).map (·.1)) ∧ RVs G B A H (assocPut fs vs f w).2 ((putF n y fv).map (·.2))
  | [], vs, fv, r, r2, hl => by
    unfold RFs at r
    have : fv = [] := by simpa using r
    subst this
    cases vs with
    | cons _ _ => simp at hl
    | nil =>
      unfold assocPut putF
      exact ⟨by unfold RFs; exact ⟨n, [], rfl, ef, by unfold RFs; rfl⟩, .one rw_⟩
  | m :: ms, [], fv, _, _, hl => by simp at hl
  | m :: ms, v :: vs, [], r, _, _ => by
    unfold RFs at r
    obtain ⟨_, _, e, _⟩ := r
    cases e
  | m :: ms, v :: vs, p :: fv, r, r2, hl => by
    unfold RFs at r
    obtain ⟨k, r1, e1, h1, h2⟩ := r
    rw [List.map_cons, List.cons.injEq] at e1
    obtain ⟨y', ys, e2, q1, q2⟩ := r2.uncons
    rw [List.map_cons, List.cons.injEq] at e2
    obtain ⟨p1, p2⟩ := p
    simp only at e1 e2
    unfold assocPut putF
    by_cases c : m = f
    · have : p1 = n := by
        rw [c, ef] at h1
        rw [e1.1]
        exact (Option.some.inj h1).symm
      rw [if_pos c, if_pos this]
      refine ⟨?_, .cons rw_ (by rw [e2.2]; exact q2)⟩
      unfold RFs
      exact ⟨_, _, rfl, by rw [e1.1]; exact h1, by rw [e1.2]; exact h2⟩
    · have : p1 ≠ n := by
        intro z
        rw [e1.1] at z
        subst z
        exact c ((List.getElem?_inj (List.getElem?_eq_some_iff.mp h1).1 g.fnd).mp (h1.trans ef.symm))
      rw [if_neg c, if_neg this]
      obtain ⟨a1, a2⟩ := putF_rel g ef rw_ (fs := ms) (vs := vs) (fv := fv) (by rw [e1.2]; exact h2) (by rw [e2.2]; exact q2) (by simpa using hl)
      refine ⟨?_, .cons (by rw [e2.1]; exact q1) a2⟩
      unfold RFs
      exact ⟨_, _, rfl, by rw [e1.1]; exact h1, a1⟩
/-- x.f = v: what the store leaves -/
theorem setFM_ok (g : G.Good) (F : Fits G B A h H) {f : Nat} {n : Str} (ef : G.fld[f]? = some n) {a c : Val} {x y : V} {h' : Hm} (e : setFM a f c h = some h') (ra : RV G B A H a x) (rc : RV G B A H c y) :
    ∃ (p C dx : Addr) (fv : List (Str × V)) (k : Nat), x = .ref p ∧ H p = some (.ins C dx fv) ∧ G.cls k = some C ∧ fv.length < 1000 ∧ Fits G B A h' (upd H p (.ins C dx (putF n y fv))) ∧ Next A H A (upd H p (.ins C dx (putF n y fv))) ∧ clsOf h a = some k := by
  unfold setFM at e
  split at e
  · rename_i i
    unfold RV at ra
    obtain ⟨p, rfl, ep⟩ := ra
    have m := List.mem_of_getElem? ep
    split at e
    · rename_i k fs vs eo
      split at e
      · rename_i c
        cases e
        obtain ⟨C, dx, fv, hx, ec, rf, r⟩ := F.ob i _ p eo ep
        have nx : Next A H A (upd H p (.ins C dx (putF n y fv))) := next_set m hx pl_ins
        obtain ⟨k1, k2⟩ := putF_rel g ef rc rf r c.1
        have hl := r.length
        rw [List.length_map] at hl
        refine ⟨p, C, dx, fv, k, rfl, hx, ec, by omega, F.set ep ⟨C, dx, _, upd_same, ec, k1, RVs.mono nx _ k2⟩, nx, by simp only [clsOf, insOf, eo]⟩
      · cases e
    · cases e
  · cases e
end
end MP
set_option Elab.async false
set_option linter.all false
set_option maxRecDepth 100000
set_option autoImplicit false
namespace MP
open PySem PySem.Spec PyProof.Rows L2
variable [Tabs]
/-- all that a value may know at (B, A, H) stands at (B', A', H') -/
structure Conv (B : Bor) (A : List Addr) (H : Hp) (B' : Bor) (A' : List Addr) (H' : Hp) : Prop where
  o : ∀ (a : Addr) (u : HO), H a = some u → (∀ ps, u ≠ .tbl ps) → Out B A a → H' a = some u ∧ Out B' A' a
  b : ∀ (a : Addr), ¬ B.b a → ¬ B'.b a
  g : ∀ (i : Nat) (a : Addr), A[i]? = some a → A'[i]? = some a
section
variable {G : Sg} {B B' B'' : Bor} {A A' A'' : List Addr} {H H' H'' : Hp} {h : Hm}
theorem Conv.refl : Conv B A H B A H := ⟨fun _ _ e _ o => ⟨e, o⟩, fun _ e => e, fun _ _ e => e⟩
theorem Conv.trans (c : Conv B A H B' A' H') (d : Conv B' A' H' B'' A'' H'') : Conv B A H B'' A'' H'' :=
  ⟨fun a u e k o => d.o a u (c.o a u e k o).1 k (c.o a u e k o).2, fun a e => d.b a (c.b a e), fun i a e => d.g i a (c.g i a e)⟩
theorem Conv.next (n : Next A H A' H') : Conv B A H B A' H' := ⟨fun a u e k o => ⟨n.keep a u e o.1 k, n.nmem e o.1, o.2⟩, fun _ e => e, fun _ _ e => n.get e⟩
theorem Still.conv {c : Fz} {a : Addr} {o : HO} (s : Still B A H c a o) (n : Conv B A H B' A' H') (k : ∀ ps, o ≠ .tbl ps) : Still B' A' H' c a o :=
  ⟨s.1, (n.o a o s.2.1 k s.2.2.1).1, (n.o a o s.2.1 k s.2.2.1).2, fun e => n.b a (s.2.2.2 e)⟩
theorem LstOk.conv {c : Fz} {a : Addr} {xs : List V} (s : LstOk G B A H c a xs) (n : Conv B A H B' A' H') : LstOk G B' A' H' c a xs := by
  cases c with
  | scr =>
    rcases s with ⟨o, e, m⟩ | k
    · exact .inl ⟨o, (n.o _ _ e (fun _ z => by cases z) m).1, (n.o _ _ e (fun _ z => by cases z) m).2⟩
    · exact .inr k
  | own => exact Still.conv s n fun _ z => by cases z
  | bor => exact Still.conv s n fun _ z => by cases z
mutual
theorem RV.conv (n : Conv B A H B' A' H') : ∀ (v : Val) {x : V}, RV G B A H v x → RV G B' A' H' v x
  | .non, _, r => r
  | .bl _, _, r => r
  | .int _, _, r => r
  | .str _, _, r => r
  | .tup vs, x, r => by
    unfold RV at r ⊢
    obtain ⟨a, xs, e, q, m, z, r⟩ := r
    exact ⟨a, xs, e, (n.o _ _ q (fun _ z => by cases z) m).1, (n.o _ _ q (fun _ z => by cases z) m).2, z, RVs.conv n vs r⟩
  | .lst c vs, x, r => by
    unfold RV at r ⊢
    obtain ⟨a, xs, e, q, z, r⟩ := r
    exact ⟨a, xs, e, q.conv n, z, RVs.conv n vs r⟩
  | .dct c ks vs, x, r => by
    unfold RV at r ⊢
    obtain ⟨a, kvs, e, q, z, k, r⟩ := r
    exact ⟨a, kvs, e, q.conv n (fun _ z => by cases z), z, k, RVs.conv n vs r⟩
  | .obj c k fs vs, x, r => by
    unfold RV at r ⊢
    obtain ⟨a, C, dx, fv, e, ec, q, f, r⟩ := r
    exact ⟨a, C, dx, fv, e, ec, q.conv n (fun _ z => by cases z), f, RVs.conv n vs r⟩
  | .ref i, x, r => by
    unfold RV at r ⊢
    obtain ⟨a, e, q⟩ := r
    exact ⟨a, e, n.g _ _ q⟩
  | .err _, _, r => by
    unfold RV at r
    exact r.elim
  | .clo l cs, x, r => by
    unfold RV at r ⊢
    obtain ⟨m, f, cl, c, I, ec, e, h1, h2, h3, h4, h5, h6⟩ := r
    exact ⟨m, f, cl, c, I, ec, e, h1, h2, (n.o _ _ h3 lamO_ne h4).1, (n.o _ _ h3 lamO_ne h4).2, (n.o _ _ h5 LamX.codeO_ne h6).1, (n.o _ _ h5 LamX.codeO_ne h6).2⟩
theorem RVs.conv (n : Conv B A H B' A' H') : ∀ (vs : List Val) {xs : List V}, RVs G B A H vs xs → RVs G B' A' H' vs xs
  | [], _, r => r
  | v :: vs, xs, r => by
    unfold RVs at r ⊢
    obtain ⟨y, ys, e, r1, r2⟩ := r
    exact ⟨y, ys, e, RV.conv n v r1, RVs.conv n vs r2⟩
end
theorem RE.conv {e : En} {σ : L2.St} (r : RE G B A H e σ) (n : Conv B A H B' A' H') : RE G B' A' H' e σ :=
  ⟨r.1, fun i v q => by
    obtain ⟨x, q1, q2⟩ := r.2 i v q
    exact ⟨x, q1, RV.conv n v q2⟩⟩
theorem RO.conv {o : Ob} {a : Addr} (n : Conv B A H B' A' H') (k : ∀ u, H a = some u → H' a = some u) (r : RO G B A H o a) : RO G B' A' H' o a := by
  cases o with
  | lst vs =>
    obtain ⟨xs, e, z, r⟩ := r
    exact ⟨xs, k _ e, z, RVs.conv n vs r⟩
  | dct ks vs =>
    obtain ⟨kvs, e, z, kk, r⟩ := r
    exact ⟨kvs, k _ e, z, kk, RVs.conv n vs r⟩
  | ins c fs vs =>
    obtain ⟨C, dx, fv, e, ec, f, r⟩ := r
    exact ⟨C, dx, fv, k _ e, ec, f, RVs.conv n vs r⟩
  | dead =>
    rcases r with ⟨xs, e⟩ | ⟨kvs, e⟩ | ⟨C, dx, fv, e⟩
    · exact .inl ⟨xs, k _ e⟩
    · exact .inr (.inl ⟨kvs, k _ e⟩)
    · exact .inr (.inr ⟨C, dx, fv, k _ e⟩)
/-- not there at the frame's entry -/
def Sg.new (G : Sg) (D : Addr) : Prop := match G.e with
  | some (_, _, H0) => H0 D = none
  | none => True
theorem Fits.new0 {D : Addr} (F : Fits G B A h H) (e : H D = none) : G.new D := by
  have f := F.fr
  unfold Sg.fr at f
  unfold Sg.new
  split
  · rename_i B0 A0 H0 q
    rw [q] at f
    exact f.nx.free e
  · trivial
theorem fr_less {B' : Bor} (f : G.fr B A H) (x : ∀ a, B'.x a → B.x a) (b : ∀ a, B'.b a → B.b a) : G.fr B' A H := by
  unfold Sg.fr at f ⊢
  split
  · rename_i B0 A0 H0 q
    rw [q] at f
    exact ⟨f.nx, fun a z => f.x a (x a z), fun a z => f.b a (b a z)⟩
  · trivial
theorem fr_poke {D : Addr} {xs : List V} {o : HO} (f : G.fr B A H) (n : G.new D) (e : H D = some (.lst xs)) : G.fr B A (upd H D o) := by
  unfold Sg.fr at f ⊢
  unfold Sg.new at n
  split
  · rename_i B0 A0 H0 q
    rw [q] at f n
    have n : H0 D = none := n
    refine ⟨⟨f.nx.pre, fun a u w m k => by rw [upd_ne (ne_of_none w n)]; exact f.nx.keep a u w m k, fun a u w => by rw [upd_ne (ne_of_none w n)]; exact f.nx.still a u w, fun t p hp => tab_set e pl_lst (f.nx.tb t p hp)⟩, f.x, f.b⟩
  · trivial
theorem fr_adopt {D : Addr} (f : G.fr (⟨B.b, fun a => B.x a ∨ a = D⟩ : Bor) A H) (n : G.new D) : G.fr B (A ++ [D]) H := by
  unfold Sg.fr at f ⊢
  unfold Sg.new at n
  split
  · rename_i B0 A0 H0 q
    rw [q] at f n
    have n : H0 D = none := n
    obtain ⟨new, e1, e2⟩ := f.nx.pre
    refine ⟨⟨⟨new ++ [D], by rw [e1, List.append_assoc], fun a m => ?_⟩, f.nx.keep, f.nx.still, f.nx.tb⟩, fun a z => f.x a (.inl z), f.b⟩
    rcases List.mem_append.mp m with m | m
    · exact e2 a m
    · rw [List.mem_singleton.mp m]
      exact n
  · trivial
/-- a list is being made at D: no value knows it -/
def Bor.and (B : Bor) (D : Addr) : Bor := ⟨B.b, fun a => B.x a ∨ a = D⟩
theorem Conv.hide {D : Addr} {o : HO} (e : H D = none) : Conv B A H (B.and D) A (upd H D o) :=
  ⟨fun a u q _ m => ⟨by rw [upd_ne (ne_of_none q e)]; exact q, m.1, fun z => z.elim m.2 (ne_of_none q e)⟩, fun _ e => e, fun _ _ e => e⟩
theorem Conv.show {D : Addr} : Conv (B.and D) A H B A H := ⟨fun a u q _ m => ⟨q, m.1, fun z => m.2 (.inl z)⟩, fun _ e => e, fun _ _ e => e⟩
theorem Conv.poke {D : Addr} {o : HO} (x : B.x D) : Conv B A H B A (upd H D o) :=
  ⟨fun a u q _ m => ⟨by
    have z : a ≠ D := fun z => m.2 (by rw [z]; exact x)
    rw [upd_ne z]
    exact q, m⟩, fun _ e => e, fun _ _ e => e⟩
theorem Fits.hide {D : Addr} {xs : List V} (F : Fits G B A h H) (e : H D = none) : Fits G (B.and D) A h (upd H D (.lst xs)) where
  len := F.len
  nd := F.nd
  ob := fun i o a e1 e2 => RO.conv (.hide e) (fun u q => by rw [upd_ne (ne_of_none q e)]; exact q) (F.ob i o a e1 e2)
  bt := fun a b => by
    have z : a ≠ D := fun z => F.bt a b (by rw [z]; exact e)
    rw [upd_ne z]
    exact F.bt a b
  bx := fun a b => by
    rcases b with b | rfl
    · obtain ⟨m, ys, q⟩ := F.bx a b
      exact ⟨m, ys, by rw [upd_ne (ne_of_none q e)]; exact q⟩
    · exact ⟨(F.new e).1, xs, upd_same⟩
  fr := Sg.fr_since F.fr (⟨next_new e, fun a z => z.elim .inl fun k => .inr (by rw [k]; exact e), fun a z => .inl z⟩ : Since B A H (B.and D) A (upd H D (.lst xs)))
  tb := tabs_next F.tb (next_new (A := A) e)
theorem Fits.show {D : Addr} (F : Fits G (B.and D) A h H) : Fits G B A h H where
  len := F.len
  nd := F.nd
  ob := fun i o a e1 e2 => RO.conv .show (fun u q => q) (F.ob i o a e1 e2)
  bt := F.bt
  bx := fun a b => F.bx a (.inl b)
  fr := fr_less F.fr (fun _ z => .inl z) fun _ z => z
  tb := F.tb
theorem Fits.poke {D : Addr} {xs : List V} (F : Fits G B A h H) (x : B.x D) (n0 : G.new D) : Fits G B A h (upd H D (.lst xs)) where
  len := F.len
  nd := F.nd
  ob := fun i o a e1 e2 => RO.conv (.poke x) (fun u q => by
    have z : a ≠ D := fun z => (F.bx D x).1 (by rw [← z]; exact List.mem_of_getElem? e2)
    rw [upd_ne z]
    exact q) (F.ob i o a e1 e2)
  bt := fun a b => by
    by_cases z : a = D
    · rw [z, upd_same]
      simp
    · rw [upd_ne z]
      exact F.bt a b
  bx := fun a b => by
    refine ⟨(F.bx a b).1, ?_⟩
    by_cases z : a = D
    · exact ⟨xs, by rw [z, upd_same]⟩
    · obtain ⟨_, ys, q⟩ := F.bx a b
      exact ⟨ys, by rw [upd_ne z]; exact q⟩
  fr := by
    obtain ⟨_, ys, q⟩ := F.bx D x
    exact fr_poke F.fr n0 q
  tb := fun p hp => by
    obtain ⟨_, ys, q⟩ := F.bx D x
    exact tab_set q pl_lst (F.tb p hp)
/-- the list is made: it becomes ours -/
theorem Conv.adopt {D : Addr} (m : D ∉ A) : Conv (B.and D) A H B (A ++ [D]) H :=
  ⟨fun a u q _ o => ⟨q, fun z => (List.mem_append.mp z).elim o.1 (fun z => o.2 (.inr (List.mem_singleton.mp z))), fun z => o.2 (.inl z)⟩, fun _ e => e,
    fun i a e => by rw [List.getElem?_append_left (List.getElem?_eq_some_iff.mp e).1]; exact e⟩
theorem Fits.adopt {D : Addr} {xs : List V} {vs : List Val} (F : Fits G (B.and D) A h H) (nb : ¬ B.x D) (n0 : G.new D) (e : H D = some (.lst xs)) (l : xs.length ≤ sizeLine) (r : RVs G (B.and D) A H vs xs) : Fits G B (A ++ [D]) (h ++ [.lst vs]) H := by
  have m : D ∉ A := (F.bx D (.inr rfl)).1
  refine ⟨by simp [F.len], ?_, fun i u a e1 e2 => ?_, F.bt, fun a b => ?_, fr_adopt F.fr n0, F.tb⟩
  · rw [List.nodup_append]
    refine ⟨F.nd, by simp, fun x hx y hy => ?_⟩
    rw [List.mem_singleton.mp hy]
    intro z
    exact m (z ▸ hx)
  · by_cases hi : i < h.length
    · rw [List.getElem?_append_left hi] at e1
      rw [List.getElem?_append_left (by rw [F.len]; exact hi)] at e2
      exact RO.conv (.adopt m) (fun u q => q) (F.ob i u a e1 e2)
    · rw [List.getElem?_append_right (by omega)] at e1
      rw [List.getElem?_append_right (by rw [F.len]; omega)] at e2
      have e3 : i - A.length = i - h.length := by rw [F.len]
      rw [e3] at e2
      cases hj : i - h.length with
      | zero =>
        rw [hj] at e1 e2
        simp at e1 e2
        subst e1 e2
        exact ⟨xs, e, l, RVs.conv (.adopt m) vs r⟩
      | succ j =>
        rw [hj] at e1
        simp at e1
  · obtain ⟨k, ys, q⟩ := F.bx a (.inl b)
    refine ⟨fun z => (List.mem_append.mp z).elim k fun z => ?_, ys, q⟩
    rw [List.mem_singleton.mp z] at b
    exact nb b
/-- a list that a callee made, taken over -/
theorem Conv.take {a : Addr} (e : H a = none) (k : ∀ b u, H b = some u → (∀ ps, u ≠ .tbl ps) → H' b = some u) : Conv B A H (B.and a) A H' :=
  ⟨fun b u q z m => ⟨k b u q z, m.1, fun z => z.elim m.2 (ne_of_none q e)⟩, fun _ e => e, fun _ _ e => e⟩
theorem Fits.take {a : Addr} {xs : List V} (F : Fits G B A h H) (e : H a = none) (n : Next A H A H') (k : ∀ b u, H b = some u → (∀ ps, u ≠ .tbl ps) → H' b = some u) (ea : H' a = some (.lst xs)) : Fits G (B.and a) A h H' where
  len := F.len
  nd := F.nd
  ob := fun i o b e1 e2 => RO.conv (.take e k) (fun u q => by
    obtain ⟨v, q2, pl⟩ := F.pl (List.mem_of_getElem? e2)
    rw [q] at q2
    cases q2
    exact k b u q pl.1) (F.ob i o b e1 e2)
  bt := fun b z => by
    cases q : H b with
    | none => exact absurd q (F.bt b z)
    | some u =>
      obtain ⟨u', q'⟩ := n.still b u q
      rw [q']
      simp
  bx := fun b z => by
    rcases z with z | rfl
    · obtain ⟨m, ys, q⟩ := F.bx b z
      exact ⟨m, ys, k b _ q (fun _ z => by cases z)⟩
    · exact ⟨(F.new e).1, xs, ea⟩
  fr := Sg.fr_since F.fr (⟨n, fun b z => z.elim .inl fun q => .inr (by rw [q]; exact e), fun b z => .inl z⟩ : Since B A H (B.and a) A H')
  tb := tabs_next F.tb n
theorem top_ok (F : Fits G B A h H) {h' : Hm} (F' : Fits G (lent B A) A' h' H') (e : ∀ b ∈ A', H b = none) (n : Next A H A H') (k : ∀ b u, H b = some u → (∀ ps, u ≠ .tbl ps) → H' b = some u) {i : Nat} {us ts : List Val} {x : V} (eu : h'[i]? = some (.lst us))
    (et : deepL (followX i 9 .own h') us = some ts) (ct : cleanL ts = true) (r : RV G (lent B A) A' H' (.ref i) x) : ∃ a, x = .ref a ∧ H a = none ∧ Fits G B (A ++ [a]) (h ++ [.lst ts]) H' := by
  unfold RV at r
  obtain ⟨a, rfl, ea⟩ := r
  have ma : a ∈ A' := List.mem_of_getElem? ea
  have ha := e a ma
  obtain ⟨xs, hx, l, rx⟩ := F'.ob i _ a eu ea
  have ne : ∀ {b : Addr}, b ∉ A' → b ≠ a := fun {b} m z => m (by rw [z]; exact ma)
  have FB : Fits G B A h H' := F.step n fun b m u q => by
    obtain ⟨v, q2, pl⟩ := F.pl m
    rw [q] at q2
    cases q2
    exact k b u q pl.1
  have K : Back G B (B.and a) A A' h' H' (fun b => b = a) := by
    refine ⟨F', fun b m nb => ?_, fun c b o nb s => ?_, fun b ys q => ?_, fun b ob u q => ?_⟩
    · have o := F.new (e b m)
      exact ⟨⟨o.1, fun z => z.elim o.2 nb⟩, F.newB (e b m)⟩
    · have s' := still_back nb s
      exact ⟨s'.1, s'.2.1, ⟨s'.2.2.1.1, fun z => z.elim s'.2.2.1.2 (ne s.2.2.1.1)⟩, s'.2.2.2⟩
    · have o := FB.notup q
      exact ⟨o.1, fun z => z.elim o.2 fun z => by rw [z, hx] at q; cases q⟩
    · have o := FB.nofrz q
      exact ⟨o.1, fun z => z.elim o.2 fun z => by rw [z, hx] at q; cases q⟩
  have rt := deepL_froz K (follow_froz K i (fun j b eb nj z => by
    subst z
    exact nj ((List.getElem?_inj (List.getElem?_eq_some_iff.mp eb).1 F'.nd).mp (eb.trans ea.symm))) 9) us et ct rx
  exact ⟨a, rfl, ha, (F.take ha n k hx).adopt (F.new ha).2 (F.new0 ha) hx l rt⟩
end
end MP
set_option Elab.async false
set_option linter.all false
set_option maxRecDepth 100000
set_option autoImplicit false
namespace MP
open PySem PySem.Spec PyProof.Rows L2
variable [Tabs]
section
variable {G : Sg} {B B' B'' : Bor} {A A' A'' : List Addr} {H H' H'' : Hp} {h : Hm}
theorem Since.o (n : Since B A H B' A' H') {a : Addr} {u : HO} (e : H a = some u) (k : ∀ ps, u ≠ .tbl ps) (o : Out B A a) : H' a = some u ∧ Out B' A' a :=
  ⟨n.nx.keep a u e o.1 k, n.nx.nmem e o.1, fun z => (n.x a z).elim o.2 fun q => by rw [q] at e; cases e⟩
theorem Still.since {c : Fz} {a : Addr} {o : HO} (s : Still B A H c a o) (n : Since B A H B' A' H') (k : ∀ ps, o ≠ .tbl ps) : Still B' A' H' c a o :=
  ⟨s.1, (n.o s.2.1 k s.2.2.1).1, (n.o s.2.1 k s.2.2.1).2, fun e z => (n.b a z).elim (s.2.2.2 e) fun q => by rw [s.2.1] at q; cases q⟩
theorem LstOk.since {c : Fz} {a : Addr} {xs : List V} (s : LstOk G B A H c a xs) (n : Since B A H B' A' H') : LstOk G B' A' H' c a xs := by
  cases c with
  | scr =>
    rcases s with ⟨o, e, m⟩ | k
    · exact .inl ⟨o, (n.o e (fun _ z => by cases z) m).1, (n.o e (fun _ z => by cases z) m).2⟩
    · exact .inr k
  | own => exact Still.since s n fun _ z => by cases z
  | bor => exact Still.since s n fun _ z => by cases z
mutual
theorem RV.since (n : Since B A H B' A' H') : ∀ (v : Val) {x : V}, RV G B A H v x → RV G B' A' H' v x
  | .non, _, r => r
  | .bl _, _, r => r
  | .int _, _, r => r
  | .str _, _, r => r
  | .tup vs, x, r => by
    unfold RV at r ⊢
    obtain ⟨a, xs, e, q, m, z, r⟩ := r
    exact ⟨a, xs, e, (n.o q (fun _ z => by cases z) m).1, (n.o q (fun _ z => by cases z) m).2, z, RVs.since n vs r⟩
  | .lst c vs, x, r => by
    unfold RV at r ⊢
    obtain ⟨a, xs, e, q, z, r⟩ := r
    exact ⟨a, xs, e, q.since n, z, RVs.since n vs r⟩
  | .dct c ks vs, x, r => by
    unfold RV at r ⊢
    obtain ⟨a, kvs, e, q, z, k, r⟩ := r
    exact ⟨a, kvs, e, q.since n (fun _ z => by cases z), z, k, RVs.since n vs r⟩
  | .obj c k fs vs, x, r => by
    unfold RV at r ⊢
    obtain ⟨a, C, dx, fv, e, ec, q, f, r⟩ := r
    exact ⟨a, C, dx, fv, e, ec, q.since n (fun _ z => by cases z), f, RVs.since n vs r⟩
  | .ref i, x, r => by
    unfold RV at r ⊢
    obtain ⟨a, e, q⟩ := r
    exact ⟨a, e, n.nx.get q⟩
  | .err _, _, r => by
    unfold RV at r
    exact r.elim
  | .clo l cs, x, r => by
    unfold RV at r ⊢
    obtain ⟨m, f, cl, c, I, ec, e, h1, h2, h3, h4, h5, h6⟩ := r
    exact ⟨m, f, cl, c, I, ec, e, h1, h2, (n.o h3 lamO_ne h4).1, (n.o h3 lamO_ne h4).2, (n.o h5 LamX.codeO_ne h6).1, (n.o h5 LamX.codeO_ne h6).2⟩
theorem RVs.since (n : Since B A H B' A' H') : ∀ (vs : List Val) {xs : List V}, RVs G B A H vs xs → RVs G B' A' H' vs xs
  | [], _, r => r
  | v :: vs, xs, r => by
    unfold RVs at r ⊢
    obtain ⟨y, ys, e, r1, r2⟩ := r
    exact ⟨y, ys, e, RV.since n v r1, RVs.since n vs r2⟩
end
theorem RE.since {e : En} {σ : L2.St} (r : RE G B A H e σ) (n : Since B A H B' A' H') : RE G B' A' H' e σ :=
  ⟨r.1, fun i v q => by
    obtain ⟨x, q1, q2⟩ := r.2 i v q
    exact ⟨x, q1, RV.since n v q2⟩⟩
theorem CK.all {G G' G'' : Sg} (k : CK G G' fun _ => true) (k' : CK G' G'' fun _ => true) : CK G G'' fun _ => true := fun l m cl o e => k' l m cl rfl (k l m cl rfl e)
/-- no cell was lost or written -/
def CellKeep (H : Hp) (h : Heap) (H' : Hp) (h' : Heap) : Prop := ∀ c v, H c = none → h.IsCell c v → H' c = none ∧ h'.IsCell c v
theorem CellKeep.refl {h : Heap} : CellKeep H h H h := fun _ _ n z => ⟨n, z⟩
theorem CellKeep.trans {h h' h'' : Heap} (k : CellKeep H h H' h') (k' : CellKeep H' h' H'' h'') : CellKeep H h H'' h'' := fun c v n z => k' c v (k c v n z).1 (k c v n z).2
theorem CellKeep.of_un {h h' : Heap} {fs ex : List Addr} (u : Un fs ex H H' h h') (x : ∀ b ∈ ex, ∃ o, h.get? b = some o ∧ ∀ v, o.data ≠ .cell v) : CellKeep H h H' h' := fun c v n ⟨o, ho, hd⟩ => by
  have hx : c ∉ ex := fun m => by
    obtain ⟨o', e, z⟩ := x c m
    rw [ho] at e
    cases e
    exact z _ hd
  obtain ⟨sl, q⟩ := u.any ho n hx
  exact ⟨u.free c o ho n hx, _, q, hd⟩
theorem cells_keep {cl : List (Str × Addr)} {fr : List Str} {ws : List (Option V)} {h h' : Heap} (C : NdefX.CellsAt cl fr ws h H) (k : CellKeep H h H' h') : NdefX.CellsAt cl fr ws h' H' := by
  refine ⟨C.len, fun y c e => ?_, C.inj, fun i y e => ?_⟩
  · obtain ⟨n, v, z⟩ := C.all y c e
    exact ⟨(k c v n z).1, v, (k c v n z).2⟩
  · obtain ⟨c, hc, hv⟩ := C.has i y e
    refine ⟨c, hc, fun v ev => ?_⟩
    obtain ⟨u, r, z⟩ := hv v ev
    exact ⟨u, r, (k c _ (C.all y c hc).1 z).2⟩
end
end MP
set_option Elab.async false
set_option linter.all false
set_option maxRecDepth 100000
set_option autoImplicit false
namespace MP
open PySem PySem.Spec PyProof.Rows L2
variable [Tabs]
/-- the names of the block that is read; cel: whose cells the block made -/
structure Tx where
  N : List Str
  sc : Scope
  cel : Str → Bool
  /-- within a block of its own -/
  blk : Bool
  /-- the lambdas that may be made here -/
  lams : List Nat
def okName (x : Str) : Bool := decide ((x == ("__debug__" : Str)) = false) && decide ((x == ("__classdict__" : Str)) = false)
def visB (sc : Scope) (x : Str) : Bool := match sc.names.lookup x with
  | some .local => true
  | some .cell => true
  | some .free => true
  | _ => false
def globB (sc : Scope) (x : Str) : Bool := decide (sc.names.lookup x = some .globalImplicit) && decide ((x == ("__debug__" : Str)) = false) && decide (x ≠ "__name__")
theorem vis_of {sc : Scope} {x : Str} (h : visB sc x = true) : Vis sc x := by
  unfold visB at h
  split at h
  · exact .inl (by assumption)
  · exact .inr (.inl (by assumption))
  · exact .inr (.inr (by assumption))
  · cases h
/-- a name that may be stored here -/
def locB (tx : Tx) (x : Str) : Bool := match tx.sc.names.lookup x with
  | some .local => true
  | some .cell => tx.cel x
  | _ => false
mutual
/-- a target -/
def chkP (tx : Tx) : Pat → Expr → Bool
  | .nm i, .Name x _ => decide (tx.N[i]? = some x) && locB tx x
  | .tp q, .Tuple es _ _ => chkPs tx q es
  | _, _ => false
def chkPs (tx : Tx) : Pat → List Expr → Bool
  | .nil, [] => true
  | .cons p q, e :: es => chkP tx p e && chkPs tx q es
  | _, _ => false
end
/-- how a block's context stands -/
structure Shape (tx : Tx) (X : Cx) : Prop where
  N : X.N = tx.N
  nd : tx.N.Nodup
  sc : X.env.scope = tx.sc
  kd : tx.sc.kind = .function
  calm : X.calm = true
  fn : ∀ x, tx.cel x = true → X.fn x = true
theorem Shape.loc {tx : Tx} {X : Cx} (S : Shape tx X) {x : Str} (h : locB tx x = true) : Loc X.env.scope x ∧ (X.fn x = true ∨ X.env.scope.names.lookup x = some .local) := by
  rw [S.sc]
  unfold locB at h
  split at h
  · rename_i e
    exact ⟨.inl e, .inr e⟩
  · rename_i e
    exact ⟨.inr e, .inl (S.fn x h)⟩
  · cases h
section
variable {G : Sg} {B : Bor}
/-- the slots that a target names -/
def slotsP : Pat → List Nat
  | .nm i => [i]
  | .tp q => slotsP q
  | .nil => []
  | .cons p q => slotsP p ++ slotsP q
/-- all but these slots stay -/
def Same (ns : List Nat) (σ σ' : L2.St) : Prop := σ'.length = σ.length ∧ ∀ j, j ∉ ns → σ'[j]? = σ[j]?
theorem Same.refl {ns : List Nat} {σ : L2.St} : Same ns σ σ := ⟨rfl, fun _ _ => rfl⟩
theorem Same.set {i : Nat} {σ : L2.St} {x : Option V} : Same [i] σ (σ.set i x) := ⟨by simp, fun j h => by
  rw [List.getElem?_set_ne]
  intro e
  subst e
  simp at h⟩
theorem Same.then {ns ms : List Nat} {σ σ' σ'' : L2.St} (h : Same ns σ σ') (k : Same ms σ' σ'') : Same (ns ++ ms) σ σ'' := ⟨k.1.trans h.1, fun j z => by
  rw [List.mem_append] at z
  rw [k.2 j (fun m => z (.inr m)), h.2 j (fun m => z (.inl m))]⟩
/-- the reading of a target -/
def gP (G : Sg) (B : Bor) (p : Pat) : TG := fun v σ H Q => ∃ A h e w, Fits G B A h H ∧ RE G B A H e σ ∧ RV G B A H w v ∧ ∃ e', bindP p w e = some e' ∧ ∀ σ', RE G B A H e' σ' → Same (slotsP p) σ σ' → Q σ' H
def gPs (G : Sg) (B : Bor) (p : Pat) : TGs := fun vs σ H Q => ∃ A h e ws, Fits G B A h H ∧ RE G B A H e σ ∧ RVs G B A H ws vs ∧ ∃ e', bindPs p ws e = some e' ∧ ∀ σ', RE G B A H e' σ' → Same (slotsP p) σ σ' → Q σ' H
theorem RE.set {A : List Addr} {H : Hp} {e : En} {σ : L2.St} (r : RE G B A H e σ) {i : Nat} {w : Val} {x : V} (hi : i < e.length) (q : RV G B A H w x) : RE G B A H (e.set i (some w)) (σ.set i (some x)) := by
  refine ⟨by rw [List.length_set, List.length_set]; exact r.1, fun j v ej => ?_⟩
  by_cases c : j = i
  · subst c
    rw [List.getElem?_set_self hi] at ej
    cases ej
    exact ⟨x, List.getElem?_set_self (by rw [← r.1]; exact hi), q⟩
  · rw [List.getElem?_set_ne (Ne.symm c)] at ej
    rw [List.getElem?_set_ne (Ne.symm c)]
    exact r.2 j v ej
theorem notStar_chkP {tx : Tx} {p : Pat} {e : Expr} (h : chkP tx p e = true) : (∃ x pos, e = .Name x pos) ∨ ∃ es k pos, e = .Tuple es k pos := by
  cases p <;> cases e <;> simp [chkP] at h
  · exact .inl ⟨_, _, rfl⟩
  · exact .inr ⟨_, _, _, rfl⟩
theorem each_cons {e : Expr} {es : List Expr} {env : PySem.Env} (h : (∃ x pos, e = .Name x pos) ∨ ∃ es k pos, e = .Tuple es k pos) : assignEach (e :: es) env = (false, assign e env) :: assignEach es env := by
  rcases h with ⟨x, pos, rfl⟩ | ⟨es', k, pos, rfl⟩ <;> rfl
theorem each_of {tx : Tx} {env : PySem.Env} : ∀ {q : Pat} {es : List Expr}, chkPs tx q es = true → (assignEach es env).length = es.length ∧ (assignEach es env).findIdx? (·.1) = none
  | .nil, [], _ => ⟨rfl, rfl⟩
  | .nil, _ :: _, h => by simp [chkPs] at h
  | .nm _, es, h => by cases es <;> simp [chkPs] at h
  | .tp _, es, h => by cases es <;> simp [chkPs] at h
  | .cons p q, [], h => by simp [chkPs] at h
  | .cons p q, e :: es, h => by
    simp only [chkPs, Bool.and_eq_true] at h
    obtain ⟨h1, h2⟩ := each_of (q := q) (es := es) (env := env) h.2
    rw [each_cons (notStar_chkP h.1)]
    refine ⟨by simp [h1], ?_⟩
    rw [List.findIdx?_cons]
    simp [h2]
theorem bindPs_len : ∀ {q : Pat} {ws : List Val} {e e' : En} {tx : Tx} {es : List Expr}, bindPs q ws e = some e' → chkPs tx q es = true → ws.length = es.length
  | .nil, ws, e, e', tx, es, h, c => by
    cases es with
    | cons _ _ => simp [chkPs] at c
    | nil =>
      cases ws with
      | nil => rfl
      | cons _ _ => simp [bindPs] at h
  | .nm _, ws, e, e', tx, es, h, c => by cases es <;> simp [chkPs] at c
  | .tp _, ws, e, e', tx, es, h, c => by cases es <;> simp [chkPs] at c
  | .cons p q, ws, e, e', tx, es, h, c => by
    cases es with
    | nil => simp [chkPs] at c
    | cons e1 es =>
      simp only [chkPs, Bool.and_eq_true] at c
      cases ws with
      | nil => simp [bindPs] at h
      | cons w ws =>
        simp only [bindPs] at h
        split at h
        · rw [List.length_cons, List.length_cons, bindPs_len h c.2]
        · cases h
theorem map_each {e : Expr} {es : List Expr} {env : PySem.Env} (h : (∃ x pos, e = .Name x pos) ∨ ∃ es k pos, e = .Tuple es k pos) : (assignEach (e :: es) env).map (·.2) = assign e env :: (assignEach es env).map (·.2) := by
  rw [each_cons h]
  rfl
mutual
theorem pg_P {tx : Tx} {X : Cx} (hK : X.K = G.K) (S : Shape tx X) : ∀ (p : Pat) (e : Expr), chkP tx p e = true → PG X e (gP G B p)
  | .nm i, .Name x pos, h => by
    simp only [chkP, Bool.and_eq_true, decide_eq_true_eq] at h
    obtain ⟨l1, l2⟩ := S.loc h.2
    have b := pg_name (X := X) (pos := pos) (i := i) (x := x) (by rw [S.N]; exact S.nd) (by rw [S.N]; exact h.1) l1 l2
    refine ⟨fun pins s σ H v u Q I r ⟨A, h', e, w, F, re, rv, e', eb, k⟩ => b.run pins s σ H v u Q I r ?_⟩
    simp only [bindP] at eb
    split at eb
    · rename_i hi
      cases eb
      exact k _ (re.set hi rv) .set
    · cases eb
  | .tp q, .Tuple es k pos, h => by
    simp only [chkP] at h
    obtain ⟨h1, h2⟩ := each_of (env := X.env) h
    have b := pg_tup (X := X) (pos := pos) (k := k) S.calm (pg_Ps hK S q es h) h1 h2
    refine ⟨fun pins s σ H v u Q I r ⟨A, h', e, w, F, re, rv, e', eb, kk⟩ => b.run pins s σ H v u Q I r ?_⟩
    simp only [bindP] at eb
    split at eb
    · rename_i ws
      unfold RV at rv
      obtain ⟨a, xs, rfl, ex, _, _, rv⟩ := rv
      have l := bindPs_len eb h
      exact ⟨a, xs, rfl, SqT.of ex, by rw [← rv.length, l], A, h', e, ws, F, re, rv, e', eb, kk⟩
    · cases eb
  | .nil, e, h => by cases e <;> simp [chkP] at h
  | .cons _ _, e, h => by cases e <;> simp [chkP] at h
  | .nm i, .BoolOp .., h => by simp [chkP] at h
  | .nm i, .NamedExpr .., h => by simp [chkP] at h
  | .nm i, .BinOp .., h => by simp [chkP] at h
  | .nm i, .UnaryOp .., h => by simp [chkP] at h
  | .nm i, .Lambda .., h => by simp [chkP] at h
  | .nm i, .IfExp .., h => by simp [chkP] at h
  | .nm i, .Dict .., h => by simp [chkP] at h
  | .nm i, .Set .., h => by simp [chkP] at h
  | .nm i, .ListComp .., h => by simp [chkP] at h
  | .nm i, .SetComp .., h => by simp [chkP] at h
  | .nm i, .DictComp .., h => by simp [chkP] at h
  | .nm i, .GeneratorExp .., h => by simp [chkP] at h
  | .nm i, .Await .., h => by simp [chkP] at h
  | .nm i, .Yield .., h => by simp [chkP] at h
  | .nm i, .YieldFrom .., h => by simp [chkP] at h
  | .nm i, .Compare .., h => by simp [chkP] at h
  | .nm i, .Call .., h => by simp [chkP] at h
  | .nm i, .FormattedValue .., h => by simp [chkP] at h
  | .nm i, .JoinedStr .., h => by simp [chkP] at h
  | .nm i, .Constant .., h => by simp [chkP] at h
  | .nm i, .Attribute .., h => by simp [chkP] at h
  | .nm i, .Subscript .., h => by simp [chkP] at h
  | .nm i, .Starred .., h => by simp [chkP] at h
  | .nm i, .List .., h => by simp [chkP] at h
  | .nm i, .Tuple .., h => by simp [chkP] at h
  | .nm i, .Slice .., h => by simp [chkP] at h
  | .tp q, .BoolOp .., h => by simp [chkP] at h
  | .tp q, .NamedExpr .., h => by simp [chkP] at h
  | .tp q, .BinOp .., h => by simp [chkP] at h
  | .tp q, .UnaryOp .., h => by simp [chkP] at h
  | .tp q, .Lambda .., h => by simp [chkP] at h
  | .tp q, .IfExp .., h => by simp [chkP] at h
  | .tp q, .Dict .., h => by simp [chkP] at h
  | .tp q, .Set .., h => by simp [chkP] at h
  | .tp q, .ListComp .., h => by simp [chkP] at h
  | .tp q, .SetComp .., h => by simp [chkP] at h
  | .tp q, .DictComp .., h => by simp [chkP] at h
  | .tp q, .GeneratorExp .., h => by simp [chkP] at h
  | .tp q, .Await .., h => by simp [chkP] at h
  | .tp q, .Yield .., h => by simp [chkP] at h
  | .tp q, .YieldFrom .., h => by simp [chkP] at h
  | .tp q, .Compare .., h => by simp [chkP] at h
  | .tp q, .Call .., h => by simp [chkP] at h
  | .tp q, .FormattedValue .., h => by simp [chkP] at h
  | .tp q, .JoinedStr .., h => by simp [chkP] at h
  | .tp q, .Constant .., h => by simp [chkP] at h
  | .tp q, .Attribute .., h => by simp [chkP] at h
  | .tp q, .Subscript .., h => by simp [chkP] at h
  | .tp q, .Starred .., h => by simp [chkP] at h
  | .tp q, .List .., h => by simp [chkP] at h
  | .tp q, .Name .., h => by simp [chkP] at h
  | .tp q, .Slice .., h => by simp [chkP] at h
theorem pg_Ps {tx : Tx} {X : Cx} (hK : X.K = G.K) (S : Shape tx X) : ∀ (q : Pat) (es : List Expr), chkPs tx q es = true → PGs X es (gPs G B q)
  | .nil, [], _ => by
    refine ⟨fun pins s σ H vs us Q I r ⟨A, h', e, ws, F, re, rv, e', eb, k⟩ => ?_⟩
    cases ws with
    | cons _ _ => simp [bindPs] at eb
    | nil =>
      simp only [bindPs, Option.some.injEq] at eb
      subst eb
      exact (pgs_nil (X := X)).run pins s σ H vs us Q I r ⟨rv.ofnil, k σ re .refl⟩
  | .nil, _ :: _, h => by simp [chkPs] at h
  | .nm _, es, h => by cases es <;> simp [chkPs] at h
  | .tp _, es, h => by cases es <;> simp [chkPs] at h
  | .cons p q, [], h => by simp [chkPs] at h
  | .cons p q, e :: es, h => by
    simp only [chkPs, Bool.and_eq_true] at h
    have b := pgs_cons (X := X) (pg_P hK S p e h.1) (pg_Ps hK S q es h.2) (map_each (notStar_chkP h.1))
    refine ⟨fun pins s σ H vs us Q I r ⟨A, h', en, ws, F, re, rv, e', eb, k⟩ => b.run pins s σ H vs us Q I r ?_⟩
    cases ws with
    | nil => simp [bindPs] at eb
    | cons w ws =>
      obtain ⟨x, xs, ex, r1, r2⟩ := rv.uncons
      simp only [bindPs] at eb
      split at eb
      · rename_i en1 e1
        exact ⟨x, xs, ex, A, h', en, w, F, re, r1, en1, e1, fun σ1 re1 s1 => ⟨A, h', en1, ws, F, re1, r2, e', eb, fun σ2 re2 s2 => k σ2 re2 (s1.then s2)⟩⟩
      · cases eb
end
end
end MP
set_option Elab.async false
set_option linter.all false
set_option maxRecDepth 100000
set_option autoImplicit false
namespace MP
open PySem PySem.Spec PyProof.Rows L2
variable [Tabs]
/-- a text's tables: its texts, fields, defs, own classes, methods, whole constants; ar: a def's parameters -/
structure Pg where
  txts : List Str
  flds : List Str
  funs : List (Option Str)
  clss : List (Option Str)
  meths : List Str
  cons : List (Str × Int)
  ar : Nat → Nat
  T : Tab
  excs : List (Option Str)
  /-- a lambda's names; may it stand here -/
  lnm : Nat → List (Str × NameKind) := fun _ => []
  lamB : Nat → Arguments → Expr → Scope → Bool := fun _ _ _ _ => false
  /-- the def that a handler asks of an error; the classes that are caught -/
  wh : Option Str := none
  exk : List Nat := []
def blts : List Str := ["len", "max", "min", "abs", "sum", "all", "any", "sorted", "list", "tuple", "int", "isinstance", "range", "enumerate", "zip", "set", "bool", "str"]
/-- what is known of the lambdas of the frames that run, at a state -/
abbrev LKT := Fr → Sg → Bor → List Addr → Hp → Shared → Prop
/-- no closure of a frame so deep, or deeper -/
def Above (G : Sg) (nb : Nat) : Prop := ∀ l m, G.c l m ≠ none → nb < m
/-- the kinds of values -/
inductive Kd where
  | non | bool | int | str | list | tuple | dict | ins (k : Nat)
  deriving DecidableEq
def kdOf (h : Hm) : Val → Option Kd
  | .non => some .non
  | .bl _ => some .bool
  | .int _ => some .int
  | .str _ => some .str
  | .tup _ => some .tuple
  | .lst _ _ => some .list
  | .dct _ _ _ => some .dict
  | .obj _ k _ _ => some (.ins k)
  | .ref i => match h[i]? with
    | some (.lst _) => some .list
    | some (.dct _ _) => some .dict
    | some (.ins k _ _) => some (.ins k)
    | some .dead => none
    | none => none
  | .err _ => none
  | .clo _ _ => none
def kdIs (sup : Nat → List Nat) : Kd → Ty → Bool
  | .bool, .int => true
  | .bool, .bool => true
  | .int, .int => true
  | .str, .str => true
  | .list, .list => true
  | .tuple, .tuple => true
  | .ins k, .cls j => (sup k).contains j
  | _, _ => false
def kdV (cls : Nat → Option Addr) : Kd → Option Value
  | .non => some (.type "NoneType")
  | .bool => some (.type "bool")
  | .int => some (.type "int")
  | .str => some (.type "str")
  | .list => some (.type "list")
  | .tuple => some (.type "tuple")
  | .dict => some (.type "dict")
  | .ins k => (cls k).map .ref
def tyV' (cls : Nat → Option Addr) : Ty → Option Value
  | .int => some (.type "int")
  | .bool => some (.type "bool")
  | .str => some (.type "str")
  | .list => some (.type "list")
  | .tuple => some (.type "tuple")
  | .cls k => (cls k).map .ref
  | .exn _ => none
  | .ve => none
section
variable (P : Pg) (G : Sg) (cl : CallF) (lv : Nat) (LK : LKT) (nb : Nat) (prog : Program) (w : World) (K : PySem.W.Frag) (mg : Str → Option Value) (base : Heap)
/-- the i-th def stands at f -/
def FnX (i : Nat) (f : Addr) : Prop := ∀ (A : Around) (outer : List Env) (s : Shared) (H : Hp) (us : List Value) (vs : List V) (G' : Sg) (B : Bor) (Am : List Addr) (h : Hm) (ms : List Val) (fr : Fr) (Q : VK) (E : XK), Room lv A → Env0 prog w K mg base A outer s H → Vals vs us →
  SameG G G' → Above G' nb → Fits G' B Am h H → RVs G' B Am H ms vs → LK fr G' B Am H s → Post G' B (fun c d _ H' => E c d H') [] (RVr G' B) Am H (cl i ms h fr) (fun _ x _ _ H' => Q x H') → codeAny (model prog w) A (.call (.ref f) ⟨us, []⟩) (CR (L2.CX prog w) outer prog w H s Q E) s
/-- a handler asks f of an own error: told is what the tables say; what stood stands -/
def WhX (T : Tab) (exc : Nat → Option Addr) (prog : Program) (w : World) (K : PySem.W.Frag) (mg : Str → Option Value) (base : Heap) (f : Addr) : Prop := ∀ (A : Around) (outer : List Env) (s : Shared) (H : Hp) (a C : Addr) (oe : Obj) (k : Nat) (z : Int) (Q : VK), L2H.RoomH 1 A → L2H.PinOk outer H s (a, oe) → Zc (.ref C) none oe → (∃ vs, oe.data = .fields vs) →
  exc k = some C → T.wh k = some z → Env0 prog w K mg base A outer s H → (∀ H', (∀ b o, H b = some o → H' b = some o) → Q (.int z) H') → codeAny (model prog w) A (.call (.ref f) ⟨[.ref a], []⟩) (CR (L2.CX prog w) outer prog w H s Q fun _ _ _ => False) s
def FunAt (i : Nat) (f : Addr) : Prop := PySem.W.keepIn K (.ref f) = true ∧ FnX G cl lv LK nb prog w K mg base i f
/-- what stands behind the top -/
structure Facts : Prop where
  hK : K = G.K
  g : G.Good
  tx : G.txts = P.txts
  fl : G.fld = P.flds
  sep : ∀ x ∈ P.meths, x ∉ P.flds
  lk0 : ∀ G B A H s, LK [] G B A H s
  lam : ∀ l params body scope q, P.lamB l params body scope = true → G.lam l ⟨q, params, body, scope⟩
  blt : ∀ x ∈ blts, mg x = none
  con : ∀ p ∈ P.cons, ∃ t, mg p.1 = some (.int p.2 t)
  fn : ∀ (i : Nat) (x : Str), P.funs[i]? = some (some x) → ∃ f, mg x = some (.ref f) ∧ FunAt G cl lv LK nb prog w K mg base i f
  cls : ∀ (k : Nat) (x : Str), P.clss[k]? = some (some x) → ∃ C, G.cls k = some C ∧ mg x = some (.ref C)
  exn : ∀ (k : Nat) (x : Str), P.excs[k]? = some (some x) → ∃ C, G.exc k = some C ∧ mg x = some (.ref C)
  ins : ∀ (k : Nat) (C : Addr), G.cls k = some C → Cls K C ∧ (∀ n ∈ P.flds, NoAttr K C n)
  mkc : ∀ (k : Nat) (C : Addr), G.cls k = some C → PySem.W.keepIn K (.ref C) = true ∧ PySem.W.makesIn K C = true ∧ match P.T.init k with
    | some i => ∃ f, PySem.W.findIn K (.ref C) "__init__" = some (some (.ref f)) ∧ PySem.W.isFn K (.ref f) = true ∧ FunAt G cl lv LK nb prog w K mg base i f
    | none => PySem.W.findIn K (.ref C) "__init__" = some (some (.builtin "object.__init__"))
  mt : ∀ (k : Nat) (C : Addr) (m : Nat) (n : Str) (i : Nat), G.cls k = some C → P.meths[m]? = some n → P.T.meth k m = some i → ∃ f, Meth K C n f ∧ FunAt G cl lv LK nb prog w K mg base i f
  kin : ∀ (k : Nat) (C : Addr), G.cls k = some C → PySem.W.findIn K (.ref C) "__class__" = some (some (.builtin "object.__class__")) ∧ PySem.W.specialIn K (.builtin "object.__class__") "__get__" = some (some (.builtin "getset_descriptor.__get__")) ∧
    PySem.W.takesIn K (.builtin "object.__class__") = some true ∧ PySem.W.mroIn K C (.type "object") = some true
  kit : ∀ (d : Kd) (t : Ty) (a b : Value), kdV G.cls d = some a → tyV' G.cls t = some b → PySem.W.kitOne K a b = some (kdIs P.T.sup d t)
  wh : ∀ x, P.wh = some x → ∃ f, mg x = some (.ref f) ∧ PySem.W.keepIn K (.ref f) = true ∧ WhX P.T G.exc prog w K mg base f
  exm : ∀ (k j : Nat) (C L : Addr), j ∈ P.exk → G.exc k = some C → G.exc j = some L → PySem.W.exmOne K (.ref C) (.ref L) = some ((P.T.esup k).contains j)
  xk : ∀ (k j t : Nat) (C L : Addr), (j, t) ∈ P.T.wrd → G.exc k = some C → G.exc j = some L → PySem.W.kitOne K (.ref C) (.ref L) = some ((P.T.esup k).contains j)
  xc : P.T.wrd ≠ [] → ∀ (k : Nat) (C : Addr), G.exc k = some C → ExcC K C
  exc : ∀ (k : Nat) (C : Addr), G.exc k = some C → ∃ (B newId initId : String) (bmB : List Value), ExcBaseFacts B newId initId bmB ∧ PySem.W.excIn K C bmB newId = true ∧ PySem.W.keepIn K (.ref C) = true ∧
    PySem.W.subIn K (.ref C) (.type "BaseException") = some true ∧ PySem.W.typeIn K (.ref C) = some (.type "type")
end
section
variable {P : Pg} {G : Sg} {cl : CallF} {lv : Nat} {LK : LKT} {nb : Nat} {B : Bor} {W : WX} {X : Cx}
/-- the facts at a context -/
abbrev FactsX (P : Pg) (G : Sg) (cl : CallF) (lv : Nat) (LK : LKT) (nb : Nat) (X : Cx) : Prop := Facts P G cl lv LK nb X.prog X.w X.K X.mg X.base
/-- a def called at f -/
theorem run_x (hr : Room lv X.A) (tk : Takes X W) {i : Nat} {f : Addr} (fo : FnX G cl lv LK nb X.prog X.w X.K X.mg X.base i f) {pins : List (Addr × Obj)} {σ : L2.St} {H : Hp} {s : Shared} {Q : VK} {us : List Value} {vs : List V} (I : Inv X pins σ H s) (r : Vals vs us)
    {G' : Sg} {B' : Bor} {A : List Addr} {h : Hm} {ms : List Val} {fr : Fr} (sg : SameG G G') (ab : Above G' nb) (F : Fits G' B' A h H) (rv : RVs G' B' A H ms vs) (lk : LK fr G' B' A H s) (p : Post G' B' (fun c d _ H' => WE W σ c d H') [] (RVr G' B') A H (cl i ms h fr) fun _ x _ _ H' => Q x H') :
    wpAny (model X.prog X.w) X.A (call (.ref f) us) (EP X pins σ Q) X.xe s := by
  refine wpAny_call (codeAny_mono (fo X.A X.stack s H us vs G' B' A h ms fr Q (WE W σ) hr I.env0 r sg ab F rv lk p) fun r s' hq => ?_)
  cases r with
  | error e => exact passAt tk σ pins _ _ e s' I hq
  | ok fl =>
    cases fl with
    | ret u => exact I.after hq
    | next => exact False.elim hq
    | brk => exact False.elim hq
    | cont => exact False.elim hq
/-- the readings without an entry -/
def Sg.bare (G : Sg) : Sg := { G with e := none }
theorem same_bare : SameG G G.bare := ⟨rfl, rfl, rfl, rfl, rfl, rfl⟩
theorem ck_bare : CK G G.bare (fun _ => true) := fun _ _ _ _ e => e
theorem ck_bare' : CK G.bare G (fun _ => true) := fun _ _ _ _ e => e
theorem run_callM (Fa : FactsX P G cl lv LK nb X) (hr : Room lv X.A) (tk : Takes X W) (ab : Above G nb) {z : Md} {i : Nat} {f : Addr} (fo : FunAt G cl lv LK nb X.prog X.w X.K X.mg X.base i f) {pins : List (Addr × Obj)} {σ : L2.St} {H : Hp} {s : Shared} {Q : VK} {us : List Value} {vs : List V}
    (I : Inv X pins σ H s) (r : Vals vs us) {A : List Addr} {h : Hm} {ms : List Val} {fr : Fr} (F : Fits G B A h H) (rv : RVs G B A H ms vs) (lk : z = .dir → LK fr G B A H s) (p : Post G B W σ (RVr G B) A H (callM cl z i ms h fr) fun _ x _ _ H' => Q x H') :
    wpAny (model X.prog X.w) X.A (call (.ref f) us) (EP X pins σ Q) X.xe s := by
  obtain ⟨_, FO⟩ := fo
  unfold callM at p
  have F0 : Fits G.bare (lent B A) [] [] H := ⟨rfl, .nil, fun i o a e => by simp at e, fun a b => by
    rcases b with b | b
    · exact F.bt a b
    · obtain ⟨u, q⟩ := F.there b
      rw [q]
      simp, fun a b => ⟨by simp, (F.bx a b).2⟩, True.intro, F.tb⟩
  have step : ∀ {A' : List Addr} {H' : Hp}, Next [] H A' H' → Fits G B A h H' ∧ Next A H A H' := fun {A' H'} n => by
    have n' : Next A H A H' := ⟨⟨[], by simp, fun _ z => by cases z⟩, fun a o q _ k => n.keep a o q (by simp) k, n.still, n.tb⟩
    exact ⟨F.step n' fun a m u q => by
      obtain ⟨v, q2, pl⟩ := F.pl m
      rw [q] at q2
      cases q2
      exact n.keep a u q (by simp) pl.1, n'⟩
  have fresh : ∀ {A' : List Addr} {H' : Hp}, Next [] H A' H' → ∀ a ∈ A', H a = none := fun {A' H'} n a m => by
    obtain ⟨new, e1, e2⟩ := n.pre
    exact e2 a (by rw [e1] at m; simpa using m)
  have fb : ∀ {H' : Hp}, Fits G B A h H' → Fits G.bare B A h H' := fun {H'} F => F.same same_bare ck_bare (fun o _ => okO_all o) True.intro
  have direct : ∀ {fr : Fr}, LK fr G B A H s → Post G B W σ (RVr G B) A H (cl i ms h fr) (fun _ x _ _ H' => Q x H') → wpAny (model X.prog X.w) X.A (call (.ref f) us) (EP X pins σ Q) X.xe s := fun {fr} lk p => by
    refine run_x hr tk FO I r SameG.rfl' ab F rv lk ?_
    cases e : cl i ms h fr with
    | ok v h' =>
      rw [e] at p
      exact p
    | exc c h' =>
      rw [e] at p
      exact p
    | bad =>
      rw [e] at p
      exact p.elim
  cases z with
  | dir => exact direct (lk rfl) p
  | din => exact direct (Fa.lk0 _ _ _ _ _) p
  | pur =>
    simp only at p
    unfold pureM at p
    split at p
    · rename_i ws es
      have rw_ := RVs.same same_bare ck_bare ws (okCs_all ws) (snapL_ok F es rv)
      refine run_x hr tk FO I r same_bare ab F0 rw_ (Fa.lk0 _ _ _ _ _) ?_
      cases e : cl i ws [] [] with
      | ok v h' =>
        rw [e] at p
        simp only at p
        split at p
        · rename_i t et
          split at p
          · rename_i ct
            intro A' H' x F' n' rx
            obtain ⟨FB, nB⟩ := step n'
            exact p A H' x FB nB (RV.same same_bare.symm ck_bare' _ (okC_all _) (froz_ok (fb FB) F' (fun a m => ⟨F.new (fresh n' a m), F.newB (fresh n' a m)⟩) et ct rx))
          · exact p.elim
        · exact p.elim
      | exc c h' =>
        rw [e] at p
        intro A' H' C F' n' ec
        obtain ⟨FB, nB⟩ := step n'
        exact p A H' C FB nB ec
      | bad =>
        rw [e] at p
        exact p.elim
    · exact p.elim
  | top =>
    simp only at p
    unfold topM at p
    split at p
    · rename_i ws es
      have rw_ := RVs.same same_bare ck_bare ws (okCs_all ws) (snapL_ok F es rv)
      refine run_x hr tk FO I r same_bare ab F0 rw_ (Fa.lk0 _ _ _ _ _) ?_
      cases e : cl i ws [] [] with
      | ok v h' =>
        rw [e] at p
        cases v <;> try exact p.elim
        rename_i j
        simp only at p
        split at p
        · rename_i us eu
          split at p
          · rename_i ts et
            split at p
            · rename_i ct
              intro A' H' x F' n' rx
              obtain ⟨FB, nB⟩ := step n'
              have FB0 : Fits G.bare B A h H := fb F
              obtain ⟨a, rfl, ha, FT⟩ := top_ok FB0 F' (fresh n') nB (fun b u q k => n'.keep b u q (by simp) k) eu et ct rx
              have nx : Next A H (A ++ [a]) H' := ⟨⟨[a], rfl, fun b m => by rw [List.mem_singleton.mp m]; exact ha⟩, fun b o q _ k => n'.keep b o q (by simp) k, n'.still, n'.tb⟩
              refine p (A ++ [a]) H' (.ref a) (FT.same same_bare.symm ck_bare' (fun o _ => okO_all o) (Sg.fr_next F.fr nx)) nx ?_
              show RV G B (A ++ [a]) H' (.ref h.length) (.ref a)
              unfold RV
              exact ⟨a, rfl, by rw [← F.len]; simp⟩
            · exact p.elim
          · exact p.elim
        · exact p.elim
      | exc c h' =>
        rw [e] at p
        intro A' H' C F' n' ec
        obtain ⟨FB, nB⟩ := step n'
        exact p A H' C FB nB ec
      | bad =>
        rw [e] at p
        exact p.elim
    · exact p.elim
/-- C(..) -/
theorem run_newM (Fa : FactsX P G cl lv LK nb X) (hr : Room (lv + 1) X.A) (tk : Takes X W) (ab : Above G nb) {k : Nat} {C : Addr} (ec : G.cls k = some C) {pins : List (Addr × Obj)} {σ : L2.St} {H : Hp} {s : Shared} {Q : VK} {us : List Value} {vs : List V}
    (I : Inv X pins σ H s) (r : Vals vs us) {A : List Addr} {h : Hm} {ms : List Val} (F : Fits G B A h H) (rv : RVs G B A H ms vs) (p : Post G B W σ (RVr G B) A H (newM P.T cl k ms h) fun _ x _ _ H' => Q x H') :
    wpAny (model X.prog X.w) X.A (call (.ref C) us) (EP X pins σ Q) X.xe s := by
  obtain ⟨kp, mk, hi⟩ := Fa.mkc k C ec
  unfold newM at p
  cases ei : P.T.init k with
  | some i =>
    rw [ei] at p hi
    simp only at p hi
    obtain ⟨f, hf, hfn, _, FO⟩ := hi
    -- the new instance
    have hx : H (s.heap.objs.size + 1) = none := I.hok.fresh (Nat.le_succ _)
    have hdx : H s.heap.objs.size = none := I.hok.fresh (Nat.le_refl _)
    have hne : s.heap.objs.size ≠ s.heap.objs.size + 1 := Nat.ne_of_lt (Nat.lt_succ_self _)
    have I2 := Inv.made (C := C) I
    have Fd := F.other (o := .own (s.heap.objs.size + 1)) hdx
    have nd : Next A H A (upd H s.heap.objs.size (.own (s.heap.objs.size + 1))) := next_new hdx
    have hx' : upd H s.heap.objs.size (.own (s.heap.objs.size + 1)) (s.heap.objs.size + 1) = none := by rw [upd_ne (Ne.symm hne)]; exact hx
    have Fx := Fd.push (o := .ins C s.heap.objs.size []) (b := .ins k [] []) hx' ⟨C, s.heap.objs.size, [], upd_same, ec, by unfold RFs; rfl, RVs.nil⟩
    have nx' := nd.trans (next_mine (o := .ins C s.heap.objs.size []) hx')
    have e1 : (A ++ [s.heap.objs.size + 1])[h.length]? = some (s.heap.objs.size + 1) := by rw [← F.len]; simp
    have r2 : Vals (V.ref (s.heap.objs.size + 1) :: vs) (Value.ref (s.heap.objs.size + 1) :: us) := .cons rfl r
    have rv2 : RVs G B (A ++ [s.heap.objs.size + 1]) (upd (upd H s.heap.objs.size (.own (s.heap.objs.size + 1))) (s.heap.objs.size + 1) (.ins C s.heap.objs.size [])) (.ref h.length :: ms) (V.ref (s.heap.objs.size + 1) :: vs) :=
      .cons (by unfold RV; exact ⟨_, rfl, e1⟩) (RVs.mono nx' ms rv)
    have nb : cl i (.ref h.length :: ms) (h ++ [.ins k [] []]) [] ≠ .bad := fun e => by rw [e] at p; exact p
    have sp : Post G B (fun c d _ H' => WE W σ c d H') [] (RVr G B) (A ++ [s.heap.objs.size + 1]) (upd (upd H s.heap.objs.size (.own (s.heap.objs.size + 1))) (s.heap.objs.size + 1) (.ins C s.heap.objs.size [])) (cl i (.ref h.length :: ms) (h ++ [.ins k [] []]) []) (fun _ v _ _ H2 => v = .non ∧ Q (.ref (s.heap.objs.size + 1)) H2) := by
      cases e : cl i (.ref h.length :: ms) (h ++ [.ins k [] []]) [] with
      | ok v h' =>
        rw [e] at p
        cases v with
        | non =>
          intro A' H' x F' n' rx
          unfold RV at rx
          subst rx
          refine ⟨rfl, p A' H' _ F' (nx'.trans n') ?_⟩
          unfold RV
          exact ⟨_, rfl, n'.get e1⟩
        | _ => exact p.elim
      | exc c h' =>
        rw [e] at p
        exact fun A' H' C F' n' ec => p A' H' C F' (nx'.trans n') ec
      | bad => exact absurd e nb
    refine wpAny_call (make_map (f := f) I.kIn mk hf (beq_iff_eq.mp hfn) (codeAny_mono (FO _ X.stack _ _ (Value.ref (s.heap.objs.size + 1) :: us) _ G B _ _ _ [] (fun v H2 => v = .non ∧ Q (.ref (s.heap.objs.size + 1)) H2) (WE W σ) (hr.make C us []) (I2.env0.make C us []) r2 SameG.rfl' ab Fx rv2 (Fa.lk0 _ _ _ _ _) sp) fun r s' hq' => ?_))
    cases r with
    | error e => exact passAt tk σ pins _ _ e s' I2 hq'
    | ok fl =>
      cases fl with
      | ret u =>
        obtain ⟨v, H', I3, rv', ev, q3⟩ := I2.after hq'
        subst ev
        exact ⟨rv', ⟨V.ref (s.heap.objs.size + 1), H', I3, rfl, q3⟩⟩
      | next => exact False.elim hq'
      | brk => exact False.elim hq'
      | cont => exact False.elim hq'
  | none =>
    rw [ei] at p hi
    simp only at p hi
    cases ms with
    | cons _ _ => exact False.elim (by simp at p; exact p)
    | nil =>
    have evs : vs = [] := rv.ofnil
    subst evs
    have eus : us = [] := by cases r; rfl
    subst eus
    simp only [List.length_nil, if_true] at p
    have hx : H (s.heap.objs.size + 1) = none := I.hok.fresh (Nat.le_succ _)
    have hdx : H s.heap.objs.size = none := I.hok.fresh (Nat.le_refl _)
    have hne : s.heap.objs.size ≠ s.heap.objs.size + 1 := Nat.ne_of_lt (Nat.lt_succ_self _)
    have I2 := Inv.made (C := C) I
    have Fd := F.other (o := .own (s.heap.objs.size + 1)) hdx
    have nd : Next A H A (upd H s.heap.objs.size (.own (s.heap.objs.size + 1))) := next_new hdx
    have hx' : upd H s.heap.objs.size (.own (s.heap.objs.size + 1)) (s.heap.objs.size + 1) = none := by rw [upd_ne (Ne.symm hne)]; exact hx
    have Fx := Fd.push (o := .ins C s.heap.objs.size []) (b := .ins k [] []) hx' ⟨C, s.heap.objs.size, [], upd_same, ec, by unfold RFs; rfl, RVs.nil⟩
    have nx' := nd.trans (next_mine (o := .ins C s.heap.objs.size []) hx')
    have e1 : (A ++ [s.heap.objs.size + 1])[h.length]? = some (s.heap.objs.size + 1) := by rw [← F.len]; simp
    have q := p _ _ (.ref (s.heap.objs.size + 1)) Fx nx' (by unfold RV; exact ⟨_, rfl, e1⟩)
    have Y := PySem.W.makes_of (M := model X.prog X.w) I.kIn mk
    refine wpAny_call (make_map0 I.kIn mk hi (fun self => PySem.W.Looks.of_pure (PySem.W.oi_bind self)) ?_)
    have hg : ((s.heap.push PySem.W.emptyDict).push (PySem.W.instObj C s.heap.objs.size)).get? (s.heap.objs.size + 1) = some (PySem.W.instObj C s.heap.objs.size) := by heap_get
    have t1 : PySem.W.Looks (model X.prog X.w) ((s.heap.push PySem.W.emptyDict).push (PySem.W.instObj C s.heap.objs.size)) (typeOf (.ref (s.heap.objs.size + 1))) (.ref C) := (PySem.W.Looks.ld hg).andThen .now
    have t2 : PySem.W.Looks (model X.prog X.w) ((s.heap.push PySem.W.emptyDict).push (PySem.W.instObj C s.heap.objs.size)) (isInstance (.ref (s.heap.objs.size + 1)) (.type "object")) true := t1.andThen (Y.top.keeps fun b o e => Heap.get?_push_of_some _ (Heap.get?_push_of_some _ e))
    refine codeAny_call_builtin PySem.W.oi_plain PySem.W.entry_oi (@PySem.W.check_slot (model X.prog X.w) _ _ _ "object.__init__" "object" "__init__" (.ref (s.heap.objs.size + 1)) [] [] _ PySem.W.oi_kind PySem.W.oi_split t2 (PySem.W.oi_args (.ref (s.heap.objs.size + 1))) ?_)
    rw [PySem.W.oi_run]
    exact wpAny_pure (And.intro rfl ⟨V.ref (s.heap.objs.size + 1), _, I2, rfl, q⟩)
end
end MP
set_option Elab.async false
set_option linter.all false
set_option maxRecDepth 100000
set_option autoImplicit false
namespace MP
open PySem PySem.Spec PyProof.Rows L2 LamX NdefX
section
variable {X : Cx} {pins : List (Addr × Obj)} {σ : L2.St} {H : Hp} {s : Shared}
/-- a lambda's object just made is known from now on -/
theorem inv_lam {I0 : LamI} {cl : List (Str × Addr)} {c : Addr} {o : Obj} {h0 : Heap} {t' : Nat} {pm ctv : Value} (I : Inv X pins σ H { s with heap := h0, toks := t' }) (ho : o = PySem.W.kla_obj "<lambda>" I0.qual I0.params I0.body I0.scope cl pm c ctv) :
    Inv X pins σ (upd H h0.objs.size (LamO h0.objs.size I0 cl c)) { s with heap := h0.push o, toks := t' } := by
  subst ho
  refine I.laid (a := h0.objs.size) (fun b u e => Heap.get?_push_of_some _ e) (Nat.le_refl _) ?_
  have e : (h0.push (PySem.W.kla_obj "<lambda>" I0.qual I0.params I0.body I0.scope cl pm c ctv)).get? h0.objs.size = some (PySem.W.kla_obj "<lambda>" I0.qual I0.params I0.body I0.scope cl pm c ctv) := Heap.get?_push_size _ rfl
  exact ⟨⟨pm, ctv, e⟩, ⟨_, e⟩, fun h1 h2 ⟨p, t, z⟩ st => ⟨p, t, st _ z⟩⟩
/-- the lambda is made: its code object is new, or found in the table -/
theorem lam_make {T : List NTab} {nm : Nat → Nat → Str} {c P : Addr} {params : Arguments} {body : Expr} {scope : Scope} {pos : Pos} {E : Value → Shared → Prop} {Q : Value → Shared → Prop} (I : Inv X pins σ H s) (TB : TabB X.base X.mg c P) (hcode : X.env.code = .ref c)
    (hm : (P, nm) ∈ T) (hn : nm pos.line pos.col = X.env.qual ++ "<lambda>") (hu : ∀ p ∈ T, p.1 = P → p.2 = nm) (hT : TabsN T H) (hdef : defaultsOf params X.env = ([], [])) (hfree : ∀ y ∈ scope.names, y.2 = .free → ∃ c, X.env.cells.lookup y.1 = some c)
    (h : ∀ (f c' : Addr) (H1 : Hp) (s' : Shared), Inv X pins σ H1 s' → ExtN H H1 → (∀ b o, H b = some o → ∃ o', H1 b = some o') → TabsN T H1 → H f = none → H1 f = some (LamO f ⟨X.env.qual ++ "<lambda>", params, body, scope⟩ (cloFrom X.env.cells scope.names []) c') → H1 c' = some (CodeO c' (X.env.qual ++ "<lambda>")) → Q (.ref f) s') :
    wpAny (model X.prog X.w) X.A (eval (.Lambda params body scope pos) X.env) Q E s := by
  obtain ⟨ps, hP, ht, ha⟩ := (show TabN H P nm from hT _ hm)
  refine PySem.W.kla_eval hdef ?_
  have bP : s.heap.BuiltinsAt X.mg P := TB.bm.keeps I.bk
  have hP' : s.heap.get? P = some { cls := .none, data := .fields ps } := I.hok P _ hP
  cases hc : codeAmong pos ps.toList with
  | none =>
    refine PySem.W.kla_makeFunction (mg := X.mg) (c := c) (P := P) (ps := ps) (closure_ok hfree) I.ok.glob (I.mod.glob.keeps I.bk) hcode (TB.code.keeps I.bk) hP' ht hc TB.gP bP fun c' ctv h' tk hx hge hlt hrec htb => ?_
    obtain ⟨c2, oc, vs, t, e2, hoc, hd, hv⟩ := hrec
    cases e2
    have nC : H c' = none := I.hok.fresh hge
    have I1 := inv_table (t' := tk) (more := #[rawInt pos.line, rawInt pos.col, .ref c']) (h' := h') I hP (fun b o hb e => hx b o hb e) htb hge ⟨oc, vs, t, hoc, hd, hv⟩
    have hE : ExtN H (upd (upd H P (.tbl (ps ++ #[rawInt pos.line, rawInt pos.col, .ref c']))) c' (CodeO c' (X.env.qual ++ "<lambda>"))) := fun b o e n => by
      rw [upd_ne (ne_of_none e nC), upd_ne (fun z => n ps (Option.some.inj (e.symm.trans (by rw [z]; exact hP))))]
      exact e
    have eL : (ps ++ #[rawInt pos.line, rawInt pos.col, .ref c']).toList = ps.toList ++ [rawInt pos.line, rawInt pos.col, .ref c'] := by simp
    have T1 : TabsN T (upd (upd H P (.tbl (ps ++ #[rawInt pos.line, rawInt pos.col, .ref c']))) c' (CodeO c' (X.env.qual ++ "<lambda>"))) := fun p hp => by
      by_cases hb : p.1 = P
      · rw [hu p hp hb, hb]
        refine ⟨_, by rw [upd_ne (ne_of_none hP nC), upd_same], by rw [eL]; exact PySem.TriplesOk_snoc _ _ _ _ ht, fun p' cv hcv => ?_⟩
        rw [eL] at hcv
        rcases among_app2 _ ht hcv with z | ⟨z, z1, z2⟩
        · obtain ⟨c0, e1, e2⟩ := ha p' cv z
          exact ⟨c0, e1, hE _ _ e2 codeO_ne⟩
        · refine ⟨c', z, ?_⟩
          rw [← z1, ← z2, hn]
          exact upd_same
      · obtain ⟨ps', a1, a2, a3⟩ := hT p hp
        refine ⟨ps', by rw [upd_ne (ne_of_none a1 nC), upd_ne hb]; exact a1, a2, fun p' cv hcv => ?_⟩
        obtain ⟨c0, e1, e2⟩ := a3 p' cv hcv
        exact ⟨c0, e1, hE _ _ e2 codeO_ne⟩
    have nF := I1.hok.fresh (Nat.le_refl _)
    have I2 := inv_lam (s := s) (I0 := ⟨X.env.qual ++ "<lambda>", params, body, scope⟩) (cl := cloFrom X.env.cells scope.names []) (c := c') (pm := (X.mg "__name__").getD .none) (ctv := ctv) I1 rfl
    refine h h'.objs.size c' _ _ I2 (fun b o e n => ?_) (fun b o e => ?_) (T1.ext fun b o e => ?_) (I.hok.fresh (Nat.le_trans hge (Nat.le_of_lt hlt))) upd_same ?_
    · have e1 := hE b o e n
      exact (upd_ne (ne_of_none e1 nF)).trans e1
    · by_cases z : b = P
      · have e1 : upd (upd H P (.tbl (ps ++ #[rawInt pos.line, rawInt pos.col, .ref c']))) c' (CodeO c' (X.env.qual ++ "<lambda>")) P = some (.tbl (ps ++ #[rawInt pos.line, rawInt pos.col, .ref c'])) := by rw [upd_ne (ne_of_none hP nC), upd_same]
        exact ⟨_, by rw [z]; exact (upd_ne (ne_of_none e1 nF)).trans e1⟩
      · have e1 : upd (upd H P (.tbl (ps ++ #[rawInt pos.line, rawInt pos.col, .ref c']))) c' (CodeO c' (X.env.qual ++ "<lambda>")) b = some o := by rw [upd_ne (ne_of_none e nC), upd_ne z]; exact e
        exact ⟨o, (upd_ne (ne_of_none e1 nF)).trans e1⟩
    · exact (upd_ne (ne_of_none e nF)).trans e
    · exact (upd_ne (Nat.ne_of_lt hlt)).trans upd_same
  | some cv =>
    obtain ⟨c', e, hco⟩ := ha pos cv hc
    subst e
    rw [hn] at hco
    refine PySem.W.kla_makeFunctionHit (mg := X.mg) (c := c) (P := P) (ps := ps) (closure_ok hfree) I.ok.glob (I.mod.glob.keeps I.bk) hcode (TB.code.keeps I.bk) hP' ht hc bP fun ctv h' tk hx hsz => ?_
    have I1 : Inv X pins σ H { s with heap := h', toks := tk } := I.kept hx
    have nF : H h'.objs.size = none := I1.hok.fresh (Nat.le_refl _)
    have I2 := inv_lam (s := s) (I0 := ⟨X.env.qual ++ "<lambda>", params, body, scope⟩) (cl := cloFrom X.env.cells scope.names []) (c := c') (pm := (X.mg "__name__").getD .none) (ctv := ctv) I1 rfl
    refine h h'.objs.size c' _ _ I2 (fun b o e n => ?_) (fun b o e => ⟨o, (upd_ne (ne_of_none e nF)).trans e⟩) (hT.ext fun b o e => ?_) nF upd_same ?_
    · exact (upd_ne (ne_of_none e nF)).trans e
    · exact (upd_ne (ne_of_none e nF)).trans e
    · exact (upd_ne (ne_of_none hco nF)).trans hco
end
end MP
set_option Elab.async false
set_option linter.all false
set_option maxRecDepth 100000
set_option autoImplicit false
namespace MP
open PySem PySem.Spec PyProof.Rows L2
variable [Tabs]
/-- the defs as they are called; what is known of lambdas -/
structure CL where
  f : CallF
  L : LC
/-- the level of the calls, what is known of the frames' lambdas, how deep closures may be -/
structure Lv where
  n : Nat
  LK : LKT
  nb : Nat
def SrcR (G : Sg) (B : Bor) : Rl Src It := fun A0 H0 s J => ∀ B' A h H, Fits G B' A h H → Conv B A0 H0 B' A H → ∀ n, s.len h = some n → n ≤ sizeLine ∧ ∀ i,
  (i < n → J.go i H ∧ ∀ x H', J.yld i H x H' → ∃ v, s.at h i = some v ∧ Fits G B' A h H' ∧ Next A H A H' ∧ RV G B' A H' v x) ∧ (n ≤ i → J.stop i H)
section
variable (P : Pg) (G : Sg) (cl : CL) (W : WX)
def tE (c : C) : TE := fun σ H Q => ∃ B A h e, Fits G B A h H ∧ RE G B A H e σ ∧ Post G B W σ (RVr G B) A H (evE P.T cl.f cl.L c e h) fun _ x _ _ H' => Q x H'
def tAs (c : C) : TA := fun σ H Q => ∃ B A h e, Fits G B A h H ∧ RE G B A H e σ ∧ Post G B W σ (RVsr G B) A H (evA P.T cl.f cl.L c e h) fun _ x _ _ H' => Q x H'
def tO (c : C) : TO := fun σ H Q => ∃ B A h e, Fits G B A h H ∧ RE G B A H e σ ∧ Post G B W σ (fun _ _ (v x : Option Int) => v = x) A H (evP P.T cl.f cl.L c e h) fun _ x _ _ H' => Q x H'
def tI (c : C) : TI := fun σ H R => ∃ B A h e, Fits G B A h H ∧ RE G B A H e σ ∧ Post G B W σ (SrcR G B) A H (evI P.T cl.f cl.L c e h) fun _ J _ _ H' => R J H'
end
def notSet : Expr → Bool
  | .Set .. => false
  | _ => true
def plainX : Expr → Bool
  | .Slice .. => false
  | _ => true
def notSuper : Expr → Bool
  | .Call (.Name id _) [] [] _ => decide ((id != ("super" : Str)) = true)
  | _ => true
def noStar : List Expr → Bool
  | [] => true
  | .Starred .. :: _ => false
  | _ :: r => noStar r
def bopIs : BOp → Operator → Bool
  | .add, .Add => true
  | .sub, .Sub => true
  | .mul, .Mult => true
  | .fdiv, .FloorDiv => true
  | .mod, .Mod => true
  | .pow, .Pow => true
  | _, _ => false
def copIs : COp → CmpOp → Bool
  | .eq, .Eq => true
  | .ne, .NotEq => true
  | .lt, .Lt => true
  | .le, .LtE => true
  | .gt, .Gt => true
  | .ge, .GtE => true
  | .is, .Is => true
  | .isn, .IsNot => true
  | .inn, .In => true
  | .nin, .NotIn => true
  | _, _ => false
def chkC (P : Pg) (tx : Tx) : Val → Expr → Bool
  | .non, .Constant .none _ _ => true
  | .bl b, .Constant (.bool c) _ _ => b == c
  | .int i, .Constant (.int j) _ _ => decide (i = j)
  | .str n, .Constant (.str x) _ _ => decide (P.txts[n]? = some x)
  | .int i, .Name x _ => globB tx.sc x && decide ((x, i) ∈ P.cons)
  | .dct .own [] [], .Dict [] [] _ => true
  | _, _ => false
def kindsB : Ty → Str → Bool
  | .int, x => decide (x = "int")
  | .bool, x => decide (x = "bool")
  | .str, x => decide (x = "str")
  | .list, x => decide (x = "list")
  | .tuple, x => decide (x = "tuple")
  | .cls _, _ => false
  | .exn _, _ => false
  | .ve, _ => false
def chkT (P : Pg) (tx : Tx) (t : Ty) : Expr → Bool
  | .Name x _ => globB tx.sc x && (kindsB t x || match t with | .cls k => decide (P.clss[k]? = some (some x))  | _ => false)
  | _ => false
def nameB : BI → Str
  | .len => "len"
  | .max1 => "max"
  | .max2 => "max"
  | .min2 => "min"
  | .abs => "abs"
  | .sum => "sum"
  | .all => "all"
  | .any => "any"
  | .sorted => "sorted"
  | .list => "list"
  | .tuple => "tuple"
  | .toInt => "int"
  | .sortedSet => "sorted"
  | .lenSet => "len"
  | .listRng => "list"
  | .listZip => "list"
def isTyB : BI → Bool
  | .list => true
  | .tuple => true
  | .toInt => true
  | _ => false
def plainB : BI → Bool
  | .sortedSet => false
  | .lenSet => false
  | .listRng => false
  | .listZip => false
  | _ => true
def nameM : MI → Str
  | .append => "append"
  | .extend => "extend"
  | .pop => "pop"
  | .reverse => "reverse"
  | .clear => "clear"
  | .index => "index"
  | .count => "count"
  | .get => "get"
def yes : C → Bool
  | .cst (.bl true) => true
  | _ => false
def isTuple : Expr → Bool
  | .Tuple .. => true
  | _ => false
def ownOf (N : List Str) (own : List Nat) : List (Str × Nat) := own.filterMap fun i => (N[i]?).map fun x => (x, i)
/-- a comprehension's block may stand here -/
def blkB (tx : Tx) (scope : Scope) (own : List Nat) : Bool :=
  decide (scope.kind = .function) && (scope.names.all fun y => decide (scope.names.lookup y.1 = some y.2)) && decide ((ownOf tx.N own).map (·.2) = own)
    && (scope.names.all fun y => if y.2 = .free then decide (tx.sc.names.lookup y.1 = some .cell) || decide (tx.sc.names.lookup y.1 = some .free) else true)
    && (scope.names.all fun y => if y.2 = .local ∨ y.2 = .cell then ((ownOf tx.N own).map (·.1)).contains y.1 || !(tx.N.contains y.1) else true)
def blkT (tx : Tx) (scope : Scope) : Tx := ⟨tx.N, relS scope tx.sc, fun x => scope.names.lookup x == some .cell, true, []⟩
def keyIs (P : Pg) : MKey → Option Expr → Bool
  | .inl i, some (.Constant (.int j) _ _) => decide (i = j)
  | .inr n, some (.Constant (.str x) _ _) => decide (P.txts[n]? = some x)
  | _, _ => false
def keysAre (P : Pg) : List MKey → List (Option Expr) → Bool
  | [], [] => true
  | k :: ks, e :: es => keyIs P k e && keysAre P ks es
  | _, _ => false
/-- no defaults -/
def noDef : Arguments → Bool
  | ⟨_, _, _, _, [], _, []⟩ => true
  | _ => false
mutual
def chkE (P : Pg) : C → Tx → Expr → Bool
  | .var i, tx, e => match e with
    | .Name x _ => decide (tx.N[i]? = some x) && visB tx.sc x && okName x
    | _ => false
  | .cst v, tx, e => chkC P tx v e
  | .bin _ o a b, tx, e => match e with
    | .BinOp x op y _ => bopIs o op && chkE P a tx x && chkE P b tx y
    | _ => false
  | .neg a, tx, e => match e with
    | .UnaryOp .USub x _ => chkE P a tx x
    | _ => false
  | .not a, tx, e => match e with
    | .UnaryOp .Not x _ => chkE P a tx x
    | _ => false
  | .cmp o a b, tx, e => match e with
    | .Compare x [op] [y] _ => copIs o op && notSet y && chkE P a tx x && chkE P b tx y
    | _ => false
  | .cmp2 o p a b c, tx, e => match e with
    | .Compare x [op, oq] [y, z] _ => copIs o op && copIs p oq && notSet z && chkE P a tx x && chkE P b tx y && chkE P c tx z
    | _ => false
  | .cmp3 o p q a b c d, tx, e => match e with
    | .Compare x [op, oq, oq2] [y, z, w] _ => copIs o op && copIs p oq && copIs q oq2 && notSet w && chkE P a tx x && chkE P b tx y && chkE P c tx z && chkE P d tx w
    | _ => false
  | .and a b, tx, e => match e with
    | .BoolOp .And (x :: y :: r) pos => chkE P a tx x && (match r with | [] => chkE P b tx y | z :: r => chkE P b tx (.BoolOp .And (y :: z :: r) pos))
    | _ => false
  | .or a b, tx, e => match e with
    | .BoolOp .Or (x :: y :: r) pos => chkE P a tx x && (match r with | [] => chkE P b tx y | z :: r => chkE P b tx (.BoolOp .Or (y :: z :: r) pos))
    | _ => false
  | .ite t a b, tx, e => match e with
    | .IfExp x y z _ => chkE P t tx x && chkE P a tx y && chkE P b tx z
    | _ => false
  | .idx a i, tx, e => match e with
    | .Subscript x y _ => plainX y && chkE P a tx x && chkE P i tx y
    | _ => false
  | .slc _ a lo hi, tx, e => match e with
    | .Subscript x (.Slice l u none _) _ => chkE P a tx x && chkP' P lo tx l && chkP' P hi tx u
    | _ => false
  | .slcS _ a lo st, tx, e => match e with
    | .Subscript x (.Slice (some l) none (some u) _) _ => chkE P a tx x && chkE P lo tx l && chkE P st tx u
    | _ => false
  | .rev _ a, tx, e => match e with
    | .Subscript x (.Slice none none (some (.UnaryOp .USub (.Constant (.int 1) _ _) _)) _) _ => chkE P a tx x
    | _ => false
  | .fld a f, tx, e => match e with
    | .Attribute x n _ => decide (P.flds[f]? = some n) && notSuper x && chkE P a tx x
    | _ => false
  | .tup as, tx, e => match e with
    | .Tuple es _ _ => chkA P as tx es
    | _ => false
  | .lst _ as, tx, e => match e with
    | .List es _ => chkA P as tx es
    | _ => false
  | .dct ks as, tx, e => match e with
    | .Dict keys values _ => decide (ks.Nodup) && decide (ks.length < 16) && decide (keys.length = values.length) && keysAre P ks keys && chkA P as tx values
    | _ => false
  | .inR n x as, tx, e => match e with
    | .Compare y [op] [.Call (.Name s _) [u] [] _] _ => copIs (if n then .nin else .inn) op && globB tx.sc s && decide (s = "range") && chkE P x tx y && chkA P as tx [u]
    | _ => false
  | .call z f as, tx, e => match e with
    | .Call (.Name x _) es [] _ => (!decide (z = .dir) || !tx.blk) && globB tx.sc x && decide (P.funs[f]? = some (some x)) && chkA P as tx es
    | _ => false
  | .new k as, tx, e => match e with
    | .Call (.Name x _) es [] _ => globB tx.sc x && decide (P.clss[k]? = some (some x)) && chkA P as tx es
    | _ => false
  | .bi b _ as, tx, e => match e with
    | .Call (.Name x _) (y :: es) [] _ => globB tx.sc x && decide (x = nameB b) && (match plainB b with
      | true => chkA P as tx (y :: es)
      | false => match b, y, es with
        | .lenSet, .Call (.Name s _) [u] [] _, [] => globB tx.sc s && decide (s = "set") && chkA P as tx [u]
        | .sortedSet, .Call (.Name s _) [u] [] _, [] => globB tx.sc s && decide (s = "set") && chkA P as tx [u]
        | .listRng, .Call (.Name s _) (u :: us) [] _, [] => globB tx.sc s && decide (s = "range") && chkA P as tx (u :: us)
        | .listZip, .Call (.Name s _) [u, v] [] _, [] => globB tx.sc s && decide (s = "zip") && chkA P as tx [u, v]
        | _, _, _ => false)
    | _ => false
  | .isi a t, tx, e => match e with
    | .Call (.Name x _) [y, z] [] _ => globB tx.sc x && decide (x = "isinstance") && chkE P a tx y && chkT P tx t z
    | _ => false
  | .meth m o as, tx, e => match e with
    | .Call (.Attribute x n ap) es [] pos => decide (n = nameM m) && decide (m ≠ .count) && notSuper x && (ap.endLine == pos.line) && decide (es.length < 30) && chkE P o tx x && chkA P as tx es
    | _ => false
  | .ocall _ m o as, tx, e => match e with
    | .Call (.Attribute x n ap) es [] pos => decide (P.meths[m]? = some n) && notSuper x && (ap.endLine == pos.line) && decide (es.length < 30) && chkE P o tx x && chkA P as tx es
    | _ => false
  | .comp _ own p it cd x, tx, e => match e with
    | .ListComp elt [⟨tg, iter, ifs, 0⟩] scope _ => blkB tx scope own && notSet iter && chkI P it tx iter tg && chkP (blkT tx scope) p tg && ((slotsP p).all fun i => own.contains i)
        && (match ifs with | [] => yes cd | [c] => chkE P cd (blkT tx scope) c | _ => false) && chkE P x (blkT tx scope) elt
    | _ => false
  | .mapC _ own p it f as, tx, e => match e with
    | .ListComp (.Call (.Name x _) es [] _) [⟨tg, iter, [], 0⟩] scope _ => !tx.blk && blkB tx scope own && notSet iter && chkI P it tx iter tg && chkP (blkT tx scope) p tg && ((slotsP p).all fun i => own.contains i)
        && globB (blkT tx scope).sc x && decide (P.funs[f]? = some (some x)) && chkA P as (blkT tx scope) es
    | _ => false
  | .lam l, tx, e => match e with
    | .Lambda params body scope _ => tx.lams.contains l && P.lamB l params body scope && decide (scope.names = P.lnm l) && noDef params && scope.names.all fun y => if y.2 = .free then decide (tx.sc.names.lookup y.1 = some .cell) || decide (tx.sc.names.lookup y.1 = some .free) else true
    | _ => false
  | .callv i as, tx, e => match e with
    | .Call (.Name x _) es [] _ => !tx.blk && decide (tx.N[i]? = some x) && visB tx.sc x && okName x && chkA P as tx es
    | _ => false
  | _, _, _ => false
termination_by structural c => c
def chkA (P : Pg) : C → Tx → List Expr → Bool
  | .nil, _, es => match es with
    | [] => true
    | _ => false
  | .cons a b, tx, es => match es with
    | e :: es => chkE P a tx e && chkA P b tx es
    | _ => false
  | _, _, _ => false
termination_by structural c => c
def chkP' (P : Pg) : C → Tx → Option Expr → Bool
  | .omit, _, e => match e with
    | none => true
    | _ => false
  | .part a, tx, e => match e with
    | some e => chkE P a tx e
    | _ => false
  | _, _, _ => false
termination_by structural c => c
def chkI (P : Pg) : C → Tx → Expr → Expr → Bool
  | .iSeq a, tx, e, _ => chkE P a tx e
  | .iRng as, tx, e, _ => match e with
    | .Call (.Name x _) es [] _ => globB tx.sc x && decide (x = "range") && decide (1 ≤ es.length ∧ es.length ≤ 3) && chkA P as tx es
    | _ => false
  | .iEnum a, tx, e, tg => match e with
    | .Call (.Name x _) [y] [] _ => globB tx.sc x && decide (x = "enumerate") && isTuple tg && chkE P a tx y
    | _ => false
  | .iZip as, tx, e, tg => match e with
    | .Call (.Name x _) es [] _ => globB tx.sc x && decide (x = "zip") && isTuple tg && decide (es.length = 2 ∨ es.length = 3) && chkA P as tx es
    | _ => false
  | _, _, _, _ => false
termination_by structural c => c
end
abbrev W0 : WX := fun _ _ _ _ => False
structure At (P : Pg) (G : Sg) (cl : CL) (lv : Lv) (tx : Tx) (X : Cx) (W : WX) : Prop where
  sh : Shape tx X
  fa : FactsX P G cl.f lv.n lv.LK lv.nb X
  room : Room (lv.n + 2) X.A
  ab : Above G lv.nb
  frm : tx.blk = false → X.stack = X.env :: X.outer ∧ X.env.frame = some X.env.locals
  tk : Takes X W
  pass : PassesOwn (model X.prog X.w) X.A X.env X.xe
  lk : tx.blk = false → ∀ {pn : List (Addr × Obj)} {xe : Value → Shared → Prop} {pins : List (Addr × Obj)} {σ : L2.St} {H : Hp} {s : Shared} {B : Bor} {A : List Addr} {h : Hm} {e : En}, Inv (X.tr pn xe) pins σ H s → Fits G B A h H → RE G B A H e σ → lv.LK (cl.L.push e) G B A H s
  lkc : ∀ {fr : Fr} {B B' : Bor} {A A' : List Addr} {H H' : Hp} {s s' : Shared}, lv.LK fr G B A H s → CellKeep H s.heap H' s'.heap → Since B A H B' A' H' → lv.LK fr G B' A' H' s'
  mak : ∀ l ∈ tx.lams, G.c l cl.L.id = some (cloFrom X.env.cells (P.lnm l) []) ∧ ∃ c Pt, X.env.code = .ref c ∧ LamX.TabB X.base X.mg c Pt ∧ (Pt, fun _ _ => X.env.qual ++ "<lambda>") ∈ Tabs.t ∧ ∀ p ∈ Tabs.t, p.1 = Pt → p.2 = fun _ _ => X.env.qual ++ "<lambda>"
  cv : tx.blk = false → ∀ {pn : List (Addr × Obj)} {xe : Value → Shared → Prop} {pins : List (Addr × Obj)} {σ : L2.St} {H : Hp} {s : Shared} {B : Bor} {A : List Addr} {h : Hm} {Q : VK} {E : XK} {l : Nat} {cs ms : List Val} {f : Addr} {vs : List V} {us : List Value}, Inv (X.tr pn xe) pins σ H s → Vals vs us → Fits G B A h H → RVs G B A H ms vs → RV G B A H (.clo l cs) (.ref f) →
    Post G B (fun c d _ H' => E c d H') [] (RVr G B) A H (cl.L.lam l cs ms h) (fun _ x _ _ H' => Q x H') → codeAny (model X.prog X.w) X.A (.call (.ref f) ⟨us, []⟩) (CR (L2.CX X.prog X.w) X.stack X.prog X.w H s Q E) s
structure Snd (P : Pg) (c : C) : Prop where
  e : ∀ {G : Sg} {cl : CL} {lv : Lv} {tx : Tx} {X : Cx} {W : WX}, At P G cl lv tx X W → ∀ e, chkE P c tx e = true → PE X e (tE P G cl W c) ∧ PT X e (tB (tE P G cl W c))
  a : ∀ {G : Sg} {cl : CL} {lv : Lv} {tx : Tx} {X : Cx} {W : WX}, At P G cl lv tx X W → ∀ es, chkA P c tx es = true → PA X es (tAs P G cl W c) ∧ noStar es = true
  o : ∀ {G : Sg} {cl : CL} {lv : Lv} {tx : Tx} {X : Cx} {W : WX}, At P G cl lv tx X W → ∀ e, chkP' P c tx e = true → PO X e (tO P G cl W c)
  i : ∀ {G : Sg} {cl : CL} {lv : Lv} {tx : Tx} {X : Cx} {W : WX}, At P G cl lv tx X W → ∀ e tg, chkI P c tx e tg = true → PI X tg e (tI P G cl W c)
section
variable {P : Pg} {G : Sg} {cl : CL} {lv : Lv} {tx : Tx} {X : Cx} {W : WX}
theorem At.glob (a : At P G cl lv tx X W) {x : Str} (h : globB tx.sc x = true) : Gl X x ∧ (x == ("__debug__" : Str)) = false ∧ x ≠ "__name__" := by
  unfold globB at h
  simp only [Bool.and_eq_true, decide_eq_true_eq] at h
  refine ⟨?_, h.1.2, h.2⟩
  show X.env.scope.names.lookup x = _
  rw [a.sh.sc]
  exact h.1.1
def simpleX : Expr → Bool
  | .UnaryOp .Not _ _ => false
  | .BoolOp .. => false
  | .IfExp .. => false
  | .Compare .. => false
  | _ => true
theorem pt_simple {e : Expr} {t : TE} (h : PE X e t) (s : simpleX e = true) : PT X e (tB t) := by
  refine pt_val h ?_
  intro whole
  cases e <;> try (simp [simpleX] at s; done)
  all_goals first | rfl | (rename_i op _ _; cases op <;> first | rfl | (simp [simpleX] at s))
theorem pw_of {op : PySem.BoolOp} {vs : List Expr} {pos : Pos} {t : TT} (h : PT X (.BoolOp op vs pos) t) : PW X (.BoolOp op vs pos) t := ⟨fun _ pins s σ H Q I q => h.run pins s σ H Q I q⟩
theorem plainIx_of {b : Expr} (h : plainX b = true) : PlainIx b := by
  intro o i
  cases b <;> first | rfl | (simp [plainX] at h)
theorem base_of {o : Expr} {f : Str} {env : PySem.Env} (h : notSuper o = true) : attributeBase o f env (eval o env) = eval o env := by
  unfold attributeBase
  split
  · rename_i id p pos
    simp only [notSuper, decide_eq_true_eq] at h
    rw [h]
    simp
  · rfl
theorem star_of {env : PySem.Env} : ∀ {es : List Expr}, noStar es = true → starEach es env = es.map fun e => (false, eval e env)
  | [], _ => rfl
  | e :: es, h => by
    have h2 : noStar es = true ∧ starEach (e :: es) env = (false, eval e env) :: starEach es env := by
      cases e <;> first | exact ⟨h, rfl⟩ | (simp [noStar] at h)
    rw [h2.2, star_of h2.1]
    rfl
theorem star_cons {env : PySem.Env} {e : Expr} {es : List Expr} (h : noStar (e :: es) = true) : starEach (e :: es) env = (false, eval e env) :: starEach es env ∧ noStar es = true := by
  cases e <;> first | exact ⟨rfl, h⟩ | (simp [noStar] at h)
theorem back_plain {env : PySem.Env} {pos : Pos} {es : List Expr} (h : noStar es = true) : (backTo pos (starEach es env)).any (·.1) = false := by
  rw [star_of h]
  induction es with
  | nil => rfl
  | cons e es ih =>
    obtain ⟨_, h2⟩ := star_cons (env := env) h
    have := ih h2
    simpa [backTo] using this
theorem back_all {env : PySem.Env} {pos : Pos} {es : List Expr} (h : noStar es = true) : (backTo pos (starEach es env)).all (fun x => !x.1) = true := by
  have := back_plain (env := env) (pos := pos) h
  rw [List.any_eq_false] at this
  rw [List.all_eq_true]
  intro x hx
  have := this x hx
  simpa using this
theorem few_of {env : PySem.Env} {pos : Pos} {es : List Expr} (h : noStar es = true) (n : es.length < 30) : ((backTo pos (starEach es env)).all (fun x => !x.1) && (backToKw pos (keywordEach [] env)).all (fun x => x.1.isSome)
      && decide (es.length + ([] : List Keyword).length + (if ([] : List Keyword).isEmpty then 0 else 1) < 30)) = true := by
  rw [back_all h, Bool.true_and]
  have e1 : (backToKw pos (keywordEach [] env)).all (fun x => x.1.isSome) = true := rfl
  rw [e1, Bool.true_and, decide_eq_true_eq]
  simpa using n
theorem noStar_of {e : Expr} {es : List Expr} (h : ∀ x p, e ≠ .Starred x p) (h2 : noStar es = true) : noStar (e :: es) = true := by
  cases e <;> first | exact h2 | exact absurd rfl (h _ _)
theorem chkE_star {c : C} {x : Expr} {p : Pos} : chkE P c tx (.Starred x p) = false := by
  cases c <;> simp [chkE, chkC]
end
end MP
set_option Elab.async false
set_option linter.all false
set_option maxRecDepth 100000
set_option autoImplicit false
namespace MP
open PySem PySem.Spec PyProof.Rows L2
open Sem (wp)
abbrev IsTri (h : Heap) (T : Addr) (a b c : Value) : Prop := h.get? T = some { cls := .type "tuple", data := .seq #[a, b, c] }
theorem typeCall_zip3 (a b c : Value) : checkTypeCall "zip" ⟨[a, b, c], []⟩ = pure () := by kernel_rfl
theorem newCall_zip3 (a b c : Value) : checkBuiltinCall "zip.__new__" ⟨[.type "zip", a, b, c], []⟩ = pure () := by kernel_rfl
theorem args_object_init4 (a b c d : Value) : argsOk "object.__init__" ⟨[a, b, c, d], []⟩ := by
  unfold argsOk; rw [signature?_of (id := "object.__init__") (n := ['_', '_', 't', 'i', 'n', 'i', '_', '_']) (o := ['t', 'c', 'e', 'j', 'b', 'o']) (by kernel_rfl) PySem.F.owner_object]; kernel_rfl
section
variable {prog : Program} {w : World} {A : Around} {E : Value → Shared → Prop} {s : Shared}
theorem updateSeq_tri {T : Addr} {a b c x : Value} {k : Nat} {Q : Unit → Shared → Prop} (hT : IsTri s.heap T a b c)
    (h : ∀ h', h'.get? T = some { cls := .type "tuple", data := .seq ((#[a, b, c] : Array Value).setIfInBounds k x) } → Heap.SameBut T s.heap h' → Q () { s with heap := h' }) :
    wpAny (model prog w) A (updateSeq T (·.setIfInBounds k x)) Q E s := by
  refine wpAny_updateSeq hT rfl (h _ ?_ (Heap.SameBut.update ..))
  rw [Heap.get?_update_self _ hT rfl]
  simp [Obj.mapSeq]
structure ZipApart3 (z TI TO i1 i2 i3 l1 l2 l3 : Addr) : Prop where
  TIz : TI ≠ z
  TOz : TO ≠ z
  i1z : i1 ≠ z
  i2z : i2 ≠ z
  i3z : i3 ≠ z
  TITO : TI ≠ TO
  TIi1 : TI ≠ i1
  TIi2 : TI ≠ i2
  TIi3 : TI ≠ i3
  TOi1 : TO ≠ i1
  TOi2 : TO ≠ i2
  TOi3 : TO ≠ i3
  i12 : i1 ≠ i2
  i13 : i1 ≠ i3
  i23 : i2 ≠ i3
  l1z : l1 ≠ z
  l1TO : l1 ≠ TO
  l1i1 : l1 ≠ i1
  l1i2 : l1 ≠ i2
  l1i3 : l1 ≠ i3
  l2z : l2 ≠ z
  l2TO : l2 ≠ TO
  l2i1 : l2 ≠ i1
  l2i2 : l2 ≠ i2
  l2i3 : l2 ≠ i3
  l3z : l3 ≠ z
  l3TO : l3 ≠ TO
  l3i1 : l3 ≠ i1
  l3i2 : l3 ≠ i2
  l3i3 : l3 ≠ i3
theorem zip3_next_item {z TI TO i1 i2 i3 l1 l2 l3 : Addr} {k1 k2 k3 : Nat} {xs ys zs : Array Value} {x y u a b c : Value} {Q : Value → Shared → Prop} (D : ZipApart3 z TI TO i1 i2 i3 l1 l2 l3)
    (hz : IsZip s.heap z TI TO .none) (hTI : IsTri s.heap TI (.ref i1) (.ref i2) (.ref i3)) (hTO : IsTri s.heap TO a b c)
    (h1 : s.heap.IsListIter i1 l1 k1) (h2 : s.heap.IsListIter i2 l2 k2) (h3 : s.heap.IsListIter i3 l3 k3) (hl1 : s.heap.IsList l1 xs) (hl2 : s.heap.IsList l2 ys) (hl3 : s.heap.IsList l3 zs) (hx : xs[k1]? = some x) (hy : ys[k2]? = some y) (hu : zs[k3]? = some u)
    (hQ : ∀ h', IsZip h' z TI TO (rawInt s.heap.objs.size) → IsTri h' TO x y u → h'.IsListIter i1 l1 (k1 + 1) → h'.IsListIter i2 l2 (k2 + 1) → h'.IsListIter i3 l3 (k3 + 1) → IsTri h' s.heap.objs.size x y u → h'.objs.size = s.heap.objs.size + 1 →
      (∀ c o, c ≠ z → c ≠ TO → c ≠ i1 → c ≠ i2 → c ≠ i3 → s.heap.get? c = some o → h'.get? c = some o) → Q (.ref s.heap.objs.size) { s with heap := h' }) :
    wpAny (model prog w) A (Builtin.«zip.__next__» ⟨[.ref z], []⟩) (fun fin s' => ∃ v, fin = .done (.ret v) ∧ Q v s') E s := by
  show wpAny _ _ (field (.ref z) 2 >>= _) _ _ _
  refine wpAny_bind (wpAny_field hz rfl (x := .bool false) rfl ?_)
  show wpAny _ _ (field (.ref z) 3 >>= _) _ _ _
  refine wpAny_bind (wpAny_field hz rfl (x := .ref TI) rfl ?_)
  refine wpAny_bind (wpAny_seqItems hTI rfl ?_)
  show wpAny _ _ (Builtin.SmallTypes.ownedTupleIsFree (.ref z) >>= _) _ _ _
  refine wpAny_bind ?_
  unfold Builtin.SmallTypes.ownedTupleIsFree
  refine wpAny_bind (wpAny_field hz rfl (x := .none) rfl (wpAny_pure ?_))
  simp only [if_true]
  refine wpAny_bind (wpAny_rule ?_)
  refine wpAny_bind (wpAny_field hz rfl (x := .ref TO) rfl ?_)
  refine wpAny_bind (wpAny_setField_rec hz (by simp) fun h₁ hz₁ hs₁ => ?_)
  replace hz₁ : IsZip h₁ z TI TO .ellipsis := hz₁
  refine wpAny_bind ?_
  simp only [List.zipIdx_cons, List.zipIdx_nil, List.forIn_cons, List.forIn_nil]

  refine wpAny_bind (wpAny_bind (wpAny_onRaise ?_))
  show wpAny _ _ (Builtin.SmallTypes.nextOf (.ref i1) >>= _) _ _ _
  refine wpAny_bind (wpAny_nextOf_list_item (h1.extBut hs₁.extBut D.i1z) (hl1.extBut hs₁.extBut D.l1z) hx fun h₂ h1₂ hs₂ => wpAny_pure ?_)
  have hTO₂ : IsTri h₂ TO a b c := hs₂.extBut _ _ D.TOi1 (hs₁.extBut _ _ D.TOz hTO)
  refine wpAny_bind (wpAny_seqItems hTO₂ rfl ?_)
  refine wpAny_bind (updateSeq_tri hTO₂ fun h₃ hTO₃ hs₃ => ?_)
  replace hTO₃ : IsTri h₃ TO x b c := hTO₃
  refine wpAny_bind (wpAny_letGo (wpAny_pure ?_))

  refine wpAny_bind (wpAny_bind (wpAny_onRaise ?_))
  show wpAny _ _ (Builtin.SmallTypes.nextOf (.ref i2) >>= _) _ _ _
  refine wpAny_bind (wpAny_nextOf_list_item (((h2.extBut hs₁.extBut D.i2z).extBut hs₂.extBut D.i12.symm).extBut hs₃.extBut D.TOi2.symm)
    (((hl2.extBut hs₁.extBut D.l2z).extBut hs₂.extBut D.l2i1).extBut hs₃.extBut D.l2TO) hy fun h₄ h2₄ hs₄ => wpAny_pure ?_)
  have hTO₄ : IsTri h₄ TO x b c := hs₄.extBut _ _ D.TOi2 hTO₃
  refine wpAny_bind (wpAny_seqItems hTO₄ rfl ?_)
  refine wpAny_bind (updateSeq_tri hTO₄ fun h₅ hTO₅ hs₅ => ?_)
  replace hTO₅ : IsTri h₅ TO x y c := hTO₅
  refine wpAny_bind (wpAny_letGo (wpAny_pure ?_))

  refine wpAny_bind (wpAny_bind (wpAny_onRaise ?_))
  show wpAny _ _ (Builtin.SmallTypes.nextOf (.ref i3) >>= _) _ _ _
  refine wpAny_bind (wpAny_nextOf_list_item (((((h3.extBut hs₁.extBut D.i3z).extBut hs₂.extBut D.i13.symm).extBut hs₃.extBut D.TOi3.symm).extBut hs₄.extBut D.i23.symm).extBut hs₅.extBut D.TOi3.symm)
    (((((hl3.extBut hs₁.extBut D.l3z).extBut hs₂.extBut D.l3i1).extBut hs₃.extBut D.l3TO).extBut hs₄.extBut D.l3i2).extBut hs₅.extBut D.l3TO) hu fun h₆ h3₆ hs₆ => wpAny_pure ?_)
  have hTO₆ : IsTri h₆ TO x y c := hs₆.extBut _ _ D.TOi3 hTO₅
  refine wpAny_bind (wpAny_seqItems hTO₆ rfl ?_)
  refine wpAny_bind (updateSeq_tri hTO₆ fun h₇ hTO₇ hs₇ => ?_)
  replace hTO₇ : IsTri h₇ TO x y u := hTO₇
  refine wpAny_bind (wpAny_letGo (wpAny_pure (wpAny_pure ?_)))

  refine wpAny_bind (wpAny_seqItems hTO₇ rfl ?_)
  refine wpAny_bind (wpAny_newTuple ?_)
  have hsz : h₇.objs.size = s.heap.objs.size := by rw [hs₇.1, hs₆.1, hs₅.1, hs₄.1, hs₃.1, hs₂.1, hs₁.1]
  have hz₇ : IsZip h₇ z TI TO .ellipsis := hs₇.extBut _ _ D.TOz.symm (hs₆.extBut _ _ D.i3z.symm (hs₅.extBut _ _ D.TOz.symm (hs₄.extBut _ _ D.i2z.symm (hs₃.extBut _ _ D.TOz.symm (hs₂.extBut _ _ D.i1z.symm hz₁)))))
  have hk₇ : ∀ c o, c ≠ z → c ≠ TO → c ≠ i1 → c ≠ i2 → c ≠ i3 → s.heap.get? c = some o → h₇.get? c = some o := fun c o c1 c2 c3 c4 c5 e =>
    hs₇.extBut _ _ c2 (hs₆.extBut _ _ c5 (hs₅.extBut _ _ c2 (hs₄.extBut _ _ c4 (hs₃.extBut _ _ c2 (hs₂.extBut _ _ c3 (hs₁.extBut _ _ c1 e))))))
  have h1₇ : h₇.IsListIter i1 l1 (k1 + 1) := ((((h1₂.extBut hs₃.extBut D.TOi1.symm).extBut hs₄.extBut D.i12).extBut hs₅.extBut D.TOi1.symm).extBut hs₆.extBut D.i13).extBut hs₇.extBut D.TOi1.symm
  have h2₇ : h₇.IsListIter i2 l2 (k2 + 1) := ((h2₄.extBut hs₅.extBut D.TOi2.symm).extBut hs₆.extBut D.i23).extBut hs₇.extBut D.TOi2.symm
  have h3₇ : h₇.IsListIter i3 l3 (k3 + 1) := h3₆.extBut hs₇.extBut D.TOi3.symm
  have hzlt : z < h₇.objs.size := Heap.lt_size hz₇
  show wpAny _ _ (Builtin.SmallTypes.ownedTupleHandOut (.ref z) (.ref h₇.objs.size) >>= _) _ _ _
  refine wpAny_bind ?_
  unfold Builtin.SmallTypes.ownedTupleHandOut
  have hz₈ : IsZip (h₇.push { cls := .type "tuple", data := .seq #[x, y, u] }) z TI TO .ellipsis := Heap.get?_push_of_some _ hz₇
  refine wpAny_bind (wpAny_setField_rec hz₈ (by simp) fun h₉ hz₉ hs₉ => ?_)
  replace hz₉ : IsZip h₉ z TI TO (rawInt h₇.objs.size) := hz₉
  refine wpAny_setField_rec hz₉ (by simp) fun h₁₀ hz₁₀ hs₁₀ => ?_
  replace hz₁₀ : IsZip h₁₀ z TI TO (rawInt h₇.objs.size) := hz₁₀
  have up : ∀ c o, c ≠ z → h₇.get? c = some o → h₁₀.get? c = some o := fun c o c1 e => hs₁₀.extBut _ _ c1 (hs₉.extBut _ _ c1 (Heap.get?_push_of_some _ e))
  have hT : IsTri h₁₀ h₇.objs.size x y u := hs₁₀.extBut _ _ (Nat.ne_of_gt hzlt) (hs₉.extBut _ _ (Nat.ne_of_gt hzlt) (Heap.get?_push_size _ rfl))
  have hz8 : h₁₀.objs.size = h₇.objs.size + 1 := by rw [hs₁₀.1, hs₉.1, Heap.size_push]
  rw [hsz] at hz₁₀ hT hz8
  refine wpAny_pure ⟨_, rfl, ?_⟩
  show Q (.ref h₇.objs.size) _
  rw [hsz]
  exact hQ h₁₀ hz₁₀ (up _ _ D.TOz hTO₇) (h1₇.at fun o e => up _ o D.i1z e) (h2₇.at fun o e => up _ o D.i2z e) (h3₇.at fun o e => up _ o D.i3z e) hT hz8 fun c o c1 c2 c3 c4 c5 e => up c o c1 (hk₇ c o c1 c2 c3 c4 c5 e)
theorem zip3_next_end {z TI TO i1 i2 i3 l1 l2 l3 : Addr} {k1 k2 k3 : Nat} {xs ys zs : Array Value} {a b c : Value} {Q : Fin → Shared → Prop} (hh : A.handled = none) (D : ZipApart3 z TI TO i1 i2 i3 l1 l2 l3)
    (hz : IsZip s.heap z TI TO .none) (hTI : IsTri s.heap TI (.ref i1) (.ref i2) (.ref i3)) (hTO : IsTri s.heap TO a b c)
    (h1 : s.heap.IsListIter i1 l1 k1) (h2 : s.heap.IsListIter i2 l2 k2) (h3 : s.heap.IsListIter i3 l3 k3) (hl1 : s.heap.IsList l1 xs) (hl2 : s.heap.IsList l2 ys) (hl3 : s.heap.IsList l3 zs) (hend : xs[k1]? = none ∨ ys[k2]? = none ∨ zs[k3]? = none)
    (hE : ∀ h' e, (∀ c o, c ≠ z → c ≠ TO → c ≠ i1 → c ≠ i2 → c ≠ i3 → s.heap.get? c = some o → h'.get? c = some o) → (∃ o, h'.get? e = some o ∧ o.cls = .type "StopIteration") → E (.ref e) { s with heap := h' }) :
    wpAny (model prog w) A (Builtin.«zip.__next__» ⟨[.ref z], []⟩) Q E s := by
  show wpAny _ _ (field (.ref z) 2 >>= _) _ _ _
  refine wpAny_bind (wpAny_field hz rfl (x := .bool false) rfl ?_)
  show wpAny _ _ (field (.ref z) 3 >>= _) _ _ _
  refine wpAny_bind (wpAny_field hz rfl (x := .ref TI) rfl ?_)
  refine wpAny_bind (wpAny_seqItems hTI rfl ?_)
  show wpAny _ _ (Builtin.SmallTypes.ownedTupleIsFree (.ref z) >>= _) _ _ _
  refine wpAny_bind ?_
  unfold Builtin.SmallTypes.ownedTupleIsFree
  refine wpAny_bind (wpAny_field hz rfl (x := .none) rfl (wpAny_pure ?_))
  simp only [if_true]
  refine wpAny_bind (wpAny_rule ?_)
  refine wpAny_bind (wpAny_field hz rfl (x := .ref TO) rfl ?_)
  refine wpAny_bind (wpAny_setField_rec hz (by simp) fun h₁ hz₁ hs₁ => ?_)
  replace hz₁ : IsZip h₁ z TI TO .ellipsis := hz₁
  refine wpAny_bind ?_
  simp only [List.zipIdx_cons, List.zipIdx_nil, List.forIn_cons, List.forIn_nil]
  refine wpAny_bind (wpAny_bind (wpAny_onRaise ?_))
  show wpAny _ _ (Builtin.SmallTypes.nextOf (.ref i1) >>= _) _ _ _
  cases hx : xs[k1]? with
  | none =>
    refine wpAny_bind (wpAny_nextOf_list_end hh (h1.extBut hs₁.extBut D.i1z) (hl1.extBut hs₁.extBut D.l1z) hx fun h₂ e hs₂ he => ?_)
    obtain ⟨oe, hoe, hce⟩ := he
    have hz₂ : IsZip h₂ z TI TO .ellipsis := hs₂ _ _ D.i1z.symm hz₁
    have hez : e ≠ z := fun x => by subst x; rw [hz₂] at hoe; cases hoe; simp at hce
    refine wpAny_setField_rec hz₂ (by simp) fun h₃ _ hs₃ => hE h₃ e (fun c o c1 _ c3 _ _ x => hs₃.extBut _ _ c1 (hs₂ _ _ c3 (hs₁.extBut _ _ c1 x))) ⟨oe, hs₃.extBut _ _ hez hoe, hce⟩
  | some x =>
    refine wpAny_bind (wpAny_nextOf_list_item (h1.extBut hs₁.extBut D.i1z) (hl1.extBut hs₁.extBut D.l1z) hx fun h₂ h1₂ hs₂ => wpAny_pure ?_)
    have hTO₂ : IsTri h₂ TO a b c := hs₂.extBut _ _ D.TOi1 (hs₁.extBut _ _ D.TOz hTO)
    refine wpAny_bind (wpAny_seqItems hTO₂ rfl ?_)
    refine wpAny_bind (updateSeq_tri hTO₂ fun h₃ hTO₃ hs₃ => ?_)
    replace hTO₃ : IsTri h₃ TO x b c := hTO₃
    refine wpAny_bind (wpAny_letGo (wpAny_pure ?_))
    refine wpAny_bind (wpAny_bind (wpAny_onRaise ?_))
    show wpAny _ _ (Builtin.SmallTypes.nextOf (.ref i2) >>= _) _ _ _
    cases hy : ys[k2]? with
    | none =>
      refine wpAny_bind (wpAny_nextOf_list_end hh (((h2.extBut hs₁.extBut D.i2z).extBut hs₂.extBut D.i12.symm).extBut hs₃.extBut D.TOi2.symm)
        (((hl2.extBut hs₁.extBut D.l2z).extBut hs₂.extBut D.l2i1).extBut hs₃.extBut D.l2TO) hy fun h₄ e hs₄ he => ?_)
      obtain ⟨oe, hoe, hce⟩ := he
      have hz₄ : IsZip h₄ z TI TO .ellipsis := hs₄ _ _ D.i2z.symm (hs₃.extBut _ _ D.TOz.symm (hs₂.extBut _ _ D.i1z.symm hz₁))
      have hez : e ≠ z := fun x => by subst x; rw [hz₄] at hoe; cases hoe; simp at hce
      refine wpAny_setField_rec hz₄ (by simp) fun h₅ _ hs₅ => hE h₅ e (fun c o c1 c2 c3 c4 _ x => hs₅.extBut _ _ c1 (hs₄ _ _ c4 (hs₃.extBut _ _ c2 (hs₂.extBut _ _ c3 (hs₁.extBut _ _ c1 x))))) ⟨oe, hs₅.extBut _ _ hez hoe, hce⟩
    | some y =>
      have hu : zs[k3]? = none := by
        rcases hend with q | q | q
        · rw [hx] at q; cases q
        · rw [hy] at q; cases q
        · exact q
      refine wpAny_bind (wpAny_nextOf_list_item (((h2.extBut hs₁.extBut D.i2z).extBut hs₂.extBut D.i12.symm).extBut hs₃.extBut D.TOi2.symm)
        (((hl2.extBut hs₁.extBut D.l2z).extBut hs₂.extBut D.l2i1).extBut hs₃.extBut D.l2TO) hy fun h₄ h2₄ hs₄ => wpAny_pure ?_)
      have hTO₄ : IsTri h₄ TO x b c := hs₄.extBut _ _ D.TOi2 hTO₃
      refine wpAny_bind (wpAny_seqItems hTO₄ rfl ?_)
      refine wpAny_bind (updateSeq_tri hTO₄ fun h₅ hTO₅ hs₅ => ?_)
      refine wpAny_bind (wpAny_letGo (wpAny_pure ?_))
      refine wpAny_bind (wpAny_bind (wpAny_onRaise ?_))
      show wpAny _ _ (Builtin.SmallTypes.nextOf (.ref i3) >>= _) _ _ _
      refine wpAny_bind (wpAny_nextOf_list_end hh (((((h3.extBut hs₁.extBut D.i3z).extBut hs₂.extBut D.i13.symm).extBut hs₃.extBut D.TOi3.symm).extBut hs₄.extBut D.i23.symm).extBut hs₅.extBut D.TOi3.symm)
        (((((hl3.extBut hs₁.extBut D.l3z).extBut hs₂.extBut D.l3i1).extBut hs₃.extBut D.l3TO).extBut hs₄.extBut D.l3i2).extBut hs₅.extBut D.l3TO) hu fun h₆ e hs₆ he => ?_)
      obtain ⟨oe, hoe, hce⟩ := he
      have hz₆ : IsZip h₆ z TI TO .ellipsis := hs₆ _ _ D.i3z.symm (hs₅.extBut _ _ D.TOz.symm (hs₄.extBut _ _ D.i2z.symm (hs₃.extBut _ _ D.TOz.symm (hs₂.extBut _ _ D.i1z.symm hz₁))))
      have hez : e ≠ z := fun x => by subst x; rw [hz₆] at hoe; cases hoe; simp at hce
      refine wpAny_setField_rec hz₆ (by simp) fun h₇ _ hs₇ => hE h₇ e (fun c o c1 c2 c3 c4 c5 x => hs₇.extBut _ _ c1 (hs₆ _ _ c5 (hs₅.extBut _ _ c2 (hs₄.extBut _ _ c4 (hs₃.extBut _ _ c2 (hs₂.extBut _ _ c3 (hs₁.extBut _ _ c1 x))))))) ⟨oe, hs₇.extBut _ _ hez hoe, hce⟩
theorem pyNext_zip3_item {z TI TO i1 i2 i3 l1 l2 l3 : Addr} {k1 k2 k3 : Nat} {xs ys zs : Array Value} {x y u a b c : Value} {Q : Option Value → Shared → Prop} (D : ZipApart3 z TI TO i1 i2 i3 l1 l2 l3)
    (hz : IsZip s.heap z TI TO .none) (hTI : IsTri s.heap TI (.ref i1) (.ref i2) (.ref i3)) (hTO : IsTri s.heap TO a b c)
    (h1 : s.heap.IsListIter i1 l1 k1) (h2 : s.heap.IsListIter i2 l2 k2) (h3 : s.heap.IsListIter i3 l3 k3) (hl1 : s.heap.IsList l1 xs) (hl2 : s.heap.IsList l2 ys) (hl3 : s.heap.IsList l3 zs) (hx : xs[k1]? = some x) (hy : ys[k2]? = some y) (hu : zs[k3]? = some u)
    (hQ : ∀ h', IsZip h' z TI TO (rawInt s.heap.objs.size) → IsTri h' TO x y u → h'.IsListIter i1 l1 (k1 + 1) → h'.IsListIter i2 l2 (k2 + 1) → h'.IsListIter i3 l3 (k3 + 1) → IsTri h' s.heap.objs.size x y u → h'.objs.size = s.heap.objs.size + 1 →
      (∀ c o, c ≠ z → c ≠ TO → c ≠ i1 → c ≠ i2 → c ≠ i3 → s.heap.get? c = some o → h'.get? c = some o) → Q (some (.ref s.heap.objs.size)) { s with heap := h' }) :
    wpAny (model prog w) A (pyNext (.ref z)) Q E s := by
  have hT : s.TypeIs (.ref z) "zip" := ⟨_, hz, rfl⟩
  unfold pyNext
  exact wpAny_bind (wpAny_attempt (wpAny_callSpecial?_slot (name := Str.ofString "__next__") hT PySem.F.slot_zip_next
    (wpAny_call_entry PySem.F.slot_zip_next hT PySem.F.entry_zip_next
      (zip3_next_item D hz hTI hTO h1 h2 h3 hl1 hl2 hl3 hx hy hu fun h' a1 a2 a3 a4 a5 a6 a7 a8 => wpAny_pure (hQ h' a1 a2 a3 a4 a5 a6 a7 a8)) (PySem.F.args_zip_next_1 _))))
theorem pyNext_zip3_end {z TI TO i1 i2 i3 l1 l2 l3 : Addr} {k1 k2 k3 : Nat} {xs ys zs : Array Value} {a b c : Value} {Q : Option Value → Shared → Prop} (hh : A.handled = none) (D : ZipApart3 z TI TO i1 i2 i3 l1 l2 l3)
    (hz : IsZip s.heap z TI TO .none) (hTI : IsTri s.heap TI (.ref i1) (.ref i2) (.ref i3)) (hTO : IsTri s.heap TO a b c)
    (h1 : s.heap.IsListIter i1 l1 k1) (h2 : s.heap.IsListIter i2 l2 k2) (h3 : s.heap.IsListIter i3 l3 k3) (hl1 : s.heap.IsList l1 xs) (hl2 : s.heap.IsList l2 ys) (hl3 : s.heap.IsList l3 zs) (hend : xs[k1]? = none ∨ ys[k2]? = none ∨ zs[k3]? = none)
    (hQ : ∀ h', (∀ c o, c ≠ z → c ≠ TO → c ≠ i1 → c ≠ i2 → c ≠ i3 → s.heap.get? c = some o → h'.get? c = some o) → Q none { s with heap := h' }) : wpAny (model prog w) A (pyNext (.ref z)) Q E s := by
  have hT : s.TypeIs (.ref z) "zip" := ⟨_, hz, rfl⟩
  unfold pyNext
  refine wpAny_bind (wpAny_attempt (wpAny_callSpecial?_slot (name := Str.ofString "__next__") hT PySem.F.slot_zip_next
    (wpAny_call_entry PySem.F.slot_zip_next hT PySem.F.entry_zip_next (zip3_next_end hh D hz hTI hTO h1 h2 h3 hl1 hl2 hl3 hend fun h' e hk he => ?_) (PySem.F.args_zip_next_1 _))))
  obtain ⟨o, ho, hc⟩ := he
  refine wpAny_bind (wpAny_isInstance (T := "StopIteration") (b := true) ⟨o, ho, hc⟩ isSubtype_stop ?_)
  exact wpAny_pure (hQ _ hk)
end
abbrev z3H1 (h : Heap) (l1 : Addr) : Heap := h.push { cls := .type "list_iterator", data := .fields #[.ref l1, .int 0 0] }
abbrev z3H2 (h : Heap) (l1 l2 : Addr) : Heap := (z3H1 h l1).push { cls := .type "list_iterator", data := .fields #[.ref l2, .int 0 0] }
abbrev z3H3 (h : Heap) (l1 l2 l3 : Addr) : Heap := (z3H2 h l1 l2).push { cls := .type "list_iterator", data := .fields #[.ref l3, .int 0 0] }
abbrev z3H4 (h : Heap) (l1 l2 l3 : Addr) : Heap := (z3H3 h l1 l2 l3).push { cls := .type "tuple", data := .seq #[.ref h.objs.size, .ref (z3H1 h l1).objs.size, .ref (z3H2 h l1 l2).objs.size] }
abbrev z3H5 (h : Heap) (l1 l2 l3 : Addr) : Heap := (z3H4 h l1 l2 l3).push { cls := .type "tuple", data := .seq #[.none, .none, .none] }
abbrev z3H6 (h : Heap) (l1 l2 l3 : Addr) : Heap := (z3H5 h l1 l2 l3).push { cls := .type "zip", data := .fields #[.none, .bool false, .bool false, .ref (z3H3 h l1 l2 l3).objs.size, .ref (z3H4 h l1 l2 l3).objs.size] }
set_option maxHeartbeats 2000000 in
theorem meets_zip3_new (l1 l2 l3 : Addr) (xs ys zs : Array Value) :
    Meets (Builtin.«zip.__new__» ⟨[.type "zip", .ref l1, .ref l2, .ref l3], []⟩) (fun _ R s => s.heap.IsList l1 xs ∧ s.heap.IsList l2 ys ∧ s.heap.IsList l3 zs ∧
      R (.ok (.ret (.ref (z3H5 s.heap l1 l2 l3).objs.size))) { s with heap := z3H6 s.heap l1 l2 l3 }) :=
  .of_wp fun prog w A R s h => by
    obtain ⟨hp, g, d, tk, os⟩ := s; obtain ⟨hl1, hl2, hl3, h⟩ := h
    have hsub := sub_zip
    have hL1 : Heap.IsList (Shared.heap ⟨hp, g, d, tk, os⟩) l1 xs := hl1
    have hL2 : Heap.IsList (Shared.heap ⟨hp.push { cls := .type "list_iterator", data := .fields #[.ref l1, .int 0 0] }, g, d, tk, os⟩) l2 ys := Heap.IsList.push hl2 _
    have hL3a : (hp.push { cls := .type "list_iterator", data := .fields #[.ref l1, .int 0 0] }).IsList l3 zs := Heap.IsList.push hl3 _
    have hL3 : Heap.IsList (Shared.heap ⟨(hp.push { cls := .type "list_iterator", data := .fields #[.ref l1, .int 0 0] }).push { cls := .type "list_iterator", data := .fields #[.ref l2, .int 0 0] }, g, d, tk, os⟩) l3 zs := Heap.IsList.push hL3a _
    wp_walk using wpAny_pyIter_list hL1, wpAny_pyIter_list hL2, wpAny_pyIter_list hL3
    exact ⟨_, rfl, h⟩
section
variable {prog : Program} {w : World} {A : Around} {E : Value → Shared → Prop} {s : Shared}
theorem call_zip_3 {l1 l2 l3 : Addr} {xs ys zs : Array Value} {Q : Value → Shared → Prop} (hl1 : s.heap.IsList l1 xs) (hl2 : s.heap.IsList l2 ys) (hl3 : s.heap.IsList l3 zs)
    (h : ∀ h', IsZip h' (s.heap.objs.size + 5) (s.heap.objs.size + 3) (s.heap.objs.size + 4) .none → IsTri h' (s.heap.objs.size + 3) (.ref s.heap.objs.size) (.ref (s.heap.objs.size + 1)) (.ref (s.heap.objs.size + 2)) →
      IsTri h' (s.heap.objs.size + 4) .none .none .none → h'.IsListIter s.heap.objs.size l1 0 → h'.IsListIter (s.heap.objs.size + 1) l2 0 → h'.IsListIter (s.heap.objs.size + 2) l3 0 → h'.objs.size = s.heap.objs.size + 6 →
      (∀ c o, s.heap.get? c = some o → h'.get? c = some o) → Q (.ref (s.heap.objs.size + 5)) { s with heap := h' }) :
    wpAny (model prog w) A (call (.type "zip") [.ref l1, .ref l2, .ref l3]) Q E s := by
  refine callType_new PySem.F.called_zip (by decide) (typeCall_zip3 _ _ _) (newCall_zip3 _ _ _) (fun obj => args_object_init4 obj _ _ _) PySem.F.entry_zip_new
    (meets_zip3_new l1 l2 l3 xs ys zs) ⟨hl1, hl2, hl3, ?_⟩
  have z1 : (z3H1 s.heap l1).objs.size = s.heap.objs.size + 1 := Heap.size_push ..
  have z2 : (z3H2 s.heap l1 l2).objs.size = s.heap.objs.size + 2 := by rw [Heap.size_push, z1]
  have z3 : (z3H3 s.heap l1 l2 l3).objs.size = s.heap.objs.size + 3 := by rw [Heap.size_push, z2]
  have z4 : (z3H4 s.heap l1 l2 l3).objs.size = s.heap.objs.size + 4 := by rw [Heap.size_push, z3]
  have z5 : (z3H5 s.heap l1 l2 l3).objs.size = s.heap.objs.size + 5 := by rw [Heap.size_push, z4]
  have z6 : (z3H6 s.heap l1 l2 l3).objs.size = s.heap.objs.size + 6 := by rw [Heap.size_push, z5]
  have g6 : (z3H6 s.heap l1 l2 l3).get? (z3H5 s.heap l1 l2 l3).objs.size = some _ := Heap.get?_push_size _ rfl
  have g5 : (z3H6 s.heap l1 l2 l3).get? (z3H4 s.heap l1 l2 l3).objs.size = some _ := Heap.get?_push_of_some _ (Heap.get?_push_size _ rfl)
  have g4 : (z3H6 s.heap l1 l2 l3).get? (z3H3 s.heap l1 l2 l3).objs.size = some _ := Heap.get?_push_of_some _ (Heap.get?_push_of_some _ (Heap.get?_push_size _ rfl))
  have g3 : (z3H6 s.heap l1 l2 l3).get? (z3H2 s.heap l1 l2).objs.size = some _ := Heap.get?_push_of_some _ (Heap.get?_push_of_some _ (Heap.get?_push_of_some _ (Heap.get?_push_size _ rfl)))
  have g2 : (z3H6 s.heap l1 l2 l3).get? (z3H1 s.heap l1).objs.size = some _ := Heap.get?_push_of_some _ (Heap.get?_push_of_some _ (Heap.get?_push_of_some _ (Heap.get?_push_of_some _ (Heap.get?_push_size _ rfl))))
  have g1 : (z3H6 s.heap l1 l2 l3).get? s.heap.objs.size = some _ := Heap.get?_push_of_some _ (Heap.get?_push_of_some _ (Heap.get?_push_of_some _ (Heap.get?_push_of_some _ (Heap.get?_push_of_some _ (Heap.get?_push_size _ rfl)))))
  show _ ∧ _
  rw [z3, z4, z5] at g6
  rw [z1, z2, z3] at g4
  rw [z4] at g5
  rw [z1] at g2
  rw [z2] at g3
  rw [z5]
  exact ⟨⟨_, g6, rfl⟩, h _ g6 g4 g5 ⟨_, g1, rfl, rfl⟩ ⟨_, g2, rfl, rfl⟩ ⟨_, g3, rfl, rfl⟩ z6 fun c o x =>
    Heap.get?_push_of_some _ (Heap.get?_push_of_some _ (Heap.get?_push_of_some _ (Heap.get?_push_of_some _ (Heap.get?_push_of_some _ (Heap.get?_push_of_some _ x)))))⟩
end
/-- the lists at a, b, c as they stand at each turn, the items in new triples -/
def Itz3 (K : PySem.W.Frag) (a b c : Addr) : It :=
  ⟨fun i H => ∃ (xs ys zs : List V) (x y z : V), SqL K H a xs ∧ SqL K H b ys ∧ SqL K H c zs ∧ xs[i]? = some x ∧ ys[i]? = some y ∧ zs[i]? = some z,
    fun i H v H' => ∃ T x y z, v = .ref T ∧ H T = none ∧ H' = upd H T (.tup [x, y, z]) ∧ (∀ xs, SqL K H a xs → xs[i]? = some x) ∧ (∀ ys, SqL K H b ys → ys[i]? = some y) ∧ ∀ zs, SqL K H c zs → zs[i]? = some z,
    fun i H => ∃ xs ys zs : List V, SqL K H a xs ∧ SqL K H b ys ∧ SqL K H c zs ∧ (xs.length ≤ i ∨ ys.length ≤ i ∨ zs.length ≤ i)⟩
theorem turn_zip3 {P : Program} {w : World} {K : PySem.W.Frag} {elts : List Expr} {kk : Nat} {tpos : Pos} {a b c z TI TO i1 i2 i3 : Addr} (D : ZipApart3 z TI TO i1 i2 i3 a b c) :
    Turn P w K (.Tuple elts kk tpos) (Itz3 K a b c) [z, TI, TO, i1, i2, i3] z (fun i h => IsZip h z TI TO .none ∧ IsTri h TI (.ref i1) (.ref i2) (.ref i3) ∧ (∃ x y u, IsTri h TO x y u) ∧ h.IsListIter i1 a i ∧ h.IsListIter i2 b i ∧ h.IsListIter i3 c i) where
  mem := by simp
  obj := fun i h st c hc => by
    obtain ⟨hz, hTI, ⟨x, y, u, hTO⟩, ⟨o1, e1, _, d1⟩, ⟨o2, e2, _, d2⟩, ⟨o3, e3, _, d3⟩⟩ := st
    have e' : c = z ∨ c = TI ∨ c = TO ∨ c = i1 ∨ c = i2 ∨ c = i3 := by simpa using hc
    rcases e' with q | q | q | q | q | q
    · rw [q]; exact ⟨_, hz, fun v q => nomatch q⟩
    · rw [q]; exact ⟨_, hTI, fun v q => nomatch q⟩
    · rw [q]; exact ⟨_, hTO, fun v q => nomatch q⟩
    · rw [q]; exact ⟨o1, e1, fun v q => by rw [d1] at q; cases q⟩
    · rw [q]; exact ⟨o2, e2, fun v q => by rw [d2] at q; cases q⟩
    · rw [q]; exact ⟨o3, e3, fun v q => by rw [d3] at q; cases q⟩
  keep := fun i h h' st k => by
    obtain ⟨hz, hTI, ⟨x, y, u, hTO⟩, h1, h2, h3⟩ := st
    exact ⟨k z (by simp) _ hz, k TI (by simp) _ hTI, ⟨x, y, u, k TO (by simp) _ hTO⟩, h1.at fun o q => k i1 (by simp) o q, h2.at fun o q => k i2 (by simp) o q, h3.at fun o q => k i3 (by simp) o q⟩
  item := by
    intro X hP hw hK hc i pins s σ H E I hf st hg
    subst hP hw hK
    obtain ⟨hz, hTI, ⟨x0, y0, u0, hTO⟩, h1, h2, h3⟩ := st
    obtain ⟨xs, ys, zs, x, y, u, hqx, hqy, hqz, hx, hy, hu⟩ := hg
    obtain ⟨its, rv, p, _⟩ := I.list hqx
    obtain ⟨its2, rv2, p2, _⟩ := I.list hqy
    obtain ⟨its3, rv3, p3, _⟩ := I.list hqz
    obtain ⟨u1, hu1, ru1⟩ := rv.get hx
    obtain ⟨u2, hu2, ru2⟩ := rv2.get hy
    obtain ⟨u3, hu3, ru3⟩ := rv3.get hu
    have hzl : z < s.heap.objs.size := Heap.lt_size hz
    refine pyNext_zip3_item D hz hTI hTO h1 h2 h3 p.isList p2.isList p3.isList (x := u1) (y := u2) (u := u3) (by simpa using hu1) (by simpa using hu2) (by simpa using hu3) fun h' z' TO' h1' h2' h3' hT hsz hk => ?_
    refine ⟨_, rfl, wpAny_letOwnedTupleGo_zip (s := { s with heap := h' }) z' fun h'' z'' sb => ?_⟩
    have hT2 : h''.get? s.heap.objs.size = some { cls := .type "tuple", data := .seq #[u1, u2, u3] } := (sb.2 _ (Nat.ne_of_gt hzl)).trans hT
    have new : ObjOk X.prog X.w (upd H s.heap.objs.size (.tup [x, y, u])) h'' s.heap.objs.size (.tup [x, y, u]) :=
      ⟨by show 3 ≤ sizeLine; decide, [u1, u2, u3], .cons ru1 (.cons ru2 (.cons ru3 .nil)), ⟨_, hT2, rfl, _, rfl⟩⟩
    have I1 : Inv X pins σ (upd H s.heap.objs.size (.tup [x, y, u])) { s with heap := h'' } :=
      I.turnedNew (t' := s.toks) (ch := [z, TI, TO, i1, i2, i3]) (fun c o hb q => (sb.2 c (fun q' => hb (by simp [q']))).trans (hk c o (fun q' => hb (by simp [q'])) (fun q' => hb (by simp [q'])) (fun q' => hb (by simp [q'])) (fun q' => hb (by simp [q'])) (fun q' => hb (by simp [q'])) q)) hf (Nat.le_refl _) new
    refine ⟨.ref s.heap.objs.size, _, I1, rfl, ⟨_, x, y, u, rfl, I.hok.fresh (Nat.le_refl _), rfl, fun l hl => by rw [I.list_inj hl hqx]; exact hx, fun l hl => by rw [I.list_inj hl hqy]; exact hy, fun l hl => by rw [I.list_inj hl hqz]; exact hu⟩, ⟨z'', ?_, ⟨u1, u2, u3, ?_⟩, ?_, ?_, ?_⟩, fun c hcm => ?_⟩
    · exact (sb.2 _ D.TIz).trans (hk _ _ D.TIz D.TITO D.TIi1 D.TIi2 D.TIi3 hTI)
    · exact (sb.2 _ D.TOz).trans TO'
    · exact h1'.at fun o q => (sb.2 _ D.i1z).trans q
    · exact h2'.at fun o q => (sb.2 _ D.i2z).trans q
    · exact h3'.at fun o q => (sb.2 _ D.i3z).trans q
    · have hlt : c < s.heap.objs.size := by
        have e' : c = z ∨ c = TI ∨ c = TO ∨ c = i1 ∨ c = i2 ∨ c = i3 := by simpa using hcm
        rcases e' with q | q | q | q | q | q
        · rw [q]; exact hzl
        · rw [q]; exact Heap.lt_size hTI
        · rw [q]; exact Heap.lt_size hTO
        · rw [q]; obtain ⟨_, e1, _⟩ := h1; exact Heap.lt_size e1
        · rw [q]; obtain ⟨_, e2, _⟩ := h2; exact Heap.lt_size e2
        · rw [q]; obtain ⟨_, e3, _⟩ := h3; exact Heap.lt_size e3
      rw [upd_ne (Nat.ne_of_lt hlt)]
      exact (hf c hcm).1
  done := by
    intro X hP hw hK hc i pins s σ H E I hf st hg
    subst hP hw hK
    obtain ⟨hz, hTI, ⟨x0, y0, u0, hTO⟩, h1, h2, h3⟩ := st
    obtain ⟨xs, ys, zs, hqx, hqy, hqz, hend⟩ := hg
    obtain ⟨its, rv, p, _⟩ := I.list hqx
    obtain ⟨its2, rv2, p2, _⟩ := I.list hqy
    obtain ⟨its3, rv3, p3, _⟩ := I.list hqz
    have l1 := rv.length
    have l2 := rv2.length
    have l3 := rv3.length
    have he : its.toArray[i]? = none ∨ its2.toArray[i]? = none ∨ its3.toArray[i]? = none := by
      rcases hend with q | q | q
      · exact .inl (by simp; omega)
      · exact .inr (.inl (by simp; omega))
      · exact .inr (.inr (by simp; omega))
    exact pyNext_zip3_end (I.ok.hd hc) D hz hTI hTO h1 h2 h3 p.isList p2.isList p3.isList he fun h' hk => ⟨rfl, I.turnedL (t' := s.toks) (ch := [z, TI, TO, i1, i2, i3]) (fun c o hb q =>
      hk c o (fun q' => hb (by simp [q'])) (fun q' => hb (by simp [q'])) (fun q' => hb (by simp [q'])) (fun q' => hb (by simp [q'])) (fun q' => hb (by simp [q'])) q) hf⟩
  self := fun A i s Q E st h => wpAny_pyIter_zip st.1 h
theorem apart3 (n a b c : Nat) (ha : a < n) (hb : b < n) (hc : c < n) : ZipApart3 (n + 5) (n + 3) (n + 4) n (n + 1) (n + 2) a b c := by
  constructor <;> (show ¬ (_ : Nat) = _; omega)
def iZip3 (K : PySem.W.Frag) (ta : TA) : TI := fun σ H R => ta σ H fun vs H1 => ∃ a b c xs ys zs, vs = [.ref a, .ref b, .ref c] ∧ SqL K H1 a xs ∧ SqL K H1 b ys ∧ SqL K H1 c zs ∧ R (Itz3 K a b c) H1
theorem pi_zip3 {X : Cx} {e : Expr} {es : List Expr} {ta : TA} {p pos tpos : Pos} {elts : List Expr} {kk : Nat} (hg : Gl X "zip") (hm : X.mg "zip" = none) (ha : PA X (e :: es) ta)
    (hs : starEach (e :: es) X.env = (false, eval e X.env) :: starEach es X.env) (hpl : (backTo pos (starEach es X.env)).any (·.1) = false) :
    PI X (.Tuple elts kk tpos) (.Call (.Name "zip" p) (e :: es) [] pos) (iZip3 X.K ta) := by
  refine ⟨fun pins s σ H R I h => ?_⟩
  refine Call_ (ld_blt I hg hm PyProof.Rows.boot_zip (PyProof.Rows.callWith_type1 (thn (ha.run pos pins s σ H _ I h) fun us s1 ⟨vs, H1, I1, r1, q1⟩ => ?_) hs hpl))
  obtain ⟨a, b, c, xs, ys, zs, ex, hqx, hqy, hqz, q⟩ := q1
  subst ex
  cases r1 with
  | cons r rr =>
    cases rr with
    | cons r' rr =>
      cases rr with
      | cons r'' rr =>
        cases rr
        cases r
        cases r'
        cases r''
        obtain ⟨its, rv, p1, _⟩ := I1.list hqx
        obtain ⟨its2, rv2, p2, _⟩ := I1.list hqy
        obtain ⟨its3, rv3, p3, _⟩ := I1.list hqz
        have la : a < s1.heap.objs.size := p1.lt
        have lb : b < s1.heap.objs.size := p2.lt
        have lc : c < s1.heap.objs.size := p3.lt
        refine call_zip_3 p1.isList p2.isList p3.isList fun h' hz hTI hTO h1 h2 h3 hsz hk => wpAny_pyIter_zip hz ?_
        have I2 : Inv X pins σ H1 { s1 with heap := h' } := I1.kept (t' := s1.toks) hk
        refine ⟨s1.heap.objs.size + 5, [s1.heap.objs.size + 5, s1.heap.objs.size + 3, s1.heap.objs.size + 4, s1.heap.objs.size, s1.heap.objs.size + 1, s1.heap.objs.size + 2], _, _, H1, rfl, I2, turn_zip3 (apart3 s1.heap.objs.size a b c la lb lc), ⟨hz, hTI, ⟨_, _, _, hTO⟩, h1, h2, h3⟩, fun c hcm => ?_, q⟩
        have e' : c = s1.heap.objs.size + 5 ∨ c = s1.heap.objs.size + 3 ∨ c = s1.heap.objs.size + 4 ∨ c = s1.heap.objs.size ∨ c = s1.heap.objs.size + 1 ∨ c = s1.heap.objs.size + 2 := by simpa using hcm
        have hle : s1.heap.objs.size ≤ c := by
          rcases e' with z | z | z | z | z | z <;> rw [z] <;> first | exact Nat.le_add_right _ _ | exact Nat.le_refl _
        exact I1.fpOk hle (I1.hok.fresh hle)
section
variable {X : Cx} {a b c d : Expr} {pos : Pos} {ta tb tc td : TE}
def tChain3 (r r' r'' : R2) (ta tb tc td : TE) : TE := fun σ H Q => ta σ H fun x H1 => tb σ H1 fun y H2 => r x y H2 fun z H3 => ∃ k, z = .bl k ∧
  (if k = true then tc σ H3 fun u H4 => r' y u H4 fun z' H5 => ∃ k', z' = .bl k' ∧ (if k' = true then td σ H5 fun v H6 => r'' u v H6 Q else Q (.bl false) H5) else Q (.bl false) H3)
theorem pe_chain3 {op op' op'' : CmpOp} {r r' r'' : R2} (ho : OpR X (compareOp op) r) (ho' : OpR X (compareOp op') r') (ho'' : OpR X (compareOp op'') r'') (ha : PE X a ta) (hb : PE X b tb) (hc : PE X c tc) (hd : PE X d td)
    (hm : lastMarks [op, op', op''] [b, c, d] = false) : PE X (.Compare a [op, op', op''] [b, c, d] pos) (tChain3 r r' r'' ta tb tc td) := by
  refine ⟨fun pins s σ H Q I h => ?_⟩
  refine Compare_chain (thn (ha.run pins s σ H _ I h) fun v s1 ⟨x, H1, I1, r1, q1⟩ => chain_link (thn (hb.run pins s1 σ H1 _ I1 q1) fun u s2 ⟨y, H2, I2, r2, q2⟩ =>
    thn (ho pins s2 σ H2 x y v u _ I2 r1 r2 q2) fun d s3 ⟨z, H3, I3, r3, k, e, q3⟩ => ?_)) hm
  subst e
  cases r3
  refine wpAny_truthy_bool ?_
  cases k with
  | false => exact ite_ff ⟨.bl false, H3, I3, rfl, q3⟩
  | true =>
    refine ite_tt (chain_link (thn (hc.run pins s3 σ H3 _ I3 q3) fun u4 s4 ⟨z4, H4, I4, r4, q4⟩ => thn (ho' pins s4 σ H4 y z4 u u4 _ I4 r2 r4 q4) fun d5 s5 ⟨z5, H5, I5, r5, k5, e5, q5⟩ => ?_))
    subst e5
    cases r5
    refine wpAny_truthy_bool ?_
    cases k5 with
    | false => exact ite_ff ⟨.bl false, H5, I5, rfl, q5⟩
    | true => exact ite_tt (chain_last (thn (hd.run pins s5 σ H5 _ I5 q5) fun w' s6 ⟨z', H6, I6, r6, q6⟩ => ho'' pins s6 σ H6 z4 z' u4 w' Q I6 r4 r6 q6))
theorem pt_chain3 {op op' op'' : CmpOp} {r r' r'' : R2} (ho : OpR X (compareOp op) r) (ho' : OpR X (compareOp op') r') (ho'' : OpR X (compareOp op'') r'') (ha : PE X a ta) (hb : PE X b tb) (hc : PE X c tc) (hd : PE X d td)
    (hm : lastMarks [op, op', op''] [b, c, d] = false) : PT X (.Compare a [op, op', op''] [b, c, d] pos) (tTest (tChain3 r r' r'' ta tb tc td)) := by
  refine ⟨fun pins s σ H Q I h => ?_⟩
  refine isTrue_chain (thn (ha.run pins s σ H _ I h) fun v s1 ⟨x, H1, I1, r1, q1⟩ => test_link (thn (hb.run pins s1 σ H1 _ I1 q1) fun u s2 ⟨y, H2, I2, r2, q2⟩ =>
    thn (ho pins s2 σ H2 x y v u _ I2 r1 r2 q2) fun d s3 ⟨z, H3, I3, r3, k, e, q3⟩ => ?_)) hm
  subst e
  cases r3
  refine wpAny_truthy_bool ?_
  cases k with
  | false =>
    obtain ⟨k', e', q'⟩ := q3
    cases e'
    exact ite_ff ⟨H3, I3, q'⟩
  | true =>
    refine ite_tt (test_link (thn (hc.run pins s3 σ H3 _ I3 q3) fun u4 s4 ⟨z4, H4, I4, r4, q4⟩ => thn (ho' pins s4 σ H4 y z4 u u4 _ I4 r2 r4 q4) fun d5 s5 ⟨z5, H5, I5, r5, k5, e5, q5⟩ => ?_))
    subst e5
    cases r5
    refine wpAny_truthy_bool ?_
    cases k5 with
    | false =>
      obtain ⟨k', e', q'⟩ := q5
      cases e'
      exact ite_ff ⟨H5, I5, q'⟩
    | true =>
      refine ite_tt (test_last (thn (hd.run pins s5 σ H5 _ I5 q5) fun w' s6 ⟨z', H6, I6, r6, q6⟩ => thn (ho'' pins s6 σ H6 z4 z' u4 w' _ I6 r4 r6 q6) fun d' s7 ⟨z2, H7, I7, r7, k2, e2, q7⟩ => ?_))
      subst e2
      cases r7
      exact wpAny_truthy_bool ⟨H7, I7, q7⟩
end
end MP
set_option Elab.async false
set_option linter.all false
set_option maxRecDepth 100000
set_option autoImplicit false
namespace MP
open PySem PySem.Spec PyProof.Rows L2
variable [Tabs]
section
variable {P : Pg} {G : Sg} {cl : CL} {lv : Lv} {tx : Tx} {X : Cx} {W : WX}
theorem pe_imp {e : Expr} {t t' : TE} (h : PE X e t) (i : ∀ σ H Q, t' σ H Q → t σ H Q) : PE X e t' := ⟨fun pins s σ H Q I q => h.run pins s σ H Q I (i σ H Q q)⟩
theorem pt_imp {e : Expr} {t t' : TT} (h : PT X e t) (i : ∀ σ H Q, t' σ H Q → t σ H Q) : PT X e t' := ⟨fun pins s σ H Q I q => h.run pins s σ H Q I (i σ H Q q)⟩
theorem pa_imp {e : List Expr} {t t' : TA} (h : PA X e t) (i : ∀ σ H Q, t' σ H Q → t σ H Q) : PA X e t' := ⟨fun pos pins s σ H Q I q => h.run pos pins s σ H Q I (i σ H Q q)⟩
theorem opr_ex {f : Value → Value → Sem Value} {r : Bor → R2} (h : ∀ i, OpR X f (r i)) : OpR X f (fun x y H Q => ∃ i, r i x y H Q) := fun pins s σ H x y v u Q I rx ry ⟨i, q⟩ => h i pins s σ H x y v u Q I rx ry q
theorem ixr_ex {r : Bor → R2} (h : ∀ i, IxR X (r i)) : IxR X (fun x y H Q => ∃ i, r i x y H Q) := fun value slice pins s σ H x y v u Q I rx ry ⟨i, q⟩ hs => h i value slice pins s σ H x y v u Q I rx ry q hs
theorem slr_ex {r : Bor → V → Option Int → Option Int → Hp → VK → Prop} (h : ∀ i, SlR X (r i)) : SlR X (fun x l u H Q => ∃ i, r i x l u H Q) := fun pins s σ H x v vl vu lo hi sl Q I rx hs pl pu ⟨i, q⟩ => h i pins s σ H x v vl vu lo hi sl Q I rx hs pl pu q
theorem callr_ex {f : Value} {r : Bor → List V → Hp → VK → Prop} (h : ∀ i, CallR X f (r i)) : CallR X f (fun x H Q => ∃ i, r i x H Q) := fun pins s σ H xs us Q I rx ⟨i, q⟩ => h i pins s σ H xs us Q I rx q
theorem mtr_ex {f : String} {r : Bor → V → List V → Hp → VK → Prop} (h : ∀ i, MtR X f (r i)) : MtR X f (fun x xs H Q => ∃ i, r i x xs H Q) := fun pins s σ H x xs v us Q I rx rs ⟨i, q⟩ => h i pins s σ H x xs v us Q I rx rs q
theorem toPV {B : Bor} {A : List Addr} {H : Hp} {σ : L2.St} {r : R Val} {Q : VK} (p : Post G B W σ (RVr G B) A H r fun _ x _ _ H' => Q x H') : PV G B A H r Q := p.toPV fun _ _ _ _ _ _ _ _ q => q
theorem post_ok {α β : Type} {rl : Rl α β} {B : Bor} {A A' : List Addr} {H H' : Hp} {h' : Hm} {σ : L2.St} {v : α} {x : β} {k : α → β → Hm → List Addr → Hp → Prop} (p : Post G B W σ rl A H (.ok v h') k) (F : Fits G B A' h' H') (n : Next A H A' H') (r : rl A' H' v x) : k v x h' A' H' := p A' H' x F n r
theorem bop_of {o : BOp} {op : Operator} (h : bopIs o op = true) : op = opB o := by
  cases o <;> cases op <;> first | rfl | simp [bopIs] at h
theorem cop_of {o : COp} {op : CmpOp} (h : copIs o op = true) : op = opC o := by
  cases o <;> cases op <;> first | rfl | simp [copIs] at h
theorem behind_of {b : Expr} {op : CmpOp} (h : notSet b = true) : behindInMarks op b = false := by
  cases b <;> first | rfl | simp [notSet] at h
theorem un65 {lv : Nat} {A : Around} (r : Room lv A) : A.units + 65 < cLine := by have := r.un; omega
theorem un1 {lv : Nat} {A : Around} (r : Room lv A) : A.units + 1 < cLine := by have := r.un; omega

theorem snd_var (i : Nat) : Snd P (.var i) where
  e := by
    intro G cl lv tx X W a e h
    simp only [chkE] at h
    split at h
    · rename_i x pos
      simp only [Bool.and_eq_true, decide_eq_true_eq, okName] at h
      obtain ⟨⟨h1, h2⟩, h3, h4⟩ := h
      have b : PE X (.Name x pos) (tE P G cl W (.var i)) := by
        refine pe_imp (pe_var (i := i) (by rw [a.sh.N]; exact h1) (by rw [a.sh.sc]; exact vis_of h2) h3 h4) ?_
        intro σ H Q ⟨B, A, h, e, F, re, p⟩
        simp only [evE] at p
        split at p
        · rename_i v ev
          obtain ⟨x, e1, r⟩ := re.2 i v ev
          exact ⟨x, e1, post_ok p F .refl r⟩
        · exact p.elim
      exact ⟨b, pt_simple b rfl⟩
    · cases h
  a := by intro G cl lv tx X W a es h; simp [chkA] at h
  o := by intro G cl lv tx X W a e h; simp [chkP'] at h
  i := by intro G cl lv tx X W a e tg h; simp [chkI] at h
theorem tE_cst {v : Val} {x : V} (hr : ∀ B A H, RV G B A H v x) : ∀ σ H Q, tE P G cl W (.cst v) σ H Q → tC x σ H Q := by
  intro σ H Q ⟨B, A, h, e, F, re, p⟩
  simp only [evE] at p
  exact post_ok p F .refl (hr B A H)
theorem snd_cst (v : Val) : Snd P (.cst v) where
  e := by
    intro G cl lv tx X W a e h
    simp only [chkE] at h
    unfold chkC at h
    split at h
    · exact ⟨pe_imp pe_non (tE_cst fun _ _ _ => rv_non), pt_simple (pe_imp pe_non (tE_cst fun _ _ _ => rv_non)) rfl⟩
    · rename_i b c k pos
      obtain rfl : b = c := beq_iff_eq.mp h
      exact ⟨pe_imp pe_bl (tE_cst fun _ _ _ => rv_bl), pt_simple (pe_imp pe_bl (tE_cst fun _ _ _ => rv_bl)) rfl⟩
    · rename_i i j k pos
      obtain rfl : i = j := decide_eq_true_eq.mp h
      exact ⟨pe_imp pe_int (tE_cst fun _ _ _ => rv_int), pt_simple (pe_imp pe_int (tE_cst fun _ _ _ => rv_int)) rfl⟩
    · rename_i n x k pos
      have hx : G.txts[n]? = some x := by rw [a.fa.tx]; exact decide_eq_true_eq.mp h
      have hr : ∀ B A H, RV G B A H (.str n) (.str x) := fun _ _ _ => by unfold RV; exact ⟨x, hx, rfl⟩
      exact ⟨pe_imp pe_str (tE_cst hr), pt_simple (pe_imp pe_str (tE_cst hr)) rfl⟩
    · rename_i i x pos
      simp only [Bool.and_eq_true, decide_eq_true_eq] at h
      obtain ⟨g1, g2, g3⟩ := a.glob h.1
      obtain ⟨t, ht⟩ := a.fa.con _ h.2
      have b : PE X (.Name x pos) (tC (.int i)) := pe_glob g1 ht ⟨t, rfl⟩ g2
      exact ⟨pe_imp b (tE_cst fun _ _ _ => rv_int), pt_simple (pe_imp b (tE_cst fun _ _ _ => rv_int)) rfl⟩
    · rename_i pos
      have b : PE X (.Dict [] [] pos) (tE P G cl W (.cst (.dct .own [] []))) := by
        refine pe_imp pe_dnewK ?_
        intro σ H Q ⟨B, A, h, e, F, re, p⟩
        simp only [evE] at p
        intro q hq
        refine (toPV p).ok (F.other hq) (next_new hq) ?_
        unfold RV
        exact ⟨q, [], rfl, ⟨by decide, upd_same, F.new hq, fun _ => F.newB hq⟩, Nat.zero_le _, rfl, .nil⟩
      exact ⟨b, pt_simple b rfl⟩
    · cases h
  a := by intro G cl lv tx X W a es h; simp [chkA] at h
  o := by intro G cl lv tx X W a e h; simp [chkP'] at h
  i := by intro G cl lv tx X W a e tg h; simp [chkI] at h

theorem snd_bin {z : Bool} {o : BOp} {a b : C} (sa : Snd P a) (sb : Snd P b) : Snd P (.bin z o a b) where
  e := by
    intro G cl lv tx X W at_ e h
    simp only [chkE] at h
    split at h
    · rename_i x op y pos
      simp only [Bool.and_eq_true] at h
      obtain ⟨⟨h1, h2⟩, h3⟩ := h
      obtain rfl := bop_of h1
      have b : PE X (.BinOp x (opB o) y pos) (tE P G cl W (.bin z o a b)) := by
        refine pe_imp (pe_op (opr_ex fun B => op_binM (G := G) (B := B) (z := z) at_.fa.hK) (sa.e at_ x h2).1 (sb.e at_ y h3).1) ?_
        intro σ H Q ⟨B, A, h, e, F, re, p⟩
        simp only [evE] at p
        refine ⟨B, A, h, e, F, re, p.bind.imp fun v x h1 A1 H1 F1 n1 r1 p1 => ?_⟩
        refine ⟨B, A1, h1, e, F1, re.mono n1, p1.bind.imp fun w y h2 A2 H2 F2 n2 r2 p2 => ?_⟩
        exact ⟨B, A2, h2, v, w, F2, RV.mono n2 v r1, r2, toPV p2⟩
      exact ⟨b, pt_simple b rfl⟩
    · cases h
  a := by intro G cl lv tx X W a es h; simp [chkA] at h
  o := by intro G cl lv tx X W a e h; simp [chkP'] at h
  i := by intro G cl lv tx X W a e tg h; simp [chkI] at h
theorem snd_neg {a : C} (sa : Snd P a) : Snd P (.neg a) where
  e := by
    intro G cl lv tx X W at_ e h
    simp only [chkE] at h
    split at h
    · rename_i x pos
      have b : PE X (.UnaryOp .USub x pos) (tE P G cl W (.neg a)) := by
        refine pe_imp (pe_un un_neg (sa.e at_ x h).1) ?_
        intro σ H Q ⟨B, A, h, e, F, re, p⟩
        simp only [evE] at p
        refine ⟨B, A, h, e, F, re, p.bind.imp fun v x h1 A1 H1 F1 n1 r1 p1 => ?_⟩
        split at p1
        · rename_i i
          unfold RV at r1
          exact ⟨i, r1, post_ok p1 F1 .refl rv_int⟩
        · exact p1.elim
      exact ⟨b, pt_simple b rfl⟩
    · cases h
  a := by intro G cl lv tx X W a es h; simp [chkA] at h
  o := by intro G cl lv tx X W a e h; simp [chkP'] at h
  i := by intro G cl lv tx X W a e tg h; simp [chkI] at h
theorem snd_not {a : C} (sa : Snd P a) : Snd P (.not a) where
  e := by
    intro G cl lv tx X W at_ e h
    simp only [chkE] at h
    split at h
    · rename_i x pos
      have key : ∀ σ H Q, tE P G cl W (.not a) σ H Q → tE P G cl W a σ H fun x H1 => ∃ c, x = .bl c ∧ Q (.bl (!c)) H1 := by
        intro σ H Q ⟨B, A, h, e, F, re, p⟩
        simp only [evE] at p
        refine ⟨B, A, h, e, F, re, p.bind.imp fun v x h1 A1 H1 F1 n1 r1 p1 => ?_⟩
        split at p1
        · rename_i i
          unfold RV at r1
          exact ⟨i, r1, post_ok p1 F1 .refl rv_bl⟩
        · exact p1.elim
      refine ⟨pe_imp (pe_not (sa.e at_ x h).1) key, pt_imp (pt_not (sa.e at_ x h).2) fun σ H Q q => ?_⟩
      obtain ⟨B, A, h, e, F, re, p⟩ := key σ H _ q
      exact ⟨B, A, h, e, F, re, p.imp fun v x h1 A1 H1 F1 n1 r1 ⟨c, e1, d, e2, q⟩ => ⟨c, e1, by cases e2; exact q⟩⟩
    · cases h
  a := by intro G cl lv tx X W a es h; simp [chkA] at h
  o := by intro G cl lv tx X W a e h; simp [chkP'] at h
  i := by intro G cl lv tx X W a e tg h; simp [chkI] at h
/-- a comparison's end -/
theorem cmp_end {B : Bor} {A : List Addr} {H : Hp} {h : Hm} {σ : L2.St} {o : COp} {v w : Val} {x y : V} {Q : VK} (F : Fits G B A h H) (r1 : RV G B A H v x) (r2 : RV G B A H w y)
    (p : Post G B W σ (RVr G B) A H (match cmpM o h v w with | some r => .ok (.bl r) h | none => .bad) fun _ x _ _ H' => Q x H') : ∃ B, rCmp G B o x y H Q := by
  split at p
  · rename_i b eb
    exact ⟨B, A, h, v, w, b, F, r1, r2, eb, post_ok p F .refl rv_bl⟩
  · exact p.elim
theorem cmp_mid {B : Bor} {A : List Addr} {H : Hp} {h : Hm} {σ : L2.St} {o : COp} {v w : Val} {x y : V} {Q : VK} {f : R Val} (F : Fits G B A h H) (r1 : RV G B A H v x) (r2 : RV G B A H w y)
    (p : Post G B W σ (RVr G B) A H (match cmpM o h v w with | some true => f | some false => .ok (.bl false) h | none => .bad) fun _ x _ _ H' => Q x H') :
    ∃ B', rCmp G B' o x y H fun z H3 => ∃ k, z = .bl k ∧ H3 = H ∧ (if k = true then Post G B W σ (RVr G B) A H f fun _ x _ _ H' => Q x H' else Q (.bl false) H) := by
  split at p
  · rename_i eb
    exact ⟨B, A, h, v, w, true, F, r1, r2, eb, true, rfl, rfl, by rw [if_pos rfl]; exact p⟩
  · rename_i eb
    exact ⟨B, A, h, v, w, false, F, r1, r2, eb, false, rfl, rfl, by rw [if_neg Bool.false_ne_true]; exact post_ok p F .refl rv_bl⟩
  · exact p.elim
theorem snd_cmp {o : COp} {a b : C} (sa : Snd P a) (sb : Snd P b) : Snd P (.cmp o a b) where
  e := by
    intro G cl lv tx X W at_ e h
    simp only [chkE] at h
    split at h
    · rename_i x op y pos
      simp only [Bool.and_eq_true] at h
      obtain ⟨⟨⟨h1, h2⟩, h3⟩, h4⟩ := h
      obtain rfl := cop_of h1
      have ho : OpR X (compareOp (opC o)) (fun x y H Q => ∃ B, rCmp G B o x y H Q) := opr_ex fun B => op_cmpM (G := G) (B := B) at_.fa.g at_.fa.hK (un65 at_.room)
      have pc : PC X (opC o) x y (tOp (fun x y H Q => ∃ B, rCmp G B o x y H Q) (tE P G cl W a) (tE P G cl W b)) :=
        ⟨fun pins s σ H Q I h => binT (sa.e at_ x h3).1 (sb.e at_ y h4).1 I h fun v u s2 x y H2 I2 rx ry q => ho pins s2 σ H2 x y v u Q I2 rx ry q⟩
      have key : ∀ σ H Q, tE P G cl W (.cmp o a b) σ H Q → tOp (fun x y H Q => ∃ B, rCmp G B o x y H Q) (tE P G cl W a) (tE P G cl W b) σ H Q := by
        intro σ H Q ⟨B, A, h, e, F, re, p⟩
        simp only [evE] at p
        refine ⟨B, A, h, e, F, re, p.bind.imp fun v x h1 A1 H1 F1 n1 r1 p1 => ?_⟩
        refine ⟨B, A1, h1, e, F1, re.mono n1, p1.bind.imp fun w y h2 A2 H2 F2 n2 r2 p2 => ?_⟩
        exact cmp_end F2 (RV.mono n2 v r1) r2 p2
      exact ⟨pe_imp (pe_cmp pc (behind_of h2)) key, pt_imp (pt_cmp pc (behind_of h2)) fun σ H Q q => key σ H _ q⟩
    · cases h
  a := by intro G cl lv tx X W a es h; simp [chkA] at h
  o := by intro G cl lv tx X W a e h; simp [chkP'] at h
  i := by intro G cl lv tx X W a e tg h; simp [chkI] at h
theorem snd_cmp2 {o o' : COp} {a b c : C} (sa : Snd P a) (sb : Snd P b) (sc : Snd P c) : Snd P (.cmp2 o o' a b c) where
  e := by
    intro G cl lv tx X W at_ e h
    simp only [chkE] at h
    split at h
    · rename_i x op oq y z pos
      simp only [Bool.and_eq_true] at h
      obtain ⟨⟨⟨⟨⟨h1, h1'⟩, h2⟩, h3⟩, h4⟩, h5⟩ := h
      obtain rfl := cop_of h1
      obtain rfl := cop_of h1'
      have ho : ∀ o, OpR X (compareOp (opC o)) (fun x y H Q => ∃ B, rCmp G B o x y H Q) := fun o => opr_ex fun B => op_cmpM (G := G) (B := B) at_.fa.g at_.fa.hK (un65 at_.room)
      have key : ∀ σ H Q, tE P G cl W (.cmp2 o o' a b c) σ H Q → tChain (fun x y H Q => ∃ B, rCmp G B o x y H Q) (fun x y H Q => ∃ B, rCmp G B o' x y H Q) (tE P G cl W a) (tE P G cl W b) (tE P G cl W c) σ H Q := by
        intro σ H Q ⟨B, A, h, e, F, re, p⟩
        simp only [evE] at p
        refine ⟨B, A, h, e, F, re, p.bind.imp fun v x h1 A1 H1 F1 n1 r1 p1 => ?_⟩
        refine ⟨B, A1, h1, e, F1, re.mono n1, p1.bind.imp fun w y h2 A2 H2 F2 n2 r2 p2 => ?_⟩
        obtain ⟨B', A', h', v', w', b', q1, q2, q3, q4, k, e1, e2, q⟩ := cmp_mid F2 (RV.mono n2 v r1) r2 p2
        refine ⟨B', A', h', v', w', b', q1, q2, q3, q4, k, e1, ?_⟩
        cases k with
        | false => exact q
        | true =>
          rw [if_pos rfl] at q ⊢
          exact ⟨B, A2, h2, e, F2, (re.mono n1).mono n2, q.bind.imp fun u z h3 A3 H3 F3 n3 r3 p3 => cmp_end F3 (RV.mono n3 w r2) r3 p3⟩
      have hm : lastMarks [opC o, opC o'] [y, z] = false := behind_of h2
      exact ⟨pe_imp (pe_chain (ho o) (ho o') (sa.e at_ x h3).1 (sb.e at_ y h4).1 (sc.e at_ z h5).1 hm) key, pt_imp (pt_chain (ho o) (ho o') (sa.e at_ x h3).1 (sb.e at_ y h4).1 (sc.e at_ z h5).1 hm) fun σ H Q q => key σ H _ q⟩
    · cases h
  a := by intro G cl lv tx X W a es h; simp [chkA] at h
  o := by intro G cl lv tx X W a e h; simp [chkP'] at h
  i := by intro G cl lv tx X W a e tg h; simp [chkI] at h
theorem snd_cmp3 {o o' o'' : COp} {a b c d : C} (sa : Snd P a) (sb : Snd P b) (sc : Snd P c) (sd : Snd P d) : Snd P (.cmp3 o o' o'' a b c d) where
  e := by
    intro G cl lv tx X W at_ e h
    simp only [chkE] at h
    split at h
    · rename_i x op oq or y z u pos
      simp only [Bool.and_eq_true] at h
      obtain ⟨⟨⟨⟨⟨⟨⟨h1, h1'⟩, h1''⟩, h2⟩, h3⟩, h4⟩, h5⟩, h6⟩ := h
      obtain rfl := cop_of h1
      obtain rfl := cop_of h1'
      obtain rfl := cop_of h1''
      have ho : ∀ o, OpR X (compareOp (opC o)) (fun x y H Q => ∃ B, rCmp G B o x y H Q) := fun o => opr_ex fun B => op_cmpM (G := G) (B := B) at_.fa.g at_.fa.hK (un65 at_.room)
      have key : ∀ σ H Q, tE P G cl W (.cmp3 o o' o'' a b c d) σ H Q → tChain3 (fun x y H Q => ∃ B, rCmp G B o x y H Q) (fun x y H Q => ∃ B, rCmp G B o' x y H Q) (fun x y H Q => ∃ B, rCmp G B o'' x y H Q) (tE P G cl W a) (tE P G cl W b) (tE P G cl W c) (tE P G cl W d) σ H Q := by
        intro σ H Q ⟨B, A, h, e, F, re, p⟩
        simp only [evE] at p
        refine ⟨B, A, h, e, F, re, p.bind.imp fun v x h1 A1 H1 F1 n1 r1 p1 => ?_⟩
        refine ⟨B, A1, h1, e, F1, re.mono n1, p1.bind.imp fun w y h2 A2 H2 F2 n2 r2 p2 => ?_⟩
        obtain ⟨B', A', h', v', w', b', q1, q2, q3, q4, k, e1, e2, q⟩ := cmp_mid F2 (RV.mono n2 v r1) r2 p2
        refine ⟨B', A', h', v', w', b', q1, q2, q3, q4, k, e1, ?_⟩
        cases k with
        | false => exact q
        | true =>
          rw [if_pos rfl] at q ⊢
          refine ⟨B, A2, h2, e, F2, (re.mono n1).mono n2, q.bind.imp fun u z h3 A3 H3 F3 n3 r3 p3 => ?_⟩
          obtain ⟨B', A', h', v', w', b', q1, q2, q3, q4, k, e1, e2, q⟩ := cmp_mid F3 (RV.mono n3 w r2) r3 p3
          refine ⟨B', A', h', v', w', b', q1, q2, q3, q4, k, e1, ?_⟩
          cases k with
          | false => exact q
          | true =>
            rw [if_pos rfl] at q ⊢
            exact ⟨B, A3, h3, e, F3, ((re.mono n1).mono n2).mono n3, q.bind.imp fun u' z' h4 A4 H4 F4 n4 r4 p4 => cmp_end F4 (RV.mono n4 u r3) r4 p4⟩
      have hm : lastMarks [opC o, opC o', opC o''] [y, z, u] = false := behind_of h2
      exact ⟨pe_imp (pe_chain3 (ho o) (ho o') (ho o'') (sa.e at_ x h3).1 (sb.e at_ y h4).1 (sc.e at_ z h5).1 (sd.e at_ u h6).1 hm) key, pt_imp (pt_chain3 (ho o) (ho o') (ho o'') (sa.e at_ x h3).1 (sb.e at_ y h4).1 (sc.e at_ z h5).1 (sd.e at_ u h6).1 hm) fun σ H Q q => key σ H _ q⟩
    · cases h
  a := by intro G cl lv tx X W a es h; simp [chkA] at h
  o := by intro G cl lv tx X W a e h; simp [chkP'] at h
  i := by intro G cl lv tx X W a e tg h; simp [chkI] at h
/-- and, or: by the first -/
theorem bool_end {B : Bor} {A : List Addr} {H : Hp} {h : Hm} {σ : L2.St} {v : Val} {x : V} {Q : VK} {f g : R Val} (F : Fits G B A h H) (r1 : RV G B A H v x)
    (p : Post G B W σ (RVr G B) A H (match (generalizing := false) v with | .bl true => f | .bl false => g | _ => .bad) fun _ x _ _ H' => Q x H') :
    ∃ k, x = .bl k ∧ Post G B W σ (RVr G B) A H (if k = true then f else g) fun _ x _ _ H' => Q x H' := by
  cases v <;> try exact p.elim
  rename_i b
  unfold RV at r1
  cases b with
  | true => exact ⟨true, r1, by rw [if_pos rfl]; exact p⟩
  | false => exact ⟨false, r1, by rw [if_neg Bool.false_ne_true]; exact p⟩
theorem and_key {a b : C} : ∀ σ H Q, tE P G cl W (.and a b) σ H Q → tAndV (tE P G cl W a) (tE P G cl W b) σ H Q := by
  intro σ H Q ⟨B, A, h, e, F, re, p⟩
  simp only [evE] at p
  refine ⟨B, A, h, e, F, re, p.bind.imp fun v x h1 A1 H1 F1 n1 r1 p1 => ?_⟩
  obtain ⟨k, e1, p1⟩ := bool_end F1 r1 p1
  refine ⟨k, e1, ?_⟩
  cases k with
  | true => exact ⟨B, A1, h1, e, F1, re.mono n1, p1⟩
  | false => exact post_ok p1 F1 .refl rv_bl
theorem or_key {a b : C} : ∀ σ H Q, tE P G cl W (.or a b) σ H Q → tOrV (tE P G cl W a) (tE P G cl W b) σ H Q := by
  intro σ H Q ⟨B, A, h, e, F, re, p⟩
  simp only [evE] at p
  refine ⟨B, A, h, e, F, re, p.bind.imp fun v x h1 A1 H1 F1 n1 r1 p1 => ?_⟩
  obtain ⟨k, e1, p1⟩ := bool_end F1 r1 p1
  refine ⟨k, e1, ?_⟩
  cases k with
  | false => exact ⟨B, A1, h1, e, F1, re.mono n1, p1⟩
  | true => exact post_ok p1 F1 .refl rv_bl
theorem tB_imp {t : TE} {u : TE} (k : ∀ σ H Q, t σ H Q → u σ H Q) : ∀ σ H Q, tB t σ H Q → tB u σ H Q := fun σ H Q q => k σ H _ q
theorem tE_imp {c : C} {σ : L2.St} {H : Hp} {Q Q' : VK} (h : tE P G cl W c σ H Q) (i : ∀ x H', Q x H' → Q' x H') : tE P G cl W c σ H Q' := by
  obtain ⟨B, A, h, e, F, re, p⟩ := h
  exact ⟨B, A, h, e, F, re, p.imp fun v x h1 A1 H1 _ _ _ q => i x H1 q⟩
theorem andT {a b : C} : ∀ σ H Q, tB (tAndV (tE P G cl W a) (tE P G cl W b)) σ H Q → tAnd (tB (tE P G cl W a)) (tB (tE P G cl W b)) σ H Q := by
  intro σ H Q q
  refine tE_imp (c := a) q fun x H' ⟨c, e, q⟩ => ⟨c, e, ?_⟩
  cases c with
  | true => exact q
  | false =>
    obtain ⟨c, e, q⟩ := (show ∃ c, V.bl false = .bl c ∧ Q c H' from q)
    cases e
    exact q
theorem orT {a b : C} : ∀ σ H Q, tB (tOrV (tE P G cl W a) (tE P G cl W b)) σ H Q → tOr (tB (tE P G cl W a)) (tB (tE P G cl W b)) σ H Q := by
  intro σ H Q q
  refine tE_imp (c := a) q fun x H' ⟨c, e, q⟩ => ⟨c, e, ?_⟩
  cases c with
  | false => exact q
  | true =>
    obtain ⟨c, e, q⟩ := (show ∃ c, V.bl true = .bl c ∧ Q c H' from q)
    cases e
    exact q
theorem snd_and {a b : C} (sa : Snd P a) (sb : Snd P b) : Snd P (.and a b) where
  e := by
    intro G cl lv tx X W at_ e h
    simp only [chkE] at h
    split at h
    · rename_i x y r pos
      rw [Bool.and_eq_true] at h
      obtain ⟨h1, h2⟩ := h
      have hb : PE X (.BoolOp .And (y :: r) pos) (tE P G cl W b) ∧ PW X (.BoolOp .And (y :: r) pos) (tB (tE P G cl W b)) := by
        split at h2
        · exact ⟨pe_one (sb.e at_ y h2).1, pw_and1 (sb.e at_ y h2).2⟩
        · exact ⟨(sb.e at_ _ h2).1, pw_of (sb.e at_ _ h2).2⟩
      exact ⟨pe_imp (pe_and (sa.e at_ x h1).1 hb.1) and_key, pt_imp (pw_and (sa.e at_ x h1).2 hb.2).pt fun σ H Q q => andT σ H Q (tB_imp and_key σ H Q q)⟩
    · cases h
  a := by intro G cl lv tx X W a es h; simp [chkA] at h
  o := by intro G cl lv tx X W a e h; simp [chkP'] at h
  i := by intro G cl lv tx X W a e tg h; simp [chkI] at h
theorem snd_or {a b : C} (sa : Snd P a) (sb : Snd P b) : Snd P (.or a b) where
  e := by
    intro G cl lv tx X W at_ e h
    simp only [chkE] at h
    split at h
    · rename_i x y r pos
      rw [Bool.and_eq_true] at h
      obtain ⟨h1, h2⟩ := h
      have hb : PE X (.BoolOp .Or (y :: r) pos) (tE P G cl W b) ∧ PW X (.BoolOp .Or (y :: r) pos) (tB (tE P G cl W b)) := by
        split at h2
        · exact ⟨pe_one (sb.e at_ y h2).1, pw_or1 (sb.e at_ y h2).2⟩
        · exact ⟨(sb.e at_ _ h2).1, pw_of (sb.e at_ _ h2).2⟩
      exact ⟨pe_imp (pe_or (sa.e at_ x h1).1 hb.1) or_key, pt_imp (pw_or (sa.e at_ x h1).2 hb.2).pt fun σ H Q q => orT σ H Q (tB_imp or_key σ H Q q)⟩
    · cases h
  a := by intro G cl lv tx X W a es h; simp [chkA] at h
  o := by intro G cl lv tx X W a e h; simp [chkP'] at h
  i := by intro G cl lv tx X W a e tg h; simp [chkI] at h
theorem pt_if {c a b : Expr} {pos : Pos} {t u w : TT} (hc : PT X c t) (ha : PT X a u) (hb : PT X b w) : PT X (.IfExp c a b pos) (fun σ H Q => t σ H fun k H1 => if k = true then u σ H1 Q else w σ H1 Q) := by
  refine ⟨fun pins s σ H Q I h => ?_⟩
  show wpAny _ _ (do if ← isTrue c X.env (eval c X.env) then isTrue a X.env (eval a X.env) else isTrue b X.env (eval b X.env)) _ _ _
  refine wpAny_bind (thn (hc.run pins s σ H _ I h) fun k s1 ⟨H1, I1, q⟩ => ?_)
  cases k with
  | true => exact ha.run pins s1 σ H1 Q I1 q
  | false => exact hb.run pins s1 σ H1 Q I1 q
theorem snd_ite {t a b : C} (st : Snd P t) (sa : Snd P a) (sb : Snd P b) : Snd P (.ite t a b) where
  e := by
    intro G cl lv tx X W at_ e h
    simp only [chkE] at h
    split at h
    · rename_i x y z pos
      simp only [Bool.and_eq_true] at h
      obtain ⟨⟨h1, h2⟩, h3⟩ := h
      have key : ∀ σ H Q, tE P G cl W (.ite t a b) σ H Q → tIf (tB (tE P G cl W t)) (tE P G cl W a) (tE P G cl W b) σ H Q := by
        intro σ H Q ⟨B, A, h, e, F, re, p⟩
        simp only [evE] at p
        refine ⟨B, A, h, e, F, re, p.bind.imp fun v x h1 A1 H1 F1 n1 r1 p1 => ?_⟩
        obtain ⟨k, e1, p1⟩ := bool_end F1 r1 p1
        refine ⟨k, e1, ?_⟩
        cases k with
        | true => exact ⟨B, A1, h1, e, F1, re.mono n1, p1⟩
        | false => exact ⟨B, A1, h1, e, F1, re.mono n1, p1⟩
      exact ⟨pe_imp (pe_ifExp (st.e at_ x h1).2 (sa.e at_ y h2).1 (sb.e at_ z h3).1) key, pt_imp (pt_if (st.e at_ x h1).2 (sa.e at_ y h2).2 (sb.e at_ z h3).2) fun σ H Q q => key σ H _ q⟩
    · cases h
  a := by intro G cl lv tx X W a es h; simp [chkA] at h
  o := by intro G cl lv tx X W a e h; simp [chkP'] at h
  i := by intro G cl lv tx X W a e tg h; simp [chkI] at h
end
end MP
set_option Elab.async false
set_option linter.all false
set_option maxRecDepth 100000
set_option autoImplicit false
namespace MP
open PySem PySem.Spec PyProof.Rows L2
variable [Tabs]
/-- what a set is at first -/
def eSet (w : World) : Obj := ⟨.type "set", none, .set #[] 0 (.fresh 0 0 (!w.params.followText "set-order")), #[]⟩
section
variable {P : Program} {w : World} {A : Around} {E : Value → Shared → Prop} {s : Shared}
set_option maxHeartbeats 4000000 in
theorem set_init_ints {l : Addr} {items : Array Value} {ns : List Int} (hh : A.handled = none) (il : s.heap.IsList l items) (ia : IntsAre items.toList ns) (hb : ns.length + 1 < scanBound) :
    codeAny (model P w) A.in1 (Code.call (.builtin "set.__init__") ⟨[.ref s.heap.objs.size, .ref l], []⟩)
      (wants (fun r t => r = .none ∧ ∃ h' tk c, t = { s with heap := h', toks := tk } ∧ SetR w h' s.heap.objs.size (fun j => decide (j ∈ ns)) c ∧ c ≤ ns.length ∧ ∀ b o, s.heap.get? b = some o → h'.get? b = some o) E)
      { s with heap := s.heap.push (eSet w) } := by
  have zn : items.size = ns.length := (Array.length_toList (xs := items)).symm.trans (IntsAre.length ia)
  have g1 : (s.heap.push (eSet w)).get? s.heap.objs.size = some (eSet w) := Heap.get?_push_size _ rfl
  have z1 : (s.heap.push (eSet w)).objs.size = s.heap.objs.size + 1 := Heap.size_push ..
  have t1 : Shared.TypeIs { s with heap := s.heap.push (eSet w) } (.ref s.heap.objs.size) "set" := ⟨_, g1, rfl⟩
  refine codeAny_call_builtin F.called_set.init.plain F.entry_set_init (check_set_init_1 t1 ?_)
  have ⟨⟨oc, od, odat, osl⟩, ol, hc, nl, hd⟩ := il
  dsimp only at hc hd; subst hc; subst hd
  have ll : l < s.heap.objs.size := Heap.lt_size ol
  have o1 := Heap.get?_push_of_some (eSet w) ol
  have il1 : (s.heap.push (eSet w)).IsList l items := ⟨_, o1, rfl, nl, rfl⟩
  have y1 := F.sub_list_set; have y2 := F.sub_list_frozenset
  have y3 : (Value.type "list" == Value.type "dict") = false := by decide
  unfold Builtin.«set.__init__» noKeywords Builtin.Frozenset.updateFrom
  generalize hp : pyIter = PI
  wp_walk
  subst hp
  refine wpAny_pyIter_list il1 (wpAny_bind (wpAny_runValue ?_))
  have h3 : A.in1.in1.in1.handled = none := by simp [hh]
  have nI : l ≠ (s.heap.push (eSet w)).objs.size := by rw [z1]; exact Nat.ne_of_lt (Nat.lt_succ_of_lt ll)
  have val : ∀ (i : Nat) (v : Value), items[i]? = some v → ∃ k t, ns[i]? = some k ∧ v = .int k t := fun i v e => by
    have li : i < ns.length := zn ▸ (Array.getElem?_eq_some_iff.mp e).1
    have ⟨t, et⟩ := IntsAre.int_at ia i v (Array.getElem?_toList ▸ e)
    exact ⟨ns[i], t, List.getElem?_eq_getElem li, by simpa [List.getD_eq_getElem?_getD, List.getElem?_eq_getElem li] using et⟩
  refine set_update_ints (Walks.list h3 _ l nI items).toS s.heap.objs.size (fun m => ?_) ns zn hb val items.size 0 _ rfl (Nat.zero_le _) ⟨⟨_, Heap.get?_push_size _ rfl, rfl, rfl⟩, il1.push _⟩ ⟨0, Nat.le_refl 0, setR_new_at (Heap.get?_push_of_some _ g1)⟩ ?_
  · rw [z1] at m
    simp only [List.mem_cons, List.not_mem_nil, or_false] at m
    exact m.elim (fun e => Nat.succ_ne_self _ e.symm) fun e => Nat.ne_of_gt ll e
  · intro t c mv lc sr
    have ⟨h', g2, d2, tk2, os2⟩ := t
    cases (show g2 = s.gens from mv.gens); cases (show d2 = s.drawn from mv.drawn); cases (show os2 = s.os from mv.os)
    refine wpAny_pure (wpAny_pure ⟨rfl, h', tk2, c, rfl, sr, zn ▸ lc, fun b o e => ?_⟩)
    have lb := Heap.lt_size e
    refine mv.heap b o (fun m => ?_) (Heap.get?_push_of_some _ (Heap.get?_push_of_some _ e))
    simp only [List.mem_cons, List.not_mem_nil, or_false, z1] at m
    exact m.elim (Nat.ne_of_lt lb) (Nat.ne_of_lt (Nat.lt_succ_of_lt lb))
set_option maxHeartbeats 4000000 in
theorem set_ints {l : Addr} {items : Array Value} {ns : List Int} {Q : Value → Shared → Prop} (hh : A.handled = none) (il : s.heap.IsList l items) (ia : IntsAre items.toList ns) (hb : ns.length + 1 < scanBound)
    (k : ∀ h' tk c, SetR w h' s.heap.objs.size (fun j => decide (j ∈ ns)) c → c ≤ ns.length → (∀ b o, s.heap.get? b = some o → h'.get? b = some o) → Q (.ref s.heap.objs.size) { s with heap := h', toks := tk }) :
    wpAny (model P w) A (call (.type "set") [.ref l]) Q E s := by
  have zn : items.size = ns.length := (Array.length_toList (xs := items)).symm.trans (IntsAre.length ia)
  have ⟨c, tl, m1⟩ := F.called_set.mro
  have m2 := F.called_set.made; have m3 := F.called_set.sub; have m4 := F.called_set.notType; have m5 := F.called_set.canCreate; have m6 := F.typeCall_set_1 (.ref l)
  apply wpAny_call; apply codeAny_of_tree; show wpAny _ _ (callAny (.type "set") _) _ _ _
  refine wpAny_pure ⟨Code.quiet_builtin _ (by decide +kernel), ?_⟩; apply codeAny_builtin F.entry_type_call
  rw [Around.under_plain (weight_type_call_type "set" [.ref l] []) rfl]
  repeat (any_goals (first | assumption | wp_step))
  let s1 : Shared := { s with heap := s.heap.push (eSet w) }
  have z1 : (s.heap.push (eSet w)).objs.size = s.heap.objs.size + 1 := Heap.size_push ..
  have g1 : (s.heap.push (eSet w)).get? s.heap.objs.size = some (eSet w) := Heap.get?_push_size _ rfl
  have t1 : s1.TypeIs (.ref s.heap.objs.size) "set" := ⟨_, g1, rfl⟩
  refine codeAny_mono (code_set_led1 (.ref l) (E := E) (Q₁ := fun o t => o = .ref s.heap.objs.size ∧ t = s1) ⟨rfl, rfl⟩) fun r t hr => ?_
  match r, hr with
  | .error e, hr => exact hr
  | .ok (.ret v), ⟨ev, et⟩ =>
    subst ev; subst et
    have n1 := F.called_set.init.lookup; have n2 := F.called_set.init.bind (.ref s.heap.objs.size)
    repeat (any_goals (first | assumption | wp_step))
    refine codeAny_mono (set_init_ints (P := P) (w := w) (A := A) (E := E) hh il ia hb) fun r2 t2 q2 => ?_
    match r2, q2 with
    | .error e, q2 => exact q2
    | .ok (.ret v2), ⟨e1, h', tk, c2, e2, sr, lc, kp⟩ =>
      subst e1; subst e2
      repeat (any_goals (first | assumption | wp_step))
      exact k _ _ _ sr lc kp
end
end MP
set_option Elab.async false
set_option linter.all false
set_option maxRecDepth 100000
set_option autoImplicit false
namespace MP
open PySem PySem.Spec PyProof.Rows L2
variable [Tabs]
open Sem (wp)
theorem zip_no_len : typeLookup (.type "zip") "__len__" = pure none := am_miss_of_fast (by decide +kernel)
theorem zip_no_hint : typeLookup (.type "zip") "__length_hint__" = pure none := am_miss_of_fast (by decide +kernel)
def ZSt (z TI TO i1 i2 l1 l2 S : Addr) (xs ys : Array Value) (i : Nat) (h : Heap) : Prop :=
  IsPair h TI (.ref i1) (.ref i2) ∧ h.IsListIter i1 l1 i ∧ h.IsListIter i2 l2 i ∧ h.IsList l1 xs ∧ h.IsList l2 ys ∧
    ((IsZip h z TI TO .none ∧ ∃ a b, IsPair h TO a b) ∨ ∃ T f oT, IsZipHeld h z TI TO T f ∧ h.get? T = some oT ∧ T ≠ z ∧ T ≠ i1 ∧ T ≠ i2 ∧ T ≠ S)
def ZAcc (h : Heap) (xs ys : Array Value) (B : Nat) (ts : List Addr) : Prop :=
  ts.Pairwise (· < ·) ∧ (∀ t ∈ ts, B ≤ t ∧ t < h.objs.size) ∧ ∀ (j : Nat) (t : Addr), ts[j]? = some t → ∃ x y, xs[j]? = some x ∧ ys[j]? = some y ∧ IsPair h t x y
section
variable {prog : Program} {w : World} {A : Around} {E : Value → Shared → Prop} {s : Shared} {R : Result → Shared → Prop} {z TI TO i1 i2 l1 l2 S : Addr} {xs ys : Array Value}
/-- S is none of what the walk reads -/
def ZOff (z TI TO i1 i2 l1 l2 S : Addr) : Prop := S ≠ z ∧ S ≠ TI ∧ S ≠ TO ∧ S ≠ i1 ∧ S ≠ i2 ∧ S ≠ l1 ∧ S ≠ l2
theorem ZSt.at (o : ZOff z TI TO i1 i2 l1 l2 S) {i : Nat} {h h' : Heap} (st : ZSt z TI TO i1 i2 l1 l2 S xs ys i h) (hk : ∀ b o, b ≠ S → h.get? b = some o → h'.get? b = some o) : ZSt z TI TO i1 i2 l1 l2 S xs ys i h' := by
  obtain ⟨dz, dTI, dTO, di1, di2, dl1, dl2⟩ := o
  obtain ⟨hTI, h1, h2, hl1, hl2, hz⟩ := st
  refine ⟨hk _ _ (Ne.symm dTI) hTI, h1.at fun o e => hk _ o (Ne.symm di1) e, h2.at fun o e => hk _ o (Ne.symm di2) e, hl1.at fun o e => hk _ o (Ne.symm dl1) e, hl2.at fun o e => hk _ o (Ne.symm dl2) e, ?_⟩
  rcases hz with ⟨hz, a, b, hTO⟩ | ⟨T, f, oT, hz, hT, r1, r2, r3, r4⟩
  · exact .inl ⟨hk _ _ (Ne.symm dz) hz, a, b, hk _ _ (Ne.symm dTO) hTO⟩
  · exact .inr ⟨T, f, oT, hk _ _ (Ne.symm dz) hz, hk _ _ r4 hT, r1, r2, r3, r4⟩
theorem zst_item (D : ZipApart z TI TO i1 i2 l1 l2) {i : Nat} {Q : Option Value → Shared → Prop} (hi : i < min xs.size ys.size) (hS : S < s.heap.objs.size) (st : ZSt z TI TO i1 i2 l1 l2 S xs ys i s.heap)
    (hQ : ∀ h' x y, xs[i]? = some x → ys[i]? = some y → ZSt z TI TO i1 i2 l1 l2 S xs ys (i + 1) h' → IsPair h' s.heap.objs.size x y → h'.objs.size = s.heap.objs.size + 1 →
      (∀ c o, c ≠ z → c ≠ TO → c ≠ i1 → c ≠ i2 → s.heap.get? c = some o → h'.get? c = some o) → Q (some (.ref s.heap.objs.size)) { s with heap := h' }) :
    wpAny (model prog w) A (pyNext (.ref z)) Q E s := by
  obtain ⟨hTI, h1, h2, hl1, hl2, hz⟩ := st
  have hix : i < xs.size := Nat.lt_of_lt_of_le hi (Nat.min_le_left ..)
  have hiy : i < ys.size := Nat.lt_of_lt_of_le hi (Nat.min_le_right ..)
  have ex := Array.getElem?_eq_getElem hix
  have ey := Array.getElem?_eq_getElem hiy
  have lt : ∀ {c o}, s.heap.get? c = some o → s.heap.objs.size ≠ c := fun e => Nat.ne_of_gt (Heap.lt_size e)
  have n1 : s.heap.objs.size ≠ i1 := let ⟨_, e, _⟩ := h1; lt e
  have n2 : s.heap.objs.size ≠ i2 := let ⟨_, e, _⟩ := h2; lt e
  rcases hz with ⟨hz, a, b, hTO⟩ | ⟨T, f, oT, hz, hT, r1, r2, r3, r4⟩
  · refine wpAny_pyNext_zip_item D hz hTI hTO h1 h2 hl1 hl2 ex ey fun h' a1 a2 a3 a4 a5 a6 hk => ?_
    exact hQ h' _ _ ex ey ⟨hk _ _ D.TIz D.TITO D.TIi1 D.TIi2 hTI, a3, a4, hl1.at fun o e => hk _ o D.l1z D.l1TO D.l1i1 D.l1i2 e, hl2.at fun o e => hk _ o D.l2z D.l2TO D.l2i1 D.l2i2 e,
        .inr ⟨s.heap.objs.size, false, _, a1, a5, lt hz, n1, n2, Nat.ne_of_gt hS⟩⟩ a5 a6 hk
  · refine wpAny_pyNext_zip_item_held D hz hT hTI h1 h2 hl1 hl2 ex ey fun h' a1 a3 a4 a5 a6 hk => ?_
    exact hQ h' _ _ ex ey ⟨hk _ _ D.TIz D.TIi1 D.TIi2 hTI, a3, a4, hl1.at fun o e => hk _ o D.l1z D.l1i1 D.l1i2 e, hl2.at fun o e => hk _ o D.l2z D.l2i1 D.l2i2 e,
        .inr ⟨T, true, oT, a1, hk _ _ r1 r2 r3 hT, r1, r2, r3, r4⟩⟩ a5 a6 fun c o c1 _ c3 c4 e => hk c o c1 c3 c4 e
theorem zst_done (hh : A.handled = none) (D : ZipApart z TI TO i1 i2 l1 l2) {Q : Option Value → Shared → Prop} (st : ZSt z TI TO i1 i2 l1 l2 S xs ys (min xs.size ys.size) s.heap)
    (hQ : ∀ h', (∀ c o, c ≠ z → c ≠ TO → c ≠ i1 → c ≠ i2 → s.heap.get? c = some o → h'.get? c = some o) → Q none { s with heap := h' }) :
    wpAny (model prog w) A (pyNext (.ref z)) Q E s := by
  obtain ⟨hTI, h1, h2, hl1, hl2, hz⟩ := st
  have hend : xs[min xs.size ys.size]? = none ∨ ys[min xs.size ys.size]? = none := by
    rcases Nat.le_total xs.size ys.size with h | h
    · exact .inl (Array.getElem?_eq_none (by rw [Nat.min_eq_left h]; exact Nat.le_refl _))
    · exact .inr (Array.getElem?_eq_none (by rw [Nat.min_eq_right h]; exact Nat.le_refl _))
  rcases hz with ⟨hz, a, b, hTO⟩ | ⟨T, f, oT, hz, hT, r1, r2, r3, r4⟩
  · exact wpAny_pyNext_zip_end hh D hz hTI hTO h1 h2 hl1 hl2 hend fun h' hk => hQ h' hk
  · exact wpAny_pyNext_zip_end_held hh D hz hT hTI h1 h2 hl1 hl2 hend fun h' hk => hQ h' fun c o c1 _ c3 c4 e => hk c o c1 c3 c4 e
theorem zacc_keep {h h' : Heap} {B : Nat} {ts : List Addr} (a : ZAcc h xs ys B ts) (hb : z < B ∧ TO < B ∧ i1 < B ∧ i2 < B) (hz : h.objs.size ≤ h'.objs.size)
    (hk : ∀ c o, c ≠ z → c ≠ TO → c ≠ i1 → c ≠ i2 → h.get? c = some o → h'.get? c = some o) : ZAcc h' xs ys B ts := by
  obtain ⟨p, q, r⟩ := a
  refine ⟨p, fun t m => ⟨(q t m).1, Nat.lt_of_lt_of_le (q t m).2 hz⟩, fun j t e => ?_⟩
  obtain ⟨x, y, e1, e2, e3⟩ := r j t e
  have ht := (q t (List.mem_of_getElem? e)).1
  exact ⟨x, y, e1, e2, hk t _ (fun k => absurd (k ▸ ht) (Nat.not_le_of_lt hb.1)) (fun k => absurd (k ▸ ht) (Nat.not_le_of_lt hb.2.1)) (fun k => absurd (k ▸ ht) (Nat.not_le_of_lt hb.2.2.1)) (fun k => absurd (k ▸ ht) (Nat.not_le_of_lt hb.2.2.2)) e3⟩
theorem zip_loop (hh : A.handled = none) (D : ZipApart z TI TO i1 i2 l1 l2) (o : ZOff z TI TO i1 i2 l1 l2 S) {B : Nat} (hb : z < B ∧ TO < B ∧ i1 < B ∧ i2 < B) (hB : B = S + 1) (hn : min xs.size ys.size ≤ sizeLine) (res : Value) :
    ∀ (k i : Nat) (s : Shared) (ts : List Addr) (c : Nat), min xs.size ys.size - i = k → i ≤ min xs.size ys.size → ZSt z TI TO i1 i2 l1 l2 S xs ys i s.heap →
    s.heap.get? S = some { cls := .type "list", dict := none, data := .seq (ts.map Value.ref).toArray c, slots := #[] } → ts.length = i → ZAcc s.heap xs ys B ts →
    (∀ h' ts' c', (∀ b o, b ≠ S → b ≠ z → b ≠ TO → b ≠ i1 → b ≠ i2 → s.heap.get? b = some o → h'.get? b = some o) → h'.get? S = some { cls := .type "list", dict := none, data := .seq (ts'.map Value.ref).toArray c', slots := #[] } →
      ts'.length = min xs.size ys.size → ZAcc h' xs ys B ts' → R (.ok (.ret res)) { s with heap := h' }) →
    codeAny (model prog w) A (.builtin "list.extend.loop" ⟨[.ref S, .ref z, res], []⟩) R s := by
  intro k
  induction k with
  | zero =>
    intro i s ts c hk hi st hS hl acc hR
    have hin : i = min xs.size ys.size := by omega
    refine codeAny_builtin F.entry_extend_loop ?_
    rw [Around.under_plainId F.plain_extend_loop _]
    show wpAny _ A.in1 (pyNext (.ref z) >>= _) _ _ s
    rw [hin] at st
    refine wpAny_bind (zst_done (A := A.in1) hh D st fun h' hk' => ?_)
    obtain ⟨dz, dTI, dTO, di1, di2, dl1, dl2⟩ := o
    refine wpAny_pure (hR h' ts c (fun b o _ c1 c2 c3 c4 e => hk' b o c1 c2 c3 c4 e) (hk' S _ dz dTO di1 di2 hS) (hl.trans hin) ?_)
    obtain ⟨p, q, r⟩ := acc
    have there : ∀ t, t ∈ ts → t < h'.objs.size := fun t m => by
      obtain ⟨j, e⟩ := List.mem_iff_getElem?.mp m
      obtain ⟨x, y, _, _, e3⟩ := r j t e
      have ht := (q t m).1
      exact Heap.lt_size (hk' t _ (fun k => absurd (k ▸ ht) (Nat.not_le_of_lt hb.1)) (fun k => absurd (k ▸ ht) (Nat.not_le_of_lt hb.2.1)) (fun k => absurd (k ▸ ht) (Nat.not_le_of_lt hb.2.2.1)) (fun k => absurd (k ▸ ht) (Nat.not_le_of_lt hb.2.2.2)) e3)
    refine ⟨p, fun t m => ⟨(q t m).1, there t m⟩, fun j t e => ?_⟩
    obtain ⟨x, y, e1, e2, e3⟩ := r j t e
    have ht := (q t (List.mem_of_getElem? e)).1
    exact ⟨x, y, e1, e2, hk' t _ (fun k => absurd (k ▸ ht) (Nat.not_le_of_lt hb.1)) (fun k => absurd (k ▸ ht) (Nat.not_le_of_lt hb.2.1)) (fun k => absurd (k ▸ ht) (Nat.not_le_of_lt hb.2.2.1)) (fun k => absurd (k ▸ ht) (Nat.not_le_of_lt hb.2.2.2)) e3⟩
  | succ k ih =>
    intro i s ts c hk hi st hS hl acc hR
    have hlt : i < min xs.size ys.size := by omega
    have hSl : S < s.heap.objs.size := Heap.lt_size hS
    refine codeAny_builtin F.entry_extend_loop ?_
    rw [Around.under_plainId F.plain_extend_loop _]
    show wpAny _ A.in1 (pyNext (.ref z) >>= _) _ _ s
    refine wpAny_bind (zst_item (A := A.in1) D hlt hSl st fun h' x y ex ey st' hT hsz hk' => ?_)
    obtain ⟨dz, dTI, dTO, di1, di2, dl1, dl2⟩ := id o
    have hS' := hk' S _ dz dTO di1 di2 hS
    show wpAny _ A.in1 (updateSeq S (·.push (.ref s.heap.objs.size)) >>= _) _ _ _
    refine wpAny_bind ?_
    have acc1 := zacc_keep acc hb (by rw [hsz]; exact Nat.le_succ _) hk'
    have hup : ∀ b, b ≠ S → ∀ o, h'.get? b = some o → (h'.update S (Obj.mapSeq (·.push (Value.ref s.heap.objs.size)))).get? b = some o := fun b hb o e => (Heap.get?_update_other _ _ (Ne.symm hb)).trans e
    have hTS : s.heap.objs.size ≠ S := Nat.ne_of_gt hSl
    have hz2 : (h'.update S (Obj.mapSeq (·.push (Value.ref s.heap.objs.size)))).objs.size = h'.objs.size := (Heap.SameBut.update ..).1
    have acc2 : ZAcc (h'.update S (Obj.mapSeq (·.push (Value.ref s.heap.objs.size)))) xs ys B (ts ++ [s.heap.objs.size]) := by
      obtain ⟨p, q, r⟩ := acc1
      refine ⟨?_, fun t m => ?_, fun j t e => ?_⟩
      · rw [List.pairwise_append]
        refine ⟨p, List.pairwise_singleton _ _, fun a ha b hb' => ?_⟩
        rw [List.mem_singleton.mp hb']
        exact (acc.2.1 a ha).2
      · rw [hz2, hsz]
        rcases List.mem_append.mp m with m | m
        · exact ⟨(acc.2.1 t m).1, Nat.lt_succ_of_lt (acc.2.1 t m).2⟩
        · rw [List.mem_singleton.mp m]
          exact ⟨by rw [hB]; exact hSl, Nat.lt_succ_self _⟩
      · by_cases hj : j < ts.length
        · rw [List.getElem?_append_left hj] at e
          obtain ⟨x', y', e1, e2, e3⟩ := r j t e
          refine ⟨x', y', e1, e2, hup t (fun k => ?_) _ e3⟩
          have := (q t (List.mem_of_getElem? e)).1
          rw [k] at this
          omega
        · rw [List.getElem?_append_right (by omega)] at e
          have hj0 : j - ts.length = 0 := by
            cases hj' : j - ts.length with
            | zero => rfl
            | succ m => rw [hj'] at e; simp at e
          rw [hj0] at e
          simp at e
          have : j = i := by omega
          subst this
          rw [← e]
          exact ⟨x, y, ex, ey, hup _ hTS _ hT⟩
    have hS2 : (h'.update S (Obj.mapSeq (·.push (Value.ref s.heap.objs.size)))).get? S = some (Obj.mapSeq (·.push (Value.ref s.heap.objs.size)) { cls := .type "list", dict := none, data := .seq (ts.map Value.ref).toArray c, slots := #[] }) := Heap.get?_update_self _ hS' rfl
    have hz3 : (ts.map Value.ref).toArray.size = i := by rw [List.size_toArray, List.length_map, hl]
    have hS4 : ∃ c2, (h'.update S (Obj.mapSeq (·.push (Value.ref s.heap.objs.size)))).get? S = some { cls := .type "list", dict := none, data := .seq ((ts ++ [s.heap.objs.size]).map Value.ref).toArray c2, slots := #[] } := by
      have e1 : ((ts ++ [s.heap.objs.size]).map Value.ref).toArray = (ts.map Value.ref).toArray.push (Value.ref s.heap.objs.size) := by simp
      rw [e1]
      exact ⟨_, hS2⟩
    obtain ⟨c2, hS4⟩ := hS4
    refine wpAny_updateSeq hS' rfl (wpAny_pure ⟨plainId_quiet F.plain_extend_loop _, ih (i + 1) _ (ts ++ [s.heap.objs.size]) c2 (by omega) hlt (st'.at o fun b o hb e => hup b hb o e) hS4 (by rw [List.length_append, hl]; rfl) acc2 fun h2 ts' c' hk2 hS3 hl' acc3 => ?_⟩)
      (by rw [hz3]; omega) (by show ((ts.map Value.ref).toArray.push _).size ≤ sizeLine + 1; rw [Array.size_push, hz3]; omega)
    · refine hR h2 ts' c' (fun b o hb c1 c2 c3 c4 e => hk2 b o hb c1 c2 c3 c4 (hup b hb o (hk' b o c1 c2 c3 c4 e))) hS3 hl' acc3
theorem extend_zip (hh : A.handled = none) (D : ZipApart z TI TO i1 i2 l1 l2) (o : ZOff z TI TO i1 i2 l1 l2 S) {B : Nat} (hb : z < B ∧ TO < B ∧ i1 < B ∧ i2 < B) (hB : B = S + 1) (hn : min xs.size ys.size ≤ sizeLine) (res : Value) (c₀ : Nat)
    (st : ZSt z TI TO i1 i2 l1 l2 S xs ys 0 s.heap) (hz : IsZip s.heap z TI TO .none) (hS : s.heap.get? S = some { cls := .type "list", data := .seq #[] c₀ })
    (hR : ∀ h' ts' c', (∀ b o, b ≠ S → b ≠ z → b ≠ TO → b ≠ i1 → b ≠ i2 → s.heap.get? b = some o → h'.get? b = some o) → h'.get? S = some { cls := .type "list", dict := none, data := .seq (ts'.map Value.ref).toArray c', slots := #[] } →
      ts'.length = min xs.size ys.size → ZAcc h' xs ys B ts' → R (.ok (.ret res)) { s with heap := h' }) :
    wpAny (model prog w) A.in1 (Builtin.List.listExtendWith (.ref S) (.ref z) res)
      (fun fin s' => match fin with | .done f => R (.ok f) s' | .again c' => c'.quiet = true ∧ codeAny (model prog w) A c' R s') (fun e s' => R (.error e) s') s := by
  have hT : s.TypeIs (.ref z) "zip" := ⟨_, hz, rfl⟩
  have key : ∀ (h : Heap) (c₁ : Nat), (∀ b o, b ≠ S → s.heap.get? b = some o → h.get? b = some o) →
      h.get? S = some { cls := .type "list", data := .seq #[] c₁ } → codeAny (model prog w) A (.builtin "list.extend.loop" ⟨[.ref S, .ref z, res], []⟩) R { s with heap := h } := by
    intro h c₁ hk hS₁
    refine zip_loop hh D o hb hB hn res _ 0 _ [] c₁ rfl (Nat.zero_le _) (st.at o hk) hS₁ rfl ⟨List.Pairwise.nil, (fun t m => nomatch m), (fun j t e => by simp at e)⟩ fun h' ts' c' hk' hS' hl' acc => ?_
    exact hR h' ts' c' (fun b o hb c1 c2 c3 c4 e => hk' b o hb c1 c2 c3 c4 (hk b o hb e)) hS' hl' acc
  unfold Builtin.List.listExtendWith
  refine wpAny_bind (wpAny_typeOf (T := "zip") hT ?_)
  have h1 : Builtin.List.listSameRef (.ref S) (.ref z) = false := by simp [Builtin.List.listSameRef, o.1]
  have h2 : (Value.type "zip" == Value.type "list") = false := by decide
  have h3 : (Value.type "zip" == Value.type "tuple") = false := by decide
  simp only [h1, h2, h3, Bool.or_false, Bool.false_eq_true, if_false]
  refine wpAny_bind (wpAny_pyIter_zip hz ?_)
  refine wpAny_bind (wpAny_holding ?_)
  unfold Builtin.List.listLengthHint
  refine wpAny_bind (wpAny_specialOf hT zip_no_len ?_)
  refine wpAny_bind (wpAny_specialOf hT zip_no_hint ?_)
  refine wpAny_pure ?_
  refine wpAny_ite_split (fun _ => ?_) (fun hab => absurd rfl hab)
  refine wpAny_bind (wpAny_rule ?_)
  refine wpAny_bind ?_
  show wpAny _ _ (updateSeq S (·.push .none) >>= fun _ => updateSeq S (·.pop)) _ _ _
  refine wpAny_bind (wpAny_updateSeq hS rfl ?_)
  have hS₂ := Heap.get?_update_self (Obj.mapSeq (·.push Value.none)) hS rfl
  refine wpAny_updateSeq (hz := by seq_fits) hS₂ rfl ?_
  have hS₃ := Heap.get?_update_self (Obj.mapSeq (·.pop)) hS₂ rfl
  refine wpAny_pure ⟨plainId_quiet F.plain_extend_loop _, key _ _ (fun b o hb e => ?_) hS₃⟩
  exact (Heap.get?_update_other _ _ (Ne.symm hb)).trans ((Heap.get?_update_other _ _ (Ne.symm hb)).trans e)
theorem list_init_zip (hh : A.handled = none) (D : ZipApart z TI TO i1 i2 l1 l2) (o : ZOff z TI TO i1 i2 l1 l2 S) {B : Nat} (hb : z < B ∧ TO < B ∧ i1 < B ∧ i2 < B) (hB : B = S + 1) (hn : min xs.size ys.size ≤ sizeLine)
    (st : ZSt z TI TO i1 i2 l1 l2 S xs ys 0 s.heap) (hz : IsZip s.heap z TI TO .none) (hS : s.heap.get? S = some { cls := .type "list", data := .seq #[] })
    (hR : ∀ h' ts' c', (∀ b o, b ≠ S → b ≠ z → b ≠ TO → b ≠ i1 → b ≠ i2 → s.heap.get? b = some o → h'.get? b = some o) → h'.get? S = some { cls := .type "list", dict := none, data := .seq (ts'.map Value.ref).toArray c', slots := #[] } →
      ts'.length = min xs.size ys.size → ZAcc h' xs ys B ts' → R (.ok (.ret .none)) { s with heap := h' }) :
    wpAny (model prog w) A.in1 (Builtin.«list.__init__» ⟨[.ref S, .ref z], []⟩)
      (fun fin s' => match fin with | .done f => R (.ok f) s' | .again c' => c'.quiet = true ∧ codeAny (model prog w) A c' R s') (fun e s' => R (.error e) s') s := by
  show wpAny _ _ (do let old ← Builtin.List.listItems (.ref S); Builtin.List.listUpdate (.ref S) (fun _ => #[]); letGo old.toList.reverse; Builtin.List.listExtendWith (.ref S) (.ref z) .none) _ _ s
  refine wpAny_bind ?_
  unfold Builtin.List.listItems
  refine wpAny_bind (wpAny_seqItems hS rfl (wpAny_pure ?_))
  show wpAny _ _ (updateSeq S (fun _ => #[]) >>= fun _ => letGo (#[] : Array Value).toList.reverse >>= fun _ => Builtin.List.listExtendWith (.ref S) (.ref z) .none) _ _ s
  refine wpAny_bind (wpAny_updateSeq hS rfl ?_)
  have hS₂ := Heap.get?_update_self (Obj.mapSeq (fun _ => (#[] : Array Value))) hS rfl
  have oth : ∀ b o, b ≠ S → s.heap.get? b = some o → (s.heap.update S (Obj.mapSeq (fun _ => (#[] : Array Value)))).get? b = some o :=
    fun b o hb e => (Heap.get?_update_other _ _ (Ne.symm hb)).trans e
  refine wpAny_bind (wpAny_letGo ?_)
  refine extend_zip hh D o hb hB hn .none _ (st.at o oth) (oth _ _ (Ne.symm o.1) hz) hS₂ fun h' ts' c' hk hS' hl acc => ?_
  exact hR h' ts' c' (fun b o hb c1 c2 c3 c4 e => hk b o hb c1 c2 c3 c4 (oth b o hb e)) hS' hl acc
end
section
variable {prog : Program} {w : World} {A : Around} {E : Value → Shared → Prop} {s : Shared} {z TI TO i1 i2 l1 l2 : Addr} {xs ys : Array Value} {a b : Value}
theorem call_list_zip {Q : Value → Shared → Prop} (hh : A.handled = none) (D : ZipApart z TI TO i1 i2 l1 l2) (hz : IsZip s.heap z TI TO .none) (hTI : IsPair s.heap TI (.ref i1) (.ref i2)) (hTO : IsPair s.heap TO a b)
    (h1 : s.heap.IsListIter i1 l1 0) (h2 : s.heap.IsListIter i2 l2 0) (hl1 : s.heap.IsList l1 xs) (hl2 : s.heap.IsList l2 ys) (hn : min xs.size ys.size ≤ sizeLine)
    (hQ : ∀ h' ts' c', (∀ b o, b ≠ z → b ≠ TO → b ≠ i1 → b ≠ i2 → s.heap.get? b = some o → h'.get? b = some o) → h'.get? s.heap.objs.size = some { cls := .type "list", dict := none, data := .seq (ts'.map Value.ref).toArray c', slots := #[] } →
      ts'.length = min xs.size ys.size → ZAcc h' xs ys (s.heap.objs.size + 1) ts' → Q (.ref s.heap.objs.size) { s with heap := h' }) :
    wpAny (model prog w) A (call (.type "list") [.ref z]) Q E s := by
  have lt : ∀ {c o}, s.heap.get? c = some o → c < s.heap.objs.size + 1 := fun e => Nat.lt_succ_of_lt (Heap.lt_size e)
  have ne : ∀ {c o}, s.heap.get? c = some o → s.heap.objs.size ≠ c := fun e => Nat.ne_of_gt (Heap.lt_size e)
  have li1 : ∃ o, s.heap.get? i1 = some o := let ⟨o, e, _⟩ := h1; ⟨o, e⟩
  have li2 : ∃ o, s.heap.get? i2 = some o := let ⟨o, e, _⟩ := h2; ⟨o, e⟩
  have ll1 : ∃ o, s.heap.get? l1 = some o := let ⟨o, e, _⟩ := hl1; ⟨o, e⟩
  have ll2 : ∃ o, s.heap.get? l2 = some o := let ⟨o, e, _⟩ := hl2; ⟨o, e⟩
  refine callType_codes (Q₁ := fun obj s₁ => obj = .ref s.heap.objs.size ∧ s₁ = { s with heap := s.heap.push { cls := .type "list", data := .seq #[] } }) F.called_list (F.typeCall_list_1 _) F.entry_list_init
    (code_list_new _ ⟨rfl, rfl⟩) fun obj s₁ h₁ => ?_
  obtain ⟨rfl, rfl⟩ := h₁
  have hS : (s.heap.push { cls := .type "list", data := .seq #[] }).get? s.heap.objs.size = some { cls := .type "list", data := .seq #[] } := Heap.get?_push_size _ rfl
  have up : ∀ {c o}, s.heap.get? c = some o → (s.heap.push { cls := .type "list", data := .seq #[] }).get? c = some o := fun e => Heap.get?_push_of_some _ e
  refine ⟨⟨_, hS, rfl⟩, F.args_list_init_2 _ _, list_init_zip (A := A.in1) (B := s.heap.objs.size + 1) hh D ⟨ne hz, ne hTI, ne hTO, ne li1.choose_spec, ne li2.choose_spec, ne ll1.choose_spec, ne ll2.choose_spec⟩
    ⟨lt hz, lt hTO, lt li1.choose_spec, lt li2.choose_spec⟩ rfl hn ⟨up hTI, h1.at fun o e => up e, h2.at fun o e => up e, hl1.at fun o e => up e, hl2.at fun o e => up e, .inl ⟨up hz, a, b, up hTO⟩⟩ (up hz) hS fun h' ts' c' hk hS' hl acc => ?_⟩
  exact ⟨rfl, hQ h' ts' c' (fun b o c1 c2 c3 c4 e => hk b o (Nat.ne_of_lt (Heap.lt_size e)) c1 c2 c3 c4 (up e)) hS' hl acc⟩
end
section
variable {X : Cx} {pins : List (Addr × Obj)} {σ : L2.St} {H H' : Hp} {s : Shared} {h' : Heap}
theorem inv_many {t' : Nat} (I : Inv X pins σ H s) (k : ∀ b o, s.heap.get? b = some o → h'.get? b = some o) (ext : ∀ b u, H b = some u → H' b = some u)
    (low : ∀ b o, s.heap.get? b = some o → H b = none → H' b = none) (new : ∀ b u, H b = none → H' b = some u → ObjOk X.prog X.w H' h' b u) : Inv X pins σ H' { s with heap := h', toks := t' } := by
  refine I.un ⟨fun b o q _ _ _ => k b o q, fun b o q _ _ _ => ⟨o.slots, k b o q⟩, fun b o q n _ => low b o q n, fun b o q _ => ⟨o, k b o q⟩, fun b xs q => ext _ _ q, fun b o u q => ext _ _ q, fun b ps q => ⟨#[], by rw [ext _ _ q]; simp⟩⟩ ?_
  intro b u e
  cases q : H b with
  | none => exact new b u q e
  | some v =>
    have e2 := ext b v q
    rw [e] at e2
    cases e2
    exact (I.hok b u q).stay (fun c v' _ q' => k c v' q') (fun c q' => ext _ _ q') fun c xs q' => ext _ _ q'
end
/-- pairs laid at ts -/
inductive Laid2 : Hp → List (V × V) → List Addr → Hp → Prop
  | nil {H : Hp} : Laid2 H [] [] H
  | cons {H H2 : Hp} {p : V × V} {ps : List (V × V)} {t : Addr} {ts : List Addr} (e : H t = none) (r : Laid2 (upd H t (.tup [p.1, p.2])) ps ts H2) : Laid2 H (p :: ps) (t :: ts) H2
theorem laid2_ex : ∀ (ps : List (V × V)) (ts : List Addr) (H : Hp), ps.length = ts.length → ts.Pairwise (· < ·) → (∀ t ∈ ts, H t = none) →
    ∃ H2, Laid2 H ps ts H2 ∧ (∀ b, b ∉ ts → H2 b = H b) ∧ ∀ (j : Nat) (t : Addr) (p : V × V), ts[j]? = some t → ps[j]? = some p → H2 t = some (.tup [p.1, p.2])
  | [], [], H, _, _, _ => ⟨H, .nil, fun _ _ => rfl, fun j t p e => by simp at e⟩
  | [], _ :: _, _, l, _, _ => by simp at l
  | _ :: _, [], _, l, _, _ => by simp at l
  | p :: ps, t :: ts, H, l, w, n => by
    have w' := List.pairwise_cons.mp w
    have nm : t ∉ ts := fun m => absurd (w'.1 t m) (Nat.lt_irrefl _)
    obtain ⟨H2, h1, h2, h3⟩ := laid2_ex ps ts (upd H t (.tup [p.1, p.2])) (by simpa using l) w'.2 fun u m => by
      rw [upd_ne (fun z : u = t => nm (z ▸ m))]
      exact n u (List.mem_cons_of_mem _ m)
    refine ⟨H2, .cons (n t List.mem_cons_self) h1, fun b hb => ?_, fun j u q e1 e2 => ?_⟩
    · rw [h2 b fun z => hb (List.mem_cons_of_mem _ z), upd_ne fun z : b = t => hb (z ▸ List.mem_cons_self)]
    · cases j with
      | zero =>
        simp at e1 e2
        subst e1 e2
        rw [h2 t nm, upd_same]
      | succ j =>
        simp at e1 e2
        exact h3 j u q e1 e2
section
variable {G : Sg} {B : Bor} {A : List Addr} {h : Hm}
theorem laid2_fits {H H2 : Hp} {ps : List (V × V)} {ts : List Addr} (L : Laid2 H ps ts H2) : ∀ {qs : List (Val × Val)}, Fits G B A h H → qs.length = ps.length →
    (∀ (j : Nat) (q : Val × Val) (p : V × V), qs[j]? = some q → ps[j]? = some p → RV G B A H q.1 p.1 ∧ RV G B A H q.2 p.2) →
    Fits G B A h H2 ∧ Next A H A H2 ∧ RVs G B A H2 (qs.map fun q => .tup [q.1, q.2]) (ts.map V.ref) := by
  induction L with
  | nil =>
    intro qs F l _
    cases qs with
    | nil => exact ⟨F, .refl, rfl⟩
    | cons q qs => simp at l
  | @cons H H2 p ps t ts e r ih =>
    intro qs F l rel
    cases qs with
    | nil => simp at l
    | cons q qs =>
      have n1 : Next A H A (upd H t (.tup [p.1, p.2])) := next_new e
      obtain ⟨r1, r2⟩ := rel 0 q p rfl rfl
      obtain ⟨F2, n2, r3⟩ := ih (qs := qs) (F.other e) (by simpa using l) fun j q' p' e1 e2 => by
        obtain ⟨a, b⟩ := rel (j + 1) q' p' e1 e2
        exact ⟨RV.mono n1 _ a, RV.mono n1 _ b⟩
      refine ⟨F2, n1.trans n2, ?_⟩
      refine RVs.cons (RV.mono n2 (.tup [q.1, q.2]) ?_) r3
      unfold RV
      exact ⟨t, _, rfl, upd_same, F.new e, by show 2 ≤ sizeLine; rw [sizeLine_eq]; decide, .cons (RV.mono n1 _ r1) (.cons (RV.mono n1 _ r2) .nil)⟩
theorem mkL_later {z : Bool} {vs : List Val} {H H2 : Hp} {Q : VK} (n : Next A H A H2) (p : PV G B A H (mkL z vs h) Q) : PV G B A H2 (mkL z vs h) Q := by
  unfold mkL at p ⊢
  cases z with
  | true =>
    rw [if_pos rfl] at p ⊢
    exact fun A' H' x F n' r => p A' H' x F (n.trans n') r
  | false =>
    rw [if_neg Bool.false_ne_true] at p ⊢
    exact fun A' H' x F n' r => p A' H' x F (n.trans n') r
end
section
variable {X : Cx} {e e2 : Expr} {p p2 q pos : Pos} {ta : TA}
def tLZ (K : PySem.W.Frag) (ta : TA) : TE := fun σ H Q => ta σ H fun vs H1 => ∃ a b xs ys, vs = [.ref a, .ref b] ∧ SqL K H1 a xs ∧ SqL K H1 b ys ∧
  ∀ ts H2 d, Laid2 H1 (xs.zip ys) ts H2 → H2 d = none → Q (.ref d) (upd H2 d (.lst (ts.map V.ref)))
theorem vals_back {xs : List V} {us : List Value} {j : Nat} {u : Value} (r : Vals xs us) (e : us[j]? = some u) : ∃ x, xs[j]? = some x ∧ RelV x u := by
  have hj : j < xs.length := by rw [r.length]; exact (List.getElem?_eq_some_iff.mp e).1
  obtain ⟨u', e', r'⟩ := r.get (List.getElem?_eq_getElem hj)
  rw [e] at e'
  cases e'
  exact ⟨_, List.getElem?_eq_getElem hj, r'⟩
theorem vals_refs (ts : List Addr) : Vals (ts.map V.ref) (ts.map Value.ref) := by
  induction ts with
  | nil => exact .nil
  | cons t ts ih => exact .cons rfl ih
theorem pe_listZip (hc : X.calm = true) (hg : Gl X "list") (hm : X.mg "list" = none) (hg2 : Gl X "zip") (hm2 : X.mg "zip" = none) (ha : PA X [e, e2] ta)
    (hs : starEach [e, e2] X.env = (false, eval e X.env) :: starEach [e2] X.env) (hpl : (backTo q (starEach [e2] X.env)).any (·.1) = false) :
    PE X (.Call (.Name "list" p) [.Call (.Name "zip" p2) [e, e2] [] q] [] pos) (tLZ X.K ta) := by
  refine ⟨fun pins s σ H Q I h => ?_⟩
  refine Call_ (ld_blt I hg hm boot_list ?_)
  refine PyProof.Rows.callWith_type1 (PyProof.Rows.args_cons ?_ rfl) rfl rfl
  refine Call_ (ld_blt I hg2 hm2 PyProof.Rows.boot_zip (PyProof.Rows.callWith_type1 (thn (ha.run q pins s σ H _ I h) fun us s1 ⟨vs, H1, I1, r1, q1⟩ => ?_) hs hpl))
  obtain ⟨a, b, xs, ys, ex, hqx, hqy, q1⟩ := q1
  subst ex
  cases r1 with
  | cons r rr =>
    cases rr with
    | cons r' rr =>
      cases rr
      cases r
      cases r'
      obtain ⟨its, rv, p1, z1⟩ := I1.list hqx
      obtain ⟨its2, rv2, p2, z2⟩ := I1.list hqy
      have la : a < s1.heap.objs.size := p1.lt
      have lb : b < s1.heap.objs.size := p2.lt
      have l1 := rv.length
      have l2 := rv2.length
      refine call_zip_2 p1.isList p2.isList fun h' hz hTI hTO h1 h2 hsz hk => PyProof.Rows.args_nil ?_
      refine call_list_zip (s := { s1 with heap := h' }) (I1.ok.hd hc) (PySem.W.ktu_apart s1.heap.objs.size a b la lb) hz hTI hTO h1 h2 (p1.isList.at fun o e => hk _ o e) (p2.isList.at fun o e => hk _ o e) ?_ fun h2' ts c' hk2 hS hl acc => ?_
      · refine Nat.le_trans (Nat.min_le_left ..) ?_
        rw [List.size_toArray, ← l1]
        exact z1
      have kp : ∀ b o, s1.heap.get? b = some o → h2'.get? b = some o := fun b o e => by
        have lt := Heap.lt_size e
        exact hk2 b o (Nat.ne_of_lt (Nat.lt_of_lt_of_le lt (Nat.le_add_right _ _))) (Nat.ne_of_lt (Nat.lt_of_lt_of_le lt (Nat.le_add_right _ _))) (Nat.ne_of_lt lt) (Nat.ne_of_lt (Nat.lt_of_lt_of_le lt (Nat.le_add_right _ _))) (hk b o e)
      have hsz' : h'.objs.size = s1.heap.objs.size + 5 := hsz
      have hlS : s1.heap.objs.size ≤ h'.objs.size := by rw [hsz']; exact Nat.le_add_right _ _
      have big : ∀ t ∈ ts, s1.heap.objs.size ≤ t := fun t m => Nat.le_trans hlS (Nat.le_trans (Nat.le_succ _) (acc.2.1 t m).1)
      have hlen : (xs.zip ys).length = ts.length := by
        rw [hl, List.length_zip, List.size_toArray, List.size_toArray, l1, l2]
      obtain ⟨H2, L, off, on⟩ := laid2_ex (xs.zip ys) ts H1 hlen acc.1 fun t m => I1.hok.fresh (big t m)
      have hSn : h'.objs.size ∉ ts := fun m => absurd (acc.2.1 _ m).1 (Nat.not_succ_le_self _)
      have fS : H2 h'.objs.size = none := by rw [off _ hSn]; exact I1.hok.fresh hlS
      have I2 : Inv X pins σ (upd H2 h'.objs.size (.lst (ts.map V.ref))) { s1 with heap := h2' } := by
        refine inv_many (t' := s1.toks) I1 kp (fun b u e => ?_) (fun b o e n => ?_) (fun b u n e => ?_)
        · have hb : b ∉ ts := fun m => by rw [I1.hok.fresh (big b m)] at e; cases e
          rw [upd_ne (fun z => by rw [z, I1.hok.fresh hlS] at e; cases e), off b hb]
          exact e
        · have lt := Heap.lt_size e
          have hb : b ∉ ts := fun m => absurd (big b m) (Nat.not_le_of_lt lt)
          rw [upd_ne (Nat.ne_of_lt (Nat.lt_of_lt_of_le lt hlS)), off b hb]
          exact n
        · by_cases hb : b = h'.objs.size
          · subst hb
            rw [upd_same] at e
            cases e
            refine ⟨?_, ts.map Value.ref, c', vals_refs ts, hS⟩
            rw [List.length_map, ← hlen, List.length_zip]
            exact Nat.le_trans (Nat.min_le_left ..) z1
          · rw [upd_ne hb] at e
            by_cases hm : b ∈ ts
            · obtain ⟨j, ej⟩ := List.mem_iff_getElem?.mp hm
              obtain ⟨x, y, e1, e2, e3⟩ := acc.2.2 j b ej
              have e1' : its[j]? = some x := by simpa using e1
              have e2' : its2[j]? = some y := by simpa using e2
              obtain ⟨vx, f1, g1⟩ := vals_back rv e1'
              obtain ⟨vy, f2, g2⟩ := vals_back rv2 e2'
              have ez : (xs.zip ys)[j]? = some (vx, vy) := by
                rw [List.getElem?_zip_eq_some]
                exact ⟨f1, f2⟩
              rw [on j b _ ej ez] at e
              cases e
              exact ⟨by show 2 ≤ sizeLine; rw [sizeLine_eq]; decide, [x, y], .cons g1 (.cons g2 .nil), ⟨_, e3, rfl, _, rfl⟩⟩
            · rw [off b hm, n] at e
              cases e
      exact ⟨.ref h'.objs.size, _, I2, rfl, q1 ts H2 h'.objs.size L fS⟩
end
section
variable {X : Cx} {e : Expr} {te tl ts : TE} {lo st : Expr} {p2 pos : Pos}
theorem vals_places : ∀ {xs : List V} {us : List Value}, Vals xs us → ∀ js : List Nat, Vals (js.filterMap (xs[·]?)) (js.filterMap (us[·]?))
  | _, _, _, [] => .nil
  | xs, us, h, j :: js => by
    have ih := vals_places h js
    cases hn : xs[j]? with
    | some n =>
      obtain ⟨u, hu, r⟩ := h.get hn
      simp only [List.filterMap_cons, hn, hu]
      exact .cons r ih
    | none =>
      have hv : us[j]? = none := by
        rw [List.getElem?_eq_none_iff] at hn ⊢
        rw [← h.length]; exact hn
      simp only [List.filterMap_cons, hn, hv]
      exact ih
theorem vals_every {xs : List V} {us : List Value} (h : Vals xs us) (lo st : Int) : Vals (everyM xs lo st) (slicePick us.toArray (some lo) none (some st)).toList := by
  have e : (slicePick us.toArray (some lo) none (some st)).toList = everyM us lo st := by simp [slicePick, everyM]
  rw [e]
  unfold everyM
  rw [h.length]
  exact vals_places h _
def tSlS (K : PySem.W.Frag) (te tl ts : TE) : TE := fun σ H Q => te σ H fun x H1 => tl σ H1 fun l H2 => ts σ H2 fun u H3 => ∃ a xs i j, x = .ref a ∧ l = .int i ∧ u = .int j ∧ SqL K H3 a xs ∧ 1 ≤ j ∧
  ((everyM xs i j).length ≤ sizeLine → ∀ d, H3 d = none → Q (.ref d) (upd H3 d (.lst (everyM xs i j))))
theorem pe_sliceSt (he : PE X e te) (hl : PE X lo tl) (hst : PE X st ts) : PE X (.Subscript e (.Slice (some lo) none (some st) p2) pos) (tSlS X.K te tl ts) := by
  refine ⟨fun pins s σ H Q I h => ?_⟩
  refine Subscript_ (thn (he.run pins s σ H _ I h) fun v s1 ⟨x, H1, I1, r1, q1⟩ => ?_)
  refine wpAny_Slice ?_
  rw [evalPart_some]
  refine thn (hl.run pins s1 σ H1 _ I1 q1) fun vl s2 ⟨l, H2, I2, r2, q2⟩ => ?_
  rw [evalPart_none]
  refine wpAny_pure ?_
  rw [evalPart_some]
  refine thn (hst.run pins s2 σ H2 _ I2 q2) fun vs s4 ⟨u, H4, I4, r4, q4⟩ => ?_
  obtain ⟨a, xs, i, j, rfl, rfl, rfl, hx, hj, q⟩ := q4
  cases r1
  obtain ⟨tk1, rfl⟩ := r2
  obtain ⟨tk2, rfl⟩ := r4
  have I5 : Inv X pins σ H4 { s4 with heap := s4.heap.push { cls := .type "slice", data := .fields #[.int i tk1, .none, .int j tk2] } } := I4.kept (t' := s4.toks) fun b ob q => Heap.get?_push_of_some _ q
  obtain ⟨its, r, ht, hz⟩ := I5.list hx
  have hlen := r.length
  have hsz : its.toArray.size ≤ sizeLine := by rw [List.size_toArray]; omega
  show wpAny (model X.prog X.w) X.A (subscriptTail e (.Slice (some lo) none (some st) p2) (.ref a) (.ref s4.heap.objs.size)) (EP X pins σ Q) X.xe { s4 with heap := s4.heap.push { cls := .type "slice", data := .fields #[.int i tk1, .none, .int j tk2] } }
  refine tail_any (ops := [.ref a, .ref s4.heap.objs.size]) ht.isList.typeIs (PySem.slot_list_getitem.lookup) ?_ (by with_unfolding_all rfl)
  refine wpAny_getItem_list_slice ht.isList (Heap.IsSliceOf.new _ (.int i tk1) .none (.int j tk2)) (.int _ _) .none (.int _ _) (by intro k; cases k; omega) ?_ hsz
  have rl := vals_every r i j
  have hle : (everyM xs i j).length ≤ sizeLine := by
    rw [rl.length, Array.length_toList]
    exact Nat.le_trans (slicePick_size_le _ _ _ _) hsz
  refine ⟨.ref _, _, I5.laid (t' := s4.toks) (o := .lst (everyM xs i j)) (fun b ob q => Heap.get?_push_of_some _ q) (Nat.le_refl _) ?_, rfl, q hle _ (I5.hok.fresh (Nat.le_refl _))⟩
  refine ⟨hle, (slicePick its.toArray (some i) none (some j)).toList, 0, rl, ?_⟩
  rw [Array.toArray_toList]
  exact Heap.get?_push_size _ rfl
end
section
variable {G : Sg} {B : Bor} {A : List Addr} {H : Hp}
theorem rvs_places : ∀ {vs : List Val} {xs : List V}, RVs G B A H vs xs → ∀ js : List Nat, RVs G B A H (js.filterMap (vs[·]?)) (js.filterMap (xs[·]?))
  | _, _, _, [] => rfl
  | vs, xs, h, j :: js => by
    have ih := rvs_places h js
    cases hn : vs[j]? with
    | some n =>
      obtain ⟨u, hu, r⟩ := h.get hn
      simp only [List.filterMap_cons, hn, hu]
      exact .cons r ih
    | none =>
      have hv : xs[j]? = none := by
        rw [List.getElem?_eq_none_iff] at hn ⊢
        rw [← h.length]; exact hn
      simp only [List.filterMap_cons, hn, hv]
      exact ih
theorem rvs_every {vs : List Val} {xs : List V} (h : RVs G B A H vs xs) (lo st : Int) : RVs G B A H (everyM vs lo st) (everyM xs lo st) := by
  unfold everyM
  rw [h.length]
  exact rvs_places h _
end
/-- range of one or two numbers -/
theorem prg_A {X : Cx} {e : Expr} {es : List Expr} {t : TA} {p pos : Pos} (hg : Gl X "range") (hm : X.mg "range" = none) (ha : PA X (e :: es) t) (he : starEach (e :: es) X.env = (false, eval e X.env) :: starEach es X.env) (hp : (backTo pos (starEach es X.env)).any (·.1) = false) :
    PRg X (.Call (.Name "range" p) (e :: es) [] pos) (fun σ H Q => t σ H fun vs H1 => ∃ i j, (vs = [.int i, .int j] ∨ (vs = [.int j] ∧ i = 0)) ∧ Q i j H1) := by
  intro pins s σ H Q I h
  refine Call_ (ld_blt I hg hm boot_range (PyProof.Rows.callWith_type1 (thn (ha.run pos pins s σ H _ I h) fun us s1 ⟨vs, H1, I1, r1, i, j, c, q⟩ => ?_) he hp))
  rcases c with rfl | ⟨rfl, rfl⟩
  · obtain ⟨u, us1, rfl, a1, b1⟩ : ∃ u us1, us = u :: us1 ∧ RelV (.int i) u ∧ Vals [.int j] us1 := by cases r1 with | cons a b => exact ⟨_, _, rfl, a, b⟩
    obtain ⟨u2, rfl, a2⟩ : ∃ u2, us1 = [u2] ∧ RelV (.int j) u2 := by cases b1 with | cons a b => cases b; exact ⟨_, rfl, a⟩
    obtain ⟨t1, rfl⟩ := a1
    obtain ⟨t2, rfl⟩ := a2
    exact call_range_2 ⟨_, i, j, _, _, _, H1, rfl, IsRange.new _ _ _ _ _ _ _, I1.kept fun b u e => Heap.get?_push_of_some _ e, q⟩
  · obtain ⟨u2, rfl, a2⟩ : ∃ u2, us = [u2] ∧ RelV (.int j) u2 := by cases r1 with | cons a b => cases b; exact ⟨_, rfl, a⟩
    obtain ⟨t2, rfl⟩ := a2
    exact call_range_1 ⟨_, 0, j, _, _, _, H1, rfl, IsRange.new _ _ _ _ _ _ _, I1.kept fun b u e => Heap.get?_push_of_some _ e, q⟩
end MP
set_option Elab.async false
set_option linter.all false
set_option maxRecDepth 100000
set_option autoImplicit false
namespace MP
open PySem PySem.Spec PyProof.Rows L2
variable [Tabs]
section
variable {P : Pg} {G : Sg} {cl : CL} {lv : Lv} {tx : Tx} {X : Cx} {W : WX}
theorem snd_idx {a i : C} (sa : Snd P a) (si : Snd P i) : Snd P (.idx a i) where
  e := by
    intro G cl lv tx X W at_ e h
    simp only [chkE] at h
    split at h
    · rename_i x y pos
      simp only [Bool.and_eq_true] at h
      obtain ⟨⟨h1, h2⟩, h3⟩ := h
      have b : PE X (.Subscript x y pos) (tE P G cl W (.idx a i)) := by
        refine pe_imp (pe_ix (ixr_ex fun B => ix_idxM (G := G) (B := B) at_.fa.g at_.fa.hK (un1 at_.room)) (sa.e at_ x h2).1 (si.e at_ y h3).1 (plainIx_of h1)) ?_
        intro σ H Q ⟨B, A, h, e, F, re, p⟩
        simp only [evE] at p
        refine ⟨B, A, h, e, F, re, p.bind.imp fun v x h1 A1 H1 F1 n1 r1 p1 => ?_⟩
        refine ⟨B, A1, h1, e, F1, re.mono n1, p1.bind.imp fun w y h2 A2 H2 F2 n2 r2 p2 => ?_⟩
        exact ⟨B, A2, h2, v, w, F2, RV.mono n2 v r1, r2, toPV p2⟩
      exact ⟨b, pt_simple b rfl⟩
    · cases h
  a := by intro G cl lv tx X W a es h; simp [chkA] at h
  o := by intro G cl lv tx X W a e h; simp [chkP'] at h
  i := by intro G cl lv tx X W a e tg h; simp [chkI] at h
theorem snd_slc {z : Bool} {a lo hi : C} (sa : Snd P a) (sl : Snd P lo) (sh : Snd P hi) : Snd P (.slc z a lo hi) where
  e := by
    intro G cl lv tx X W at_ e h
    simp only [chkE] at h
    split at h
    · rename_i x l u p2 pos
      simp only [Bool.and_eq_true] at h
      obtain ⟨⟨h1, h2⟩, h3⟩ := h
      have b : PE X (.Subscript x (.Slice l u none p2) pos) (tE P G cl W (.slc z a lo hi)) := by
        refine pe_imp (pe_slice (slr_ex fun B => sl_slcM (G := G) (B := B) (z := z) at_.fa.hK) (sa.e at_ x h1).1 (sl.o at_ l h2) (sh.o at_ u h3)) ?_
        intro σ H Q ⟨B, A, h, e, F, re, p⟩
        simp only [evE] at p
        refine ⟨B, A, h, e, F, re, p.bind.imp fun v x h1 A1 H1 F1 n1 r1 p1 => ?_⟩
        refine ⟨B, A1, h1, e, F1, re.mono n1, p1.bind.imp fun w y h2 A2 H2 F2 n2 r2 p2 => ?_⟩
        refine ⟨B, A2, h2, e, F2, (re.mono n1).mono n2, p2.bind.imp fun w' y' h3 A3 H3 F3 n3 r3 p3 => ?_⟩
        obtain rfl : w = y := r2
        obtain rfl : w' = y' := r3
        exact ⟨B, A3, h3, v, F3, RV.mono n3 v (RV.mono n2 v r1), toPV p3⟩
      exact ⟨b, pt_simple b rfl⟩
    · cases h
  a := by intro G cl lv tx X W a es h; simp [chkA] at h
  o := by intro G cl lv tx X W a e h; simp [chkP'] at h
  i := by intro G cl lv tx X W a e tg h; simp [chkI] at h
theorem snd_slcS {z : Bool} {a lo st : C} (sa : Snd P a) (sl : Snd P lo) (sh : Snd P st) : Snd P (.slcS z a lo st) where
  e := by
    intro G cl lv tx X W at_ e h
    simp only [chkE] at h
    split at h
    · rename_i x l u p2 pos
      simp only [Bool.and_eq_true] at h
      obtain ⟨⟨h1, h2⟩, h3⟩ := h
      have b : PE X (.Subscript x (.Slice (some l) none (some u) p2) pos) (tE P G cl W (.slcS z a lo st)) := by
        refine pe_imp (pe_sliceSt (sa.e at_ x h1).1 (sl.e at_ l h2).1 (sh.e at_ u h3).1) ?_
        intro σ H Q ⟨B, A, h, e, F, re, p⟩
        simp only [evE] at p
        refine ⟨B, A, h, e, F, re, p.bind.imp fun v x h1 A1 H1 F1 n1 r1 p1 => ?_⟩
        refine ⟨B, A1, h1, e, F1, re.mono n1, p1.bind.imp fun w y h2 A2 H2 F2 n2 r2 p2 => ?_⟩
        refine ⟨B, A2, h2, e, F2, (re.mono n1).mono n2, p2.bind.imp fun w' y' h3 A3 H3 F3 n3 r3 p3 => ?_⟩
        split at p3
        · rename_i i j
          unfold RV at r2 r3
          subst r2 r3
          unfold slcSM at p3
          split at p3
          · rename_i vs ev
            split at p3
            · rename_i hj
              obtain ⟨d, xs, rfl, hq, l, r⟩ := lstOf_ok F3 ev (RV.mono n3 v (RV.mono n2 v r1))
              exact ⟨d, xs, i, j, rfl, rfl, rfl, by rw [at_.fa.hK]; exact hq, hj, fun hl q hq => mkL_ok F3 (toPV p3) (rvs_every r i j) hl hq⟩
            · exact p3.elim
          · exact p3.elim
        · exact p3.elim
      exact ⟨b, pt_simple b rfl⟩
    · cases h
  a := by intro G cl lv tx X W a es h; simp [chkA] at h
  o := by intro G cl lv tx X W a e h; simp [chkP'] at h
  i := by intro G cl lv tx X W a e tg h; simp [chkI] at h
theorem snd_rev {z : Bool} {a : C} (sa : Snd P a) : Snd P (.rev z a) where
  e := by
    intro G cl lv tx X W at_ e h
    simp only [chkE] at h
    split at h
    · rename_i x k p1 p2 p3 pos
      have b : PE X (.Subscript x (.Slice none none (some (.UnaryOp .USub (.Constant (.int 1) k p1) p2)) p3) pos) (tE P G cl W (.rev z a)) := by
        refine pe_imp (pe_revL (sa.e at_ x h).1) ?_
        intro σ H Q ⟨B, A, h, e, F, re, p⟩
        simp only [evE] at p
        refine ⟨B, A, h, e, F, re, p.bind.imp fun v x h1 A1 H1 F1 n1 r1 p1 => ?_⟩
        split at p1
        · rename_i vs ev
          obtain ⟨d, xs, rfl, hq, l, r⟩ := lstOf_ok F1 ev r1
          exact ⟨d, xs, rfl, by rw [at_.fa.hK]; exact hq, fun q hq => mkL_ok F1 (toPV p1) r.reverse (by rw [List.length_reverse]; exact l) hq⟩
        · exact p1.elim
      exact ⟨b, pt_simple b rfl⟩
    · cases h
  a := by intro G cl lv tx X W a es h; simp [chkA] at h
  o := by intro G cl lv tx X W a e h; simp [chkP'] at h
  i := by intro G cl lv tx X W a e tg h; simp [chkI] at h
theorem snd_fld {a : C} {f : Nat} (sa : Snd P a) : Snd P (.fld a f) where
  e := by
    intro G cl lv tx X W at_ e h
    simp only [chkE] at h
    split at h
    · rename_i x n pos
      simp only [Bool.and_eq_true, decide_eq_true_eq] at h
      obtain ⟨⟨h1, h2⟩, h3⟩ := h
      have b : PE X (.Attribute x n pos) (tE P G cl W (.fld a f)) := by
        refine pe_imp (pe_fld (sa.e at_ x h3).1 (base_of h2)) ?_
        intro σ H Q ⟨B, A, h, e, F, re, p⟩
        simp only [evE] at p
        refine ⟨B, A, h, e, F, re, p.bind.imp fun v x h1' A1 H1 F1 n1 r1 p1 => ?_⟩
        unfold fldM at p1
        split at p1
        · rename_i k fs vs ei
          split at p1
          · rename_i w ew
            obtain ⟨d, C, dx, fv, rfl, hd, ec, rf, rv⟩ := insOf_ok F1 ei r1
            obtain ⟨y, ey, ry⟩ := fld_rel at_.fa.g (by rw [at_.fa.fl]; exact h1) rf rv ew
            obtain ⟨c1, c2⟩ := at_.fa.ins k C ec
            exact ⟨d, C, dx, fv, y, rfl, hd, c1, c2 n (List.mem_of_getElem? h1), ey, post_ok p1 F1 .refl ry⟩
          · exact p1.elim
        · exact p1.elim
      exact ⟨b, pt_simple b rfl⟩
    · cases h
  a := by intro G cl lv tx X W a es h; simp [chkA] at h
  o := by intro G cl lv tx X W a e h; simp [chkP'] at h
  i := by intro G cl lv tx X W a e tg h; simp [chkI] at h
theorem snd_nil : Snd P .nil where
  a := by
    intro G cl lv tx X W at_ es h
    simp only [chkA] at h
    split at h
    · refine ⟨pa_imp pa_nil ?_, rfl⟩
      intro σ H Q ⟨B, A, h, e, F, re, p⟩
      simp only [evA] at p
      exact post_ok p F .refl RVs.nil
    · cases h
  e := by intro G cl lv tx X W a es h; simp [chkE] at h
  o := by intro G cl lv tx X W a e h; simp [chkP'] at h
  i := by intro G cl lv tx X W a e tg h; simp [chkI] at h
theorem snd_cons {a b : C} (sa : Snd P a) (sb : Snd P b) : Snd P (.cons a b) where
  a := by
    intro G cl lv tx X W at_ es h
    simp only [chkA] at h
    split at h
    · rename_i x xs
      simp only [Bool.and_eq_true] at h
      obtain ⟨h1, h2⟩ := h
      obtain ⟨hb1, hb2⟩ := sb.a at_ xs h2
      have ns : noStar (x :: xs) = true := noStar_of (fun y p e => by subst e; rw [chkE_star] at h1; cases h1) hb2
      refine ⟨pa_imp (pa_cons (sa.e at_ x h1).1 hb1 (star_cons ns).1) ?_, ns⟩
      intro σ H Q ⟨B, A, h, e, F, re, p⟩
      simp only [evA] at p
      refine ⟨B, A, h, e, F, re, p.bind.imp fun v x h1 A1 H1 F1 n1 r1 p1 => ?_⟩
      refine ⟨B, A1, h1, e, F1, re.mono n1, p1.bind.imp fun w y h2 A2 H2 F2 n2 r2 p2 => ?_⟩
      exact post_ok p2 F2 .refl (.cons (RV.mono n2 v r1) r2)
    · cases h
  e := by intro G cl lv tx X W a es h; simp [chkE] at h
  o := by intro G cl lv tx X W a e h; simp [chkP'] at h
  i := by intro G cl lv tx X W a e tg h; simp [chkI] at h
theorem snd_omit : Snd P .omit where
  o := by
    intro G cl lv tx X W at_ e h
    simp only [chkP'] at h
    split at h
    · refine ⟨fun pins s σ H Q I ⟨B, A, h, e, F, re, p⟩ => po_none.run pins s σ H Q I ?_⟩
      simp only [evP] at p
      exact post_ok p F .refl rfl
    · cases h
  e := by intro G cl lv tx X W a es h; simp [chkE] at h
  a := by intro G cl lv tx X W a e h; simp [chkA] at h
  i := by intro G cl lv tx X W a e tg h; simp [chkI] at h
theorem snd_part {a : C} (sa : Snd P a) : Snd P (.part a) where
  o := by
    intro G cl lv tx X W at_ e h
    simp only [chkP'] at h
    split at h
    · rename_i x
      refine ⟨fun pins s σ H Q I ⟨B, A, h', e, F, re, p⟩ => (po_some (sa.e at_ x h).1).run pins s σ H Q I ?_⟩
      simp only [evP] at p
      refine ⟨B, A, h', e, F, re, p.bind.imp fun v x h1 A1 H1 F1 n1 r1 p1 => ?_⟩
      split at p1
      · rename_i i
        unfold RV at r1
        exact ⟨i, r1, post_ok p1 F1 .refl rfl⟩
      · exact p1.elim
    · cases h
  e := by intro G cl lv tx X W a es h; simp [chkE] at h
  a := by intro G cl lv tx X W a e h; simp [chkA] at h
  i := by intro G cl lv tx X W a e tg h; simp [chkI] at h
theorem snd_tup {as : C} (sa : Snd P as) : Snd P (.tup as) where
  e := by
    intro G cl lv tx X W at_ e h
    simp only [chkE] at h
    split at h
    · rename_i es k pos
      have b : PE X (.Tuple es k pos) (tE P G cl W (.tup as)) := by
        refine pe_imp (pe_tup (sa.a at_ es h).1) ?_
        intro σ H Q ⟨B, A, h, e, F, re, p⟩
        simp only [evE] at p
        refine ⟨B, A, h, e, F, re, p.bind.imp fun v x h1 A1 H1 F1 n1 r1 p1 => ?_⟩
        split at p1
        · rename_i l
          have hl : x.length ≤ sizeLine := by rw [← RVs.length r1]; exact big_le l
          exact ⟨hl, fun q hq => tup_ok F1 (toPV p1) r1 hl hq⟩
        · exact p1.elim
      exact ⟨b, pt_simple b rfl⟩
    · cases h
  a := by intro G cl lv tx X W a es h; simp [chkA] at h
  o := by intro G cl lv tx X W a e h; simp [chkP'] at h
  i := by intro G cl lv tx X W a e tg h; simp [chkI] at h
theorem snd_lst {z : Bool} {as : C} (sa : Snd P as) : Snd P (.lst z as) where
  e := by
    intro G cl lv tx X W at_ e h
    simp only [chkE] at h
    split at h
    · rename_i es pos
      have b : PE X (.List es pos) (tE P G cl W (.lst z as)) := by
        refine pe_imp (pe_lst (sa.a at_ es h).1) ?_
        intro σ H Q ⟨B, A, h, e, F, re, p⟩
        simp only [evE] at p
        refine ⟨B, A, h, e, F, re, p.bind.imp fun v x h1 A1 H1 F1 n1 r1 p1 => ?_⟩
        split at p1
        · rename_i l
          have hl : x.length ≤ sizeLine := by rw [← RVs.length r1]; exact big_le l
          exact ⟨hl, fun q hq => mkL_ok F1 (toPV p1) r1 hl hq⟩
        · exact p1.elim
      exact ⟨b, pt_simple b rfl⟩
    · cases h
  a := by intro G cl lv tx X W a es h; simp [chkA] at h
  o := by intro G cl lv tx X W a e h; simp [chkP'] at h
  i := by intro G cl lv tx X W a e tg h; simp [chkI] at h
/-- a known value called with written arguments -/
theorem callWith_any {pos : Pos} {f : Value} {first : List Value} {es : List Expr} {pins : List (Addr × Obj)} {s : Shared} {σ : L2.St} {H : Hp} {Q : Value → Shared → Prop} {t : TA} (hk : PySem.W.keepIn X.K f = true) (I : Inv X pins σ H s) (ha : PA X es t) (ns : noStar es = true)
    (h : t σ H fun vs H1 => ∀ us s1, Inv X pins σ H1 s1 → Vals vs us → wpAny (model X.prog X.w) X.A (PySem.call f (first ++ us)) Q X.xe s1) :
    wpAny (model X.prog X.w) X.A (callWith pos f first (backTo pos (starEach es X.env)) []) Q X.xe s := by
  have hA := ha.run pos pins s σ H _ I h
  cases es with
  | cons e es =>
    exact PySem.W.callWith_K (h₀ := X.base) I.ok.mod.kin hk (thn hA fun us s1 ⟨vs, H1, I1, r, q⟩ => ⟨I1.kIn, q us s1 I1 r⟩) (star_cons ns).1 (back_plain (star_cons (env := X.env) ns).2)
  | nil =>
    refine PySem.W.callWith_K0 I.kIn hk ?_
    have hA' : wpAny (model X.prog X.w) X.A (pure ([] : List Value)) (AP X pins σ fun vs H1 => ∀ us s1, Inv X pins σ H1 s1 → Vals vs us → wpAny (model X.prog X.w) X.A (PySem.call f (first ++ us)) Q X.xe s1) X.xe s := hA
    intro Γ p hΓ
    obtain ⟨vs, H1, I1, r, q⟩ := hA' Γ p hΓ
    exact q [] s I1 r Γ p hΓ
theorem snd_call {z : Md} {f : Nat} {as : C} (sa : Snd P as) : Snd P (.call z f as) where
  e := by
    intro G cl lv tx X W at_ e h
    simp only [chkE] at h
    split at h
    · rename_i x p es pos
      simp only [Bool.and_eq_true, decide_eq_true_eq] at h
      obtain ⟨⟨⟨hb, h1⟩, h2⟩, h3⟩ := h
      have hblk : z = .dir → tx.blk = false := fun q => by simpa [q] using hb
      obtain ⟨g1, g2, g3⟩ := at_.glob h1
      obtain ⟨fa, hm, fo⟩ := at_.fa.fn f x h2
      obtain ⟨ha, ns⟩ := sa.a at_ es h3
      have b : PE X (.Call (.Name x p) es [] pos) (tE P G cl W (.call z f as)) := by
        refine ⟨fun pins s σ H Q I ⟨B, A, h', e, F, re, p'⟩ => ?_⟩
        simp only [evE] at p'
        refine wpAny_Call_Name_kw (ld_glob I g1 hm ?_ g2)
        refine callWith_any (first := []) fo.1 I ha ns ⟨B, A, h', e, F, re, p'.bind.imp fun ms vs h1 A1 H1 F1 n1 r1 p1 us s1 I1 ru => ?_⟩
        exact run_callM (z := z) at_.fa (at_.room.mono (by omega)) at_.tk at_.ab fo I1 ru F1 r1 (fun hz => at_.lk (pn := X.pn) (xe := X.xe) (hblk hz) I1 F1 (re.mono n1)) p1
      exact ⟨b, pt_simple b rfl⟩
    · cases h
  a := by intro G cl lv tx X W a es h; simp [chkA] at h
  o := by intro G cl lv tx X W a e h; simp [chkP'] at h
  i := by intro G cl lv tx X W a e tg h; simp [chkI] at h
theorem snd_new {k : Nat} {as : C} (sa : Snd P as) : Snd P (.new k as) where
  e := by
    intro G cl lv tx X W at_ e h
    simp only [chkE] at h
    split at h
    · rename_i x p es pos
      simp only [Bool.and_eq_true, decide_eq_true_eq] at h
      obtain ⟨⟨h1, h2⟩, h3⟩ := h
      obtain ⟨g1, g2, g3⟩ := at_.glob h1
      obtain ⟨Ca, ec, hm⟩ := at_.fa.cls k x h2
      obtain ⟨ha, ns⟩ := sa.a at_ es h3
      have b : PE X (.Call (.Name x p) es [] pos) (tE P G cl W (.new k as)) := by
        refine ⟨fun pins s σ H Q I ⟨B, A, h', e, F, re, p'⟩ => ?_⟩
        simp only [evE] at p'
        refine wpAny_Call_Name_kw (ld_glob I g1 hm ?_ g2)
        refine callWith_any (first := []) (at_.fa.mkc k Ca ec).1 I ha ns ⟨B, A, h', e, F, re, p'.bind.imp fun ms vs h1 A1 H1 F1 n1 r1 p1 us s1 I1 ru => ?_⟩
        exact run_newM at_.fa (at_.room.mono (by omega)) at_.tk at_.ab ec I1 ru F1 r1 p1
      exact ⟨b, pt_simple b rfl⟩
    · cases h
  a := by intro G cl lv tx X W a es h; simp [chkA] at h
  o := by intro G cl lv tx X W a e h; simp [chkP'] at h
  i := by intro G cl lv tx X W a e tg h; simp [chkI] at h
theorem boot_ty {b : BI} (h : isTyB b = true) : ∃ T, calB b = .type T ∧ bootBuiltins (nameB b) = some (.type T) := by
  cases b <;> simp [isTyB] at h
  · exact ⟨"list", rfl, PyProof.Rows.boot_list⟩
  · exact ⟨"tuple", rfl, PyProof.Rows.boot_tuple⟩
  · exact ⟨"int", rfl, PyProof.Rows.boot_int⟩
theorem boot_fn {b : BI} (h : isTyB b = false) (h2 : plainB b = true) : ∃ T, calB b = .builtin T ∧ bootBuiltins (nameB b) = some (.builtin T) := by
  cases b <;> simp [isTyB, plainB] at h h2
  · exact ⟨"len", rfl, by decide +kernel⟩
  · exact ⟨"max", rfl, by decide +kernel⟩
  · exact ⟨"max", rfl, by decide +kernel⟩
  · exact ⟨"min", rfl, by decide +kernel⟩
  · exact ⟨"abs", rfl, by decide +kernel⟩
  · exact ⟨"sum", rfl, by decide +kernel⟩
  · exact ⟨"all", rfl, by decide +kernel⟩
  · exact ⟨"any", rfl, by decide +kernel⟩
  · exact ⟨"sorted", rfl, by decide +kernel⟩
theorem nameB_blts (b : BI) : nameB b ∈ blts := by cases b <;> decide +kernel
theorem firstMet_mem (val : Nat → Int) : ∀ (n : Nat) (x : Int), x ∈ PyProof.Rows.firstMet val n ↔ ∃ i, i < n ∧ val i = x
  | 0, x => by rw [PyProof.Rows.firstMet_zero]; simp
  | n + 1, x => by
    rw [PyProof.Rows.firstMet_succ]
    have ih := firstMet_mem val n
    unfold PyProof.Rows.step_dedup
    have key : (∃ i, i < n + 1 ∧ val i = x) ↔ (∃ i, i < n ∧ val i = x) ∨ val n = x := by
      constructor
      · rintro ⟨i, hi, e⟩
        by_cases c : i = n
        · right; rw [← c]; exact e
        · left; exact ⟨i, by omega, e⟩
      · rintro (⟨i, hi, e⟩ | e)
        · exact ⟨i, by omega, e⟩
        · exact ⟨n, by omega, e⟩
    rw [key]
    split
    · rename_i c
      rw [ih]
      constructor
      · exact .inl
      · rintro (h | h)
        · exact h
        · obtain ⟨y, hy, ey⟩ := List.any_eq_true.mp c
          rw [beq_iff_eq] at ey
          rw [← h, ← ey]
          exact (firstMet_mem val n y).mp hy
    · rw [List.mem_append, ih, List.mem_singleton]
      constructor
      · rintro (h | h)
        · exact .inl h
        · exact .inr h.symm
      · rintro (h | h)
        · exact .inl h
        · exact .inr h.symm
theorem firstMet_nd (val : Nat → Int) : ∀ n : Nat, (PyProof.Rows.firstMet val n).Nodup
  | 0 => by rw [PyProof.Rows.firstMet_zero]; exact .nil
  | n + 1 => by
    rw [PyProof.Rows.firstMet_succ]
    have ih := firstMet_nd val n
    unfold PyProof.Rows.step_dedup
    split
    · exact ih
    · rename_i c
      rw [List.nodup_append]
      refine ⟨ih, by simp, fun a ha b hb => ?_⟩
      rw [List.mem_singleton.mp hb]
      intro e
      apply c
      exact List.any_eq_true.mpr ⟨a, ha, by rw [e]; simp⟩
theorem nubI_mem : ∀ (ns : List Int) (x : Int), x ∈ nubI ns ↔ x ∈ ns
  | [], x => by simp [nubI]
  | y :: ys, x => by
    unfold nubI
    split
    · rename_i c
      rw [nubI_mem ys x, List.mem_cons]
      constructor
      · exact .inr
      · rintro (h | h)
        · rw [h]; exact List.contains_iff_mem.mp c
        · exact h
    · rw [List.mem_cons, List.mem_cons, nubI_mem ys x]
theorem nubI_nd : ∀ ns : List Int, (nubI ns).Nodup
  | [] => by unfold nubI; exact .nil
  | y :: ys => by
    unfold nubI
    split
    · exact nubI_nd ys
    · rename_i c
      rw [List.nodup_cons, nubI_mem]
      exact ⟨fun h => c (List.contains_iff_mem.mpr h), nubI_nd ys⟩
theorem firstMet_nub (ns : List Int) : (PyProof.Rows.firstMet (fun i => ns.getD i 0) ns.length).length = (nubI ns).length := by
  refine List.Perm.length_eq ((List.perm_ext_iff_of_nodup (firstMet_nd _ _) (nubI_nd ns)).mpr fun x => ?_)
  rw [firstMet_mem, nubI_mem, List.mem_iff_getElem?]
  constructor
  · rintro ⟨i, hi, e⟩
    refine ⟨i, ?_⟩
    rw [List.getD_eq_getElem?_getD, List.getElem?_eq_getElem hi] at e
    rw [List.getElem?_eq_getElem hi]
    exact congrArg some e
  · rintro ⟨i, e⟩
    obtain ⟨hi, e2⟩ := List.getElem?_eq_some_iff.mp e
    refine ⟨i, hi, ?_⟩
    rw [List.getD_eq_getElem?_getD, e]
    rfl
theorem intsAre_of' : ∀ {ns : List Int} {us : List Value}, Vals (ns.map V.int) us → PyProof.Rows.IntsAre us ns
  | [], _, .nil => .nil
  | n :: ns, _, .cons r t => by
    obtain ⟨k, rfl⟩ := r
    exact .cons n k (intsAre_of' t)
/-- len(set(l)), l a list of ints -/
theorem pe_lenSetG {a : Expr} {ta : TA} {p p2 q pos : Pos} (hg : Gl X "len") (hm : X.mg "len" = none) (hg2 : Gl X "set") (hm2 : X.mg "set" = none) (ha : PA X [a] ta) (hc : X.calm = true)
    (na : starEach [a] X.env = [(false, eval a X.env)]) : PE X (.Call (.Name "len" p) [.Call (.Name "set" p2) [a] [] q] [] pos)
      (fun σ H Q => ta σ H fun xs H1 => ∃ (l : Addr) (ns : List Int), xs = [.ref l] ∧ SqL X.K H1 l (ns.map V.int) ∧ ns.length < 64 ∧ Q (.int ((nubI ns).length : Nat)) H1) := by
  refine ⟨fun pins s σ H Q I h => ?_⟩
  refine Call_ (ld_blt I hg hm PySem.boot_len ?_)
  refine PyProof.Rows.callWith_builtin1 (PyProof.Rows.args_cons ?_ rfl) rfl rfl
  refine Call_ (ld_blt I hg2 hm2 PyProof.Rows.boot_set ?_)
  refine PyProof.Rows.callWith_type1 (thn (ha.run q pins s σ H _ I h) fun us s1 ⟨vs, H1, I1, r0, q1⟩ => ?_) na rfl
  obtain ⟨l, ns, rfl, hq, hl, q1⟩ := q1
  cases r0 with
  | cons r1 rr =>
  cases rr
  cases r1
  obtain ⟨its, r, pl, hz⟩ := I1.list hq
  have hlen : its.toArray.size = ns.length := by rw [List.size_toArray, ← r.length, List.length_map]
  refine call_set_list (I1.ok.hd hc) pl.isList (by simpa using intsAre_of' r) (by rw [hlen]; unfold scanBound; omega) fun h' tk hS hk => ?_
  refine PyProof.Rows.args_nil ?_
  rw [hlen] at hS
  obtain ⟨o, es, ep, t, ho, hex, hd, _, _, _, hf, hn⟩ := hS
  have I2 : Inv X pins σ H1 { s1 with heap := h', toks := tk } := I1.kept fun b o e => hk b o (Heap.lt_size e) e
  have hn2 : (nubI ns).length ≤ ns.length := by
    rw [← firstMet_nub]
    exact PyProof.Rows.firstMet_length_le _ _
  refine call_len_set ho hex hd hf (by rw [hn, firstMet_nub] <;> omega) ⟨.int ((nubI ns).length : Nat), H1, I2.tok _, ⟨_, by rw [hn, firstMet_nub]⟩, q1⟩
theorem sorted_nub {ns zs : List Int} (h1 : zs.Pairwise (· < ·)) (h2 : ∀ k : Int, k ∈ zs ↔ k ∈ ns) : zs = sortI (nubI ns) := by
  have nd : zs.Nodup := h1.imp fun l e => by omega
  refine sorted_uniq (((List.perm_ext_iff_of_nodup nd (nubI_nd ns)).mpr fun x => by rw [h2, nubI_mem]).trans (sortI_perm _).symm) (h1.imp fun l => by omega) (sortI_sorted _)
/-- sorted(set(l)), l a list of ints -/
theorem pe_sortedSetG {a : Expr} {ta : TA} {p p2 q pos : Pos} (hg : Gl X "sorted") (hm : X.mg "sorted" = none) (hg2 : Gl X "set") (hm2 : X.mg "set" = none) (ha : PA X [a] ta) (hc : X.calm = true)
    (na : starEach [a] X.env = [(false, eval a X.env)]) : PE X (.Call (.Name "sorted" p) [.Call (.Name "set" p2) [a] [] q] [] pos)
      (fun σ H Q => ta σ H fun xs H1 => ∃ (l : Addr) (ns : List Int), xs = [.ref l] ∧ SqL X.K H1 l (ns.map V.int) ∧ ns.length < 64 ∧ ∀ d, H1 d = none → Q (.ref d) (upd H1 d (.lst ((sortI (nubI ns)).map V.int)))) := by
  refine ⟨fun pins s σ H Q I h => ?_⟩
  refine Call_ (ld_blt I hg hm PyProof.Rows.boot_sorted ?_)
  refine PyProof.Rows.callWith_builtin1 (PyProof.Rows.args_cons ?_ rfl) rfl rfl
  refine Call_ (ld_blt I hg2 hm2 PyProof.Rows.boot_set ?_)
  refine PyProof.Rows.callWith_type1 (thn (ha.run q pins s σ H _ I h) fun us s1 ⟨vs, H1, I1, r0, q1⟩ => ?_) na rfl
  obtain ⟨l, ns, rfl, hq, hl, q1⟩ := q1
  cases r0 with
  | cons r1 rr =>
  cases rr
  cases r1
  obtain ⟨its, r, pl, hz⟩ := I1.list hq
  refine set_ints (ns := ns) (I1.ok.hd hc) pl.isList (by simpa using intsAre_of' r) (by unfold scanBound; omega) fun h' tk c sr lc hk => ?_
  refine PyProof.Rows.args_nil ?_
  have I2 : Inv X pins σ H1 { s1 with heap := h', toks := tk } := I1.kept fun b o e => hk b o e
  refine sorted_set (s := { s1 with heap := h', toks := tk }) sr (I2.ok.hd hc) (by omega) fun t d out cc zs kp gg oo hd hgd hi hs hm3 hl3 => ?_
  have ez : zs = sortI (nubI ns) := sorted_nub hs fun k => by rw [hm3, decide_eq_true_eq]
  subst ez
  have fresh : H1 d = none := I2.hok.fresh hd
  have small : ((sortI (nubI ns)).map V.int).length ≤ sizeLine := by rw [List.length_map, hl3, sizeLine_eq]; omega
  have J : Inv X pins σ (upd H1 d (.lst ((sortI (nubI ns)).map V.int))) t := I2.call' (ch := []) oo (Un.laid kp hd fresh) (I2.hok.laid kp hd ⟨small, out.toList, cc, vals_of_ints hi, hgd⟩) (by rw [gg]; exact I2.bare) fun _ z => nomatch z
  exact ⟨.ref d, _, J, rfl, q1 d fresh⟩
theorem snd_bi {b : BI} {z : Bool} {as : C} (sa : Snd P as) : Snd P (.bi b z as) where
  e := by
    intro G cl lv tx X W at_ e h
    simp only [chkE] at h
    split at h
    · rename_i x p y es pos
      simp only [Bool.and_eq_true, decide_eq_true_eq] at h
      obtain ⟨⟨h1, h2⟩, h3⟩ := h
      subst h2
      obtain ⟨g1, g2, g3⟩ := at_.glob h1
      have hm := at_.fa.blt _ (nameB_blts b)
      split at h3
      · rename_i h2'
        obtain ⟨ha, ns⟩ := sa.a at_ _ h3
        have nb : b ≠ .sortedSet ∧ b ≠ .lenSet ∧ b ≠ .listRng ∧ b ≠ .listZip := by cases b <;> simp [plainB] at h2' <;> simp
        have hc : CallR X (calB b) (fun xs H Q => ∃ B, rBi G B b z xs H Q) := callr_ex fun B => call_biM at_.fa.hK at_.sh.calm nb
        have key : ∀ σ H Q, tE P G cl W (.bi b z as) σ H Q → tCB (fun xs H Q => ∃ B, rBi G B b z xs H Q) (tAs P G cl W as) σ H Q := by
          intro σ H Q ⟨B, A, h, e, F, re, p⟩
          simp only [evE] at p
          exact ⟨B, A, h, e, F, re, p.bind.imp fun ms vs h1 A1 H1 F1 n1 r1 p1 => ⟨B, A1, h1, ms, F1, r1, toPV p1⟩⟩
        have b' : PE X (.Call (.Name (nameB b) p) (y :: es) [] pos) (tE P G cl W (.bi b z as)) := by
          cases et : isTyB b with
          | true =>
            obtain ⟨T, e1, e2⟩ := boot_ty et
            rw [e1] at hc
            exact pe_imp (pe_callTy hc g1 hm e2 ha g3 g2 (star_cons ns).1 (back_plain (star_cons (env := X.env) ns).2)) key
          | false =>
            obtain ⟨T, e1, e2⟩ := boot_fn et h2'
            rw [e1] at hc
            exact pe_imp (pe_callB hc g1 hm e2 ha g3 g2 (star_cons ns).1 (back_plain (star_cons (env := X.env) ns).2)) key
        exact ⟨b', pt_simple b' rfl⟩
      · split at h3
        · rename_i s ps u p2 hpb
          simp only [Bool.and_eq_true, decide_eq_true_eq] at h3
          obtain ⟨⟨k1, k2⟩, k3⟩ := h3
          subst k2
          obtain ⟨j1, _, _⟩ := at_.glob k1
          obtain ⟨ha, ns⟩ := sa.a at_ _ k3
          have b' : PE X (.Call (.Name (nameB .lenSet) p) [.Call (.Name "set" ps) [u] [] p2] [] pos) (tE P G cl W (.bi .lenSet z as)) := by
            refine pe_imp (pe_lenSetG g1 hm j1 (at_.fa.blt "set" (by decide +kernel)) ha at_.sh.calm (star_of ns)) ?_
            intro σ H Q ⟨B, A, h, e, F, re, p⟩
            simp only [evE] at p
            refine ⟨B, A, h, e, F, re, p.bind.imp fun ms vs h1 A1 H1 F1 n1 r1 p1 => ?_⟩
            unfold biM at p1
            split at p1 <;> try exact p1.elim
            all_goals rename_i e1 <;> try (cases e1; done)
            split at p1
            · rename_i ws ew
              split at p1
              · rename_i is ei
                split at p1
                · rename_i hl
                  obtain ⟨y, ys, rfl, r2, r3⟩ := RVs.uncons r1
                  cases r3.ofnil
                  obtain ⟨a, xs, rfl, hq, l, r⟩ := lstOf_ok F1 ew r2
                  rw [r.ints ei] at hq
                  exact ⟨a, is, rfl, by rw [at_.fa.hK]; exact hq, hl, post_ok p1 F1 .refl rv_int⟩
                · exact p1.elim
              · exact p1.elim
            · exact p1.elim
          exact ⟨b', pt_simple b' rfl⟩
        · rename_i s ps u p2 hpb
          simp only [Bool.and_eq_true, decide_eq_true_eq] at h3
          obtain ⟨⟨k1, k2⟩, k3⟩ := h3
          subst k2
          obtain ⟨j1, _, _⟩ := at_.glob k1
          obtain ⟨ha, ns⟩ := sa.a at_ _ k3
          have b' : PE X (.Call (.Name (nameB .sortedSet) p) [.Call (.Name "set" ps) [u] [] p2] [] pos) (tE P G cl W (.bi .sortedSet z as)) := by
            refine pe_imp (pe_sortedSetG g1 hm j1 (at_.fa.blt "set" (by decide +kernel)) ha at_.sh.calm (star_of ns)) ?_
            intro σ H Q ⟨B, A, h, e, F, re, p⟩
            simp only [evE] at p
            refine ⟨B, A, h, e, F, re, p.bind.imp fun ms vs h1 A1 H1 F1 n1 r1 p1 => ?_⟩
            unfold biM at p1
            split at p1 <;> try exact p1.elim
            all_goals rename_i e1 <;> try (cases e1; done)
            split at p1
            · rename_i ws ew
              split at p1
              · rename_i is ei
                split at p1
                · rename_i hl
                  obtain ⟨y, ys, rfl, r2, r3⟩ := RVs.uncons r1
                  cases r3.ofnil
                  obtain ⟨a, xs, rfl, hq, l, r⟩ := lstOf_ok F1 ew r2
                  rw [r.ints ei] at hq
                  refine ⟨a, is, rfl, by rw [at_.fa.hK]; exact hq, hl, fun d hd => ?_⟩
                  exact mkL_ok F1 (toPV p1) (RVs.ofInts _) (by
                    rw [List.length_map, (sortI_perm _).length_eq, ← firstMet_nub]
                    have := PyProof.Rows.firstMet_length_le (fun i => is.getD i 0) is.length
                    rw [sizeLine_eq]
                    omega) hd
                · exact p1.elim
              · exact p1.elim
            · exact p1.elim
          exact ⟨b', pt_simple b' rfl⟩
        · rename_i s ps u us p2 hpb
          simp only [Bool.and_eq_true, decide_eq_true_eq] at h3
          obtain ⟨⟨k1, k2⟩, k3⟩ := h3
          subst k2
          obtain ⟨j1, _, _⟩ := at_.glob k1
          obtain ⟨ha, ns⟩ := sa.a at_ _ k3
          have b' : PE X (.Call (.Name (nameB .listRng) p) [.Call (.Name "range" ps) (u :: us) [] p2] [] pos) (tE P G cl W (.bi .listRng z as)) := by
            refine pe_imp (pe_listRg at_.sh.calm g1 hm (prg_A j1 (at_.fa.blt "range" (by decide +kernel)) ha (star_cons ns).1 (back_plain (star_cons (env := X.env) ns).2))) ?_
            intro σ H Q ⟨B, A, h, e, F, re, p⟩
            simp only [evE] at p
            refine ⟨B, A, h, e, F, re, p.bind.imp fun ms vs h1 A1 H1 F1 n1 r1 p1 => ?_⟩
            have fin : ∀ (i j : Int), 0 ≤ i → i ≤ 1000000 → 0 ≤ j → j ≤ 1000000 → Post G B W σ (RVr G B) A1 H1 (mkL z (((List.range (j - i).toNat).map fun (n : Nat) => i + (n : Int)).map .int) h1) (fun _ x _ _ H' => Q x H') → RgOk i j ∧ ∀ q, H1 q = none → Q (.ref q) (upd H1 q (.lst (rgV i j))) := by
              intro i j i0 i1 j0 j1 p1
              refine ⟨⟨by omega, by omega, by omega, by omega, by omega⟩, fun d hd => ?_⟩
              have er : rgV i j = ((List.range (j - i).toNat).map fun (n : Nat) => i + (n : Int)).map V.int := by
                unfold rgV
                rw [List.map_map]
                rfl
              rw [er]
              exact mkL_ok F1 (toPV p1) (RVs.ofInts _) (by rw [List.length_map, List.length_map, List.length_range, sizeLine_eq]; omega) hd
            unfold biM at p1
            split at p1 <;> try exact p1.elim
            all_goals rename_i e1 <;> try (cases e1; done)
            · split at p1
              · rename_i i j hb
                obtain ⟨y, ys, rfl, r2, r3⟩ := RVs.uncons r1
                obtain ⟨y', ys', rfl, r2', r3'⟩ := r3.uncons
                cases r3'.ofnil
                unfold RV at r2 r2'
                subst r2 r2'
                refine ⟨i, j, .inl rfl, fin i j hb.1 hb.2.1 hb.2.2.1 hb.2.2.2 ?_⟩
                rw [List.map_map]
                exact p1
              · exact p1.elim
            · split at p1
              · rename_i j hb
                obtain ⟨y, ys, rfl, r2, r3⟩ := RVs.uncons r1
                cases r3.ofnil
                unfold RV at r2
                subst r2
                refine ⟨0, j, .inr ⟨rfl, rfl⟩, fin 0 j (by omega) (by omega) hb.1 hb.2 ?_⟩
                rw [List.map_map, Int.sub_zero]
                refine cast ?_ p1
                congr 2
                congr 1
                funext n
                show Val.int _ = Val.int (0 + (n : Int))
                rw [Int.zero_add]
              · exact p1.elim
          exact ⟨b', pt_simple b' rfl⟩
        · rename_i s ps u v p2 hpb
          simp only [Bool.and_eq_true, decide_eq_true_eq] at h3
          obtain ⟨⟨k1, k2⟩, k3⟩ := h3
          subst k2
          obtain ⟨j1, _, _⟩ := at_.glob k1
          obtain ⟨ha, ns⟩ := sa.a at_ _ k3
          have b' : PE X (.Call (.Name (nameB .listZip) p) [.Call (.Name "zip" ps) [u, v] [] p2] [] pos) (tE P G cl W (.bi .listZip z as)) := by
            refine pe_imp (pe_listZip at_.sh.calm g1 hm j1 (at_.fa.blt "zip" (by decide +kernel)) ha (star_cons ns).1 (back_plain (star_cons (env := X.env) ns).2)) ?_
            intro σ H Q ⟨B, A, h, e, F, re, p⟩
            simp only [evE] at p
            refine ⟨B, A, h, e, F, re, p.bind.imp fun ms vs h1 A1 H1 F1 n1 r1 p1 => ?_⟩
            unfold biM at p1
            split at p1 <;> try exact p1.elim
            all_goals rename_i e1 <;> try (cases e1; done)
            split at p1
            · rename_i ws ew
              split at p1
              · rename_i ws' ew'
                obtain ⟨y, ys, rfl, r2, r3⟩ := RVs.uncons r1
                obtain ⟨y', ys', rfl, r2', r3'⟩ := r3.uncons
                cases r3'.ofnil
                obtain ⟨a, xs, rfl, hq, l, r⟩ := lstOf_ok F1 ew r2
                obtain ⟨a', xs', rfl, hq', l', r'⟩ := lstOf_ok F1 ew' r2'
                refine ⟨a, a', xs, xs', rfl, by rw [at_.fa.hK]; exact hq, by rw [at_.fa.hK]; exact hq', fun ts H2 d L hd => ?_⟩
                have lq : (ws.zip ws').length = (xs.zip xs').length := by rw [List.length_zip, List.length_zip, r.length, r'.length]
                obtain ⟨F2, n2, r4⟩ := laid2_fits L F1 lq fun j q p e1 e2 => by
                  rw [List.getElem?_zip_eq_some] at e1 e2
                  obtain ⟨x1, f1, g1⟩ := r.get e1.1
                  obtain ⟨x2, f2, g2⟩ := r'.get e1.2
                  rw [e2.1] at f1
                  rw [e2.2] at f2
                  cases f1
                  cases f2
                  exact ⟨g1, g2⟩
                have lt : (ts.map V.ref).length ≤ sizeLine := by
                  have := r4.length
                  rw [List.length_map, lq, List.length_zip] at this
                  rw [← this]
                  exact Nat.le_trans (Nat.min_le_left ..) l
                exact mkL_ok F2 (mkL_later n2 (toPV p1)) r4 lt hd
              · exact p1.elim
            · exact p1.elim
          exact ⟨b', pt_simple b' rfl⟩
        · cases h3
    · cases h
  a := by intro G cl lv tx X W a es h; simp [chkA] at h
  o := by intro G cl lv tx X W a e h; simp [chkP'] at h
  i := by intro G cl lv tx X W a e tg h; simp [chkI] at h
theorem slotMt (m : MI) (nc : m ≠ .count) : PlainAttrs (tyM m) ∧ Slot (tyM m) (nameM m) (idM m) ∧ typeOf (.builtin (idM m)) = pure (.type "method_descriptor") := by
  cases m
  · exact ⟨PySem.F.plainAttrs_list, PySem.F.slot_list_append, PySem.F.type_list_append⟩
  · exact ⟨PySem.F.plainAttrs_list, PySem.F.slot_list_extend, PySem.F.type_list_extend⟩
  · exact ⟨PySem.F.plainAttrs_list, PySem.F.slot_list_pop, PySem.F.type_list_pop⟩
  · exact ⟨PySem.F.plainAttrs_list, PySem.F.slot_list_reverse, PySem.F.type_list_reverse⟩
  · exact ⟨PySem.F.plainAttrs_list, PySem.F.slot_list_clear, PySem.F.type_list_clear⟩
  · exact ⟨PySem.F.plainAttrs_list, PySem.F.slot_list_index, PySem.F.type_list_index⟩
  · exact absurd rfl nc
  · exact ⟨PySem.F.plainAttrs_dict, PySem.F.slot_dict_get, PySem.F.type_dict_get⟩
theorem methK_ty {B : Bor} {A : List Addr} {H : Hp} {h : Hm} {m : MI} {v : Val} {x : V} (F : Fits G B A h H) (e : methK m h v = true) (r : RV G B A H v x) : tyV G.K (tyM m) x H := by
  have lst : (lstOf h v).isSome = true → tyV G.K "list" x H := fun e => by
    obtain ⟨vs, e⟩ := Option.isSome_iff_exists.mp e
    obtain ⟨a, xs, rfl, hq, _, _⟩ := lstOf_ok F e r
    exact .inl ⟨rfl, xs, hq⟩
  cases m
  case get =>
    obtain ⟨⟨ks, vs⟩, e⟩ := Option.isSome_iff_exists.mp (show (dctOf h v).isSome = true from e)
    obtain ⟨a, kvs, rfl, hq, _⟩ := dctOf_ok F e r
    exact .inr (.inr (.inl ⟨rfl, .inl ⟨kvs, hq⟩⟩))
  all_goals exact lst e
theorem snd_meth {m : MI} {o as : C} (so : Snd P o) (sa : Snd P as) : Snd P (.meth m o as) where
  e := by
    intro G cl lv tx X W at_ e h
    simp only [chkE] at h
    split at h
    · rename_i x n ap es pos
      simp only [Bool.and_eq_true, decide_eq_true_eq] at h
      obtain ⟨⟨⟨⟨⟨⟨h1, h2⟩, h3⟩, h4⟩, h5⟩, h6⟩, h7⟩ := h
      subst h1
      obtain ⟨ha, ns⟩ := sa.a at_ es h7
      obtain ⟨pa, sl, ty⟩ := slotMt m h2
      have hm : MtR X (idM m) (fun x xs H Q => ∃ B, rMeth G B m x xs H Q) := mtr_ex fun B => mt_methM at_.fa.g at_.fa.hK (un65 at_.room) h2
      have key : ∀ σ H Q, tE P G cl W (.meth m o as) σ H Q → tBM X.K (tyM m) (fun x xs H Q => ∃ B, rMeth G B m x xs H Q) (tE P G cl W o) (tAs P G cl W as) σ H Q := by
        intro σ H Q ⟨B, A, h, e, F, re, p⟩
        simp only [evE] at p
        refine ⟨B, A, h, e, F, re, p.bind.imp fun v x h1 A1 H1 F1 n1 r1 p1 => ?_⟩
        split at p1
        · rename_i mk
          refine ⟨by rw [at_.fa.hK]; exact methK_ty F1 mk r1, B, A1, h1, e, F1, re.mono n1, p1.bind.imp fun ms vs h2 A2 H2 F2 n2 r2 p2 => ?_⟩
          exact ⟨B, A2, h2, v, ms, F2, RV.mono n2 v r1, r2, toPV p2⟩
        · exact p1.elim
      have b : PE X (.Call (.Attribute x (nameM m) ap) es [] pos) (tE P G cl W (.meth m o as)) := by
        cases es with
        | nil =>
          refine pe_imp (pe_bm0 pa sl ty hm (so.e at_ x h6).1 (base_of h3) h4) ?_
          intro σ H Q q
          obtain ⟨B, A, h, e, F, re, p⟩ := key σ H Q q
          refine ⟨B, A, h, e, F, re, p.imp fun v x h1 A1 H1 F1 n1 r1 ⟨q1, B', A', h', e', F', re', p'⟩ => ⟨q1, ?_⟩⟩
          have en : evA P.T cl.f cl.L as e' h' = .ok [] h' := by
            cases as <;> simp [chkA] at h7
            simp only [evA]
          rw [en] at p'
          exact post_ok p' F' .refl RVs.nil
        | cons y es =>
          exact pe_imp (pe_bm pa sl ty hm (so.e at_ x h6).1 ha (base_of h3) (few_of ns h5) h4 (star_cons ns).1 (back_plain (star_cons (env := X.env) ns).2)) key
      exact ⟨b, pt_simple b rfl⟩
    · cases h
  a := by intro G cl lv tx X W a es h; simp [chkA] at h
  o := by intro G cl lv tx X W a e h; simp [chkP'] at h
  i := by intro G cl lv tx X W a e tg h; simp [chkI] at h
theorem methcall_eq {o : Expr} {m : Str} {env : PySem.Env} {args : List Expr} {ap pos : Pos} (hb : notSuper o = true) (hl : (ap.endLine == pos.line) = true) (ns : noStar args = true) (hn : args.length < 30) :
    eval (.Call (.Attribute o m ap) args [] pos) env = (do
      let ov ← eval o env
      standAt ap.atName
      let (f, first) ← holding [ov] (getMethod ov m (do return (← importBound o env).getD true))
      callWith pos f first (backTo pos (starEach args env)) (backToKw pos (keywordEach [] env))) := by
  rw [arm_eval_Call, base_of hb]
  have fw : methodCallForm (args.length + ([] : List Keyword).length) (backTo pos (starEach args env)) (backToKw pos (keywordEach [] env)) = true := by
    unfold methodCallForm
    rw [back_all ns, Bool.true_and]
    have e1 : (backToKw pos (keywordEach [] env)).all (fun x => x.1.isSome) = true := rfl
    rw [e1, Bool.true_and, decide_eq_true_eq]
    exact hn
  unfold methodCall
  rw [fw]
  unfold calleeOf methodCallPos
  simp only [if_true, hl, Bool.not_true, Bool.false_or]
  rfl
theorem rfs_mem : ∀ {fs : List Nat} {ks : List Str} {n : Str}, RFs G fs ks → n ∈ ks → n ∈ G.fld
  | [], ks, n, r, h => by
    unfold RFs at r
    rw [r] at h
    cases h
  | f :: fs, ks, n, r, h => by
    unfold RFs at r
    obtain ⟨k, q, rfl, e, r⟩ := r
    rcases List.mem_cons.mp h with z | z
    · rw [z]
      exact List.mem_of_getElem? e
    · exact rfs_mem r z
theorem snd_ocall {z : Md} {m : Nat} {o as : C} (so : Snd P o) (sa : Snd P as) : Snd P (.ocall z m o as) where
  e := by
    intro G cl lv tx X W at_ e h
    simp only [chkE] at h
    split at h
    · rename_i x n ap es pos
      simp only [Bool.and_eq_true, decide_eq_true_eq] at h
      obtain ⟨⟨⟨⟨⟨h1, h3⟩, h4⟩, h5⟩, h6⟩, h7⟩ := h
      obtain ⟨ha, ns⟩ := sa.a at_ es h7
      have b : PE X (.Call (.Attribute x n ap) es [] pos) (tE P G cl W (.ocall z m o as)) := by
        refine ⟨fun pins s σ H Q I ⟨B, A, h', e, F, re, p⟩ => ?_⟩
        simp only [evE] at p
        refine methcall_of (so.e at_ x h6).1 I ?_ (methcall_eq h3 h4 ns h5)
        refine ⟨B, A, h', e, F, re, p.bind.imp fun v x h1' A1 H1 F1 n1 r1 p1 => ?_⟩
        split at p1
        · rename_i k ek
          split at p1
          · rename_i i em
            unfold clsOf at ek
            split at ek
            · rename_i k' fs vs ei
              cases ek
              obtain ⟨a, Ca, dx, fv, rfl, hd, ec, rf, rv⟩ := insOf_ok F1 ei r1
              obtain ⟨g, mt, fo⟩ := at_.fa.mt k Ca m n i ec h1 em
              refine ⟨a, Ca, dx, fv, g, rfl, hd, (at_.fa.ins k Ca ec).1, mt, ?_, fun s1 I1 => ?_⟩
              · have hn : n ∉ fv.map (·.1) := fun z => at_.fa.sep n (List.mem_of_getElem? h1) (by rw [← at_.fa.fl]; exact rfs_mem rf z)
                rw [List.lookup_eq_none_iff]
                intro q hq
                rw [bne_iff_ne]
                intro z
                exact hn (List.mem_map.mpr ⟨q, hq, z.symm⟩)
              · refine callWith_any (first := [.ref a]) mt.kp I1 ha ns ⟨B, A1, h1', e, F1, re.mono n1, p1.bind.imp fun ms us h2 A2 H2 F2 n2 r2 p2 ws s2 I2 ru => ?_⟩
                exact run_callM (z := z) at_.fa (at_.room.mono (by omega)) at_.tk at_.ab fo I2 (.cons (show L2.RelV (.ref a) (.ref a) from rfl) ru) F2 (.cons (RV.mono n2 v r1) r2) (fun _ => at_.fa.lk0 _ _ _ _ _) p2
            · cases ek
          · exact p1.elim
        · exact p1.elim
      exact ⟨b, pt_simple b rfl⟩
    · cases h
  a := by intro G cl lv tx X W a es h; simp [chkA] at h
  o := by intro G cl lv tx X W a e h; simp [chkP'] at h
  i := by intro G cl lv tx X W a e tg h; simp [chkI] at h
end
end MP
set_option Elab.async false
set_option linter.all false
set_option maxRecDepth 100000
set_option autoImplicit false
namespace MP
open PySem PySem.Spec PyProof.Rows L2
variable [Tabs]
section
variable {P : Pg} {X : Cx}
theorem noDef_of {p : Arguments} {env : Env} (h : noDef p = true) : defaultsOf p env = ([], []) := by
  unfold noDef at h
  split at h
  · rfl
  · cases h
theorem lam_fnAt {f : Addr} {pins : List (Addr × Obj)} {s : Shared} {σ : L2.St} {H : Hp} (I : Inv X pins σ H s) (e : ∃ I cl c, H f = some (LamO f I cl c)) : PySem.W.FnAt f s.heap := by
  obtain ⟨I0, cl, c, e⟩ := e
  obtain ⟨⟨pm, ctv, ho⟩, _, _⟩ := I.hok f _ e
  exact ⟨_, _, _, _, ho⟩
theorem callWith_fn {pos : Pos} {f : Addr} {es : List Expr} {pins : List (Addr × Obj)} {s : Shared} {σ : L2.St} {H : Hp} {Q : Value → Shared → Prop} {t : TA} (hf : ∃ I cl c, H f = some (LamO f I cl c)) (I : Inv X pins σ H s) (ha : PA X es t) (ns : noStar es = true)
    (h : t σ H fun vs H1 => (∃ I cl c, H1 f = some (LamO f I cl c)) ∧ ∀ us s1, Inv X pins σ H1 s1 → Vals vs us → wpAny (model X.prog X.w) X.A (PySem.call (.ref f) us) Q X.xe s1) :
    wpAny (model X.prog X.w) X.A (callWith pos (.ref f) [] (backTo pos (starEach es X.env)) []) Q X.xe s := by
  have hA := ha.run pos pins s σ H _ I h
  cases es with
  | cons e es =>
    exact PySem.W.callWith_F (first := []) (lam_fnAt I hf) (thn hA fun us s1 ⟨vs, H1, I1, r, q⟩ => ⟨lam_fnAt I1 q.1, q.2 us s1 I1 r⟩) (star_cons ns).1 (back_plain (star_cons (env := X.env) ns).2)
  | nil =>
    refine PySem.W.callWith_F0 (first := []) (lam_fnAt I hf) ?_
    have hA' : wpAny (model X.prog X.w) X.A (pure ([] : List Value)) (AP X pins σ fun vs H1 => (∃ I cl c, H1 f = some (LamO f I cl c)) ∧ ∀ us s1, Inv X pins σ H1 s1 → Vals vs us → wpAny (model X.prog X.w) X.A (PySem.call (.ref f) us) Q X.xe s1) X.xe s := hA
    intro Γ p hΓ
    obtain ⟨vs, H1, I1, r, q⟩ := hA' Γ p hΓ
    exact q.2 [] s I1 r Γ p hΓ
theorem snd_callv {i : Nat} {as : C} (sa : Snd P as) : Snd P (.callv i as) where
  e := by
    intro G cl lv tx X W at_ e h
    simp only [chkE] at h
    split at h
    · rename_i x p es pos
      simp only [Bool.and_eq_true, decide_eq_true_eq, okName, Bool.not_eq_true'] at h
      obtain ⟨⟨⟨⟨hb, h1⟩, h2⟩, h3, h4⟩, h5⟩ := h
      obtain ⟨ha, ns⟩ := sa.a at_ es h5
      have b : PE X (.Call (.Name x p) es [] pos) (tE P G cl W (.callv i as)) := by
        refine ⟨fun pins s σ H Q I ⟨B, A, h', e, F, re, p'⟩ => ?_⟩
        simp only [evE] at p'
        split at p'
        · rename_i l cs ev
          obtain ⟨y, e1, r⟩ := re.2 i _ ev
          have r0 := r
          unfold RV at r
          obtain ⟨m, f, cc, c, I0, ec, rfl, g1, g2, g3, g4, g5, g6⟩ := r
          refine wpAny_Call_Name_kw (thn ((pe_var (pos := p) (i := i) (by rw [at_.sh.N]; exact h1) (by rw [at_.sh.sc]; exact vis_of h2) h3 h4).run pins s σ H (fun v H1 => v = .ref f ∧ H1 = H) I ⟨.ref f, e1, rfl, rfl⟩) fun u s1 ⟨v, H1, I1, r1, q1⟩ => ?_)
          obtain ⟨ev', eH⟩ := q1
          subst ev'
          subst eH
          obtain rfl : u = Value.ref f := r1
          refine callWith_fn ⟨_, _, _, g3⟩ I1 ha ns ⟨B, A, h', e, F, re, p'.bind.imp fun ms vs h1 A1 H1 F1 n1 r1 p1 => ⟨⟨_, _, _, n1.keep _ _ g3 g4.1 lamO_ne⟩, fun us s1 I1 ru => ?_⟩⟩
          refine wpAny_call (codeAny_mono (at_.cv hb (pn := X.pn) (xe := X.xe) (Q := Q) (E := WE W σ) I1 ru F1 r1 (RV.mono n1 _ r0) ?_) fun r s' hq => ?_)
          · cases e : cl.L.lam l cs ms h1 with
            | ok v h' =>
              rw [e] at p1
              exact p1
            | exc c h' =>
              rw [e] at p1
              exact p1
            | bad =>
              rw [e] at p1
              exact p1.elim
          · cases r with
            | error e => exact passAt at_.tk σ pins _ _ e s' I1 hq
            | ok fl =>
              cases fl with
              | ret u => exact I1.after hq
              | next => exact False.elim hq
              | brk => exact False.elim hq
              | cont => exact False.elim hq
        · exact p'.elim
      exact ⟨b, pt_simple b rfl⟩
    · cases h
  a := by intro G cl lv tx X W a es h; simp [chkA] at h
  o := by intro G cl lv tx X W a e h; simp [chkP'] at h
  i := by intro G cl lv tx X W a e tg h; simp [chkI] at h
theorem snd_lam {l : Nat} : Snd P (.lam l) where
  e := by
    intro G cl lv tx X W at_ e h
    simp only [chkE] at h
    split at h
    · rename_i params body scope pos
      simp only [Bool.and_eq_true, decide_eq_true_eq, List.all_eq_true] at h
      obtain ⟨⟨⟨⟨h1, h2⟩, h3⟩, h4⟩, h5⟩ := h
      have b : PE X (.Lambda params body scope pos) (tE P G cl W (.lam l)) := by
        refine ⟨fun pins s σ H Q I ⟨B, A, h', e, F, re, p'⟩ => ?_⟩
        simp only [evE] at p'
        obtain ⟨ec, c, Pt, hcode, TB, hm, hu⟩ := at_.mak l (List.contains_iff_mem.mp h1)
        have hfree : ∀ y ∈ scope.names, y.2 = .free → ∃ c, X.env.cells.lookup y.1 = some c := fun y hy ey => by
          have z := h5 y hy
          rw [if_pos ey, Bool.or_eq_true, decide_eq_true_eq, decide_eq_true_eq, ← at_.sh.sc] at z
          exact I.ok.has _ z
        refine lam_make I TB hcode hm rfl hu F.tb (noDef_of h4) hfree fun f c' H1 s' I1 eN st T1 hf hl hc => ?_
        have nx : Next A H A H1 := ⟨⟨[], by simp, fun _ z => by cases z⟩, fun a o q _ k => eN a o q k, st, fun _ => T1⟩
        have F1 : Fits G B A h' H1 := F.step nx fun a m u q => by
          obtain ⟨v, q2, pl⟩ := F.pl m
          rw [q] at q2
          cases q2
          exact eN a u q pl.1
        have oc : Out B A c' := by
          refine ⟨fun m => ?_, fun m => ?_⟩
          · obtain ⟨v, q2, pl⟩ := F1.pl m
            rw [hc] at q2
            cases q2
            exact pl.2 _ rfl
          · obtain ⟨_, xs, q2⟩ := F1.bx c' m
            rw [hc] at q2
            cases q2
        refine ⟨.ref f, H1, I1, rfl, post_ok p' F1 nx ?_⟩
        show RV G B A H1 _ _
        unfold RV
        exact ⟨cl.L.id, f, _, c', ⟨X.env.qual ++ "<lambda>", params, body, scope⟩, rfl, rfl, by rw [ec, h3], at_.fa.lam _ _ _ _ _ h2, hl, F.new hf, hc, oc⟩
      exact ⟨b, pt_simple b rfl⟩
    · cases h
  a := by intro G cl lv tx X W a es h; simp [chkA] at h
  o := by intro G cl lv tx X W a e h; simp [chkP'] at h
  i := by intro G cl lv tx X W a e tg h; simp [chkI] at h
end
end MP
set_option Elab.async false
set_option linter.all false
set_option maxRecDepth 100000
set_option autoImplicit false
namespace MP
open PySem PySem.Spec PyProof.Rows L2
variable [Tabs]
section
variable {P : Pg}
/-- of each element of a list of code -/
def SndL (P : Pg) : C → Prop
  | .cons a b => Snd P a ∧ SndL P b
  | _ => True
end
theorem mergeK_nd : ∀ (more kvs : List (Key × V)), ((kvs ++ more).map (·.1)).Nodup → mergeK kvs more = kvs ++ more
  | [], kvs, _ => by simp [mergeK]
  | p :: r, kvs, nd => by
    have hn : valV kvs p.1 = none := by
      have h1 : (kvs.any fun kv => decide (kv.1 = p.1)) = false := by
        rw [List.any_eq_false]
        intro q hq z
        have z : q.1 = p.1 := by simpa using z
        rw [List.map_append, List.nodup_append] at nd
        exact nd.2.2 q.1 (List.mem_map.mpr ⟨q, hq, rfl⟩) p.1 (List.mem_map.mpr ⟨p, List.mem_cons_self, rfl⟩) z
      rw [valV_any] at h1
      cases e : valV kvs p.1 with
      | none => rfl
      | some w => rw [e] at h1; cases h1
    show mergeK (putK kvs p.1 p.2) r = _
    rw [putK_new _ hn, mergeK_nd r _ (by simpa using nd)]
    simp
section
variable {G : Sg} {B : Bor} {A : List Addr} {H : Hp} {h : Hm}
theorem rkeys_nd (g : G.Good) : ∀ {ks : List MKey} {qs : List Key}, RKeys G ks qs → ks.Nodup → qs.Nodup
  | [], _, r, _ => by
    unfold RKeys at r
    rw [r]
    exact List.nodup_nil
  | k :: ks, _, r, nd => by
    unfold RKeys at r
    obtain ⟨q, qs, rfl, h1, h2⟩ := r
    obtain ⟨n1, n2⟩ := List.nodup_cons.mp nd
    refine List.nodup_cons.mpr ⟨fun m => n1 ?_, rkeys_nd g h2 n2⟩
    clear n1 n2 nd
    induction ks generalizing qs with
    | nil => unfold RKeys at h2; rw [h2] at m; cases m
    | cons j js ih =>
      unfold RKeys at h2
      obtain ⟨q', qs', rfl, h3, h4⟩ := h2
      rcases List.mem_cons.mp m with e | m
      · subst e
        have := key_eq g h3 h1
        have : j = k := by simpa using this
        rw [this]
        exact List.mem_cons_self
      · exact List.mem_cons_of_mem _ (ih qs' h4 m)
theorem rkeys_len : ∀ {ks : List MKey} {qs : List Key}, RKeys G ks qs → ks.length = qs.length
  | [], _, r => by unfold RKeys at r; rw [r]; rfl
  | k :: ks, _, r => by
    unfold RKeys at r
    obtain ⟨q, qs, rfl, _, h2⟩ := r
    rw [List.length_cons, List.length_cons, rkeys_len h2]
end
section
variable {P : Pg} {G : Sg} {cl : CL} {lv : Lv} {tx : Tx} {X : Cx} {W : WX}
theorem pps_of (at_ : At P G cl lv tx X W) {pos : Pos} (as : C) : SndL P as → ∀ (ks : List MKey) (keys : List (Option Expr)) (values : List Expr), keysAre P ks keys = true → chkA P as tx values = true → keys.length = values.length →
    ∃ trs, PPs X pos keys values trs ∧ keys.all (·.isSome) = true ∧ ∃ kk : List Key, RKeys G ks kk ∧ ∀ σ H (Q : List (V × V) → Hp → Prop), (∃ B A h e, Fits G B A h H ∧ RE G B A H e σ ∧ Post G B W σ (RVsr G B) A H (evA P.T cl.f cl.L as e h) fun _ xs _ _ H' => Q ((kk.zip xs).map fun p => (kV p.1, p.2)) H') → tPairs trs σ H Q := by
  induction as with
  | nil =>
    intro _ ks keys values hk hc hl
    simp only [chkA] at hc
    split at hc
    · obtain rfl : keys = [] := by simpa using hl
      cases ks with
      | cons _ _ => simp [keysAre] at hk
      | nil =>
        refine ⟨[], pps_nil, rfl, [], by unfold RKeys; rfl, fun σ H Q ⟨B, A, h, e, F, re, p⟩ => ?_⟩
        simp only [evA] at p
        exact post_ok p F .refl .nil
    · cases hc
  | cons a b ia ib =>
    intro sl ks keys values hk hc hl
    simp only [chkA] at hc
    split at hc
    · rename_i x xs
      rw [Bool.and_eq_true] at hc
      cases keys with
      | nil => simp at hl
      | cons k keys =>
        cases ks with
        | nil => simp [keysAre] at hk
        | cons m ks =>
          simp only [keysAre, Bool.and_eq_true] at hk
          obtain ⟨trs, pp, al, kk, rk, tr⟩ := ib sl.2 ks keys xs hk.2 hc.2 (by simpa using hl)
          obtain ⟨key, kx, rfl, rkey, pk⟩ : ∃ key kx, k = some kx ∧ RKey G m key ∧ PE X kx (tC (kV key)) := by
            have h1 := hk.1
            unfold keyIs at h1
            split at h1
            · rename_i i j _ _
              have := of_decide_eq_true h1
              subst this
              exact ⟨.inl i, _, rfl, rfl, pe_int⟩
            · rename_i n z _ _
              have := of_decide_eq_true h1
              exact ⟨.inr z, _, rfl, ⟨z, by rw [at_.fa.tx]; exact this, rfl⟩, pe_str⟩
            · cases h1
          refine ⟨(tC (kV key), tE P G cl W a) :: trs, pps_cons pk (sl.1.e at_ x hc.1).1 pp, by rw [List.all_cons, al]; rfl, key :: kk, by unfold RKeys; exact ⟨key, kk, rfl, rkey, rk⟩, fun σ H Q ⟨B, A, h, e, F, re, p⟩ => ?_⟩
          simp only [evA] at p
          show tE P G cl W a σ H fun y H2 => tPairs trs σ H2 fun ps H3 => Q ((kV key, y) :: ps) H3
          refine ⟨B, A, h, e, F, re, p.bind.imp fun v x h1 A1 H1 F1 n1 r1 p1 => ?_⟩
          refine tr σ H1 _ ⟨B, A1, h1, e, F1, re.mono n1, p1.bind.imp fun w y h2 A2 H2 F2 n2 r2 p2 => ?_⟩
          exact post_ok p2 F2 .refl (.cons (RV.mono n2 v r1) r2)
    · cases hc
  | _ => intro _ ks keys values hk hc; simp [chkA] at hc
end
section
variable {P : Pg}
/-- {k: v, ..} -/
theorem snd_dct {ks : List MKey} {as : C} (sl : SndL P as) : Snd P (.dct ks as) where
  e := by
    intro G cl lv tx X W at_ e h
    simp only [chkE] at h
    split at h
    · rename_i keys values pos
      simp only [Bool.and_eq_true, decide_eq_true_eq] at h
      obtain ⟨⟨⟨⟨nd, l16⟩, hl⟩, hk⟩, hc⟩ := h
      have b : PE X (.Dict keys values pos) (tE P G cl W (.dct ks as)) := by
        obtain ⟨trs, pp, al, kk, rk, tr⟩ := pps_of (G := G) (W := W) at_ (pos := pos) as sl ks keys values hk hc hl
        have lk : ∀ {ks : List MKey} {keys : List (Option Expr)}, keysAre P ks keys = true → ks.length = keys.length := by
          intro ks
          induction ks with
          | nil => intro keys h; cases keys with | nil => rfl | cons _ _ => simp [keysAre] at h
          | cons m ks ih => intro keys h; cases keys with
            | nil => simp [keysAre] at h
            | cons k keys => simp only [keysAre, Bool.and_eq_true] at h; simp [ih h.2]
        have lk1 := lk hk
        have lk2 := rkeys_len rk
        by_cases h0 : keys = []
        · subst h0
          obtain rfl : values = [] := by
            cases values with
            | nil => rfl
            | cons _ _ => simp at hl
          obtain rfl : ks = [] := by
            cases ks with
            | nil => rfl
            | cons _ _ => simp at lk1
          have ea : as = .nil := by cases as <;> first | rfl | (simp [chkA] at hc)
          subst ea
          refine pe_imp pe_dnewK ?_
          intro σ H Q ⟨B, A, h, e, F, re, p⟩
          simp only [evE, evA, R.bind, dspM, List.getElem?_concat_length, List.length_nil, if_true] at p
          have e1 : (h ++ [Ob.dct [] []]).set h.length (.dct [] []) = h ++ [.dct [] []] := by
            rw [List.set_append_right _ _ (Nat.le_refl _), Nat.sub_self]
            rfl
          rw [e1] at p
          intro q hq
          refine (toPV p).ok (F.push hq ⟨[], upd_same, Nat.zero_le _, rfl, .nil⟩) (next_mine hq) ?_
          unfold RV
          exact ⟨q, rfl, by rw [← F.len]; simp⟩
        · refine pe_imp (pe_disp pp al hl h0 (by omega)) ?_
          intro σ H Q ⟨B, A, h, e, F, re, p⟩
          simp only [evE] at p
          intro q hq
          have F0 : Fits G B (A ++ [q]) (h ++ [.dct [] []]) (upd H q (.dK [])) := F.push hq ⟨[], upd_same, Nat.zero_le _, rfl, .nil⟩
          refine tr σ _ _ ⟨B, A ++ [q], h ++ [.dct [] []], e, F0, re.mono (next_mine hq), (Post.shift p.bind (next_mine hq)).imp fun vs xs h2 A2 H2 F2 n2 r2 p2 => ?_⟩
          unfold dspM at p2
          split at p2
          · rename_i ed
            split at p2
            · rename_i c
              have eq : A2[h.length]? = some q := n2.get (by rw [← F.len]; simp)
              obtain ⟨kvs0, e0, _, rk0, rv0⟩ := F2.ob _ _ _ ed eq
              have z0 : kvs0 = [] := by
                unfold RKeys at rk0
                cases kvs0 with
                | nil => rfl
                | cons _ _ => simp at rk0
              subst z0
              have lx : kk.length = xs.length := by rw [← lk2, ← c, r2.length]
              have m1 : (kk.zip xs).map (·.1) = kk := List.map_fst_zip (by omega)
              have m2 : (kk.zip xs).map (·.2) = xs := List.map_snd_zip (by omega)
              have lz : (kk.zip xs).length ≤ 15 := by rw [List.length_zip]; omega
              refine ⟨e0, kk.zip xs, rfl, lz, ?_⟩
              have em : mergeK [] (kk.zip xs) = kk.zip xs := by
                rw [mergeK_nd _ _ (by rw [List.nil_append, m1]; exact rkeys_nd at_.fa.g rk nd)]
                rfl
              rw [em]
              have mq : q ∈ A2 := List.mem_of_getElem? eq
              have ns : Next A2 H2 A2 (upd H2 q (.dK (kk.zip xs))) := next_set mq e0 pl_dK
              refine (toPV p2).ok (F2.set eq ⟨kk.zip xs, upd_same, by rw [sizeLine_eq]; omega, by rw [m1]; exact rk, by rw [m2]; exact RVs.mono ns _ r2⟩) ns ?_
              unfold RV
              exact ⟨q, rfl, eq⟩
            · exact p2.elim
          · exact p2.elim
      exact ⟨b, pt_simple b rfl⟩
    · cases h
  a := by intro G cl lv tx X W a es h; simp [chkA] at h
  o := by intro G cl lv tx X W a e h; simp [chkP'] at h
  i := by intro G cl lv tx X W a e tg h; simp [chkI] at h
end
section
variable {X : Cx}
def rRg1 : List V → Hp → VK → Prop := fun vs H Q => ∃ j, vs = [V.int j] ∧ ∀ p, H p = none → Q (.ref p) (upd H p (.rng 0 j))
theorem cr_range1 : CallR X (.type "range") rRg1 := by
  intro pins s σ H vs us Q I r h
  obtain ⟨j, rfl, q⟩ := h
  obtain ⟨u, rfl, ru⟩ := vals1 r
  obtain ⟨t, rfl⟩ := ru
  refine call_range_1 ⟨.ref s.heap.objs.size, upd H s.heap.objs.size (.rng 0 j), I.laid (t' := s.toks + 1 + 1) (fun b o e => Heap.get?_push_of_some _ e) (Nat.le_refl _) ?_, rfl, q _ (I.hok.fresh (Nat.le_refl _))⟩
  exact ⟨_, t, _, Heap.get?_push_size _ rfl⟩
def rInR (n : Bool) : V → V → Hp → VK → Prop := fun x y H Q => ∃ i a lo hi, x = V.int i ∧ y = V.ref a ∧ H a = some (.rng lo hi) ∧ Q (.bl (if n then !(decide (lo ≤ i ∧ i < hi)) else decide (lo ≤ i ∧ i < hi))) H
theorem op_inR {n : Bool} {op : CmpOp} (ho : copIs (if n then .nin else .inn) op = true) : OpR X (compareOp op) (rInR n) := by
  cases n with
  | false =>
    obtain rfl : op = .In := by cases op <;> simp [copIs] at ho ⊢
    intro pins s σ H x y v u Q I rx ry ⟨i, a, lo, hi, e1, e2, e3, q⟩
    exact op_in_rng pins s σ H x y v u Q I rx ry ⟨i, a, lo, hi, e1, e2, e3, by simpa using q⟩
  | true =>
    obtain rfl : op = .NotIn := by cases op <;> simp [copIs] at ho ⊢
    intro pins s σ H x y v u Q I rx ry h
    obtain ⟨i, a, lo, hi, rfl, rfl, ha, q⟩ := h
    obtain ⟨k, rfl⟩ := rx
    obtain rfl : u = Value.ref a := ry
    obtain ⟨t1, t2, t3, ho⟩ := I.hok a _ ha
    show wpAny _ _ (do return Value.bool (!(← contains (Value.ref a) (Value.int i k)))) _ _ s
    refine wpAny_bind (wpAny_contains_slot (T := "range") ⟨_, ho, rfl⟩ F.slot_range_contains (call_meets F.slot_range_contains ⟨_, ho, rfl⟩ F.entry_range_contains (F.args_range_contains_2 _ _) (q_contains a lo hi i t1 t2 t3 k)
      ⟨ho, wpAny_truthy_bool (wpAny_pure ⟨.bl _, H, I, rfl, ?_⟩)⟩))
    rw [place1]
    simpa using q
end
section
variable {P : Pg}
theorem snd_inR {n : Bool} {a as : C} (sa : Snd P a) (sb : Snd P as) : Snd P (.inR n a as) where
  e := by
    intro G cl lv tx X W at_ e h
    simp only [chkE] at h
    split at h
    · rename_i y op nm pn u pc pos
      simp only [Bool.and_eq_true, decide_eq_true_eq] at h
      obtain ⟨⟨⟨⟨h1, h2⟩, h3⟩, h4⟩, h5⟩ := h
      subst h3
      obtain ⟨g1, g2, g3⟩ := at_.glob h2
      obtain ⟨ha, ns⟩ := sb.a at_ _ h5
      have pr : PE X (.Call (.Name "range" pn) [u] [] pc) (tCB rRg1 (tAs P G cl W as)) :=
        pe_callTy cr_range1 g1 (at_.fa.blt "range" (by decide +kernel)) boot_range ha g3 g2 (star_cons ns).1 (back_plain (star_cons (env := X.env) ns).2)
      have ho : OpR X (compareOp op) (rInR n) := op_inR h1
      have pcc : PC X op y (.Call (.Name "range" pn) [u] [] pc) (tOp (rInR n) (tE P G cl W a) (tCB rRg1 (tAs P G cl W as))) :=
        ⟨fun pins s σ H Q I h => binT (sa.e at_ y h4).1 pr I h fun v u s2 x y H2 I2 rx ry q => ho pins s2 σ H2 x y v u Q I2 rx ry q⟩
      have key : ∀ σ H Q, tE P G cl W (.inR n a as) σ H Q → tOp (rInR n) (tE P G cl W a) (tCB rRg1 (tAs P G cl W as)) σ H Q := by
        intro σ H Q ⟨B, A, h, e, F, re, p⟩
        simp only [evE] at p
        refine ⟨B, A, h, e, F, re, p.bind.imp fun v x h1 A1 H1 F1 n1 r1 p1 => ?_⟩
        refine ⟨B, A1, h1, e, F1, re.mono n1, p1.bind.imp fun ms vs h2 A2 H2 F2 n2 r2 p2 => ?_⟩
        split at p2
        · rename_i i
          have r1 : x = .int i := by unfold RV at r1; exact r1
          subst r1
          split at p2
          · rename_i bb eb
            unfold inRM at eb
            split at eb
            · rename_i j
              obtain ⟨z, zs, rfl, r3, r4⟩ := r2.uncons
              cases r4.ofnil
              unfold RV at r3
              subst r3
              refine ⟨j, rfl, fun q hq => ⟨i, q, 0, j, rfl, rfl, upd_same, ?_⟩⟩
              have : bb = decide (0 ≤ i ∧ i < j) := by
                cases eb
                rw [Bool.eq_iff_iff]
                simp
              subst this
              exact (toPV p2).ok (F2.other hq) (next_new hq) (by unfold RV; rfl)
            · cases eb
          · exact p2.elim
        · exact p2.elim
      exact ⟨pe_imp (pe_cmp pcc (behind_of rfl)) key, pt_imp (pt_cmp pcc (behind_of rfl)) fun σ H Q q => key σ H _ q⟩
    · cases h
  a := by intro G cl lv tx X W a es h; simp [chkA] at h
  o := by intro G cl lv tx X W a e h; simp [chkP'] at h
  i := by intro G cl lv tx X W a e tg h; simp [chkI] at h
end
end MP
set_option Elab.async false
set_option linter.all false
set_option maxRecDepth 100000
set_option autoImplicit false
namespace MP
open PySem PySem.Spec PyProof.Rows L2
variable [Tabs]
section
variable {P : Pg} {G : Sg} {cl : CL} {lv : Lv} {tx : Tx} {X : Cx} {W : WX}
theorem lst_ty {B : Bor} {A : List Addr} {H : Hp} {c : Fz} {a : Addr} {xs : List V} (l : LstOk G B A H c a xs) : TyX G.K H (.ref a) (.type "list") := by
  cases c with
  | scr =>
    rcases l with ⟨o, e, _⟩ | ⟨o, its, n, e, c, _⟩
    · exact .base (.frz e)
    · exact .kList e c
  | own => exact .base (.lst l.2.1)
  | bor => exact .base (.lst l.2.1)
theorem ty_of (fa : FactsX P G cl.f lv.n lv.LK lv.nb X) {B : Bor} {A : List Addr} {H : Hp} {h : Hm} {v : Val} {x : V} {d : Kd} (F : Fits G B A h H) (e : kdOf h v = some d) (r : RV G B A H v x) : ∃ t, kdV G.cls d = some t ∧ TyX G.K H x t := by
  have ins : ∀ {k : Nat} {a Ca dx : Addr} {fv : List (Str × V)}, G.cls k = some Ca → H a = some (.ins Ca dx fv) → TyX G.K H (.ref a) (.ref Ca) := fun {k a Ca dx fv} ec hd => by
    obtain ⟨c1, c2⟩ := fa.ins k Ca ec
    obtain ⟨k1, k2, k3, k4⟩ := fa.kin k Ca ec
    rw [fa.hK] at c1 k1 k2 k3 k4
    exact .base (.ins hd c1 k1 k2 k3 k4)
  cases v <;> simp only [kdOf, Option.some.injEq] at e
  case non => subst e; unfold RV at r; subst r; exact ⟨_, rfl, .base .non⟩
  case bl b => subst e; unfold RV at r; subst r; exact ⟨_, rfl, .base (.bl b)⟩
  case int i => subst e; unfold RV at r; subst r; exact ⟨_, rfl, .base (.int i)⟩
  case str n => subst e; unfold RV at r; obtain ⟨z, _, rfl⟩ := r; exact ⟨_, rfl, .base (.str z)⟩
  case tup vs => subst e; unfold RV at r; obtain ⟨a, xs, rfl, e, _⟩ := r; exact ⟨_, rfl, .base (.tup e)⟩
  case lst c vs => subst e; unfold RV at r; obtain ⟨a, xs, rfl, e, _⟩ := r; exact ⟨_, rfl, lst_ty e⟩
  case dct c ks vs => subst e; unfold RV at r; obtain ⟨a, kvs, rfl, e, _⟩ := r; exact ⟨_, rfl, .base (.dK e.2.1)⟩
  case obj c k fs vs =>
    subst e
    unfold RV at r
    obtain ⟨a, Ca, dx, fv, rfl, ec, e, _⟩ := r
    exact ⟨.ref Ca, by simp only [kdV, ec, Option.map_some], ins ec e.2.1⟩
  case ref i =>
    unfold RV at r
    obtain ⟨a, rfl, ea⟩ := r
    cases eo : h[i]? with
    | none => rw [eo] at e; cases e
    | some o =>
      have ro := F.ob i o a eo ea
      rw [eo] at e
      cases o with
      | lst vs => cases e; obtain ⟨xs, q, _⟩ := ro; exact ⟨_, rfl, .base (.lst q)⟩
      | dct ks vs => cases e; obtain ⟨xs, q, _⟩ := ro; exact ⟨_, rfl, .base (.dK q)⟩
      | ins k fs vs =>
        cases e
        obtain ⟨Ca, dx, fv, q, ec, _⟩ := ro
        exact ⟨.ref Ca, by simp only [kdV, ec, Option.map_some], ins ec q⟩
      | dead => cases e
  case err k => cases e
  case clo l cs => cases e
theorem isi_kd {sup : Nat → List Nat} {h : Hm} {v : Val} {t : Ty} {b : Bool} (e : isiM sup h v t = some b) (ne : ∀ k, v ≠ .err k) : ∃ d, kdOf h v = some d ∧ kdIs sup d t = b := by
  cases v <;> simp only [isiM, Option.some.injEq] at e
  case err k => exact absurd rfl (ne k)
  case clo l cs => cases e
  case ref i =>
    cases eo : h[i]? with
    | none => rw [eo] at e; cases e
    | some o =>
      rw [eo] at e
      cases o <;> simp only [Option.some.injEq] at e <;> (try (cases e; done)) <;> subst e <;> refine ⟨_, by simp only [kdOf, eo]; rfl, ?_⟩ <;> cases t <;> rfl
  all_goals (subst e; refine ⟨_, rfl, ?_⟩; cases t <;> rfl)
theorem chkT_ok (at_ : At P G cl lv tx X W) {t : Ty} {z : Expr} (h : chkT P tx t z = true) : ∃ c u, PE X z (tC c) ∧ ClsV c u ∧ tyV' G.cls t = some u ∧ (∀ x p, z ≠ .Starred x p) := by
  unfold chkT at h
  split at h
  · rename_i x pos
    simp only [Bool.and_eq_true, Bool.or_eq_true] at h
    obtain ⟨h1, h2⟩ := h
    obtain ⟨g1, g2, g3⟩ := at_.glob h1
    have bl : ∀ {n : String}, x ∈ blts → bootBuiltins x = some (.type n) → PE X (.Name x pos) (tC (.ty n)) := fun {n} m hb =>
      pe_bltn g1 (at_.fa.blt x m) hb rfl g3 g2
    cases t with
    | int =>
      obtain rfl : x = "int" := by simpa [kindsB] using h2
      exact ⟨.ty "int", _, bl (by decide +kernel) PyProof.Rows.boot_int, .ty "int", rfl, fun _ _ z => nomatch z⟩
    | bool =>
      obtain rfl : x = "bool" := by simpa [kindsB] using h2
      exact ⟨.ty "bool", _, pe_bltn g1 (at_.fa.blt "bool" (by decide +kernel)) PyProof.Rows.boot_bool rfl g3 g2, .ty "bool", rfl, fun _ _ z => nomatch z⟩
    | str =>
      obtain rfl : x = "str" := by simpa [kindsB] using h2
      exact ⟨.ty "str", _, pe_bltn g1 (at_.fa.blt "str" (by decide +kernel)) PyProof.Rows.boot_str rfl g3 g2, .ty "str", rfl, fun _ _ z => nomatch z⟩
    | list =>
      obtain rfl : x = "list" := by simpa [kindsB] using h2
      exact ⟨.ty "list", _, bl (by decide +kernel) PyProof.Rows.boot_list, .ty "list", rfl, fun _ _ z => nomatch z⟩
    | tuple =>
      obtain rfl : x = "tuple" := by simpa [kindsB] using h2
      exact ⟨.ty "tuple", _, bl (by decide +kernel) PyProof.Rows.boot_tuple, .ty "tuple", rfl, fun _ _ z => nomatch z⟩
    | cls k =>
      have h3 : P.clss[k]? = some (some x) := by simpa [kindsB] using h2
      obtain ⟨Ca, ec, hm⟩ := at_.fa.cls k x h3
      exact ⟨.ref Ca, .ref Ca, pe_glob g1 hm rfl g2, .own Ca, by simp only [tyV', ec, Option.map_some], fun _ _ z => nomatch z⟩
    | exn k => simp [kindsB] at h2
    | ve => simp [kindsB] at h2
  · cases h
theorem snd_isi {a : C} {t : Ty} (sa : Snd P a) : Snd P (.isi a t) where
  e := by
    intro G cl lv tx X W at_ e h
    simp only [chkE] at h
    split at h
    · rename_i x p y z pos
      simp only [Bool.and_eq_true, decide_eq_true_eq] at h
      obtain ⟨⟨⟨h1, h2⟩, h3⟩, h4⟩ := h
      subst h2
      obtain ⟨g1, g2, g3⟩ := at_.glob h1
      obtain ⟨c, u, hc, cv, et, ns2⟩ := chkT_ok at_ h4
      have ns : noStar [y, z] = true := noStar_of (fun w p e => by subst e; rw [chkE_star] at h3; cases h3) (noStar_of ns2 rfl)
      have ha : PA X [y, z] (tCons (tE P G cl W a) (tCons (tC c) tNil)) := pa_cons (sa.e at_ y h3).1 (pa_cons hc pa_nil (star_cons (noStar_of ns2 rfl)).1) (star_cons ns).1
      have b : PE X (.Call (.Name "isinstance" p) [y, z] [] pos) (tE P G cl W (.isi a t)) := by
        refine pe_imp (pe_callB call_isi g1 (at_.fa.blt "isinstance" (by decide +kernel)) PyProof.Rows.boot_isinstance ha g3 g2 (star_cons ns).1 (back_plain (star_cons (env := X.env) ns).2)) ?_
        intro σ H Q ⟨B, A, h, e, F, re, p⟩
        simp only [evE] at p
        refine ⟨B, A, h, e, F, re, p.bind.imp fun v x h1 A1 H1 F1 n1 r1 p1 => ?_⟩
        split at p1
        · rename_i r er
          have ne : ∀ k, v ≠ .err k := fun k z => by subst z; unfold RV at r1; exact r1
          obtain ⟨d, ed, kd⟩ := isi_kd er ne
          obtain ⟨t', e1, ty⟩ := ty_of at_.fa F1 ed r1
          refine ⟨x, c, t', u, r, rfl, cv, by rw [at_.fa.hK]; exact ty, ?_, post_ok p1 F1 .refl rv_bl⟩
          rw [← kd]
          exact at_.fa.kit d t t' u e1 et
        · split at p1
          · unfold RV at r1
            exact r1.elim
          · exact p1.elim
      exact ⟨b, pt_simple b rfl⟩
    · cases h
  a := by intro G cl lv tx X W a es h; simp [chkA] at h
  o := by intro G cl lv tx X W a e h; simp [chkP'] at h
  i := by intro G cl lv tx X W a e tg h; simp [chkI] at h
/-- a source that is a list, as it stands from now on -/
def SrcL (G : Sg) (B : Bor) (A : List Addr) (H : Hp) (s : Src) (a : Addr) : Prop := ∀ B' A' h' H', Fits G B' A' h' H' → Conv B A H B' A' H' → ∀ n, s.len h' = some n → ∃ vs xs, vs.length = n ∧ (∀ i, s.at h' i = vs[i]?) ∧ SqL G.K H' a xs ∧ xs.length ≤ sizeLine ∧ RVs G B' A' H' vs xs
def SrcT (G : Sg) (B : Bor) (A : List Addr) (H : Hp) (s : Src) (a : Addr) : Prop := ∀ B' A' h' H', Fits G B' A' h' H' → Conv B A H B' A' H' → ∀ n, s.len h' = some n → ∃ vs xs, vs.length = n ∧ (∀ i, s.at h' i = vs[i]?) ∧ SqT G.K H' a xs ∧ xs.length ≤ sizeLine ∧ RVs G B' A' H' vs xs
theorem SrcL.r {B : Bor} {A : List Addr} {H : Hp} {s : Src} {a : Addr} (k : SrcL G B A H s a) : SrcR G B A H s (Itl G.K a) := by
  intro B' A' h' H' F m n e
  obtain ⟨vs, xs, hl, hat, hq, l, r⟩ := k B' A' h' H' F m n e
  refine ⟨by rw [← hl, r.length]; exact l, fun i => ⟨fun hi => ?_, fun hi => ⟨xs, hq, by rw [← r.length, hl]; exact hi⟩⟩⟩
  have hv : vs[i]? = some vs[i] := List.getElem?_eq_getElem (by omega)
  obtain ⟨x, ex, rx⟩ := r.get hv
  refine ⟨⟨xs, x, hq, ex⟩, ?_⟩
  rintro y H2 ⟨rfl, hy⟩
  have ey : y = x := Option.some.inj ((hy xs hq).symm.trans ex)
  subst ey
  exact ⟨vs[i], by rw [hat]; exact hv, F, .refl, rx⟩
theorem SrcT.r {B : Bor} {A : List Addr} {H : Hp} {s : Src} {a : Addr} (k : SrcT G B A H s a) : SrcR G B A H s (Itt G.K a) := by
  intro B' A' h' H' F m n e
  obtain ⟨vs, xs, hl, hat, hq, l, r⟩ := k B' A' h' H' F m n e
  refine ⟨by rw [← hl, r.length]; exact l, fun i => ⟨fun hi => ?_, fun hi => ⟨xs, hq, by rw [← r.length, hl]; exact hi⟩⟩⟩
  have hv : vs[i]? = some vs[i] := List.getElem?_eq_getElem (by omega)
  obtain ⟨x, ex, rx⟩ := r.get hv
  refine ⟨⟨xs, x, hq, ex⟩, ?_⟩
  rintro y H2 ⟨rfl, hy⟩
  have ey : y = x := Option.some.inj ((hy xs hq).symm.trans ex)
  subst ey
  exact ⟨vs[i], by rw [hat]; exact hv, F, .refl, rx⟩
/-- a row made of a list -/
theorem SrcL.enum {B : Bor} {A : List Addr} {H : Hp} {s : Src} {a : Addr} (k : SrcL G B A H s a) : SrcR G B A H (.enum s) (Ite G.K a) := by
  intro B' A' h' H' F m n e
  obtain ⟨vs, xs, hl, hat, hq, l, r⟩ := k B' A' h' H' F m n e
  refine ⟨by rw [← hl, r.length]; exact l, fun i => ⟨fun hi => ?_, fun hi => ⟨xs, hq, by rw [← r.length, hl]; exact hi⟩⟩⟩
  have hv : vs[i]? = some vs[i] := List.getElem?_eq_getElem (by omega)
  obtain ⟨x, ex, rx⟩ := r.get hv
  refine ⟨⟨xs, x, hq, ex⟩, ?_⟩
  rintro y H2 ⟨T, x', rfl, hT, rfl, hy⟩
  have ey : x' = x := Option.some.inj ((hy xs hq).symm.trans ex)
  subst ey
  refine ⟨.tup [.int i, vs[i]], by simp only [Src.at, hat, hv], F.other hT, next_new hT, ?_⟩
  unfold RV
  exact ⟨T, _, rfl, upd_same, F.new hT, by rw [sizeLine_eq]; simp, .cons rv_int (.one (RV.mono (next_new hT) _ rx))⟩
theorem SrcL.zip {B : Bor} {A : List Addr} {H : Hp} {s t : Src} {a b : Addr} (k : SrcL G B A H s a) (k2 : SrcL G B A H t b) : SrcR G B A H (.zip s t) (Itz G.K a b) := by
  intro B' A' h' H' F m n e
  simp only [Src.len] at e
  split at e
  · rename_i n1 n2 e1 e2
    cases e
    obtain ⟨vs, xs, hl, hat, hq, l, r⟩ := k B' A' h' H' F m n1 e1
    obtain ⟨ws, ys, hl2, hat2, hq2, l2, r2⟩ := k2 B' A' h' H' F m n2 e2
    have lx := r.length
    have ly := r2.length
    refine ⟨by omega, fun i => ⟨fun hi => ?_, fun hi => ⟨xs, ys, hq, hq2, by omega⟩⟩⟩
    have hv : vs[i]? = some vs[i] := List.getElem?_eq_getElem (by omega)
    have hw : ws[i]? = some ws[i] := List.getElem?_eq_getElem (by omega)
    obtain ⟨x, ex, rx⟩ := r.get hv
    obtain ⟨y, ey, ry⟩ := r2.get hw
    refine ⟨⟨xs, ys, x, y, hq, hq2, ex, ey⟩, ?_⟩
    rintro z H2 ⟨T, x', y', rfl, hT, rfl, hx', hy'⟩
    have e1 : x' = x := Option.some.inj ((hx' xs hq).symm.trans ex)
    have e2 : y' = y := Option.some.inj ((hy' ys hq2).symm.trans ey)
    subst e1 e2
    refine ⟨.tup [vs[i], ws[i]], by simp only [Src.at, hat, hv, hat2, hw], F.other hT, next_new hT, ?_⟩
    unfold RV
    exact ⟨T, _, rfl, upd_same, F.new hT, by rw [sizeLine_eq]; simp, .cons (RV.mono (next_new hT) _ rx) (.one (RV.mono (next_new hT) _ ry))⟩
  · cases e
theorem SrcL.zip3 {B : Bor} {A : List Addr} {H : Hp} {s t u : Src} {a b c : Addr} (k : SrcL G B A H s a) (k2 : SrcL G B A H t b) (k3 : SrcL G B A H u c) : SrcR G B A H (.zip3 s t u) (Itz3 G.K a b c) := by
  intro B' A' h' H' F m n e
  simp only [Src.len] at e
  split at e
  · rename_i n1 n2 n3 e1 e2 e3
    cases e
    obtain ⟨vs, xs, hl, hat, hq, l, r⟩ := k B' A' h' H' F m n1 e1
    obtain ⟨ws, ys, hl2, hat2, hq2, l2, r2⟩ := k2 B' A' h' H' F m n2 e2
    obtain ⟨us, zs, hl3, hat3, hq3, l3, r3⟩ := k3 B' A' h' H' F m n3 e3
    have lx := r.length
    have ly := r2.length
    have lz := r3.length
    refine ⟨by omega, fun i => ⟨fun hi => ?_, fun hi => ⟨xs, ys, zs, hq, hq2, hq3, by omega⟩⟩⟩
    have hv : vs[i]? = some vs[i] := List.getElem?_eq_getElem (by omega)
    have hw : ws[i]? = some ws[i] := List.getElem?_eq_getElem (by omega)
    have hu : us[i]? = some us[i] := List.getElem?_eq_getElem (by omega)
    obtain ⟨x, ex, rx⟩ := r.get hv
    obtain ⟨y, ey, ry⟩ := r2.get hw
    obtain ⟨z, ez, rz⟩ := r3.get hu
    refine ⟨⟨xs, ys, zs, x, y, z, hq, hq2, hq3, ex, ey, ez⟩, ?_⟩
    rintro z0 H2 ⟨T, x', y', z', rfl, hT, rfl, hx', hy', hz'⟩
    have e1 : x' = x := Option.some.inj ((hx' xs hq).symm.trans ex)
    have e2 : y' = y := Option.some.inj ((hy' ys hq2).symm.trans ey)
    have e3 : z' = z := Option.some.inj ((hz' zs hq3).symm.trans ez)
    subst e1 e2 e3
    refine ⟨.tup [vs[i], ws[i], us[i]], by simp only [Src.at, hat, hv, hat2, hw, hat3, hu], F.other hT, next_new hT, ?_⟩
    unfold RV
    exact ⟨T, _, rfl, upd_same, F.new hT, by rw [sizeLine_eq]; simp, .cons (RV.mono (next_new hT) _ rx) (.cons (RV.mono (next_new hT) _ ry) (.one (RV.mono (next_new hT) _ rz)))⟩
  · cases e
theorem SrcT.zip {B : Bor} {A : List Addr} {H : Hp} {s t : Src} {a b : Addr} (k : SrcT G B A H s a) (k2 : SrcT G B A H t b) : SrcR G B A H (.zip s t) (RZ.ItzT G.K a b) := by
  intro B' A' h' H' F m n e
  simp only [Src.len] at e
  split at e
  · rename_i n1 n2 e1 e2
    cases e
    obtain ⟨vs, xs, hl, hat, hq, l, r⟩ := k B' A' h' H' F m n1 e1
    obtain ⟨ws, ys, hl2, hat2, hq2, l2, r2⟩ := k2 B' A' h' H' F m n2 e2
    have lx := r.length
    have ly := r2.length
    refine ⟨by omega, fun i => ⟨fun hi => ?_, fun hi => ⟨xs, ys, hq, hq2, by omega⟩⟩⟩
    have hv : vs[i]? = some vs[i] := List.getElem?_eq_getElem (by omega)
    have hw : ws[i]? = some ws[i] := List.getElem?_eq_getElem (by omega)
    obtain ⟨x, ex, rx⟩ := r.get hv
    obtain ⟨y, ey, ry⟩ := r2.get hw
    refine ⟨⟨xs, ys, x, y, hq, hq2, ex, ey⟩, ?_⟩
    rintro z H2 ⟨T, x', y', rfl, hT, rfl, hx', hy'⟩
    have e1 : x' = x := Option.some.inj ((hx' xs hq).symm.trans ex)
    have e2 : y' = y := Option.some.inj ((hy' ys hq2).symm.trans ey)
    subst e1 e2
    refine ⟨.tup [vs[i], ws[i]], by simp only [Src.at, hat, hv, hat2, hw], F.other hT, next_new hT, ?_⟩
    unfold RV
    exact ⟨T, _, rfl, upd_same, F.new hT, by rw [sizeLine_eq]; simp, .cons (RV.mono (next_new hT) _ rx) (.one (RV.mono (next_new hT) _ ry))⟩
  · cases e
theorem srcOf_ok {B : Bor} {A : List Addr} {H : Hp} {h : Hm} {v : Val} {x : V} {s : Src} (F : Fits G B A h H) (e : srcOf h v = some s) (r : RV G B A H v x) :
    ∃ a, x = .ref a ∧ ((isTup v = false ∧ (∃ xs, SqL G.K H a xs) ∧ SrcL G B A H s a) ∨ (isTup v = true ∧ (∃ xs, SqT G.K H a xs) ∧ SrcT G B A H s a)) := by
  cases v <;> simp only [srcOf, Option.some.injEq] at e <;> try cases e
  case tup vs =>
    unfold RV at r
    obtain ⟨a, xs, rfl, e, m, l, r⟩ := r
    refine ⟨a, rfl, .inr ⟨rfl, ⟨xs, SqT.of e⟩, fun B' A' h' H' F' n' n en => ?_⟩⟩
    simp only [Src.len, Option.some.injEq] at en
    exact ⟨vs, xs, en, fun i => rfl, SqT.of (n'.o _ _ e (fun _ z => by cases z) m).1, l, RVs.conv n' vs r⟩
  case lst c vs =>
    unfold RV at r
    obtain ⟨a, xs, rfl, e, l, r⟩ := r
    refine ⟨a, rfl, .inl ⟨rfl, ⟨xs, e.sq⟩, fun B' A' h' H' F' n' n en => ?_⟩⟩
    simp only [Src.len, Option.some.injEq] at en
    exact ⟨vs, xs, en, fun i => rfl, (e.conv n').sq, l, RVs.conv n' vs r⟩
  case ref i =>
    unfold RV at r
    obtain ⟨a, rfl, ea⟩ := r
    split at e
    · rename_i vs eo
      cases e
      obtain ⟨xs, q, _, _⟩ := F.ob i _ a eo ea
      refine ⟨a, rfl, .inl ⟨rfl, ⟨xs, SqL.of q⟩, fun B' A' h' H' F' n' n en => ?_⟩⟩
      simp only [Src.len] at en
      split at en
      · rename_i ws eo'
        cases en
        obtain ⟨ys, q', l', r'⟩ := F'.ob i _ a eo' (n'.g _ _ ea)
        exact ⟨ws, ys, rfl, fun j => by simp only [Src.at, eo'], SqL.of q', l', r'⟩
      · cases en
    · cases e
/-- a list or a tuple -/
theorem pi_seq {tg l : Expr} {tl : TE} (hl : PE X l tl) : PI X tg l (fun σ H R => tl σ H fun x H1 => ∃ a, x = .ref a ∧ (((∃ xs, SqL X.K H1 a xs) ∧ R (Itl X.K a) H1) ∨ ((∃ xs, SqT X.K H1 a xs) ∧ R (Itt X.K a) H1))) := by
  refine ⟨fun pins s σ H R I h => ?_⟩
  refine thn (hl.run pins s σ H _ I h) fun v s1 ⟨x, H1, I1, r1, q1⟩ => ?_
  obtain ⟨a, e, q1⟩ := q1
  subst e
  cases r1
  rcases q1 with ⟨⟨xs, hq⟩, q⟩ | ⟨⟨xs, hq⟩, q⟩
  · obtain ⟨its, rv, p, hz⟩ := I1.list hq
    refine wpAny_pyIter_list p.isList ?_
    refine ⟨s1.heap.objs.size, [s1.heap.objs.size], _, _, H1, rfl, I1.kept (t' := s1.toks) fun b o e => Heap.get?_push_of_some _ e, turn_list a _, ⟨_, Heap.get?_push_size _ rfl, rfl, rfl⟩, fun b hb => ?_, q⟩
    have e : b = s1.heap.objs.size := by simpa using hb
    subst e
    exact I1.fpOk (Nat.le_refl _) (I1.hok.fresh (Nat.le_refl _))
  · obtain ⟨its, rv, p, hz⟩ := I1.tuple hq
    refine wpAny_pyIter_tuple (show s1.heap.IsTuple a its.toArray from p) ?_
    refine ⟨s1.heap.objs.size, [s1.heap.objs.size], _, _, H1, rfl, I1.kept (t' := s1.toks) fun b o e => Heap.get?_push_of_some _ e, turn_tuple a _, ⟨_, Heap.get?_push_size _ rfl, rfl, rfl⟩, fun b hb => ?_, q⟩
    have e : b = s1.heap.objs.size := by simpa using hb
    subst e
    exact I1.fpOk (Nat.le_refl _) (I1.hok.fresh (Nat.le_refl _))
theorem pi_imp {tg it : Expr} {t t' : TI} (h : PI X tg it t) (i : ∀ σ H R, t' σ H R → t σ H R) : PI X tg it t' := ⟨fun pins s σ H R I q => h.run pins s σ H R I (i σ H R q)⟩
theorem snd_iSeq {a : C} (sa : Snd P a) : Snd P (.iSeq a) where
  i := by
    intro G cl lv tx X W at_ e tg h
    simp only [chkI] at h
    refine pi_imp (pi_seq (sa.e at_ e h).1) ?_
    intro σ H Z ⟨B, A, h', e, F, re, p⟩
    simp only [evI] at p
    refine ⟨B, A, h', e, F, re, p.bind.imp fun v x h1 A1 H1 F1 n1 r1 p1 => ?_⟩
    unfold R.of at p1
    split at p1
    · rename_i s es
      obtain ⟨a, rfl, q⟩ := srcOf_ok F1 es r1
      refine ⟨a, rfl, ?_⟩
      rw [at_.fa.hK]
      rcases q with ⟨_, hx, k⟩ | ⟨_, hx, k⟩
      · exact .inl ⟨hx, post_ok p1 F1 .refl k.r⟩
      · exact .inr ⟨hx, post_ok p1 F1 .refl k.r⟩
    · exact p1.elim
  e := by intro G cl lv tx X W a es h; simp [chkE] at h
  o := by intro G cl lv tx X W a e h; simp [chkP'] at h
  a := by intro G cl lv tx X W a e h; simp [chkA] at h
/-- ranges -/
theorem src_rng {B : Bor} {A : List Addr} {H : Hp} {f : Nat → Int} {m : Nat} {J : It} (hm : m ≤ 3000000) (g : ∀ i H, i < m → J.go i H) (y : ∀ i H x H', J.yld i H x H' → H' = H ∧ x = .int (f i)) (st : ∀ i H, m ≤ i → J.stop i H) :
    SrcR G B A H (.stat ((List.range m).map fun n => .int (f n))) J := by
  intro B' A' h' H' F k n e
  simp only [Src.len, Option.some.injEq, List.length_map, List.length_range] at e
  subst e
  refine ⟨by rw [sizeLine_eq]; omega, fun i => ⟨fun hi => ⟨g i _ hi, fun x H2 q => ?_⟩, fun hi => st i _ hi⟩⟩
  obtain ⟨rfl, rfl⟩ := y i _ _ _ q
  refine ⟨.int (f i), ?_, F, .refl, rv_int⟩
  simp only [Src.at, List.getElem?_map, List.getElem?_range hi, Option.map_some]
end
end MP
set_option Elab.async false
set_option linter.all false
set_option maxRecDepth 100000
set_option autoImplicit false
namespace MP
open PySem PySem.Spec PyProof.Rows L2
variable [Tabs]
section
variable {P : Pg} {G : Sg} {cl : CL} {lv : Lv} {tx : Tx} {X : Cx} {W : WX}
theorem evA_len {T : Tab} : ∀ (c : C) {es : List Expr} {e : En} {h h' : Hm} {vs : List Val}, chkA P c tx es = true → evA T cl.f cl.L c e h = .ok vs h' → vs.length = es.length := by
  intro c
  induction c with
  | nil =>
    intro es e h h' vs ch ev
    simp only [chkA] at ch
    split at ch
    · simp only [evA] at ev
      cases ev
      rfl
    · cases ch
  | cons a b iha ihb =>
    intro es e h h' vs ch ev
    simp only [chkA] at ch
    split at ch
    · rename_i x xs
      rw [Bool.and_eq_true] at ch
      simp only [evA] at ev
      cases ea : evE T cl.f cl.L a e h with
      | ok v h1 =>
        rw [ea] at ev
        simp only [R.bind] at ev
        cases eb : evA T cl.f cl.L b e h1 with
        | ok ws h2 =>
          rw [eb] at ev
          cases ev
          rw [List.length_cons, List.length_cons, ihb ch.2 eb]
        | exc k h2 => rw [eb] at ev; cases ev
        | bad => rw [eb] at ev; cases ev
      | exc k h2 => rw [ea] at ev; cases ev
      | bad => rw [ea] at ev; cases ev
    · cases ch
  | _ => intro es e h h' vs ch ev; simp [chkA] at ch
theorem Post.impE {α β : Type} {rl : Rl α β} {B : Bor} {A : List Addr} {H : Hp} {σ : L2.St} {r : R α} {k k' : α → β → Hm → List Addr → Hp → Prop} (p : Post G B W σ rl A H r k)
    (i : ∀ v x h' A' H', r = .ok v h' → Fits G B A' h' H' → Next A H A' H' → rl A' H' v x → k v x h' A' H' → k' v x h' A' H') : Post G B W σ rl A H r k' := by
  cases r with
  | ok v h' => exact fun A' H' x f m q => i v x h' A' H' rfl f m q (p A' H' x f m q)
  | exc c h' => exact p
  | bad => exact p
theorem len1 {α : Type} {l : List α} (h : l.length = 1) : ∃ a, l = [a] := by
  rcases l with _ | ⟨a, _ | ⟨b, r⟩⟩ <;> simp at h
  exact ⟨a, rfl⟩
theorem len2 {α : Type} {l : List α} (h : l.length = 2) : ∃ a b, l = [a, b] := by
  rcases l with _ | ⟨a, _ | ⟨b, _ | ⟨c, r⟩⟩⟩ <;> simp at h
  exact ⟨a, b, rfl⟩
theorem len3 {α : Type} {l : List α} (h : l.length = 3) : ∃ a b c, l = [a, b, c] := by
  rcases l with _ | ⟨a, _ | ⟨b, _ | ⟨c, _ | ⟨d, r⟩⟩⟩⟩ <;> simp at h
  exact ⟨a, b, c, rfl⟩
theorem size_c {i j c : Int} (hi : 0 ≤ i ∧ i ≤ 1000000) (hj : 0 ≤ j ∧ j ≤ 1000000) (hc : 0 < c ∧ c ≤ 1000) : RgC i j c ((j - i + c - 1) / c).toNat := by
  have e1 : (j - i + c - 1) / c = (j - i - 1) / c + 1 := by
    rw [show j - i + c - 1 = (j - i - 1) + 1 * c by omega, Int.add_mul_ediv_right _ _ (by omega)]
  have rs : Builtin.Range.rangeSize i j c = (((j - i + c - 1) / c).toNat : Int) := by
    unfold Builtin.Range.rangeSize
    rw [if_pos hc.1, e1]
    split
    · have := Int.ediv_nonneg (a := j - i - 1) (b := c) (by omega) (by omega)
      omega
    · have : (j - i - 1) / c < 0 := Int.ediv_neg_of_neg_of_pos (by omega) (by omega)
      omega
  refine ⟨by omega, by omega, ?_, rs⟩
  unfold Builtin.Range.small
  rw [rs]
  have hb : (j - i - 1) / c ≤ 1000000 := by
    by_cases z : 0 ≤ j - i - 1
    · have := Int.ediv_le_self c z
      omega
    · have : (j - i - 1) / c < 0 := Int.ediv_neg_of_neg_of_pos (by omega) (by omega)
      omega
  simp only [Builtin.Range.rangeFitsLong, Bool.and_eq_true, Bool.or_eq_true, decide_eq_true_eq, beq_iff_eq]
  rw [e1]
  rw [if_pos hc.1]
  simp only [Bool.and_eq_true, decide_eq_true_eq]
  generalize hq : (((j - i - 1) / c + 1).toNat : Int) = q
  have hq1 : 0 ≤ q := by omega
  have hq2 : q ≤ 1000001 := by omega
  clear hq hb rs e1
  omega
theorem snd_iRng {as : C} (sa : Snd P as) : Snd P (.iRng as) where
  i := by
    intro G cl lv tx X W at_ e tg h
    simp only [chkI] at h
    split at h
    · rename_i x p es pos
      simp only [Bool.and_eq_true, decide_eq_true_eq] at h
      obtain ⟨⟨⟨h1, h2⟩, h3⟩, h4⟩ := h
      subst h2
      obtain ⟨g1, g2, g3⟩ := at_.glob h1
      have hm := at_.fa.blt "range" (by decide +kernel)
      obtain ⟨ha, ns⟩ := sa.a at_ es h4
      have stp : ∀ {Q : List V → Hp → Prop} {Z : It → Hp → Prop} {σ : L2.St} {H : Hp}, tI P G cl W (.iRng as) σ H Z →
          (∀ B A1 h1 H1 vs ms s, Fits G B A1 h1 H1 → RVs G B A1 H1 ms vs → ms.length = es.length → rngM ms = some s → (∀ J, SrcR G B A1 H1 s J → Z J H1) → Q vs H1) → tAs P G cl W as σ H Q := by
        intro Q Z σ H ⟨B, A, h', e, F, re, p⟩ k
        simp only [evI] at p
        refine ⟨B, A, h', e, F, re, p.bind.impE fun v x h1 A1 H1 ee F1 n1 r1 p1 => ?_⟩
        unfold MP.R.of at p1
        split at p1
        · rename_i s es'
          exact k B A1 h1 H1 x v s F1 r1 (evA_len as h4 ee) es' fun J sr => post_ok p1 F1 .refl sr
        · exact p1.elim
      rcases es with _ | ⟨a, _ | ⟨b, _ | ⟨c, _ | ⟨d, r⟩⟩⟩⟩
      · exact absurd h3.1 (by simp)
      · refine pi_imp (pi_range1 g1 hm ha (star_of ns)) fun σ H Z q => stp q ?_
        intro B A1 h1 H1 vs ms s F1 r1 l es' k
        obtain ⟨m, rfl⟩ := len1 l
        unfold rngM at es'
        split at es' <;> rename_i e1
        · cases e1
          split at es'
          · rename_i j c
            cases es'
            obtain ⟨y, ys, rfl, r2, r3⟩ := r1.uncons
            cases r3.ofnil
            unfold RV at r2
            subst r2
            exact ⟨j, rfl, by omega, by omega, k _ (src_rng (f := fun n => ((n : Nat) : Int)) (by omega) (fun _ _ z => z) (fun i H x H' z => ⟨z.1, by rw [z.2, Int.zero_add]⟩) fun _ _ z => z)⟩
          · cases es'
        · cases e1
        · cases e1
        · cases es'
      · refine pi_imp (pi_range2 g1 hm ha (star_of ns) (star_of (star_cons (env := X.env) ns).2)) fun σ H Z q => stp q ?_
        intro B A1 h1 H1 vs ms s F1 r1 l es' k
        obtain ⟨m1, m2, rfl⟩ := len2 l
        unfold rngM at es'
        split at es' <;> rename_i e1
        · cases e1
        · cases e1
          split at es'
          · rename_i i j c
            cases es'
            obtain ⟨y, ys, rfl, r2, r3⟩ := r1.uncons
            obtain ⟨y', ys', rfl, r2', r3'⟩ := r3.uncons
            cases r3'.ofnil
            unfold RV at r2 r2'
            subst r2 r2'
            exact ⟨i, j, rfl, by omega, k _ (src_rng (f := fun n => i + ((n : Nat) : Int)) (by omega) (fun _ _ z => z) (fun i H x H' z => z) fun _ _ z => z)⟩
          · cases es'
        · cases e1
        · cases es'
      · refine pi_imp (pi_range3 g1 hm ha (star_cons ns).1 (back_plain (star_cons (env := X.env) ns).2)) fun σ H Z q => stp q ?_
        intro B A1 h1 H1 vs ms s F1 r1 l es' k
        unfold rngM at es'
        split at es'
        · simp at l
        · simp at l
        · rename_i i j c'
          split at es'
          · rename_i cc
            cases es'
            obtain ⟨y, ys, rfl, r2, r3⟩ := r1.uncons
            obtain ⟨y', ys', rfl, r2', r3'⟩ := r3.uncons
            obtain ⟨y'', ys'', rfl, r2'', r3''⟩ := r3'.uncons
            cases r3''.ofnil
            unfold RV at r2 r2' r2''
            subst r2 r2' r2''
            have hb : ((j - i + c' - 1) / c').toNat ≤ 3000000 := by
              have : (j - i + c' - 1) / c' ≤ j - i + c' - 1 ∨ (j - i + c' - 1) / c' ≤ 0 := by
                by_cases z : 0 ≤ j - i + c' - 1
                · left
                  exact Int.ediv_le_self _ z
                · right
                  exact Int.le_of_lt (Int.ediv_neg_of_neg_of_pos (by omega) (by omega))
              omega
            exact ⟨i, j, c', _, rfl, size_c ⟨cc.1, cc.2.1⟩ ⟨cc.2.2.1, cc.2.2.2.1⟩ cc.2.2.2.2, k _ (src_rng (f := fun n => i + ((n : Nat) : Int) * c') hb (fun _ _ z => z) (fun i H x H' z => z) fun _ _ z => z)⟩
          · cases es'
        · cases es'
      · exact absurd h3.2 (by simp)
    · cases h
  e := by intro G cl lv tx X W a es h; simp [chkE] at h
  o := by intro G cl lv tx X W a e h; simp [chkP'] at h
  a := by intro G cl lv tx X W a e h; simp [chkA] at h
theorem tuple_of {e : Expr} (h : isTuple e = true) : ∃ es k pos, e = .Tuple es k pos := by
  cases e <;> simp [isTuple] at h
  exact ⟨_, _, _, rfl⟩
theorem snd_iEnum {a : C} (sa : Snd P a) : Snd P (.iEnum a) where
  i := by
    intro G cl lv tx X W at_ e tg h
    simp only [chkI] at h
    split at h
    · rename_i x p y pos
      simp only [Bool.and_eq_true, decide_eq_true_eq] at h
      obtain ⟨⟨⟨h1, h2⟩, h3⟩, h4⟩ := h
      subst h2
      obtain ⟨g1, g2, g3⟩ := at_.glob h1
      obtain ⟨es, k, tp, rfl⟩ := tuple_of h3
      have ns : noStar [y] = true := noStar_of (fun w p e => by subst e; rw [chkE_star] at h4; cases h4) rfl
      refine pi_imp (pi_enum g1 (at_.fa.blt "enumerate" (by decide +kernel)) (pa_cons (sa.e at_ y h4).1 pa_nil (star_cons ns).1) (star_of ns)) ?_
      intro σ H Z ⟨B, A, h', e, F, re, p⟩
      simp only [evI] at p
      refine ⟨B, A, h', e, F, re, p.bind.imp fun v x h1 A1 H1 F1 n1 r1 p1 => ?_⟩
      split at p1
      · exact p1.elim
      · rename_i nt
        split at p1
        · rename_i s es
          obtain ⟨a, rfl, q⟩ := srcOf_ok F1 es r1
          rcases q with ⟨_, ⟨xs, hx⟩, k⟩ | ⟨q, _⟩
          · exact ⟨a, xs, rfl, by rw [at_.fa.hK]; exact hx, by rw [at_.fa.hK]; exact post_ok p1 F1 .refl k.enum⟩
          · exact absurd q nt
        · exact p1.elim
    · cases h
  e := by intro G cl lv tx X W a es h; simp [chkE] at h
  o := by intro G cl lv tx X W a e h; simp [chkP'] at h
  a := by intro G cl lv tx X W a e h; simp [chkA] at h
theorem snd_iZip {as : C} (sa : Snd P as) : Snd P (.iZip as) where
  i := by
    intro G cl lv tx X W at_ e tg h
    simp only [chkI] at h
    split at h
    · rename_i x p es pos
      simp only [Bool.and_eq_true, decide_eq_true_eq] at h
      obtain ⟨⟨⟨⟨h1, h2⟩, h3⟩, h4⟩, h5⟩ := h
      subst h2
      obtain ⟨g1, g2, g3⟩ := at_.glob h1
      obtain ⟨ts, k, tp, rfl⟩ := tuple_of h3
      obtain ⟨ha, ns⟩ := sa.a at_ es h5
      rcases h4 with h4 | h4
      rotate_left
      · obtain ⟨e1, e2, e3, rfl⟩ := len3 h4
        refine pi_imp (pi_zip3 g1 (at_.fa.blt "zip" (by decide +kernel)) ha (star_cons ns).1 (back_plain (star_cons (env := X.env) ns).2)) ?_
        intro σ H Z ⟨B, A, h', e, F, re, p⟩
        simp only [evI] at p
        refine ⟨B, A, h', e, F, re, p.bind.impE fun ms vs h1 A1 H1 ee F1 n1 r1 p1 => ?_⟩
        have l := evA_len as h5 ee
        obtain ⟨m1, m2, m3, rfl⟩ := len3 l
        obtain ⟨y, ys, rfl, r2, r3⟩ := RVs.uncons r1
        obtain ⟨y', ys', rfl, r2', r3'⟩ := r3.uncons
        obtain ⟨y'', ys'', rfl, r2'', r3''⟩ := r3'.uncons
        cases r3''.ofnil
        unfold MP.R.of at p1
        split at p1
        · rename_i s es
          simp only [zipM] at es
          split at es
          · cases es
          · rename_i tt
            simp only [Bool.or_eq_true, not_or, Bool.not_eq_true] at tt
            split at es
            · rename_i s1 s2 s3 q1 q2 q3
              cases es
              obtain ⟨a, rfl, k1⟩ := srcOf_ok F1 q1 r2
              obtain ⟨b, rfl, k2⟩ := srcOf_ok F1 q2 r2'
              obtain ⟨c, rfl, k3⟩ := srcOf_ok F1 q3 r2''
              rcases k1 with ⟨z1, ⟨xs, hx⟩, k1⟩ | ⟨z1, _⟩
              · rcases k2 with ⟨z2, ⟨ys, hy⟩, k2⟩ | ⟨z2, _⟩
                · rcases k3 with ⟨z3, ⟨zs, hz⟩, k3⟩ | ⟨z3, _⟩
                  · exact ⟨a, b, c, xs, ys, zs, rfl, by rw [at_.fa.hK]; exact hx, by rw [at_.fa.hK]; exact hy, by rw [at_.fa.hK]; exact hz, by rw [at_.fa.hK]; exact post_ok p1 F1 .refl (k1.zip3 k2 k3)⟩
                  · rw [tt.2] at z3; cases z3
                · rw [tt.1.2] at z2; cases z2
              · rw [tt.1.1] at z1; cases z1
            · cases es
        · exact p1.elim
      obtain ⟨e1, e2, rfl⟩ := len2 h4
      refine pi_imp (RZ.pi_zipA g1 (at_.fa.blt "zip" (by decide +kernel)) ha (star_cons ns).1 (back_plain (star_cons (env := X.env) ns).2)) ?_
      intro σ H Z ⟨B, A, h', e, F, re, p⟩
      simp only [evI] at p
      refine ⟨B, A, h', e, F, re, p.bind.impE fun ms vs h1 A1 H1 ee F1 n1 r1 p1 => ?_⟩
      have l := evA_len as h5 ee
      obtain ⟨m1, m2, rfl⟩ := len2 l
      obtain ⟨y, ys, rfl, r2, r3⟩ := RVs.uncons r1
      obtain ⟨y', ys', rfl, r2', r3'⟩ := r3.uncons
      cases r3'.ofnil
      unfold MP.R.of at p1
      split at p1
      · rename_i s es
        simp only [zipM] at es
        split at es
        · rename_i tt
          split at es
          · rename_i s1 s2 q1 q2
            cases es
            obtain ⟨a, rfl, k1⟩ := srcOf_ok F1 q1 r2
            obtain ⟨b, rfl, k2⟩ := srcOf_ok F1 q2 r2'
            rcases k1 with ⟨z1, ⟨xs, hx⟩, k1⟩ | ⟨z1, ⟨xs, hx⟩, k1⟩ <;> rcases k2 with ⟨z2, ⟨zs, hz⟩, k2⟩ | ⟨z2, ⟨zs, hz⟩, k2⟩
            · exact ⟨a, b, xs, zs, rfl, .inl ⟨by rw [at_.fa.hK]; exact hx, by rw [at_.fa.hK]; exact hz, by rw [at_.fa.hK]; exact post_ok p1 F1 .refl (k1.zip k2)⟩⟩
            · rw [z1, z2] at tt; cases tt
            · rw [z1, z2] at tt; cases tt
            · exact ⟨a, b, xs, zs, rfl, .inr ⟨by rw [at_.fa.hK]; exact hx, by rw [at_.fa.hK]; exact hz, by rw [at_.fa.hK]; exact post_ok p1 F1 .refl (k1.zip k2)⟩⟩
          · cases es
        · cases es
      · exact p1.elim
    · cases h
  e := by intro G cl lv tx X W a es h; simp [chkE] at h
  o := by intro G cl lv tx X W a e h; simp [chkP'] at h
  a := by intro G cl lv tx X W a e h; simp [chkA] at h
end
end MP
set_option Elab.async false
set_option linter.all false
set_option maxRecDepth 100000
set_option autoImplicit false
namespace MP
open PySem PySem.Spec PyProof.Rows L2
variable [Tabs]
section
variable {P : Pg} {G : Sg} {cl : CL} {lv : Lv} {tx : Tx} {X : Cx} {W : WX}
theorem pg_ex {e : Expr} {r : Bor → TG} (h : ∀ i, PG X e (r i)) : PG X e (fun v σ H Q => ∃ i, r i v σ H Q) := ⟨fun pins s σ H v u Q I r ⟨i, q⟩ => (h i).run pins s σ H v u Q I r q⟩
theorem At.blk (a : At P G cl lv tx X W) {scope : Scope} (hk : scope.kind = .function) (s : Shared) (H : Hp) (C : Addr) (cs : List (Str × Addr)) (fp : List Addr) : At P G cl lv (blkT tx scope) (X.blk s H scope (compEnvC scope cs C X.env) fp) W0 where
  sh := ⟨a.sh.N, a.sh.nd, by show relS scope X.env.scope = relS scope tx.sc; rw [a.sh.sc], hk, a.sh.calm, fun x h => h⟩
  fa := a.fa
  room := a.room
  tk := fun u s' ⟨_, _, _, _, _, _, _, _, _, _, _, _, _, _, _, _, w⟩ => w
  pass := PassesOwn.never
  ab := a.ab
  frm := fun z => nomatch z
  lk := fun z => nomatch z
  lkc := a.lkc
  mak := fun l z => nomatch z
  cv := fun z => nomatch z
theorem ownOf_ix {N : List Str} {own : List Nat} : ∀ p ∈ ownOf N own, N[p.2]? = some p.1 := by
  intro p hp
  unfold ownOf at hp
  obtain ⟨i, _, hi⟩ := List.mem_filterMap.mp hp
  cases e : N[i]? with
  | none => rw [e] at hi; cases hi
  | some x =>
    rw [e] at hi
    cases hi
    exact e
theorem blk_ok {scope : Scope} {own : List Nat} (a : At P G cl lv tx X W) (h : blkB tx scope own = true) : BlkOk X.N X.env.scope scope (ownOf tx.N own) ∧ (ownOf tx.N own).map (·.2) = own := by
  unfold blkB at h
  simp only [Bool.and_eq_true, decide_eq_true_eq, List.all_eq_true] at h
  obtain ⟨⟨⟨⟨h1, h2⟩, h3⟩, h4⟩, h5⟩ := h
  refine ⟨⟨h1, h2, fun p hp => by rw [a.sh.N]; exact ownOf_ix p hp, fun y hy ey => ?_, fun y hy ey => ?_⟩, h3⟩
  · have := h4 y hy
    rw [if_pos ey] at this
    rw [a.sh.sc]
    simpa using this
  · have := h5 y hy
    rw [if_pos ey] at this
    rw [Bool.or_eq_true] at this
    rcases this with z | z
    · exact .inl (List.contains_iff_mem.mp z)
    · right
      rw [a.sh.N]
      intro m
      rw [List.contains_iff_mem.mpr m] at z
      cases z
theorem wipe_get : ∀ {vs : List Nat} {σ : L2.St} {j : Nat}, j ∉ vs → (wipe σ vs)[j]? = σ[j]?
  | [], _, _, _ => rfl
  | v :: vs, σ, j, h => by
    unfold wipe
    rw [List.getElem?_set_ne (fun e => h (by rw [e]; exact List.mem_cons_self)), wipe_get fun m => h (List.mem_cons_of_mem _ m)]
theorem wipe_in : ∀ {vs : List Nat} {σ : L2.St} {j : Nat}, j ∈ vs → j < σ.length → (wipe σ vs)[j]? = some none
  | [], _, _, h, _ => by cases h
  | v :: vs, σ, j, h, hl => by
    unfold wipe
    by_cases e : v = j
    · subst e
      rw [List.getElem?_set_self (by rw [wipe_length]; exact hl)]
    · rw [List.getElem?_set_ne e, wipe_in ((List.mem_cons.mp h).resolve_left (fun z => e z.symm)) hl]
theorem wipe_same {ns vs : List Nat} {σ σ' : L2.St} (s : Same ns (wipe σ vs) σ') (h : ∀ i ∈ ns, i ∈ vs) : wipe σ' vs = wipe σ vs := by
  have l : σ'.length = σ.length := by rw [s.1, wipe_length]
  apply List.ext_getElem?
  intro j
  by_cases m : j ∈ vs
  · by_cases hl : j < σ.length
    · rw [wipe_in m hl, wipe_in m (by rw [l]; exact hl)]
    · rw [List.getElem?_eq_none (by rw [wipe_length]; omega), List.getElem?_eq_none (by rw [wipe_length]; omega)]
  · rw [wipe_get m, s.2 j (fun z => m (h j z)), wipe_get m]
theorem RE.wipe {B : Bor} {A : List Addr} {H : Hp} {e : En} {σ : L2.St} (r : RE G B A H e σ) : ∀ vs : List Nat, RE G B A H (wipeM e vs) (L2.wipe σ vs)
  | [] => r
  | v :: vs => by
    have ih := RE.wipe r vs
    unfold wipeM L2.wipe
    refine ⟨by rw [List.length_set, List.length_set]; exact ih.1, fun j w ej => ?_⟩
    by_cases c : v = j
    · subst c
      rw [List.getElem?_set] at ej
      simp at ej
    · rw [List.getElem?_set_ne c] at ej
      rw [List.getElem?_set_ne c]
      exact ih.2 j w ej
theorem Next.poke {A A' : List Addr} {H H' : Hp} {D : Addr} {o : HO} {xs : List V} (n : Next A H A' H') (e : H D = none) (h1 : H' D = some (.lst xs)) : Next A H A' (upd H' D o) :=
  ⟨n.pre, fun a u q m k => by rw [upd_ne (ne_of_none q e)]; exact n.keep a u q m k, fun a u q => by
    rw [upd_ne (ne_of_none q e)]
    exact n.still a u q, fun t p hp => tab_set h1 pl_lst (n.tb t p hp)⟩
/-- a Post that is known to end well -/
theorem post_of_ok {α β : Type} {rl : Rl α β} {B : Bor} {A : List Addr} {H : Hp} {σ : L2.St} {r : R α} {v : α} {h' : Hm} {k : α → β → Hm → List Addr → Hp → Prop} (e : r = .ok v h') (i : ∀ A' H' x, Fits G B A' h' H' → Next A H A' H' → rl A' H' v x → k v x h' A' H') : Post G B W σ rl A H r k := by
  subst e
  exact i
theorem comp_parts {z : Bool} {own : List Nat} {p : Pat} {it cd x : C} (si : Snd P it) (sc : Snd P cd) (sx : Snd P x) (at_ : At P G cl lv tx X W) {elt tg iter : Expr} {ifs : List Expr} {scope : Scope} {pos : Pos}
    (h : chkE P (.comp z own p it cd x) tx (.ListComp elt [⟨tg, iter, ifs, 0⟩] scope pos) = true) :
    ∃ tt : TT, PI X tg iter (tI P G cl W it) ∧ BlkOk X.N X.env.scope scope (ownOf tx.N own) ∧
      (∀ (s : Shared) (H : Hp) (C : Addr) (cs : List (Str × Addr)) (fp : List Addr), PG (X.blk s H scope (compEnvC scope cs C X.env) fp) tg (fun v σ H Q => ∃ B, gP G B p v σ H Q)) ∧
      (∀ (s : Shared) (H : Hp) (C : Addr) (cs : List (Str × Addr)) (fp : List Addr), PTs (X.blk s H scope (compEnvC scope cs C X.env) fp) ifs tt) ∧
      (∀ (s : Shared) (H : Hp) (C : Addr) (cs : List (Str × Addr)) (fp : List Addr), PE (X.blk s H scope (compEnvC scope cs C X.env) fp) elt (tE P G cl W0 x)) ∧
      (∀ v, foldedSetIterable iter X.env v = pure v) ∧
      ∀ σ H Q, tE P G cl W (.comp z own p it cd x) σ H Q → tLc (tI P G cl W it) (fun v σ H Q => ∃ B, gP G B p v σ H Q) tt (tE P G cl W0 x) ((ownOf tx.N own).map (·.2)) σ H Q := by
      simp only [chkE] at h
      simp only [Bool.and_eq_true] at h
      obtain ⟨⟨⟨⟨⟨⟨h1, h2⟩, h3⟩, h4⟩, h5⟩, h6⟩, h7⟩ := h
      obtain ⟨ok, eo⟩ := blk_ok at_ h1
      have hs : ∀ x, foldedSetIterable iter X.env x = pure x := by
        intro v
        cases iter <;> first | rfl | simp [notSet] at h2
      have hg : ∀ (s : Shared) (H : Hp) (C : Addr) (cs : List (Str × Addr)) (fp : List Addr), PG (X.blk s H scope (compEnvC scope cs C X.env) fp) tg (fun v σ H Q => ∃ B, gP G B p v σ H Q) := fun s H C cs fp =>
        pg_ex fun B => pg_P (G := G) (B := B) (X := X.blk s H scope (compEnvC scope cs C X.env) fp) at_.fa.hK (at_.blk (scope := scope) ok.kind s H C cs fp).sh p tg h4
      have hns : ∀ i ∈ slotsP p, i ∈ own := fun i hi => List.contains_iff_mem.mp (List.all_eq_true.mp h5 i hi)
      -- the tests
      have ht : ∃ tt : TT, (∀ (s : Shared) (H : Hp) (C : Addr) (cs : List (Str × Addr)) (fp : List Addr), PTs (X.blk s H scope (compEnvC scope cs C X.env) fp) ifs tt) ∧
          ∀ B A h e σ H (Q : Bool → Hp → Prop) (b : Bool) (h' : Hm), Fits G B A h H → RE G B A H e σ → evE P.T cl.f cl.L cd e h = .ok (.bl b) h' → (∀ A' H', Fits G B A' h' H' → Next A H A' H' → Q b H') → tt σ H Q := by
        split at h6
        · refine ⟨tYes, fun _ _ _ _ _ => pts_nil, fun B A h e σ H Q b h' F re ev k => ?_⟩
          unfold yes at h6
          split at h6
          · simp only [evE] at ev
            cases ev
            exact k A H F .refl
          · cases h6
        · rename_i c
          refine ⟨tB (tE P G cl W0 cd), fun s H C cs fp => pts_one (sc.e (at_.blk (scope := scope) ok.kind s H C cs fp) c h6).2, fun B A h e σ H Q b h' F re ev k => ?_⟩
          refine ⟨B, A, h, e, F, re, post_of_ok ev fun A' H' x F' n' r => ?_⟩
          unfold RV at r
          exact ⟨b, r, k A' H' F' n'⟩
        · cases h6
      obtain ⟨tt, ht, htt⟩ := ht
      have he : ∀ (s : Shared) (H : Hp) (C : Addr) (cs : List (Str × Addr)) (fp : List Addr), PE (X.blk s H scope (compEnvC scope cs C X.env) fp) elt (tE P G cl W0 x) := fun s H C cs fp => (sx.e (at_.blk (scope := scope) ok.kind s H C cs fp) elt h7).1
      refine ⟨tt, si.i at_ iter tg h3, ok, hg, ht, he, hs, ?_⟩
      · rw [eo]
        intro σ H Q ⟨B, A, h, e, F, re, pp⟩
        simp only [evE] at pp
        refine ⟨B, A, h, e, F, re, pp.bind.imp fun s J h1 A1 H1 F1 n1 sr p1 => ?_⟩
        intro D hD
        split at p1
        · rename_i n en
          generalize et : (fun (v : Val) (h : Hm) => (match bindP p v (wipeM e own) with
            | some e' => (evE P.T cl.f cl.L cd e' h).bind fun c h => match c with
              | .bl true => (evE P.T cl.f cl.L x e' h).bind fun w h => R.ok (some w) h
              | .bl false => .ok none h
              | _ => .bad
            | none => .bad : R (Option Val))) = turn at p1
          have cv1 : Conv B A1 H1 (B.and D) A1 (upd H1 D (.lst [])) := .hide hD
          refine ⟨fun i m H => m = n - i ∧ i ≤ n ∧ ∃ A2 h2 acc xs, H D = some (.lst xs) ∧ Fits G (B.and D) A2 h2 H ∧ Conv B A1 H1 (B.and D) A2 H ∧ Next A1 H1 A2 H ∧ RVs G (B.and D) A2 H acc xs ∧ xs.length ≤ i ∧ compM turn s n n [] h1 = compM turn s n (n - i) acc h2, ?_, ?_⟩
          · exact ⟨n, rfl, Nat.zero_le _, A1, h1, [], [], upd_same, F1.hide hD, cv1, next_new hD, RVs.nil, Nat.le_refl _, rfl⟩
          · rintro i m H2 ⟨rfl, hi, A2, h2, acc, xs, eD, F2, cv, n2, ra, hl, E⟩
            rw [E] at p1
            have mD : D ∉ A2 := (F2.bx D (.inr rfl)).1
            have xD : (B.and D).x D := .inr rfl
            have oD := F1.new hD
            cases em : s.len h2 with
            | none =>
              cases hk : n - i with
              | zero => rw [hk] at p1; simp only [compM, em] at p1; exact p1.elim
              | succ k => rw [hk] at p1; simp only [compM, em] at p1; exact p1.elim
            | some m =>
            by_cases c : m = n
            rotate_left
            · cases hk : n - i with
              | zero => rw [hk] at p1; simp only [compM, em, if_neg c] at p1; exact p1.elim
              | succ k => rw [hk] at p1; simp only [compM, em, if_neg c] at p1; exact p1.elim
            subst c
            obtain ⟨ln, sJ⟩ := sr _ _ _ _ F2 cv _ em
            by_cases hin : i = m
            · subst hin
              rw [Nat.sub_self] at p1
              simp only [compM, em, if_true] at p1
              refine .inl ⟨(sJ _).2 (Nat.le_refl _), ?_⟩
              have lx : xs.length ≤ sizeLine := Nat.le_trans hl ln
              simp only [R.bind, mkL] at p1
              cases z with
              | true =>
                rw [if_pos rfl] at p1
                refine post_ok p1 F2.show n2 ?_
                show RV G B A2 H2 (.lst .own acc) (.ref D)
                unfold RV
                exact ⟨D, xs, rfl, ⟨by decide, eD, ⟨mD, oD.2⟩, fun _ => F1.newB hD⟩, lx, RVs.conv .show acc ra⟩
              | false =>
                rw [if_neg Bool.false_ne_true] at p1
                refine post_ok p1 (F2.adopt oD.2 (F1.new0 hD) eD lx ra) ?_ ?_
                · obtain ⟨new, e1, e2⟩ := n2.pre
                  refine ⟨⟨new ++ [D], by rw [e1, List.append_assoc], fun a ma => ?_⟩, n2.keep, n2.still, n2.tb⟩
                  rcases List.mem_append.mp ma with ma | ma
                  · exact e2 a ma
                  · rw [List.mem_singleton.mp ma]
                    exact hD
                · show RV G B (A2 ++ [D]) H2 (.ref h2.length) (.ref D)
                  unfold RV
                  exact ⟨D, rfl, by rw [← F2.len]; simp⟩
            · have hlt : i < m := by omega
              obtain ⟨rem, hr⟩ : ∃ rem, m - i = rem + 1 := ⟨m - i - 1, by omega⟩
              have hri : m - (rem + 1) = i := by omega
              rw [hr] at p1 E
              simp only [compM, em, if_true, hri] at p1 E
              obtain ⟨go, yl⟩ := (sJ i).1 hlt
              refine .inr ⟨go, fun H' => ∃ A3 h3 acc' ys, H' D = some (.lst ys) ∧ Fits G (B.and D) A3 h3 H' ∧ Conv B A1 H1 (B.and D) A3 H' ∧ Next A1 H1 A3 H' ∧ RVs G (B.and D) A3 H' acc' ys ∧ ys.length ≤ i + 1 ∧ compM turn s m m [] h1 = compM turn s m rem acc' h3, ?_, ?_⟩
              · rintro H' ⟨A3, h3, acc', ys, q1, q2, q3, q4, q5, q6, q7⟩
                exact ⟨m - (i + 1), by omega, rfl, by omega, A3, h3, acc', ys, q1, q2, q3, q4, q5, q6, by rw [q7, show m - (i + 1) = rem by omega]⟩
              · intro y H' yy
                obtain ⟨v, ev, F3, n3, rv⟩ := yl y H' yy
                rw [ev] at p1 E
                simp only at p1 E
                have eD3 : H' D = some (.lst xs) := n3.keep _ _ eD mD (fun _ z => by cases z)
                have re3 : RE G (B.and D) A2 H' e σ := ((re.mono n1).conv cv).mono n3
                cases et2 : turn v h2 with
                | exc k hx => rw [et2] at p1; exact p1.elim
                | bad => rw [et2] at p1; exact p1.elim
                | ok ov h5 =>
                rw [et2] at E
                skip
                rw [← et] at et2
                simp only at et2
                cases eb : bindP p v (wipeM e own) with
                | none => rw [eb] at et2; cases et2
                | some e' =>
                rw [eb] at et2
                simp only at et2
                cases ec : evE P.T cl.f cl.L cd e' h2 with
                | exc k hx => rw [ec] at et2; cases et2
                | bad => rw [ec] at et2; cases et2
                | ok cv' h4 =>
                rw [ec] at et2
                simp only [R.bind] at et2
                refine ⟨B.and D, A2, h2, wipeM e own, v, F3, re3.wipe own, rv, e', eb, fun σ2 re2 sm => ⟨wipe_same sm hns, ?_⟩⟩
                have step : ∀ {A4 : List Addr} {H4 : Hp}, Next A2 H' A4 H4 → H4 D = some (.lst xs) ∧ Conv B A1 H1 (B.and D) A4 H4 ∧ Next A1 H1 A4 H4 ∧ RVs G (B.and D) A4 H4 acc xs := fun {A4 H4} n4 =>
                  ⟨n4.keep _ _ eD3 mD (fun _ z => by cases z), cv.trans (.next (n3.trans n4)), n2.trans (n3.trans n4), RVs.mono (n3.trans n4) acc ra⟩
                cases cv' with
                | bl b =>
                  refine htt (B.and D) A2 h2 e' σ2 H' _ b h4 F3 re2 ec fun A4 H4 F4 n4 => ?_
                  cases b with
                  | false =>
                    rw [if_neg Bool.false_ne_true]
                    simp only at et2
                    cases et2
                    obtain ⟨q1, q2, q3, q4⟩ := step n4
                    exact ⟨A4, h5, acc, xs, q1, F4, q2, q3, q4, by omega, E⟩
                  | true =>
                    rw [if_pos rfl]
                    simp only at et2
                    cases ex : evE P.T cl.f cl.L x e' h4 with
                    | exc k hx => rw [ex] at et2; cases et2
                    | bad => rw [ex] at et2; cases et2
                    | ok w h6 =>
                    rw [ex] at et2
                    simp only at et2
                    cases et2
                    refine ⟨B.and D, A4, h4, e', F4, re2.mono n4, post_of_ok ex fun A5 H5 yv F5 n5 ry => ?_⟩
                    obtain ⟨q1, q2, q3, q4⟩ := step (n4.trans n5)
                    refine ⟨xs, q1, by omega, A5, h5, acc ++ [w], xs ++ [yv], upd_same, F5.poke xD (F1.new0 hD), q2.trans (.poke xD), q3.poke hD q1, RVs.conv (.poke xD) _ (q4.append (.one ry)), by simp; omega, E⟩
                | _ => cases et2
        · exact p1.elim
theorem snd_comp {z : Bool} {own : List Nat} {p : Pat} {it cd x : C} (si : Snd P it) (sc : Snd P cd) (sx : Snd P x) : Snd P (.comp z own p it cd x) where
  e := by
    intro G cl lv tx X W at_ e h
    have h0 := h
    simp only [chkE] at h
    split at h
    · rename_i elt tg iter ifs scope pos
      obtain ⟨tt, hi, ok, hg, ht, he, hs, key⟩ := comp_parts si sc sx at_ h0
      have b : PE X (.ListComp elt [⟨tg, iter, ifs, 0⟩] scope pos) (tE P G cl W (.comp z own p it cd x)) := pe_imp (pe_lc at_.sh.calm (by rw [at_.sh.N]; exact at_.sh.nd) hi ok hg ht he hs) key
      exact ⟨b, pt_simple b rfl⟩
    · cases h
  a := by intro G cl lv tx X W a es h; simp [chkA] at h
  o := by intro G cl lv tx X W a e h; simp [chkP'] at h
  i := by intro G cl lv tx X W a e tg h; simp [chkI] at h
end
end MP
set_option Elab.async false
set_option linter.all false
set_option maxRecDepth 100000
set_option autoImplicit false
namespace MP
open PySem PySem.Spec PyProof.Rows L2
variable [Tabs]
/-- elements that are told from the block's start -/
def tLcX (OK : Hp → Addr → TE → Prop) (wi : TI) (g : TG) (vs : List Nat) : TE := fun σ H Q => wi σ H fun J H1 => ∀ D, H1 D = none → ∃ te : TE, OK H1 D te ∧ ∃ W : Nat → Nat → Hp → Prop, (∃ m, W 0 m (upd H1 D (.lst []))) ∧ ∀ i m H, W i m H →
  (J.stop i H ∧ Q (.ref D) H) ∨ (J.go i H ∧ ∃ Nx : Hp → Prop, (∀ H', Nx H' → ∃ m', m' < m ∧ W (i + 1) m' H') ∧ ∀ x H', J.yld i H x H' → g x (L2.wipe σ vs) H' fun σ2 H2 => L2.wipe σ2 vs = L2.wipe σ vs ∧ te σ2 H2 fun y H4 => ∃ acc, H4 D = some (.lst acc) ∧ acc.length < sizeLine ∧ Nx (upd H4 D (.lst (acc ++ [y]))))
def ElOk (X : Cx) (scope : Scope) (elt : Expr) (σ : L2.St) (H1 : Hp) (D : Addr) (te : TE) : Prop := ∀ (pins : List (Addr × Obj)) (s2 s3 : Shared) (C : Addr) (cl : List (Str × Addr)) (fp : List Addr), Inv X pins σ H1 s2 → CellKeep H1 s2.heap (upd H1 D (.lst [])) s3.heap →
  (∀ b ∈ fp, ∃ o, s3.heap.get? b = some o ∧ ∀ v, o.data ≠ .cell v) → PE (X.blk s3 (upd H1 D (.lst [])) scope (compEnvC scope cl C X.env) fp) elt te
section
variable {X : Cx}
theorem lc_coreX {pins : List (Addr × Obj)} {s : Shared} {σ : L2.St} {H : Hp} {Q : VK} {elt tg iter : Expr} {scope : Scope} {own : List (Str × Nat)} {pos pos' : Pos} {wi : TI} {g : TG} {use : Option (Value → Sem Unit)} {Qf : Value → Shared → Prop}
    (hc : X.calm = true) (hN : X.N.Nodup) (I : Inv X pins σ H s) (hi : PI X tg iter wi) (ok : BlkOk X.N X.env.scope scope own)
    (hg : ∀ (s : Shared) (H : Hp) (C : Addr) (cl : List (Str × Addr)) (fp : List Addr), PG (X.blk s H scope (compEnvC scope cl C X.env) fp) tg g) (hs : ∀ x, foldedSetIterable iter X.env x = pure x)
    (h : tLcX (ElOk X scope elt σ) wi g (own.map (·.2)) σ H Q)
    (hRR : ∀ D C s' m H', Inv X pins σ H' s' → Q (.ref D) H' → s'.heap.Ns C m → FpOk X pins H' C → compPost (model X.prog X.w) X.A X.xe use Qf (.ref D) C (.ok .next) s') :
    wpAny (model X.prog X.w) X.A (comprehension (.ListComp elt [⟨tg, iter, [], 0⟩] scope pos) scope X.env pos' (newList []) false (eval iter X.env) use) Qf X.xe s := by
  have hfree : ∀ y ∈ scope.names, y.2 = .free → ∃ c, X.env.cells.lookup y.1 = some c := fun y hy e => by
    rcases ok.free y hy e with k | k
    · exact I.ok.has _ (.inl k)
    · exact I.ok.has _ (.inr k)
  refine wpAny_comprehension_free (use := use) rfl hs (closure_ok hfree) ok.kind (fun y hy e => by rw [ok.uniq y hy, e])
    (thn (hi.run pins s σ H _ I h) fun xv s1 hx => thn hx fun itv s2 h2 => ?_)
  obtain ⟨it, fp, tn, J, H2, e, I2, T, st2, f2, q⟩ := h2
  subst e
  refine wpAny_newObj_type (newEnv_comp ?_) (by show 0 ≤ sizeLine; decide)
  generalize hD : s2.heap.objs.size = D
  have hDn : H2 D = none := I2.hok.fresh (Nat.le_of_eq hD)
  obtain ⟨te, eOk, W, ⟨m0, w0⟩, turn⟩ := q D hDn
  -- the new list
  generalize hs3 : ({ s2 with heap := s2.heap.push { cls := .type "list", data := .seq ([] : List Value).toArray } } : Shared) = s3
  have I3 : Inv X pins σ (upd H2 D (.lst [])) s3 := by
    rw [← hs3]
    refine I2.laid (t' := s2.toks) (fun b o e => Heap.get?_push_of_some _ e) (Nat.le_of_eq hD) ⟨Nat.zero_le _, [], 0, .nil, ?_⟩
    rw [← hD]
    exact Heap.get?_push_size _ rfl
  have h3 : s3.heap = s2.heap.push { cls := .type "list", data := .seq ([] : List Value).toArray } := by rw [← hs3]
  have sz : ∀ b ∈ fp, b < s2.heap.objs.size := fun b hb => by
    obtain ⟨o, e, _⟩ := T.obj _ _ st2 b hb
    exact Heap.lt_size e
  have f3 : ∀ b ∈ fp, FpOk X pins (upd H2 D (.lst [])) b ∧ b < s3.heap.objs.size := fun b hb => by
    have hlt := sz b hb
    refine ⟨⟨?_, (f2 b hb).2⟩, by rw [h3, Heap.size_push]; exact Nat.lt_succ_of_lt hlt⟩
    rw [upd_ne (by rw [← hD]; exact Nat.ne_of_lt hlt)]
    exact (f2 b hb).1
  have st3 : tn 0 s3.heap := T.keep _ _ _ st2 fun b _ o e => by rw [h3]; exact Heap.get?_push_of_some _ e
  have I4 := block_start I3 ok hN f3
  have pg := hg s3 (upd H2 D (.lst [])) s3.heap.objs.size (cellsFrom (s3.heap.objs.size + 1) scope.names (cloFrom X.env.cells scope.names [])) fp
  have ck : CellKeep H2 s2.heap (upd H2 D (.lst [])) s3.heap := fun c v n ⟨o, ho, hd⟩ => by
    refine ⟨?_, o, by rw [h3]; exact Heap.get?_push_of_some _ ho, hd⟩
    rw [upd_ne (by rw [← hD]; exact Nat.ne_of_lt (Heap.lt_size ho))]
    exact n
  have pe := eOk pins s2 s3 s3.heap.objs.size (cellsFrom (s3.heap.objs.size + 1) scope.names (cloFrom X.env.cells scope.names [])) fp I2 ck (T.obj 0 _ st3)
  show codeAny _ _ (.compStart (.ListComp elt [⟨tg, iter, [], 0⟩] scope pos) 0 (.ref it) (.ref D) (compEnvC scope (cellsFrom (s3.heap.objs.size + 1) scope.names (cloFrom X.env.cells scope.names [])) s3.heap.objs.size X.env)) (compPost (model X.prog X.w) X.A X.xe use Qf (.ref D) s3.heap.objs.size) { s3 with heap := pushCells (s3.heap.push { cls := .type "dict", data := .dict #[] }) scope.names }
  have nfp : ∀ b ∈ fp, (upd H2 D (.lst [])) b = none := fun b hb => (f3 b hb).1.1
  generalize hce : compEnvC scope (cellsFrom (s3.heap.objs.size + 1) scope.names (cloFrom X.env.cells scope.names [])) s3.heap.objs.size X.env = ce at I4 pg pe ⊢
  have cL : ce.locals = s3.heap.objs.size := by subst hce; rfl
  generalize hH3 : upd H2 D (.lst []) = H3 at I3 I4 pg pe w0 nfp f3
  generalize hs4 : ({ s3 with heap := pushCells (s3.heap.push { cls := .type "dict", data := .dict #[] }) scope.names } : Shared) = s4 at I4 ⊢
  have st4 : tn 0 s4.heap := T.keep _ _ _ st3 fun b _ o e => by rw [← hs4]; exact pushCells_keeps _ _ _ _ (Heap.get?_push_of_some _ e)
  have stat : ∀ {σ' : L2.St} {H' : Hp} {s' : Shared}, Inv (X.blk s3 H3 scope ce fp) [] σ' H' s' → (∀ b ∈ fp, H' b = none) → ∀ b ∈ fp, FpOk (X.blk s3 H3 scope ce fp) [] H' b := fun {σ' H' s'} I' hn b hb =>
    ⟨hn b hb, (I'.ok.exf b hb).1, I'.ok.exfs b hb, .inl hb, fun x c e => (I'.ok.exf b hb).2 x c e, fun p hp => absurd (show p ∈ ([] : List (Addr × Obj)) ++ [] from hp) (by simp)⟩
  have loop : codeAny (model X.prog X.w) X.A (.compLoop (.ListComp elt [⟨tg, iter, [], 0⟩] scope pos) 0 (.ref it) (.ref D) ce) (compPost (model X.prog X.w) X.A X.xe use Qf (.ref D) s3.heap.objs.size) s4 := by
    refine compLoop_any (fun n s' => ∃ i H', Inv (X.blk s3 H3 scope ce fp) [] (L2.wipe σ (own.map (·.2))) H' s' ∧ tn i s'.heap ∧ (∀ b ∈ fp, H' b = none) ∧ W i n H') ?_ m0 ⟨0, H3, I4, st4, nfp, w0⟩
    rintro n s5 ⟨i, H5, I5, st5, n5, w5⟩
    rcases turn i n H5 w5 with ⟨stop, qq⟩ | ⟨go, Nx, hNx, step⟩
    · have td := T.done (X.blk s3 H3 scope ce fp) rfl rfl rfl hc i [] s5 _ H5 (fun _ _ => False) I5 (stat I5 n5) st5 stop
      refine thnF td fun r s6 ⟨hr, I6⟩ => ?_
      subst hr
      -- back in the def's context
      have I7 : Inv X pins σ H5 s6 := I3.call' (ch := fp) I6.os I6.base I6.hok I6.bare fun b hb => ⟨(f3 b hb).1.2.2.2.1, (f3 b hb).1.2.1, (f3 b hb).1.2.2.2.2.1, (f3 b hb).1.2.2.2.2.2⟩
      have nC : H5 s3.heap.objs.size = none := by
        have z : H5 ce.locals = none := I6.free
        rw [cL] at z
        exact z
      obtain ⟨m, hn, _⟩ := I6.loc
      have hn : s6.heap.Ns ce.locals m := hn
      rw [cL] at hn
      exact hRR D s3.heap.objs.size s6 m H5 I7 qq hn (I3.fpOk (Nat.le_refl _) nC)
    · have ti := T.item (X.blk s3 H3 scope ce fp) rfl rfl rfl hc i [] s5 _ H5 (fun _ _ => False) I5 (stat I5 n5) st5 go
      refine thnF ti fun r s6 ⟨u, hr, h6⟩ => ?_
      subst hr
      refine thnF h6 fun _ s7 ⟨x, H7, I7, r7, y7, st7, n7⟩ => ?_
      have I7' := I7.pinned (stat I7 n7) (T.obj _ _ st7)
      refine thnF (pg.run _ s7 _ H7 x u _ I7' r7 (step x H7 y7)) fun _ s9 ⟨σ8, H9, I9, hw8, q9⟩ => ?_
      refine thnF ((pts_nil (X := X.blk s3 H3 scope ce fp)).run _ s9 σ8 H9 (fun b H => b = true ∧ H = H9) I9 ⟨rfl, rfl⟩) fun b s9' ⟨H9', I9', eb, eh⟩ => ?_
      subst eb
      subst eh
      -- the turn's end
      have fin : ∀ {s' : Shared} {H' : Hp}, Inv (X.blk s3 H3 scope ce fp) ([] ++ pinsAt fp s7.heap) σ8 H' s' → Nx H' → ∃ m, m < n ∧ ∃ i H', Inv (X.blk s3 H3 scope ce fp) [] (L2.wipe σ (own.map (·.2))) H' s' ∧ tn i s'.heap ∧ (∀ b ∈ fp, H' b = none) ∧ W i m H' := fun {s' H'} I' nx => by
        obtain ⟨m', hm, w'⟩ := hNx H' nx
        have pin' : ∀ b ∈ fp, ∀ o, s7.heap.get? b = some o → s'.heap.get? b = some o ∧ H' b = none := fun b hb o e =>
          let z := I'.pin (b, o) (List.mem_append_right _ (List.mem_append_right _ (mem_pinsAt hb e)))
          ⟨z.1, z.2.1⟩
        have hl : (L2.wipe σ (own.map (·.2))).length = σ8.length := by rw [← hw8, wipe_length]
        refine ⟨m', hm, i + 1, H', (I'.unpinned (pins := [])).weak hl (fun j v e => ?_), T.keep _ _ _ st7 fun b hb o e => (pin' b hb o e).1, fun b hb => ?_, w'⟩
        · rw [← hw8] at e
          exact (wipe_some e).1
        · obtain ⟨o, e, _⟩ := T.obj _ _ st7 b hb
          exact (pin' b hb o e).2
      simp only [if_true]
      refine thnF (pe.run _ s9' σ8 _ _ I9' q9) fun z s10 ⟨yv, H10, I10, r10, acc, hD10, hz10, nx⟩ => ?_
      exact app_ok (X := X.blk s3 H3 scope ce fp) I10 hD10 hz10 r10 fun s11 I11 => fin I11 nx
  exact codeAny_compStart_list loop (T.self X.A 0 _ _ _ st4 loop)
theorem pe_lcX {elt tg iter : Expr} {scope : Scope} {own : List (Str × Nat)} {pos : Pos} {wi : TI} {g : TG} {t : TE} (hc : X.calm = true) (hN : X.N.Nodup) (hi : PI X tg iter wi) (ok : BlkOk X.N X.env.scope scope own)
    (hg : ∀ (s : Shared) (H : Hp) (C : Addr) (cl : List (Str × Addr)) (fp : List Addr), PG (X.blk s H scope (compEnvC scope cl C X.env) fp) tg g) (hs : ∀ x, foldedSetIterable iter X.env x = pure x)
    (key : ∀ σ H Q, t σ H Q → tLcX (ElOk X scope elt σ) wi g (own.map (·.2)) σ H Q) :
    PE X (.ListComp elt [⟨tg, iter, [], 0⟩] scope pos) t := by
  refine ⟨fun pins s σ H Q I h => ?_⟩
  rw [eval_ListComp]
  refine lc_coreX hc hN I hi ok hg hs (key σ H Q h) fun D C s' m H' I' q hn f => ⟨m, hn, fun h'' sb => ?_⟩
  obtain ⟨f0, f1, f2, f3, f4, f5⟩ := f
  exact ⟨.ref D, H', I'.turned (t' := s'.toks) (fun b o hb e => (sb.2 b hb).trans e) f0 f1 f3 f4 f5, rfl, q⟩
end
section
variable {P : Pg} {G : Sg} {cl : CL} {lv : Lv} {tx : Tx} {X : Cx} {W : WX}
theorem snd_mapC {z : Bool} {own : List Nat} {p : Pat} {it : C} {f : Nat} {as : C} (si : Snd P it) (sa : Snd P as) : Snd P (.mapC z own p it f as) where
  e := by
    intro G cl lv tx X W at_ e h
    simp only [chkE] at h
    split at h
    · rename_i fx px es pc tg iter scope pos
      simp only [Bool.and_eq_true, decide_eq_true_eq, Bool.not_eq_true'] at h
      obtain ⟨⟨⟨⟨⟨⟨⟨⟨h0, h1⟩, h2⟩, h3⟩, h4⟩, h5⟩, h6⟩, h7⟩, h8⟩ := h
      obtain ⟨ok, eo⟩ := blk_ok at_ h1
      have hs : ∀ x, foldedSetIterable iter X.env x = pure x := by
        intro v
        cases iter <;> first | rfl | simp [notSet] at h2
      have hg : ∀ (s : Shared) (H : Hp) (C : Addr) (cs : List (Str × Addr)) (fp : List Addr), PG (X.blk s H scope (compEnvC scope cs C X.env) fp) tg (fun v σ H Q => ∃ B, gP G B p v σ H Q) := fun s H C cs fp =>
        pg_ex fun B => pg_P (G := G) (B := B) (X := X.blk s H scope (compEnvC scope cs C X.env) fp) at_.fa.hK (at_.blk (scope := scope) ok.kind s H C cs fp).sh p tg h4
      have hns : ∀ i ∈ slotsP p, i ∈ own := fun i hi => List.contains_iff_mem.mp (List.all_eq_true.mp h5 i hi)
      have b : PE X (.ListComp (.Call (.Name fx px) es [] pc) [⟨tg, iter, [], 0⟩] scope pos) (tE P G cl W (.mapC z own p it f as)) := by
        refine pe_lcX at_.sh.calm (by rw [at_.sh.N]; exact at_.sh.nd) (si.i at_ iter tg h3) ok hg hs ?_
        rw [eo]
        intro σ H Q ⟨B, A, h, e, F, re, pp⟩
        simp only [evE] at pp
        refine ⟨B, A, h, e, F, re, pp.bind.imp fun s J h1 A1 H1 F1 n1 sr p1 => ?_⟩
        intro D hD
        refine ⟨fun σ2 H2 Q2 => ∃ B2 A2 h2 e2, Fits G B2 A2 h2 H2 ∧ RE G B2 A2 H2 e2 σ2 ∧ Since B A1 H1 B2 A2 H2 ∧ Post G B2 W0 σ2 (RVr G B2) A2 H2 ((evA P.T cl.f cl.L as e2 h2).bind fun ms h => callM cl.f .dir f ms h (cl.L.push e)) (fun _ x _ _ H' => Q2 x H'), ?_, ?_⟩
        · intro pins s2 s3 C cs fp I2 ck fpn
          have lk2 : lv.LK (cl.L.push e) G B A1 H1 s2 := at_.lk (pn := X.pn) (xe := X.xe) h0 I2 F1 (re.mono n1)
          have at2 := at_.blk (scope := scope) ok.kind s3 (upd H1 D (.lst [])) C cs fp
          obtain ⟨g1, g2, g3⟩ := at2.glob h6
          obtain ⟨fa, hm, fo⟩ := at2.fa.fn f fx h7
          obtain ⟨ha, ns⟩ := sa.a at2 es h8
          refine ⟨fun pins' s' σ' H' Q' I' ⟨B2, A2, h2, e2, F2, re2, sn, p2⟩ => ?_⟩
          refine wpAny_Call_Name_kw (ld_glob I' g1 hm ?_ g2)
          refine callWith_any (first := []) fo.1 I' ha ns ⟨B2, A2, h2, e2, F2, re2, p2.bind.imp fun ms vs h3 A3 H3 F3 n3 r3 p3 us s5 I5 ru => ?_⟩
          exact run_callM (z := .dir) at2.fa (at2.room.mono (by omega)) at2.tk at2.ab fo I5 ru F3 r3 (fun _ => at_.lkc lk2 (ck.trans (CellKeep.of_un (show Un _ fp _ _ _ _ from I5.base) fpn)) (sn.next n3)) p3
        split at p1
        · rename_i n en
          generalize et : (fun (v : Val) (h : Hm) => (match bindP p v (wipeM e own) with
            | some e' => ((evA P.T cl.f cl.L as e' h).bind fun ms h => callM cl.f .dir f ms h (cl.L.push e)).bind fun w h => R.ok (some w) h
            | none => .bad : R (Option Val))) = turn at p1
          have cv1 : Conv B A1 H1 (B.and D) A1 (upd H1 D (.lst [])) := .hide hD
          refine ⟨fun i m H => m = n - i ∧ i ≤ n ∧ ∃ A2 h2 acc xs, H D = some (.lst xs) ∧ Fits G (B.and D) A2 h2 H ∧ Conv B A1 H1 (B.and D) A2 H ∧ Next A1 H1 A2 H ∧ RVs G (B.and D) A2 H acc xs ∧ xs.length ≤ i ∧ compM turn s n n [] h1 = compM turn s n (n - i) acc h2, ?_, ?_⟩
          · exact ⟨n, rfl, Nat.zero_le _, A1, h1, [], [], upd_same, F1.hide hD, cv1, next_new hD, RVs.nil, Nat.le_refl _, rfl⟩
          · rintro i m H2 ⟨rfl, hi, A2, h2, acc, xs, eD, F2, cv, n2, ra, hl, E⟩
            rw [E] at p1
            have mD : D ∉ A2 := (F2.bx D (.inr rfl)).1
            have xD : (B.and D).x D := .inr rfl
            have oD := F1.new hD
            cases em : s.len h2 with
            | none =>
              cases hk : n - i with
              | zero => rw [hk] at p1; simp only [compM, em] at p1; exact p1.elim
              | succ k => rw [hk] at p1; simp only [compM, em] at p1; exact p1.elim
            | some m =>
            by_cases c : m = n
            rotate_left
            · cases hk : n - i with
              | zero => rw [hk] at p1; simp only [compM, em, if_neg c] at p1; exact p1.elim
              | succ k => rw [hk] at p1; simp only [compM, em, if_neg c] at p1; exact p1.elim
            subst c
            obtain ⟨ln, sJ⟩ := sr _ _ _ _ F2 cv _ em
            by_cases hin : i = m
            · subst hin
              rw [Nat.sub_self] at p1
              simp only [compM, em, if_true] at p1
              refine .inl ⟨(sJ _).2 (Nat.le_refl _), ?_⟩
              have lx : xs.length ≤ sizeLine := Nat.le_trans hl ln
              simp only [R.bind, mkL] at p1
              cases z with
              | true =>
                rw [if_pos rfl] at p1
                refine post_ok p1 F2.show n2 ?_
                show RV G B A2 H2 (.lst .own acc) (.ref D)
                unfold RV
                exact ⟨D, xs, rfl, ⟨by decide, eD, ⟨mD, oD.2⟩, fun _ => F1.newB hD⟩, lx, RVs.conv .show acc ra⟩
              | false =>
                rw [if_neg Bool.false_ne_true] at p1
                refine post_ok p1 (F2.adopt oD.2 (F1.new0 hD) eD lx ra) ?_ ?_
                · obtain ⟨new, e1, e2⟩ := n2.pre
                  refine ⟨⟨new ++ [D], by rw [e1, List.append_assoc], fun a ma => ?_⟩, n2.keep, n2.still, n2.tb⟩
                  rcases List.mem_append.mp ma with ma | ma
                  · exact e2 a ma
                  · rw [List.mem_singleton.mp ma]
                    exact hD
                · show RV G B (A2 ++ [D]) H2 (.ref h2.length) (.ref D)
                  unfold RV
                  exact ⟨D, rfl, by rw [← F2.len]; simp⟩
            · have hlt : i < m := by omega
              obtain ⟨rem, hr⟩ : ∃ rem, m - i = rem + 1 := ⟨m - i - 1, by omega⟩
              have hri : m - (rem + 1) = i := by omega
              rw [hr] at p1 E
              simp only [compM, em, if_true, hri] at p1 E
              obtain ⟨go, yl⟩ := (sJ i).1 hlt
              refine .inr ⟨go, fun H' => ∃ A3 h3 acc' ys, H' D = some (.lst ys) ∧ Fits G (B.and D) A3 h3 H' ∧ Conv B A1 H1 (B.and D) A3 H' ∧ Next A1 H1 A3 H' ∧ RVs G (B.and D) A3 H' acc' ys ∧ ys.length ≤ i + 1 ∧ compM turn s m m [] h1 = compM turn s m rem acc' h3, ?_, ?_⟩
              · rintro H' ⟨A3, h3, acc', ys, q1, q2, q3, q4, q5, q6, q7⟩
                exact ⟨m - (i + 1), by omega, rfl, by omega, A3, h3, acc', ys, q1, q2, q3, q4, q5, q6, by rw [q7, show m - (i + 1) = rem by omega]⟩
              · intro y H' yy
                obtain ⟨v, ev, F3, n3, rv⟩ := yl y H' yy
                rw [ev] at p1 E
                simp only at p1 E
                have eD3 : H' D = some (.lst xs) := n3.keep _ _ eD mD (fun _ z => by cases z)
                have re3 : RE G (B.and D) A2 H' e σ := ((re.mono n1).conv cv).mono n3
                cases et2 : turn v h2 with
                | exc k hx => rw [et2] at p1; exact p1.elim
                | bad => rw [et2] at p1; exact p1.elim
                | ok ov h5 =>
                rw [et2] at E
                skip
                rw [← et] at et2
                simp only at et2
                cases eb : bindP p v (wipeM e own) with
                | none => rw [eb] at et2; cases et2
                | some e' =>
                rw [eb] at et2
                simp only at et2
                cases ex : ((evA P.T cl.f cl.L as e' h2).bind fun ms h => callM cl.f .dir f ms h (cl.L.push e)) with
                | exc k hx => rw [ex] at et2; cases et2
                | bad => rw [ex] at et2; cases et2
                | ok w h6 =>
                rw [ex] at et2
                simp only [R.bind] at et2
                cases et2
                have sn : Since B A1 H1 (B.and D) A2 H' := ⟨n2.trans n3, fun a m => m.elim .inl fun q => by rw [q]; exact .inr hD, fun a m => .inl m⟩
                refine ⟨B.and D, A2, h2, wipeM e own, v, F3, re3.wipe own, rv, e', eb, fun σ2 re2 sm => ⟨wipe_same sm hns, B.and D, A2, h2, e', F3, re2, sn, post_of_ok ex fun A5 H5 yv F5 n5 ry => ?_⟩⟩
                have step : ∀ {A4 : List Addr} {H4 : Hp}, Next A2 H' A4 H4 → H4 D = some (.lst xs) ∧ Conv B A1 H1 (B.and D) A4 H4 ∧ Next A1 H1 A4 H4 ∧ RVs G (B.and D) A4 H4 acc xs := fun {A4 H4} n4 =>
                  ⟨n4.keep _ _ eD3 mD (fun _ z => by cases z), cv.trans (.next (n3.trans n4)), n2.trans (n3.trans n4), RVs.mono (n3.trans n4) acc ra⟩
                obtain ⟨q1, q2, q3, q4⟩ := step n5
                exact ⟨xs, q1, by omega, A5, _, acc ++ [w], xs ++ [yv], upd_same, F5.poke xD (F1.new0 hD), q2.trans (.poke xD), q3.poke hD q1, RVs.conv (.poke xD) _ (q4.append (.one ry)), by simp; omega, E⟩
        · exact p1.elim
      exact ⟨b, pt_simple b rfl⟩
    · cases h
  a := by intro G cl lv tx X W a es h; simp [chkA] at h
  o := by intro G cl lv tx X W a e h; simp [chkP'] at h
  i := by intro G cl lv tx X W a e tg h; simp [chkI] at h
end
end MP
set_option Elab.async false
set_option linter.all false
set_option maxRecDepth 100000
set_option autoImplicit false
namespace MP
open PySem PySem.Spec PyProof.Rows L2
variable [Tabs]
section
variable {P : Pg}
theorem snd_all2 (c : C) : Snd P c ∧ SndL P c := by
  induction c with
  | var i => exact ⟨snd_var i, True.intro⟩
  | cst v => exact ⟨snd_cst v, True.intro⟩
  | bin z o a b ha hb => exact ⟨snd_bin ha.1 hb.1, True.intro⟩
  | neg a ha => exact ⟨snd_neg ha.1, True.intro⟩
  | cmp o a b ha hb => exact ⟨snd_cmp ha.1 hb.1, True.intro⟩
  | cmp2 o p a b c ha hb hc => exact ⟨snd_cmp2 ha.1 hb.1 hc.1, True.intro⟩
  | cmp3 o p q a b c d ha hb hc hd => exact ⟨snd_cmp3 ha.1 hb.1 hc.1 hd.1, True.intro⟩
  | not a ha => exact ⟨snd_not ha.1, True.intro⟩
  | and a b ha hb => exact ⟨snd_and ha.1 hb.1, True.intro⟩
  | or a b ha hb => exact ⟨snd_or ha.1 hb.1, True.intro⟩
  | ite t a b ht ha hb => exact ⟨snd_ite ht.1 ha.1 hb.1, True.intro⟩
  | idx a i ha hi => exact ⟨snd_idx ha.1 hi.1, True.intro⟩
  | slc z a lo hi ha hl hh => exact ⟨snd_slc ha.1 hl.1 hh.1, True.intro⟩
  | rev z a ha => exact ⟨snd_rev ha.1, True.intro⟩
  | slcS z a lo st ha hl hs => exact ⟨snd_slcS ha.1 hl.1 hs.1, True.intro⟩
  | fld a f ha => exact ⟨snd_fld ha.1, True.intro⟩
  | nil => exact ⟨snd_nil, True.intro⟩
  | cons a b ha hb => exact ⟨snd_cons ha.1 hb.1, ha.1, hb.2⟩
  | «omit» => exact ⟨snd_omit, True.intro⟩
  | part a ha => exact ⟨snd_part ha.1, True.intro⟩
  | tup as ha => exact ⟨snd_tup ha.1, True.intro⟩
  | lst z as ha => exact ⟨snd_lst ha.1, True.intro⟩
  | dct ks as ha => exact ⟨snd_dct ha.2, True.intro⟩
  | call z f as ha => exact ⟨snd_call ha.1, True.intro⟩
  | bi b z as ha => exact ⟨snd_bi ha.1, True.intro⟩
  | meth m o as ho ha => exact ⟨snd_meth ho.1 ha.1, True.intro⟩
  | ocall z m o as ho ha => exact ⟨snd_ocall ho.1 ha.1, True.intro⟩
  | new k as ha => exact ⟨snd_new ha.1, True.intro⟩
  | comp z own p it cd e hi hc he => exact ⟨snd_comp hi.1 hc.1 he.1, True.intro⟩
  | isi a t ha => exact ⟨snd_isi ha.1, True.intro⟩
  | iSeq a ha => exact ⟨snd_iSeq ha.1, True.intro⟩
  | iRng as ha => exact ⟨snd_iRng ha.1, True.intro⟩
  | iEnum a ha => exact ⟨snd_iEnum ha.1, True.intro⟩
  | iZip as ha => exact ⟨snd_iZip ha.1, True.intro⟩
  | lam l => exact ⟨snd_lam, True.intro⟩
  | callv i as ha => exact ⟨snd_callv ha.1, True.intro⟩
  | inR n x as hx ha => exact ⟨snd_inR hx.1 ha.1, True.intro⟩
  | mapC z own p it f as hi ha => exact ⟨snd_mapC hi.1 ha.1, True.intro⟩
theorem snd_all (c : C) : Snd P c := (snd_all2 c).1
end
def notComp : Expr → Bool
  | .ListComp .. => false
  | .SetComp .. => false
  | .DictComp .. => false
  | _ => true
def swNames (sc : Scope) (ts : List Expr) : List Str := ts.filterMap fun
  | .Name id pos => if sc.names.lookup id == some .local && pos.line == (ts.head?.map (·.pos.line)).getD 0 then some id else none
  | _ => none
/-- which names are stored from the right: none if it isn't known -/
def swR (sc : Scope) (tg e : Expr) : Option (Option (List Str)) := match tg, e with
  | .Tuple ts _ _, .Tuple vs _ _ =>
    if (!(ts.length == 2 || ts.length == 3) || vs.length != ts.length || sc.kind != .function) = true then some none
    else if (vs.any fun | .Starred .. => true | _ => false) = true then some none
    else if ((swNames sc ts).length != ts.length || (swNames sc ts).eraseDups.length != (swNames sc ts).length) = true then some none
    else if vs.all (foldedForSure 8) = true then some none
    else if vs.all (constantsAlone 8) = true then none
    else some (some (swNames sc ts))
  | .List .., _ => none
  | _, _ => some none
theorem swR_ok {sc : Scope} {env : PySem.Env} (hs : env.scope = sc) (hk : sc.kind = .function) {tg e : Expr} {r : Option (List Str)} (h : swR sc tg e = some r) : swappedStores [tg] e env = pure r := by
  have bk : env.blockKind = .function := by
    unfold Env.blockKind
    rw [hs, hk]
    rfl
  subst hs
  unfold swR at h
  split at h
  · rename_i ts k1 p1 vs k2 p2
    unfold swappedStores
    simp only [bk, hk] at h ⊢
    have en : (ts.filterMap fun
      | .Name id pos => if env.kindOf id == some .local && pos.line == (ts.head?.map (·.pos.line)).getD 0 then some id else none
      | _ => none) = swNames env.scope ts := rfl
    split at h
    · rename_i c
      cases h
      rw [if_pos c]
    · rename_i c
      rw [if_neg c]
      split at h
      · rename_i c
        cases h
        exact if_pos c
      · rename_i c
        refine (if_neg c).trans ?_
        split at h
        · rename_i c
          cases h
          exact if_pos c
        · rename_i c
          refine (if_neg c).trans ?_
          split at h
          · rename_i c
            cases h
            exact if_pos c
          · rename_i c
            refine (if_neg c).trans ?_
            split at h
            · cases h
            · rename_i c
              cases h
              exact (if_neg c)
  · cases h
  · rename_i h1 h2
    cases h
    cases tg <;> first | rfl | skip
    · exact (h1 _ _ rfl).elim
    · cases e <;> first | rfl | exact (h2 _ _ _ _ _ _ rfl rfl).elim
/-- a comprehension stored by one row at a plain local name -/
def lcLocal (sc : Scope) (tg e : Expr) : Bool := match tg, e with
  | .Name t pos, .ListComp _ _ s pos' => decide (sc.names.lookup t = some .local) && (pos.line == pos'.line) && !(s.names.any fun (n, k) => n == t && (k == .local || k == .cell))
  | _, _ => false
/-- swapsWith says no -/
def swNo (sc : Scope) (tg e : Expr) : Bool := match e with
  | .ListComp _ _ s pos' => match tg with
    | .Name t pos => !(sc.names.lookup t == some .local && pos.line == pos'.line && !(s.names.any fun (n, k) => n == t && (k == .local || k == .cell)))
    | _ => true
  | .SetComp .. => false
  | .DictComp .. => false
  | _ => true
def tsNames (ts : List Expr) : List Str := ts.filterMap fun
  | .Name x _ => some x
  | _ => none
/-- the names of a pair or triple, its slots -/
def parIs (tx : Tx) : List Nat → List Expr → Bool
  | [], [] => true
  | i :: is, .Name x _ :: ts => decide (tx.N[i]? = some x) && decide (tx.sc.names.lookup x = some .local) && parIs tx is ts
  | _, _ => false
/-- isinstance(n, c): c -/
def isiB (tx : Tx) (n : Str) : Expr → Option Str
  | .Call (.Name f _) [.Name m _, .Name c _] [] _ => if f = "isinstance" ∧ m = n ∧ globB tx.sc f = true ∧ globB tx.sc c = true then some c else none
  | _ => none
/-- the two rows of a suite that tells an error's word; its classes, its words -/
def wordA (tx : Tx) (n : Str) : Stmt → Option (Str × Str × Str × Str)
  | .Assign [.Name f _] (.List [a, b, c] _) _ => match isiB tx n a, isiB tx n b, isiB tx n c with
    | some x, some y, some z => if locB tx f = true ∧ okName f = true ∧ tx.sc.names.lookup f = some .local then some (f, x, y, z) else none
    | _, _, _ => none
  | _ => none
def strC : Expr → Option Str
  | .Constant (.str s) _ _ => some s
  | _ => none
def wordI (f : Str) : Expr → Option (Str × Str × Str)
  | .Subscript (.Tuple [a, b, c] _ _) (.Call (.Attribute (.Name g _) "index" ap) [.Constant (.bool true) _ _] [] cp) _ => match strC a, strC b, strC c with
    | some x, some y, some z => if g = f ∧ (ap.endLine == cp.line) = true then some (x, y, z) else none
    | _, _, _ => none
  | _ => none
def wordR (f : Str) : Stmt → Option (Str × Str × Str)
  | .Return (some (.IfExp (.Compare (.Constant (.bool true) _ _) [.In] [.Name g _] _) e (.Constant (.str _) _ _) _)) _ => if g = f then wordI f e else none
  | _ => none
def wordB (P : Pg) (tx : Tx) (n : Str) (j : Nat) : List Stmt → Bool
  | [a, b] => match wordA tx n a with
    | some (f, x, y, z) => (match wordR f b with
      | some (p, q, r) => (match P.T.wrd with
        | [(k1, t1), (k2, t2), (k3, t3)] => decide (tx.N[j]? = some f) && decide (f ≠ n) && decide (P.excs[k1]? = some (some x)) && decide (P.excs[k2]? = some (some y)) && decide (P.excs[k3]? = some (some z)) && decide (P.txts[t1]? = some p) && decide (P.txts[t2]? = some q) && decide (P.txts[t3]? = some r)
        | _ => false)
      | none => false)
    | none => false
  | _ => false
/-- no call of closures in a block -/
def noMap : C → Bool
  | .mapC .. => false
  | _ => true
mutual
def chkS (P : Pg) : S → Tx → Stmt → Bool
  | .pass, _, st => match st with
    | .Pass _ => true
    | _ => false
  | .asg p x, tx, st => match st with
    | .Assign [tg] e _ => chkP tx p tg && chkE P x tx e && ((decide (swR tx.sc tg e = some none) && swNo tx.sc tg e) || (lcLocal tx.sc tg e && noMap x))
    | _ => false
  | .par is as, tx, st => match st with
    | .Assign [.Tuple ts k p1] (.Tuple es k2 p2) _ => parIs tx is ts && decide (is.length = ts.length) && decide (is.Nodup) && chkA P as tx es && decide (swR tx.sc (.Tuple ts k p1) (.Tuple es k2 p2) = some (some (tsNames ts)))
    | _ => false
  | .setI o i x, tx, st => match st with
    | .Assign [.Subscript y z _] e _ => chkE P o tx y && chkE P i tx z && plainX z && chkE P x tx e && notComp e
    | _ => false
  | .setF o f x, tx, st => match st with
    | .Assign [.Attribute y n _] e _ => decide (P.flds[f]? = some n) && chkE P o tx y && chkE P x tx e && notComp e
    | _ => false
  | .aug i o x, tx, st => match st with
    | .AugAssign (.Name y _) op e _ => decide (tx.N[i]? = some y) && locB tx y && bopIs o op && decide (o = .add) && chkE P x tx e
    | _ => false
  | .augF o f b x, tx, st => match st with
    | .AugAssign (.Attribute y n _) op e _ => decide (P.flds[f]? = some n) && bopIs b op && decide (b = .add) && chkE P o tx y && chkE P x tx e
    | _ => false
  | .ex x, tx, st => match st with
    | .Expr e _ => chkE P x tx e && notComp e
    | _ => false
  | .ite c a b, tx, st => match st with
    | .If e s1 s2 _ => chkE P c tx e && chkB P a tx s1 && chkB P b tx s2
    | _ => false
  | .loop p it b, tx, st => match st with
    | .For tg iter s [] _ => notSet iter && chkI P it tx iter tg && chkP tx p tg && chkB P b tx s
    | _ => false
  | .whl c b, tx, st => match st with
    | .While e s [] _ => chkE P c tx e && chkB P b tx s
    | _ => false
  | .ret x, tx, st => match st with
    | .Return (some e) _ => chkE P x tx e
    | _ => false
  | .retN, _, st => match st with
    | .Return none _ => true
    | _ => false
  | .rais k, tx, st => match st with
    | .Raise (some (.Call (.Name x _) [.Constant (.str _) _ _] [] _)) none _ => globB tx.sc x && decide (P.excs[k]? = some (some x))
    | _ => false
  | .nil, _, _ => false
  | .seq _ _, _, _ => false
  | .tryX b k i j, tx, st => match st with
    | .Try body [.ExceptHandler (some (.Name x _)) (some n) [.Assign [.Name y _] (.Call (.Name f _) [.Name m _] [] _) _] _] [] [] _ => chkB P b tx body && !tx.blk && decide (P.excs[k]? = some (some x)) && globB tx.sc x && decide (k ∈ P.exk) && decide (tx.N[i]? = some n)
        && decide (tx.sc.names.lookup n = some .local) && decide (m = n) && okName n && decide (tx.N[j]? = some y) && locB tx y && globB tx.sc f && decide (P.wh = some f)
    | _ => false
  | .tryN b k hd, tx, st => match st with
    | .Try body [.ExceptHandler (some (.Name x _)) none [.Return (some (.Constant (.bool v) _ _)) _] _] [] [] _ => chkB P b tx body && !tx.blk && decide (P.excs[k]? = some (some x)) && globB tx.sc x && decide (k ∈ P.exk) && decide (retS hd = some v)
    | .Try body [.ExceptHandler (some (.Name x _)) (some n) suite _] [] [] _ => (match wordS hd with
      | some q => chkB P b tx body && !tx.blk && decide (P.excs[k]? = some (some x)) && globB tx.sc x && decide (k ∈ P.exk) && decide (tx.N[q.1]? = some n) && decide (tx.sc.names.lookup n = some .local) && okName n && wordB P tx n q.2 suite
      | none => false)
    | _ => false
termination_by structural s => s
def chkB (P : Pg) : S → Tx → List Stmt → Bool
  | .nil, _, l => match l with
    | [] => true
    | _ => false
  | .seq a b, tx, l => match l with
    | s :: r => chkS P a tx s && chkB P b tx r
    | _ => false
  | _, _, _ => false
termination_by structural s => s
end
end MP
set_option Elab.async false
set_option linter.all false
set_option maxRecDepth 100000
set_option autoImplicit false
namespace MP
open PySem PySem.Spec PyProof.Rows L2
variable [Tabs]
def PostS (G : Sg) (B : Bor) (W : WX) (D : Ends) (A : List Addr) (H : Hp) (r : RS) : Prop := match r with
  | .nx e h' => ∀ A' H' σ', Fits G B A' h' H' → Next A H A' H' → RE G B A' H' e σ' → D.nx σ' H'
  | .bk e h' => ∀ A' H' σ', Fits G B A' h' H' → Next A H A' H' → RE G B A' H' e σ' → D.bk σ' H'
  | .ct e h' => ∀ A' H' σ', Fits G B A' h' H' → Next A H A' H' → RE G B A' H' e σ' → D.ct σ' H'
  | .rt v h' => ∀ A' H' x, Fits G B A' h' H' → Next A H A' H' → RV G B A' H' v x → D.rt x H'
  | .exc k e h' => ∀ A' H' σ' C, Fits G B A' h' H' → Next A H A' H' → RE G B A' H' e σ' → G.exc k = some C → W (.ref C) none σ' H'
  | .bad => False
section
variable {P : Pg} {G : Sg} {cl : CL} {lv : Lv} {tx : Tx} {X : Cx} {W : WX} {B : Bor} {A A' : List Addr} {H H' : Hp} {D D' : Ends} {r : RS} {σ : L2.St} {e : En}
theorem PostS.shift (p : PostS G B W D A H r) (n : Next A H A' H') : PostS G B W D A' H' r := by
  cases r with
  | nx e h' => exact fun A2 H2 s f m q => p A2 H2 s f (n.trans m) q
  | bk e h' => exact fun A2 H2 s f m q => p A2 H2 s f (n.trans m) q
  | ct e h' => exact fun A2 H2 s f m q => p A2 H2 s f (n.trans m) q
  | rt v h' => exact fun A2 H2 x f m q => p A2 H2 x f (n.trans m) q
  | exc k e h' => exact fun A2 H2 s C f m q => p A2 H2 s C f (n.trans m) q
  | bad => exact p
theorem PostS.on {α β : Type} {rl : Rl α β} {r : R α} {f : α → Hm → RS} (re : RE G B A H e σ) (p : PostS G B W D A H (RS.on r e f)) : Post G B W σ rl A H r fun v _ h' A' H' => PostS G B W D A' H' (f v h') := by
  cases r with
  | ok v h' => exact fun A' H' x F n _ => PostS.shift (r := f v h') p n
  | exc k h' => exact fun A' H' C F n ec => p A' H' σ C F n (re.mono n) ec
  | bad => exact p
def tS (P : Pg) (G : Sg) (cl : CL) (W : WX) (s : S) : TS := fun D σ H => ∃ B A h e, Fits G B A h H ∧ RE G B A H e σ ∧ PostS G B W D A H (exS P.T cl.f cl.L s e h)
structure SndS (P : Pg) (s : S) : Prop where
  one : ∀ {G : Sg} {cl : CL} {lv : Lv} {tx : Tx} {X : Cx} {W : WX}, At P G cl lv tx X W → ∀ st, chkS P s tx st = true → PS X st (tS P G cl W s)
  many : ∀ {G : Sg} {cl : CL} {lv : Lv} {tx : Tx} {X : Cx} {W : WX}, At P G cl lv tx X W → ∀ l, chkB P s tx l = true → PSs X l (tS P G cl W s)
theorem ps_imp {st : Stmt} {t t' : TS} (h : PS X st t) (i : ∀ D σ H, t' D σ H → t D σ H) : PS X st t' := ⟨fun pins s σ H D I q => h.run pins s σ H D I (i D σ H q)⟩
theorem pss_imp {st : List Stmt} {t t' : TS} (h : PSs X st t) (i : ∀ D σ H, t' D σ H → t D σ H) : PSs X st t' := ⟨fun pins s σ H D I q => h.run pins s σ H D I (i D σ H q)⟩
theorem postS_nx {h' : Hm} (p : PostS G B W D A H (.nx e h')) (F : Fits G B A' h' H') (n : Next A H A' H') (re : RE G B A' H' e σ) : D.nx σ H' := p A' H' σ F n re
theorem sndS_nil : SndS P .nil where
  many := by
    intro G cl lv tx X W at_ l h
    simp only [chkB] at h
    split at h
    · refine pss_imp pss_nil fun D σ H ⟨B, A, h, e, F, re, p⟩ => ?_
      simp only [exS] at p
      exact postS_nx p F .refl re
    · cases h
  one := by intro G cl lv tx X W at_ l h; simp [chkS] at h
theorem sndS_seq {a b : S} (sa : SndS P a) (sb : SndS P b) : SndS P (.seq a b) where
  many := by
    intro G cl lv tx X W at_ l h
    simp only [chkB] at h
    split at h
    · rename_i s r
      rw [Bool.and_eq_true] at h
      refine pss_imp (pss_cons (sa.one at_ s h.1) (sb.many at_ r h.2)) fun D σ H ⟨B, A, h, e, F, re, p⟩ => ?_
      simp only [exS] at p
      refine ⟨B, A, h, e, F, re, ?_⟩
      cases ea : exS P.T cl.f cl.L a e h with
      | nx e' h' =>
        rw [ea] at p
        intro A' H' σ' F' n' re'
        exact ⟨B, A', h', e', F', re', PostS.shift (r := exS P.T cl.f cl.L b e' h') p n'⟩
      | bk e' h' => rw [ea] at p; exact p
      | ct e' h' => rw [ea] at p; exact p
      | rt v h' => rw [ea] at p; exact p
      | exc k e' h' => rw [ea] at p; exact p
      | bad => rw [ea] at p; exact p.elim
    · cases h
  one := by intro G cl lv tx X W at_ l h; simp [chkS] at h
theorem sndS_pass : SndS P .pass where
  one := by
    intro G cl lv tx X W at_ l h
    simp only [chkS] at h
    split at h
    · refine ps_imp ps_pass fun D σ H ⟨B, A, h, e, F, re, p⟩ => ?_
      simp only [exS] at p
      exact postS_nx p F .refl re
    · cases h
  many := by intro G cl lv tx X W at_ l h; simp [chkB] at h
theorem swNo_ok {sc : Scope} {env : PySem.Env} (hs : env.scope = sc) (hk : sc.kind = .function) {tg e : Expr} {n : Nat} (h : swNo sc tg e = true) : swapsWithSole [tg] e n env = pure false := by
  have bk : env.blockKind = .function := by
    unfold Env.blockKind
    rw [hs, hk]
    rfl
  subst hs
  show swapsWith e (some tg) n env = pure false
  unfold swNo at h
  split at h
  · rename_i a g s pos'
    split at h
    · rename_i t pos
      unfold swapsWith
      simp only [bk]
      rw [Bool.not_eq_true'] at h
      show pure _ = pure false
      congr 1
    · rename_i hn
      unfold swapsWith
      simp only
  · cases h
  · cases h
  · rename_i h1 h2 h3
    unfold swapsWith
    split
    · rename_i e1
      split at e1
      · exact (h1 _ _ _ _ rfl).elim
      · exact (h2 _ _ _ _ rfl).elim
      · exact (h3 _ _ _ _ _ rfl).elim
      · cases e1
    · rfl
theorem notComp_ok {env : PySem.Env} {o : Option Expr} {e : Expr} {n : Nat} (h : notComp e = true) : swapsWith e o n env = pure false := by
  cases e <;> first | rfl | simp [notComp] at h
theorem lcLocal_ok {sc : Scope} {env : PySem.Env} (hs : env.scope = sc) (hk : sc.kind = .function) {tg e : Expr} {n : Nat} (h : lcLocal sc tg e = true) : swapsWith e (some tg) n env = pure true ∧ ∃ t pos a g s pos', tg = .Name t pos ∧ e = .ListComp a g s pos' ∧ env.scope.names.lookup t = some .local := by
  have bk : env.blockKind = .function := by
    unfold Env.blockKind
    rw [hs, hk]
    rfl
  subst hs
  unfold lcLocal at h
  split at h
  · rename_i t pos a g s pos'
    simp only [Bool.and_eq_true, decide_eq_true_eq] at h
    refine ⟨?_, t, pos, a, g, s, pos', rfl, rfl, h.1.1⟩
    unfold swapsWith
    simp only [bk]
    show pure _ = pure true
    congr 1
    have e1 : env.kindOf t = some .local := h.1.1
    have e2 : (pos.line == (Expr.ListComp a g s pos').pos.line) = true := h.1.2
    rw [e1, e2, h.2]
    rfl
  · cases h
theorem sndS_asg {p : Pat} {x : C} : SndS P (.asg p x) where
  one := by
    intro G cl lv tx X W at_ st h
    simp only [chkS] at h
    split at h
    · rename_i tg e pos
      simp only [Bool.and_eq_true, Bool.or_eq_true, decide_eq_true_eq] at h
      obtain ⟨⟨h1, h2⟩, h3⟩ := h
      have hg : PG X tg (fun v σ H Q => ∃ B, gP G B p v σ H Q) := pg_ex fun B => pg_P (G := G) (B := B) at_.fa.hK at_.sh p tg h1
      have key : ∀ D σ H, tS P G cl W (.asg p x) D σ H → tAsg (tE P G cl W x) (fun v σ H Q => ∃ B, gP G B p v σ H Q) D σ H := by
        intro D σ H ⟨B, A, h, e, F, re, pp⟩
        simp only [exS] at pp
        refine ⟨B, A, h, e, F, re, (pp.on re).imp fun v x h1 A1 H1 F1 n1 r1 p1 => ?_⟩
        split at p1
        · rename_i e' eb
          exact ⟨B, A1, h1, e, v, F1, re.mono n1, r1, e', eb, fun σ' re' _ => postS_nx p1 F1 .refl re'⟩
        · exact p1.elim
      rcases h3 with ⟨h3, h4⟩ | h3
      · refine ps_imp (ps_asg ((snd_all x).e at_ e h2).1 hg (swNo_ok at_.sh.sc at_.sh.kd h4) (swR_ok at_.sh.sc at_.sh.kd h3) ?_) key
        rw [map_each (notStar_chkP h1)]
        rfl
      · obtain ⟨h3, hM⟩ := h3
        obtain ⟨sw, t, pos', la, lg, lsc, lpos', rfl, hle, hl⟩ := lcLocal_ok (n := pos.line) at_.sh.sc at_.sh.kd h3
        cases p with
        | nm i =>
          cases x with
          | comp z own q it cd y =>
            have h0 := h2
            simp only [chkE] at h2
            split at h2
            · rename_i elt tg iter ifs scope lpos
              obtain ⟨tt, hi, ok, hg', ht, he, hs, kk⟩ := comp_parts (snd_all it) (snd_all cd) (snd_all y) at_ h0
              simp only [chkP, Bool.and_eq_true, decide_eq_true_eq] at h1
              refine ps_imp (ps_setLc at_.sh.calm (by rw [at_.sh.N]; exact at_.sh.nd) (by rw [at_.sh.N]; exact h1.1) hl sw hi ok hg' ht he hs) fun D σ H q => ?_
              refine kk σ H _ ?_
              obtain ⟨B, A, h, e, F, re, pp⟩ := key D σ H q
              refine ⟨B, A, h, e, F, re, pp.imp fun v x h1 A1 H1 F1 n1 r1 ⟨B', A', h', e', w, F', re', r', e'', eb, k⟩ => ?_⟩
              simp only [bindP] at eb
              split at eb
              · rename_i hl
                cases eb
                exact k _ (re'.set hl r') .set
              · cases eb
            · cases h2
          | mapC => simp [noMap] at hM
          | _ => rw [hle] at h2; simp [chkE, chkC] at h2
        | _ => simp [chkP] at h1
    · cases h
  many := by intro G cl lv tx X W at_ l h; simp [chkB] at h
end
end MP
set_option Elab.async false
set_option linter.all false
set_option maxRecDepth 100000
set_option autoImplicit false
namespace MP
open PySem PySem.Spec PyProof.Rows L2
variable [Tabs]
section
variable {P : Pg} {G : Sg} {cl : CL} {lv : Lv} {tx : Tx} {X : Cx} {W : WX} {B : Bor} {A A' : List Addr} {H H' : Hp} {D D' : Ends} {r : RS} {σ : L2.St} {e : En}
theorem parIs2 {i j : Nat} {ts : List Expr} (h : parIs tx [i, j] ts = true) : ∃ x px y py, ts = [.Name x px, .Name y py] ∧ tx.N[i]? = some x ∧ tx.N[j]? = some y ∧ tx.sc.names.lookup x = some .local ∧ tx.sc.names.lookup y = some .local := by
  rcases ts with _ | ⟨a, _ | ⟨b, _ | ⟨c, r⟩⟩⟩ <;> try (simp [parIs] at h; done)
  · cases a <;> simp [parIs] at h
  · cases a <;> cases b <;> simp [parIs] at h
    exact ⟨_, _, _, _, rfl, h.1.1, h.2.1, h.1.2, h.2.2⟩
  · cases a <;> cases b <;> simp [parIs] at h
theorem parIs3 {i j k : Nat} {ts : List Expr} (h : parIs tx [i, j, k] ts = true) : ∃ x px y py z pz, ts = [.Name x px, .Name y py, .Name z pz] ∧ tx.N[i]? = some x ∧ tx.N[j]? = some y ∧ tx.N[k]? = some z ∧
    tx.sc.names.lookup x = some .local ∧ tx.sc.names.lookup y = some .local ∧ tx.sc.names.lookup z = some .local := by
  rcases ts with _ | ⟨a, _ | ⟨b, _ | ⟨c, _ | ⟨d, r⟩⟩⟩⟩ <;> try (simp [parIs] at h; done)
  · cases a <;> simp [parIs] at h
  · cases a <;> simp [parIs] at h
    rename_i x px
    cases b <;> simp [parIs] at h
  · cases a <;> simp [parIs] at h
    rename_i x px
    cases b <;> simp [parIs] at h
    rename_i y py
    cases c <;> simp [parIs] at h
    exact ⟨_, _, _, _, _, _, rfl, h.1.1, h.2.1.1, h.2.2.1, h.1.2, h.2.1.2, h.2.2.2⟩
  · cases a <;> simp [parIs] at h
    rename_i x px
    cases b <;> simp [parIs] at h
    rename_i y py
    cases c <;> simp [parIs] at h
theorem swR_len {sc : Scope} {ts vs : List Expr} {k k2 : Nat} {p p2 : Pos} {ns : List Str} (h : swR sc (.Tuple ts k p) (.Tuple vs k2 p2) = some (some ns)) : vs.length = ts.length ∧ (ts.length = 2 ∨ ts.length = 3) := by
  unfold swR at h
  simp only at h
  split at h
  · cases h
  · rename_i c
    simp only [Bool.or_eq_true, Bool.not_eq_true', bne_iff_ne, not_or, Bool.not_eq_false, beq_iff_eq, ne_eq, Decidable.not_not] at c
    exact ⟨c.1.2, by simpa using c.1.1⟩
theorem sndS_par {is : List Nat} {as : C} : SndS P (.par is as) where
  one := by
    intro G cl lv tx X W at_ st h
    simp only [chkS] at h
    split at h
    · rename_i ts k p1 es k2 p2 pos
      simp only [Bool.and_eq_true, decide_eq_true_eq] at h
      obtain ⟨⟨⟨⟨h1, h2⟩, h3⟩, h4⟩, h5⟩ := h
      obtain ⟨hl, hl2⟩ := swR_len h5
      obtain ⟨ha, ns⟩ := (snd_all as).a at_ es h4
      have hw := swR_ok (env := X.env) at_.sh.sc at_.sh.kd h5
      have hN : X.N.Nodup := by rw [at_.sh.N]; exact at_.sh.nd
      rcases hl2 with l2 | l3
      · obtain ⟨i, j, rfl⟩ := len2 (h2.trans l2)
        obtain ⟨x, px, y, py, rfl, q1, q2, q3, q4⟩ := parIs2 h1
        obtain ⟨a, b, rfl⟩ := len2 (hl.trans l2)
        have hij : i ≠ j := by simpa using h3
        refine ps_imp (ps_par (i := i) (j := j) at_.sh.calm hN (by rw [at_.sh.N]; exact q1) (by rw [at_.sh.N]; exact q2) hij (by rw [at_.sh.sc]; exact q3) (by rw [at_.sh.sc]; exact q4) ha hw) ?_
        intro D σ H ⟨B, A, h, e, F, re, pp⟩
        simp only [exS] at pp
        refine ⟨B, A, h, e, F, re, (pp.on re).impE fun ms vs h1 A1 H1 ee F1 n1 r1 p1 => ?_⟩
        have l := evA_len as h4 ee
        obtain ⟨m1, m2, rfl⟩ := len2 l
        obtain ⟨v, vs, rfl, r2, r3⟩ := RVs.uncons r1
        obtain ⟨w, ws, rfl, r4, r5⟩ := r3.uncons
        cases r5.ofnil
        refine ⟨v, w, rfl, ?_⟩
        simp only [setAll] at p1
        split at p1
        · rename_i e' ee'
          split at ee'
          · rename_i l1
            split at ee'
            · rename_i l2
              cases ee'
              exact postS_nx p1 F1 .refl (((re.mono n1).set l1 r2).set l2 r4)
            · cases ee'
          · cases ee'
        · exact p1.elim
      · obtain ⟨i, j, l, rfl⟩ : ∃ i j l, is = [i, j, l] := by
          rcases is with _ | ⟨i, _ | ⟨j, _ | ⟨l, _ | ⟨q, r⟩⟩⟩⟩ <;> (rw [l3] at h2; simp at h2)
          exact ⟨i, j, l, rfl⟩
        obtain ⟨x, px, y, py, z, pz, rfl, q1, q2, q5, q3, q4, q6⟩ := parIs3 h1
        obtain ⟨a, b, c, rfl⟩ : ∃ a b c, es = [a, b, c] := by
          rcases es with _ | ⟨i, _ | ⟨j, _ | ⟨l, _ | ⟨q, r⟩⟩⟩⟩ <;> (rw [l3] at hl; simp at hl)
          exact ⟨i, j, l, rfl⟩
        have hnd : (i ≠ j ∧ i ≠ l) ∧ j ≠ l := by simpa using h3
        refine ps_imp (ps_par3 (i := i) (j := j) (l := l) at_.sh.calm hN (by rw [at_.sh.N]; exact q1) (by rw [at_.sh.N]; exact q2) (by rw [at_.sh.N]; exact q5) hnd.1.1 hnd.1.2 hnd.2 (by rw [at_.sh.sc]; exact q3) (by rw [at_.sh.sc]; exact q4) (by rw [at_.sh.sc]; exact q6) ha hw) ?_
        intro D σ H ⟨B, A, h, e, F, re, pp⟩
        simp only [exS] at pp
        refine ⟨B, A, h, e, F, re, (pp.on re).impE fun ms vs h1 A1 H1 ee F1 n1 r1 p1 => ?_⟩
        have l := evA_len as h4 ee
        obtain ⟨m1, m2, m3, rfl⟩ : ∃ a b c, ms = [a, b, c] := by
          rcases ms with _ | ⟨i, _ | ⟨j, _ | ⟨l, _ | ⟨q, r⟩⟩⟩⟩ <;> simp at l
          exact ⟨i, j, _, rfl⟩
        obtain ⟨v, vs, rfl, r2, r3⟩ := RVs.uncons r1
        obtain ⟨w, ws, rfl, r4, r5⟩ := r3.uncons
        obtain ⟨u, us, rfl, r6, r7⟩ := r5.uncons
        cases r7.ofnil
        refine ⟨v, w, u, rfl, ?_⟩
        simp only [setAll] at p1
        split at p1
        · rename_i e' ee'
          split at ee'
          · rename_i l1
            split at ee'
            · rename_i l2
              split at ee'
              · rename_i l3
                cases ee'
                exact postS_nx p1 F1 .refl ((((re.mono n1).set l1 r2).set l2 r4).set l3 r6)
              · cases ee'
            · cases ee'
          · cases ee'
        · exact p1.elim
    · cases h
  many := by intro G cl lv tx X W at_ l h; simp [chkB] at h
theorem pset_ex {t : Bor → TSet} (h : ∀ i, PSet X (t i)) : PSet X (fun o i v H Q => ∃ b, t b o i v H Q) := fun pins s σ H o i v ov iv u Q I r1 r2 r3 ⟨b, q⟩ => h b pins s σ H o i v ov iv u Q I r1 r2 r3 q
theorem sndS_setI {o i x : C} : SndS P (.setI o i x) where
  one := by
    intro G cl lv tx X W at_ st h
    simp only [chkS] at h
    split at h
    · rename_i y z sp e pos
      simp only [Bool.and_eq_true] at h
      obtain ⟨⟨⟨⟨h1, h2⟩, h3⟩, h4⟩, h5⟩ := h
      have hs : PSet X (fun o i v H Q => ∃ B, rSetI G B o i v H Q) := pset_ex fun B => set_setIM at_.fa.g (un1 at_.room)
      have ha : ∀ v, assign (.Subscript y z sp) X.env v = (do
          let ov ← holding [v] (eval y X.env)
          let iv ← holding [v, ov] (eval z X.env)
          standAt sp
          holding [v, ov, iv] (setItem ov iv v)
          release [v, ov, iv] []) := by
        intro v
        cases z <;> first | rfl | simp [plainX] at h3
      refine ps_imp (ps_asg ((snd_all x).e at_ e h4).1 (pg_sub ((snd_all o).e at_ y h1).1 ((snd_all i).e at_ z h2).1 hs ha) (show swapsWith e (some (.Subscript y z sp)) pos.line X.env = pure false from notComp_ok h5) rfl rfl) ?_
      intro D σ H ⟨B, A, h, e, F, re, pp⟩
      simp only [exS] at pp
      refine ⟨B, A, h, e, F, re, (pp.on re).imp fun v y h1 A1 H1 F1 n1 r1 p1 => ?_⟩
      refine ⟨B, A1, h1, e, F1, re.mono n1, (p1.on (re.mono n1)).imp fun w y' h2 A2 H2 F2 n2 r2 p2 => ?_⟩
      have re2 := (re.mono n1).mono n2
      refine ⟨B, A2, h2, e, F2, re2, (p2.on re2).imp fun u z' h3 A3 H3 F3 n3 r3 p3 => ?_⟩
      split at p3
      · rename_i h4 e4
        exact ⟨B, A3, h3, w, u, v, h4, F3, RV.mono n3 w r2, r3, RV.mono n3 v (RV.mono n2 v r1), e4, fun H' F' n' => postS_nx p3 F' n' ((re2.mono n3).mono n')⟩
      · exact p3.elim
    · cases h
  many := by intro G cl lv tx X W at_ l h; simp [chkB] at h
theorem sndS_setF {o x : C} {f : Nat} : SndS P (.setF o f x) where
  one := by
    intro G cl lv tx X W at_ st h
    simp only [chkS] at h
    split at h
    · rename_i y n sp e pos
      simp only [Bool.and_eq_true, decide_eq_true_eq] at h
      obtain ⟨⟨⟨h1, h2⟩, h4⟩, h5⟩ := h
      refine ps_imp (ps_fld ((snd_all o).e at_ y h2).1 ((snd_all x).e at_ e h4).1 (notComp_ok h5)) ?_
      intro D σ H ⟨B, A, h, e, F, re, pp⟩
      simp only [exS] at pp
      refine ⟨B, A, h, e, F, re, (pp.on re).imp fun v y h1' A1 H1 F1 n1 r1 p1 => ?_⟩
      refine ⟨B, A1, h1', e, F1, re.mono n1, (p1.on (re.mono n1)).imp fun w y' h2 A2 H2 F2 n2 r2 p2 => ?_⟩
      split at p2
      · rename_i h3 e3
        obtain ⟨p, Ca, dx, fv, k, rfl, hp, ec, hl, F3, n3, _⟩ := setFM_ok at_.fa.g F2 (by rw [at_.fa.fl]; exact h1) e3 r2 (RV.mono n2 v r1)
        obtain ⟨c1, c2⟩ := at_.fa.ins k Ca ec
        exact ⟨p, Ca, dx, fv, rfl, hp, c1, c2 n (List.mem_of_getElem? h1), hl, postS_nx p2 F3 n3 (((re.mono n1).mono n2).mono n3)⟩
      · exact p2.elim
    · cases h
  many := by intro G cl lv tx X W at_ l h; simp [chkB] at h
theorem sndS_aug {i : Nat} {o : BOp} {x : C} : SndS P (.aug i o x) where
  one := by
    intro G cl lv tx X W at_ st h
    simp only [chkS] at h
    split at h
    · rename_i y sp op e pos
      simp only [Bool.and_eq_true, decide_eq_true_eq] at h
      obtain ⟨⟨⟨⟨h1, h2⟩, h3⟩, h4⟩, h5⟩ := h
      obtain rfl := bop_of h3
      subst h4
      obtain ⟨l1, l2⟩ := at_.sh.loc h2
      refine ps_imp (ps_aug (i := i) (by rw [at_.sh.N]; exact at_.sh.nd) (by rw [at_.sh.N]; exact h1) l1 ((snd_all x).e at_ e h5).1 ip_add l2) ?_
      intro D σ H ⟨B, A, h, e, F, re, pp⟩
      simp only [exS] at pp
      split at pp
      · rename_i a ea
        obtain ⟨y, ey, ry⟩ := re.2 i _ ea
        unfold RV at ry
        subst ry
        refine ⟨_, ey, B, A, h, e, F, re, (pp.on re).imp fun v y h1' A1 H1 F1 n1 r1 p1 => ?_⟩
        split at p1
        · rename_i b
          split at p1
          · rename_i k ek
            unfold RV at r1
            subst r1
            simp only [binI, Option.some.injEq] at ek
            subst ek
            exact ⟨a, b, rfl, rfl, postS_nx p1 F1 .refl ((re.mono n1).set (List.getElem?_eq_some_iff.mp ea).1 rv_int)⟩
          · exact p1.elim
        · exact p1.elim
      · exact pp.elim
    · cases h
  many := by intro G cl lv tx X W at_ l h; simp [chkB] at h
theorem sndS_ex {x : C} : SndS P (.ex x) where
  one := by
    intro G cl lv tx X W at_ st h
    simp only [chkS] at h
    split at h
    · rename_i e pos
      simp only [Bool.and_eq_true] at h
      refine ps_imp (ps_expr ((snd_all x).e at_ e h.1).1 (notComp_ok h.2)) ?_
      intro D σ H ⟨B, A, h, e, F, re, pp⟩
      simp only [exS] at pp
      exact ⟨B, A, h, e, F, re, (pp.on re).imp fun v y h1' A1 H1 F1 n1 r1 p1 => postS_nx p1 F1 .refl (re.mono n1)⟩
    · cases h
  many := by intro G cl lv tx X W at_ l h; simp [chkB] at h
theorem sndS_ret {x : C} : SndS P (.ret x) where
  one := by
    intro G cl lv tx X W at_ st h
    simp only [chkS] at h
    split at h
    · rename_i e pos
      refine ps_imp (ps_ret ((snd_all x).e at_ e h).1) ?_
      intro D σ H ⟨B, A, h, e, F, re, pp⟩
      simp only [exS] at pp
      exact ⟨B, A, h, e, F, re, (pp.on re).imp fun v y h1' A1 H1 F1 n1 r1 p1 => p1 A1 H1 y F1 .refl r1⟩
    · cases h
  many := by intro G cl lv tx X W at_ l h; simp [chkB] at h
theorem sndS_retN : SndS P .retN where
  one := by
    intro G cl lv tx X W at_ st h
    simp only [chkS] at h
    split at h
    · refine ps_imp ps_retN ?_
      intro D σ H ⟨B, A, h, e, F, re, pp⟩
      simp only [exS] at pp
      exact pp A H _ F .refl rv_non
    · cases h
  many := by intro G cl lv tx X W at_ l h; simp [chkB] at h
theorem sndS_rais {k : Nat} : SndS P (.rais k) where
  one := by
    intro G cl lv tx X W at_ st h
    simp only [chkS] at h
    split at h
    · rename_i x p m j p2 p3 pos
      simp only [Bool.and_eq_true, decide_eq_true_eq] at h
      obtain ⟨g1, g2, g3⟩ := at_.glob h.1
      obtain ⟨Ca, ec, hm⟩ := at_.fa.exn k x h.2
      obtain ⟨Bn, newId, initId, bmB, q1, q2, q3, q4, q5⟩ := at_.fa.exc k Ca ec
      refine ps_imp (ps_raise at_.sh.calm at_.tk (pmk_own q1 q2 hm q3 (raises_own q4 q5) g1 g2)) ?_
      intro D σ H ⟨B, A, h, e, F, re, pp⟩
      simp only [exS] at pp
      exact pp A H σ Ca F .refl re ec
    · cases h
  many := by intro G cl lv tx X W at_ l h; simp [chkB] at h
end
end MP
set_option Elab.async false
set_option linter.all false
set_option maxRecDepth 100000
set_option autoImplicit false
namespace MP
open PySem PySem.Spec PyProof.Rows L2
variable [Tabs]
section
variable {X : Cx}
def rCount (K : PySem.W.Frag) : V → List V → Hp → VK → Prop := fun x xs H Q => ∃ (a : Addr) (ys : List V) (y : V), x = V.ref a ∧ xs = [y] ∧ SqL K H a ys ∧ flatV y = true ∧ ys.all flatV = true ∧ Q (.int ((ys.countP fun v => L2.eqV v y : Nat))) H
theorem countP_eq {y : V} {uy : Value} : ∀ {ys : List V} {its : List Value}, Vals ys its → ys.all flatV = true → its.countP (eqU y) = ys.countP fun v => L2.eqV v y := by
  intro ys its rv
  induction rv with
  | nil => intro _; rfl
  | cons r t ih =>
    intro f
    rw [List.all_cons, Bool.and_eq_true] at f
    rw [List.countP_cons, List.countP_cons, ih f.2, eqU_of r f.1]
theorem mt_count : MtR X "list.count" (rCount X.K) := by
  intro pins s σ H x xs v us Q I rx rxs h
  obtain ⟨a, ys, y, rfl, rfl, hs, fy, fys, q⟩ := h
  cases rx
  cases rxs with
  | cons ry rt =>
    rename_i uy ut
    cases rt
    obtain ⟨its, rv, ⟨⟨cls, dd, data, sl⟩, n, ho, hc, hdn, hd⟩, hlen⟩ := I.list hs
    simp only at hc hd
    subst hc hd
    refine call_meets PySem.F.slot_list_count ⟨_, ho, rfl⟩ PySem.F.entry_list_count (PySem.F.args_list_count_2 _ _)
      (SeqAt.list_countAt a its.toArray n dd sl uy (eqU y)) ⟨ho, fun u' hu' => mem_eqAt ry fy rv fys u' (by simpa using hu'), ?_⟩
    refine ⟨.int ((ys.countP fun v => L2.eqV v y : Nat)), H, I.tok _, ⟨s.toks, ?_⟩, q⟩
    show Value.int ((its.toArray.toList.countP (eqU y) : Nat) : Int) s.toks = _
    rw [← countP_eq (uy := uy) rv fys]
/-- isinstance(e, c), e an exception that stands pinned -/
theorem call_isP {X : Cx} {a D : Addr} {oe : Obj} (C : ExcC X.K D) (hz : Zc (.ref D) none oe) (hf : ∃ vs, oe.data = .fields vs) (hp : (a, oe) ∈ X.pn) : CallR X (.builtin "isinstance") (rIsE X.K D a) := by
  intro pins s σ H xs us Q I r h
  obtain ⟨c, cv, b, rfl, hcv, e, q⟩ := h
  cases r with
  | cons rx rr =>
    cases rr with
    | cons rt rr =>
      cases rr
      cases rx
      have ec := hcv _ rt
      subst ec
      obtain ⟨hget, _⟩ := I.pin (a, oe) (List.mem_append.mpr (.inl hp))
      obtain ⟨vs, hv⟩ := hf
      have J : PySem.W.InstAt s.heap a oe D none := by
        obtain ⟨oc, od, oda, osl⟩ := oe
        obtain ⟨h1, h2⟩ := hz
        dsimp only at h1 h2 hv
        subst h1 h2 hv
        exact ⟨hget, rfl, rfl, trivial⟩
      exact PySem.W.kia_one (PySem.W.handS_kitx_exc C.hg C.hk C.hs C.hd C.ha C.hn C.ht C.hm) I.kIn J e (fun z => nomatch z) fun tk => ⟨.bl b, H, I.kept (t' := tk) fun _ _ z => z, rfl, q⟩
end
/-- a frame that looks at a pinned error: e names it, f a list -/
structure HotW (X : Cx) (ia ib : Nat) (e f : Str) (a D : Addr) (oe : Obj) : Prop where
  N0 : X.N[ia]? = some e
  N1 : X.N[ib]? = some f
  ne : ia ≠ ib
  nd : X.N.Nodup
  ve : Vis X.env.scope e
  vf : Vis X.env.scope f
  lf : Loc X.env.scope f
  ff : X.fn f = true ∨ X.env.scope.names.lookup f = some .local
  oe_ : okName e = true
  of_ : okName f = true
  gi : Gl X "isinstance"
  mi : X.mg "isinstance" = none
  C : ExcC X.K D
  hz : Zc (.ref D) none oe
  hf : ∃ vs, oe.data = .fields vs
  hp : (a, oe) ∈ X.pn
section
variable {X : Cx} {ia ib : Nat} {e f : Str} {a D : Addr} {oe : Obj}
theorem HotW.var (h : HotW X ia ib e f a D oe) {p : Pos} : PE X (.Name e p) (fun σ H Q => σ[ia]? = some (some (.ref a)) ∧ Q (.ref a) H) := by
  have q := h.oe_
  simp only [okName, Bool.and_eq_true, decide_eq_true_eq] at q
  refine pe_imp (pe_var (i := ia) h.N0 h.ve q.1 q.2) ?_
  intro σ H Q ⟨h1, h2⟩
  exact ⟨.ref a, h1, h2⟩
theorem HotW.isi (h : HotW X ia ib e f a D oe) {c : Str} {cv : Value} {v : V} {b : Bool} {p1 p2 p3 p4 : Pos} (hc : PE X (.Name c p3) (tC v)) (hv : ∀ u, L2.RelV v u → u = cv) (hk : PySem.W.kitOne X.K (.ref D) cv = some b) :
    PE X (.Call (.Name "isinstance" p1) [.Name e p2, .Name c p3] [] p4) (fun σ H Q => σ[ia]? = some (some (.ref a)) ∧ Q (.bl b) H) := by
  refine pe_imp (pe_callB (call_isP h.C h.hz h.hf h.hp) h.gi h.mi PyProof.Rows.boot_isinstance (pa_cons h.var (pa_cons hc pa_nil))) ?_
  intro σ H Q ⟨h1, h2⟩
  exact ⟨h1, v, cv, b, rfl, hv, hk, h2⟩
end
/-- all that stood stands -/
def Keeps (H H' : Hp) : Prop := ∀ b o, H b = some o → H' b = some o
theorem Keeps.refl {H : Hp} : Keeps H H := fun _ _ e => e
theorem Keeps.trans {H H' H'' : Hp} (k : Keeps H H') (l : Keeps H' H'') : Keeps H H'' := fun b o e => l b o (k b o e)
theorem keeps_new {H : Hp} {p : Addr} {o : HO} (e : H p = none) : Keeps H (upd H p o) := fun b u q => by rw [upd_ne (ne_of_none q e)]; exact q
/-- the error, and what is found so far -/
def FoundAt (ia ib : Nat) (a : Addr) (bs : List Bool) (σ : L2.St) (H : Hp) : Prop := σ[ia]? = some (some (.ref a)) ∧ ib < σ.length ∧ ∃ l, σ[ib]? = some (some (.ref l)) ∧ H l = some (.lst (bs.map V.bl))
section
variable {X : Cx} {ia ib : Nat} {e f : Str} {a D : Addr} {oe : Obj}
theorem HotW.row (h : HotW X ia ib e f a D oe) {i1 i2 i3 : Expr} {b1 b2 b3 : Bool} {p : Pos} (h1 : PE X i1 (fun σ H Q => σ[ia]? = some (some (.ref a)) ∧ Q (.bl b1) H)) (h2 : PE X i2 (fun σ H Q => σ[ia]? = some (some (.ref a)) ∧ Q (.bl b2) H)) (h3 : PE X i3 (fun σ H Q => σ[ia]? = some (some (.ref a)) ∧ Q (.bl b3) H))
    (s1 : starEach [i1, i2, i3] X.env = (false, eval i1 X.env) :: starEach [i2, i3] X.env := by rfl) (s2 : starEach [i2, i3] X.env = (false, eval i2 X.env) :: starEach [i3] X.env := by rfl) (s3 : starEach [i3] X.env = (false, eval i3 X.env) :: starEach [] X.env := by rfl) :
    PE X (.List [i1, i2, i3] p) (fun σ H Q => σ[ia]? = some (some (.ref a)) ∧ ∀ q, H q = none → Q (.ref q) (upd H q (.lst [.bl b1, .bl b2, .bl b3]))) := by
  refine pe_imp (pe_lst (pa_cons h1 (pa_cons h2 (pa_cons h3 pa_nil s3) s2) s1)) ?_
  intro σ H Q ⟨h0, q⟩
  exact ⟨h0, h0, h0, by rw [sizeLine_eq]; show 3 ≤ _; omega, q⟩
theorem HotW.set1 (h : HotW X ia ib e f a D oe) {es : List Expr} {b1 b2 b3 : Bool} {p q pos : Pos} (hr : PE X (.List es p) (fun σ H Q => σ[ia]? = some (some (.ref a)) ∧ ∀ q, H q = none → Q (.ref q) (upd H q (.lst [.bl b1, .bl b2, .bl b3]))))
    (hs : swapsWith (.List es p) (some (.Name f q)) pos.line X.env = pure false := by rfl) :
    PS X (.Assign [.Name f q] (.List es p) pos) (fun D σ H => σ[ia]? = some (some (.ref a)) ∧ ib < σ.length ∧ ∀ σ' H', FoundAt ia ib a [b1, b2, b3] σ' H' → Keeps H H' → D.nx σ' H') := by
  refine ps_imp (ps_set (i := ib) h.nd h.N1 h.lf hr hs h.ff) ?_
  intro D σ H ⟨h0, hl, k⟩
  refine ⟨h0, fun q hq => ?_⟩
  refine k _ _ ⟨?_, by simpa using hl, q, ?_, upd_same⟩ (keeps_new hq)
  · rw [List.getElem?_set_ne (Ne.symm h.ne)]
    exact h0
  · rw [List.getElem?_set_self (by omega)]
theorem HotW.count (h : HotW X ia ib e f a D oe) {bs : List Bool} {r1 t1 ap cp : Pos} {k1 : Nat} (hl : (ap.endLine == cp.line) = true) :
    PE X (.Call (.Attribute (.Name f r1) "count" ap) [.Constant (.bool true) k1 t1] [] cp) (fun σ H Q => FoundAt ia ib a bs σ H ∧ Q (.int (bs.count true : Nat)) H) := by
  have o := h.of_
  simp only [okName, Bool.and_eq_true, decide_eq_true_eq] at o
  refine pe_imp (pe_bm PySem.F.plainAttrs_list PySem.F.slot_list_count PySem.F.type_list_count mt_count (pe_var (pos := r1) (i := ib) h.N1 h.vf o.1 o.2) (pa_cons pe_bl pa_nil) (hline := hl)) ?_
  intro σ H Q ⟨⟨h0, hn, l, h1, hL⟩, q⟩
  refine ⟨.ref l, h1, .inl ⟨rfl, _, .inl (.inl hL)⟩, l, bs.map V.bl, .bl true, rfl, rfl, .inl (.inl hL), rfl, by simp [flatV], ?_⟩
  have e1 : (bs.map V.bl).countP (fun v => L2.eqV v (.bl true)) = bs.count true := by
    rw [List.countP_map, List.count]
    congr 1
  rw [e1]
  exact q
theorem HotW.index (h : HotW X ia ib e f a D oe) {bs : List Bool} {j : Nat} {r1 t1 ap cp : Pos} {k1 : Nat} (hl : (ap.endLine == cp.line) = true) (hj : bs[j]? = some true) (hm : ∀ m, m < j → bs[m]? = some false) :
    PE X (.Call (.Attribute (.Name f r1) "index" ap) [.Constant (.bool true) k1 t1] [] cp) (fun σ H Q => FoundAt ia ib a bs σ H ∧ Q (.int (j : Nat)) H) := by
  have o := h.of_
  simp only [okName, Bool.and_eq_true, decide_eq_true_eq] at o
  refine pe_imp (pe_bm PySem.F.plainAttrs_list PySem.F.slot_list_index PySem.F.type_list_index mt_index (pe_var (pos := r1) (i := ib) h.N1 h.vf o.1 o.2) (pa_cons pe_bl pa_nil) (hline := hl)) ?_
  intro σ H Q ⟨⟨h0, hn, l, h1, hL⟩, q⟩
  refine ⟨.ref l, h1, .inl ⟨rfl, _, .inl (.inl hL)⟩, l, bs.map V.bl, .bl true, j, .bl true, rfl, rfl, .inl (.inl hL), rfl, by simp [flatV], ?_, rfl, fun m z hmj hz => ?_, q⟩
  · rw [List.getElem?_map, hj]; rfl
  · rw [List.getElem?_map, hm m hmj] at hz
    cases hz
    rfl
theorem pe_ty {X : Cx} {x : Str} {n : String} {pos : Pos} (hg : Gl X x) (hm : X.mg x = none) (hv : bootBuiltins x = some (.type n)) (hn : x ≠ "__name__" := by decide) (hd : (x == ("__debug__" : Str)) = false := by decide) : PE X (.Name x pos) (tC (.ty n)) :=
  ⟨fun _ _ _ H _ I h => ld_blt I hg hm hv ⟨.ty n, H, I, rfl, h⟩ hn hd⟩
theorem HotW.last (h : HotW X ia ib e f a D oe) {bs : List Bool} {j : Nat} (hj : bs[j]? = some true) (hm : ∀ m, m < j → bs[m]? = some false) (hc : bs.count true = 1) (hv : PySem.W.kitOne X.K (.ref D) (.type "ValueError") = some true)
    (gv : Gl X "ValueError") (mv : X.mg "ValueError" = none) {r1 t1 ap cp p2 p3 q1 q2 q3 q5 p6 r2 t2 ap2 cp2 p7 p8 p9 : Pos} {k1 k2 k3 k4 : Nat} (hl : (ap.endLine == cp.line) = true) (hl2 : (ap2.endLine == cp2.line) = true) :
    PS X (.Return (some (.IfExp (.BoolOp .And [.Compare (.Call (.Attribute (.Name f r1) "count" ap) [.Constant (.bool true) k1 t1] [] cp) [.Eq] [.Constant (.int 1) k2 p2] p3, .Call (.Name "isinstance" q1) [.Name e q2, .Name "ValueError" q3] [] q5] p6)
      (.Call (.Attribute (.Name f r2) "index" ap2) [.Constant (.bool true) k3 t2] [] cp2) (.Constant (.int 99) k4 p7) p8)) p9) (fun E σ H => FoundAt ia ib a bs σ H ∧ E.rt (.int (j : Nat)) H) := by
  have isv : PE X (.Call (.Name "isinstance" q1) [.Name e q2, .Name "ValueError" q3] [] q5) (fun σ H Q => σ[ia]? = some (some (.ref a)) ∧ Q (.bl true) H) := h.isi (pe_ty gv mv rfl) (fun u r => r) hv
  refine ps_imp (ps_ret (pe_ifExp ((pw_and (pt_cmpR op_eq (h.count (bs := bs) hl) pe_int (by first | exact nobehind _ (by decide) (by decide) | rfl)) (pw_and1 (pt_val isv))).pt) (h.index (bs := bs) hl2 hj hm) pe_int)) ?_
  intro E σ H ⟨hF, q⟩
  refine ⟨hF, ?_⟩
  rw [hc]
  refine ⟨rfl, true, rfl, ?_⟩
  exact ⟨hF.1, true, rfl, hF, q⟩
/-- c names a class; is the error one of it -/
structure IsC (X : Cx) (D : Addr) (c : Str) (b : Bool) : Prop where
  g : Gl X c
  m : ∃ L, X.mg c = some (.ref L) ∧ PySem.W.kitOne X.K (.ref D) (.ref L) = some b
  d : (c == ("__debug__" : Str)) = false
theorem HotW.isc (h : HotW X ia ib e f a D oe) {c : Str} {b : Bool} (q : IsC X D c b) {p1 p2 p3 p4 : Pos} : PE X (.Call (.Name "isinstance" p1) [.Name e p2, .Name c p3] [] p4) (fun σ H Q => σ[ia]? = some (some (.ref a)) ∧ Q (.bl b) H) := by
  obtain ⟨L, m, k⟩ := q.m
  exact h.isi (pe_glob (v := .ref L) q.g m rfl q.d) (fun u r => r) k
end
section
variable {X : Cx} {ia ib : Nat} {e f : Str} {a D : Addr} {oe : Obj}
def wordOf (z1 z2 : Bool) (s1 s2 s3 : Str) : Str := if z1 then s1 else if z2 then s2 else s3
theorem HotW.word (h : HotW X ia ib e f a D oe) {z1 z2 z3 : Bool} (hz : (z1 || z2 || z3) = true) {s1 s2 s3 s4 : Str} {r1 t1 ap cp g1 g2 p1 p2 p3 p4 p5 p6 p7 p8 p9 : Pos} {k1 k2 k3 k4 k5 k6 k7 : Nat} (hl : (ap.endLine == cp.line) = true) :
    PS X (.Return (some (.IfExp (.Compare (.Constant (.bool true) k1 p1) [.In] [.Name f g1] p2) (.Subscript (.Tuple [.Constant (.str s1) k2 p3, .Constant (.str s2) k3 p4, .Constant (.str s3) k4 p5] k5 p6)
      (.Call (.Attribute (.Name f r1) "index" ap) [.Constant (.bool true) k6 t1] [] cp) p7) (.Constant (.str s4) k7 p8) p9)) g2) (fun E σ H => FoundAt ia ib a [z1, z2, z3] σ H ∧ ∀ H', Keeps H H' → E.rt (.str (wordOf z1 z2 s1 s2 s3)) H') := by
  have o := h.of_
  simp only [okName, Bool.and_eq_true, decide_eq_true_eq] at o
  have hj : [z1, z2, z3][if z1 then 0 else if z2 then 1 else 2]? = some true := by
    cases z1 <;> cases z2 <;> cases z3 <;> first | rfl | cases hz
  have hm : ∀ m, m < (if z1 then 0 else if z2 then 1 else 2) → [z1, z2, z3][m]? = some false := by
    cases z1 <;> cases z2 <;> intro m hm <;> first | (exact absurd hm (Nat.not_lt_zero _)) | skip
    · match m, hm with
      | 0, _ => rfl
      | 1, _ => rfl
    · match m, hm with
      | 0, _ => rfl
  refine ps_imp (ps_ret (pe_ifExp (pt_cmpR op_in_seq pe_bl (pe_var (pos := g1) (i := ib) h.N1 h.vf o.1 o.2) (by first | exact nobehind _ (by decide) (by decide) | rfl))
    (pe_ix ix_tup (pe_tup (pa_cons pe_str (pa_cons pe_str (pa_cons pe_str pa_nil)))) (h.index (bs := [z1, z2, z3]) hl hj hm) (by intro _ _; rfl)) pe_str)) ?_
  intro E σ H ⟨hF, q⟩
  obtain ⟨h0, hn, l, h1, hL⟩ := id hF
  refine ⟨.ref l, h1, l, [.bl z1, .bl z2, .bl z3], rfl, .inl (.inl (.inl hL)), rfl, rfl, true, ?_, ?_⟩
  · cases z1 <;> cases z2 <;> cases z3 <;> first | rfl | cases hz
  show (if true = true then _ else _ : Prop)
  rw [if_pos rfl]
  refine ⟨by rw [sizeLine_eq]; show 3 ≤ _; omega, fun p hp => ?_⟩
  have kp : Keeps H (upd H p (.tup [.str s1, .str s2, .str s3])) := keeps_new hp
  refine ⟨⟨h0, hn, l, h1, kp _ _ hL⟩, p, [.str s1, .str s2, .str s3], _, .str (wordOf z1 z2 s1 s2 s3), rfl, rfl, .inl (.inl upd_same), ?_, q _ kp⟩
  cases z1 <;> cases z2 <;> rfl
theorem isiB_of {tx : Tx} {n c : Str} {ex : Expr} (h : isiB tx n ex = some c) : globB tx.sc c = true ∧ globB tx.sc "isinstance" = true ∧ ∃ p1 p2 p3 p4, ex = .Call (.Name "isinstance" p1) [.Name n p2, .Name c p3] [] p4 := by
  unfold isiB at h
  split at h
  · split at h
    · rename_i q
      obtain ⟨rfl, rfl, q1, q2⟩ := q
      cases h
      exact ⟨q2, q1, _, _, _, _, rfl⟩
    · cases h
  · cases h
theorem wordA_of {tx : Tx} {n f x y z : Str} {st : Stmt} (h : wordA tx n st = some (f, x, y, z)) : locB tx f = true ∧ okName f = true ∧ tx.sc.names.lookup f = some .local ∧ ∃ a b c p1 p2 p3, st = .Assign [.Name f p1] (.List [a, b, c] p2) p3 ∧ isiB tx n a = some x ∧ isiB tx n b = some y ∧ isiB tx n c = some z := by
  unfold wordA at h
  split at h
  · split at h
    · rename_i e1 e2 e3
      split at h
      · rename_i q
        cases h
        exact ⟨q.1, q.2.1, q.2.2, _, _, _, _, _, _, rfl, e1, e2, e3⟩
      · cases h
    · cases h
  · cases h
theorem strC_of {s : Str} {e : Expr} (h : strC e = some s) : ∃ k p, e = .Constant (.str s) k p := by
  unfold strC at h
  split at h
  · cases h; exact ⟨_, _, rfl⟩
  · cases h
theorem wordI_of {f p q r : Str} {e : Expr} (h : wordI f e = some (p, q, r)) : ∃ a b c k1 k2 p1 p2 p3 p4 ap cp, e = .Subscript (.Tuple [a, b, c] k1 p1) (.Call (.Attribute (.Name f p2) "index" ap) [.Constant (.bool true) k2 p3] [] cp) p4 ∧ (ap.endLine == cp.line) = true ∧ strC a = some p ∧ strC b = some q ∧ strC c = some r := by
  unfold wordI at h
  split at h
  · split at h
    · rename_i e1 e2 e3
      split at h
      · rename_i z
        cases h
        obtain ⟨rfl, z⟩ := z
        exact ⟨_, _, _, _, _, _, _, _, _, _, _, rfl, z, e1, e2, e3⟩
      · cases h
    · cases h
  · cases h
theorem wordR_of {f p q r : Str} {st : Stmt} (h : wordR f st = some (p, q, r)) : ∃ e s k1 k2 p1 p2 p3 p4 p5 p6, st = .Return (some (.IfExp (.Compare (.Constant (.bool true) k1 p1) [.In] [.Name f p2] p3) e (.Constant (.str s) k2 p4) p5)) p6 ∧ wordI f e = some (p, q, r) := by
  unfold wordR at h
  split at h
  · split at h
    · rename_i z
      subst z
      exact ⟨_, _, _, _, _, _, _, _, _, _, rfl, h⟩
    · cases h
  · cases h
/-- what the suite does with an error -/
def tsWd (P : Pg) (G : Sg) (i j : Nat) (a : Addr) (cls : Value) (d : Option Addr) : TS := fun D σ H => ∃ (C : Addr) (k t : Nat), cls = .ref C ∧ d = none ∧ G.exc k = some C ∧ P.T.wd k = some t ∧ σ[i]? = some (some (.ref a)) ∧ j < σ.length ∧ ∀ s, P.txts[t]? = some s → ∀ H', Keeps H H' → D.rt (.str s) H'
theorem word_suite {P : Pg} {G : Sg} {cl : CL} {lv : Lv} {tx : Tx} {X : Cx} {W : WX} (at_ : At P G cl lv tx X W) {n : Str} {i j : Nat} {a : Addr} {oe : Obj} {cls : Value} {d : Option Addr} {pn : List (Addr × Obj)} (hz : Zc cls d oe) (hf : ∃ vs, oe.data = .fields vs) (hi : tx.N[i]? = some n)
    (hl : tx.sc.names.lookup n = some .local) (hn : okName n = true) {l : List Stmt} (h : wordB P tx n j l = true) : PSs (X.suite a ((a, oe) :: pn)) l (tsWd P G i j a cls d) := by
  unfold wordB at h
  split at h
  · rename_i st1 st2
    split at h
    · rename_i f x y z eA
      split at h
      · rename_i p q r eR
        split at h
        · rename_i k1 t1 k2 t2 k3 t3 eW
          simp only [Bool.and_eq_true, decide_eq_true_eq] at h
          obtain ⟨⟨⟨⟨⟨⟨⟨hN, hne⟩, x1⟩, x2⟩, x3⟩, y1⟩, y2⟩, y3⟩ := h
          obtain ⟨fl, fo, fk, ea, eb, ec, pa, pb, pc, rfl, ia, ib, ic⟩ := wordA_of eA
          obtain ⟨ga, gi, qa1, qa2, qa3, qa4, rfl⟩ := isiB_of ia
          obtain ⟨gb, _, qb1, qb2, qb3, qb4, rfl⟩ := isiB_of ib
          obtain ⟨gc, _, qc1, qc2, qc3, qc4, rfl⟩ := isiB_of ic
          obtain ⟨ee, s4, m1, m2, u1, u2, u3, u4, u5, u6, rfl, eI⟩ := wordR_of eR
          obtain ⟨sa, sb, sc, n1, n2, v1, v2, v3, v4, ap, cp, rfl, hline, ca, cb, cc⟩ := wordI_of eI
          obtain ⟨_, _, rfl⟩ := strC_of ca
          obtain ⟨_, _, rfl⟩ := strC_of cb
          obtain ⟨_, _, rfl⟩ := strC_of cc
          refine ⟨fun pins s σ H E I hh => ?_⟩
          obtain ⟨C, k, t, rfl, rfl, ek, ew, h0, hj, qq⟩ := hh
          obtain ⟨l1, l2⟩ := at_.sh.loc fl
          obtain ⟨gI1, gI2, _⟩ := at_.glob gi
          have hs : (X.suite a ((a, oe) :: pn)).env.scope = tx.sc := at_.sh.sc
          have HW : HotW (X.suite a ((a, oe) :: pn)) i j n f a C oe := {
            N0 := by show X.N[i]? = _; rw [at_.sh.N]; exact hi
            N1 := by show X.N[j]? = _; rw [at_.sh.N]; exact hN
            ne := by
              intro z
              subst z
              rw [hi] at hN
              cases hN
              exact hne rfl
            nd := by show X.N.Nodup; rw [at_.sh.N]; exact at_.sh.nd
            ve := by rw [hs]; exact .inl hl
            vf := by rw [hs]; exact .inl fk
            lf := l1
            ff := l2
            oe_ := hn
            of_ := fo
            gi := gI1
            mi := at_.fa.blt "isinstance" (by simp [blts])
            C := at_.fa.xc (by rw [eW]; simp) k C ek
            hz := hz
            hf := hf
            hp := List.mem_cons_self }
          have isc : ∀ {c : Str} {m tt : Nat}, (m, tt) ∈ P.T.wrd → P.excs[m]? = some (some c) → globB tx.sc c = true → IsC (X.suite a ((a, oe) :: pn)) C c ((P.T.esup k).contains m) := fun {c m tt} hm xm gm => by
            obtain ⟨L, eL, mL⟩ := at_.fa.exn m c xm
            obtain ⟨g1, g2, _⟩ := at_.glob gm
            exact ⟨g1, ⟨L, mL, at_.fa.xk k m tt C L hm ek eL⟩, g2⟩
          have i1 := isc (tt := t1) (by rw [eW]; simp) x1 ga
          have i2 := isc (tt := t2) (by rw [eW]; simp) x2 gb
          have i3 := isc (tt := t3) (by rw [eW]; simp) x3 gc
          generalize hz1 : (P.T.esup k).contains k1 = z1 at i1
          generalize hz2 : (P.T.esup k).contains k2 = z2 at i2
          generalize hz3 : (P.T.esup k).contains k3 = z3 at i3
          have wz : (z1 || z2 || z3) = true ∧ P.txts[t]? = some (wordOf z1 z2 p q r) := by
            unfold Tab.wd at ew
            rw [eW] at ew
            simp only [List.find?_cons, hz1, hz2, hz3, List.find?_nil] at ew
            cases z1 with
            | true =>
              simp only [Option.map_some, Option.some.injEq] at ew
              subst ew
              exact ⟨rfl, y1⟩
            | false =>
              cases z2 with
              | true =>
                simp only [Option.map_some, Option.some.injEq] at ew
                subst ew
                exact ⟨rfl, y2⟩
              | false =>
                cases z3 with
                | true =>
                  simp only [Option.map_some, Option.some.injEq] at ew
                  subst ew
                  exact ⟨rfl, y3⟩
                | false => simp at ew
          obtain ⟨wz, et⟩ := wz
          have w1 := HW.set1 (p := pb) (q := pa) (pos := pc) (HW.row (HW.isc i1 (p1 := qa1) (p2 := qa2) (p3 := qa3) (p4 := qa4)) (HW.isc i2 (p1 := qb1) (p2 := qb2) (p3 := qb3) (p4 := qb4)) (HW.isc i3 (p1 := qc1) (p2 := qc2) (p3 := qc3) (p4 := qc4)) (p := pb))
          exact (pss_cons w1 (pss_one (HW.word wz (s1 := p) (s2 := q) (s3 := r) (s4 := s4) (ap := ap) (cp := cp) hline))).run pins s σ H E I ⟨h0, hj, fun σ1 H1 F1 k1 => ⟨F1, fun H2 k2 => qq _ et _ (k1.trans k2)⟩⟩
        · cases h
      · cases h
    · cases h
  · cases h
end
section
variable {X : Cx} {K : PySem.W.Frag} {mg : Str → Option Value} {scope : Scope} {e f c : Str} {a D L : Addr} {oe : Obj} {b : Bool}
end
end MP
set_option Elab.async false
set_option linter.all false
set_option maxRecDepth 100000
set_option autoImplicit false
namespace MP
open PySem PySem.Spec PyProof.Rows L2
variable [Tabs]
section
variable {P : Pg} {G : Sg} {cl : CL} {lv : Lv} {tx : Tx} {X : Cx} {W : WX} {B : Bor} {A A' : List Addr} {H H' : Hp} {D D' : Ends} {r : RS} {σ : L2.St} {e : En}
theorem sndS_augF {o x : C} {f : Nat} {b : BOp} : SndS P (.augF o f b x) where
  one := by
    intro G cl lv tx X W at_ st h
    simp only [chkS] at h
    split at h
    · rename_i y n sp op e pos
      simp only [Bool.and_eq_true, decide_eq_true_eq] at h
      obtain ⟨⟨⟨⟨h1, h3⟩, h4⟩, h5⟩, h6⟩ := h
      obtain rfl := bop_of h3
      subst h4
      refine ps_imp (ps_fldaug ((snd_all o).e at_ y h5).1 ((snd_all x).e at_ e h6).1 in_add) ?_
      intro D σ H ⟨B, A, h, e, F, re, pp⟩
      simp only [exS] at pp
      refine ⟨B, A, h, e, F, re, (pp.on re).imp fun w x0 h1' A1 H1 F1 n1 r1 p1 => ?_⟩
      split at p1
      · rename_i a hh ef
        unfold fldM at ef
        split at ef
        · rename_i k fs vs ei
          split at ef
          · rename_i u eu
            cases ef
            obtain ⟨d, Ca, dx, fv, rfl, hd, ec, rf, rv⟩ := insOf_ok F1 ei r1
            obtain ⟨y, ey, ry⟩ := fld_rel at_.fa.g (by rw [at_.fa.fl]; exact h1) rf rv eu
            unfold RV at ry
            subst ry
            obtain ⟨c1, c2⟩ := at_.fa.ins k Ca ec
            refine ⟨d, Ca, dx, fv, _, rfl, hd, c1, c2 n (List.mem_of_getElem? h1), ey, B, A1, h1', e, F1, re.mono n1, (p1.on (re.mono n1)).imp fun v y' h2 A2 H2 F2 n2 r2 p2 => ?_⟩
            split at p2
            · rename_i b
              split at p2
              · rename_i c ec2
                split at p2
                · rename_i cc
                  split at p2
                  · rename_i h3 e3
                    unfold RV at r2
                    subst r2
                    simp only [binI, Option.some.injEq] at ec2
                    subst ec2
                    obtain ⟨p, Ca', dx', fv', k', ep, hp, ec', hl, F3, n3, kk⟩ := setFM_ok at_.fa.g F2 (by rw [at_.fa.fl]; exact h1) e3 (RV.mono n2 w r1) (rv_int (i := a + b))
                    cases ep
                    have : Ca' = Ca := by
                      have q1 : clsOf h1' w = some k := by simp only [clsOf, ei]
                      rw [q1, kk] at cc
                      cases cc
                      exact Option.some.inj (ec'.symm.trans ec)
                    subst this
                    exact ⟨a, b, rfl, rfl, dx', fv', hp, hl, postS_nx p2 F3 n3 (((re.mono n1).mono n2).mono n3)⟩
                  · exact p2.elim
                · exact p2.elim
              · exact p2.elim
            · exact p2.elim
          · cases ef
        · cases ef
      · exact p1.elim
    · cases h
  many := by intro G cl lv tx X W at_ l h; simp [chkB] at h
theorem sndS_ite {c : C} {a b : S} (sa : SndS P a) (sb : SndS P b) : SndS P (.ite c a b) where
  one := by
    intro G cl lv tx X W at_ st h
    simp only [chkS] at h
    split at h
    · rename_i e s1 s2 pos
      simp only [Bool.and_eq_true] at h
      obtain ⟨⟨h1, h2⟩, h3⟩ := h
      refine ps_imp (ps_if ((snd_all c).e at_ e h1).2 (sa.many at_ s1 h2) (sb.many at_ s2 h3)) ?_
      intro D σ H ⟨B, A, h, e, F, re, pp⟩
      simp only [exS] at pp
      refine ⟨B, A, h, e, F, re, (pp.on re).imp fun v y h1' A1 H1 F1 n1 r1 p1 => ?_⟩
      cases v <;> try exact p1.elim
      rename_i k
      unfold RV at r1
      refine ⟨k, r1, ?_⟩
      cases k with
      | true => exact ⟨B, A1, h1', e, F1, re.mono n1, p1⟩
      | false => exact ⟨B, A1, h1', e, F1, re.mono n1, p1⟩
    · cases h
  many := by intro G cl lv tx X W at_ l h; simp [chkB] at h
theorem sndS_loop {p : Pat} {it : C} {b : S} (sb : SndS P b) : SndS P (.loop p it b) where
  one := by
    intro G cl lv tx X W at_ st h
    simp only [chkS] at h
    split at h
    · rename_i tg iter body pos
      simp only [Bool.and_eq_true] at h
      obtain ⟨⟨⟨h1, h2⟩, h3⟩, h4⟩ := h
      have hs : ∀ x, foldedSetIterable iter X.env x = pure x := by
        intro v
        cases iter <;> first | rfl | simp [notSet] at h1
      have hg : PG X tg (fun v σ H Q => ∃ B, gP G B p v σ H Q) := pg_ex fun B => pg_P (G := G) (B := B) at_.fa.hK at_.sh p tg h3
      refine ps_imp (ps_for at_.pass at_.sh.calm ((snd_all it).i at_ iter tg h2) hg (sb.many at_ body h4) hs) ?_
      intro D σ H ⟨B, A, h, e, F, re, pp⟩
      simp only [exS] at pp
      refine ⟨B, A, h, e, F, re, (pp.on re).imp fun s J h1 A1 H1 F1 n1 sr p1 => ?_⟩
      split at p1
      · rename_i n en
        generalize et : (fun (v : Val) (e : En) (h : Hm) => (match bindP p v e with | some e' => exS P.T cl.f cl.L b e' h | none => .bad : RS)) = turn at p1
        refine ⟨fun i m σ H => m = n - i ∧ i ≤ n ∧ ∃ A2 h2 e2, Fits G B A2 h2 H ∧ Next A1 H1 A2 H ∧ RE G B A2 H e2 σ ∧ PostS G B W D A2 H (forM' turn s n (n - i) e2 h2), ⟨n, rfl, Nat.zero_le _, A1, h1, e, F1, .refl, re.mono n1, p1⟩, ?_⟩
        rintro i m σ2 H2 ⟨rfl, hi, A2, h2, e2, F2, n2, re2, p2⟩
        have em : s.len h2 = some n := by
          cases em : s.len h2 with
          | none => cases hk : n - i <;> rw [hk] at p2 <;> simp only [forM', em] at p2 <;> exact p2.elim
          | some m =>
            by_cases c : m = n
            · rw [c]
            · cases hk : n - i <;> rw [hk] at p2 <;> simp only [forM', em, if_neg c] at p2 <;> exact p2.elim
        obtain ⟨ln, sJ⟩ := sr _ _ _ _ F2 (.next n2) _ em
        by_cases hin : i = n
        · subst hin
          rw [Nat.sub_self] at p2
          simp only [forM', em, if_true] at p2
          exact .inl ⟨(sJ _).2 (Nat.le_refl _), postS_nx p2 F2 .refl re2⟩
        · have hlt : i < n := by omega
          obtain ⟨rem, hr⟩ : ∃ rem, n - i = rem + 1 := ⟨n - i - 1, by omega⟩
          have hri : n - (rem + 1) = i := by omega
          rw [hr] at p2
          simp only [forM', em, if_true, hri] at p2
          obtain ⟨go, yl⟩ := (sJ i).1 hlt
          refine .inr ⟨go, fun σ3 H3 => ∃ A3 h3 e3, Fits G B A3 h3 H3 ∧ Next A1 H1 A3 H3 ∧ RE G B A3 H3 e3 σ3 ∧ PostS G B W D A3 H3 (forM' turn s n rem e3 h3), ?_, ?_⟩
          · rintro σ3 H3 ⟨A3, h3, e3, q1, q2, q3, q4⟩
            exact ⟨n - (i + 1), by omega, rfl, by omega, A3, h3, e3, q1, q2, q3, by rw [show n - (i + 1) = rem by omega]; exact q4⟩
          · intro y H' yy
            obtain ⟨v, ev, F3, n3, rv⟩ := yl y H' yy
            rw [ev] at p2
            simp only at p2
            have et2 : turn v e2 h2 = (match bindP p v e2 with | some e' => exS P.T cl.f cl.L b e' h2 | none => .bad) := by rw [← et]
            cases eb : bindP p v e2 with
            | none => rw [et2, eb] at p2; exact p2.elim
            | some e' =>
            rw [et2, eb] at p2
            simp only at p2
            refine ⟨B, A2, h2, e2, v, F3, re2.mono n3, rv, e', eb, fun σ3 re3 _ => ⟨B, A2, h2, e', F3, re3, ?_⟩⟩
            cases ex : exS P.T cl.f cl.L b e' h2 with
            | nx e4 h4 =>
              rw [ex] at p2
              exact fun A' H' σ' F' n' re' => ⟨A', h4, e4, F', (n2.trans n3).trans n', re', PostS.shift p2 (n3.trans n')⟩
            | ct e4 h4 =>
              rw [ex] at p2
              exact fun A' H' σ' F' n' re' => ⟨A', h4, e4, F', (n2.trans n3).trans n', re', PostS.shift p2 (n3.trans n')⟩
            | bk e4 h4 =>
              rw [ex] at p2
              exact PostS.shift (r := .nx e4 h4) p2 n3
            | rt u h4 =>
              rw [ex] at p2
              exact PostS.shift (r := .rt u h4) p2 n3
            | exc k e4 h4 =>
              rw [ex] at p2
              exact PostS.shift (r := .exc k e4 h4) p2 n3
            | bad => rw [ex] at p2; exact p2.elim
      · exact p1.elim
    · cases h
  many := by intro G cl lv tx X W at_ l h; simp [chkB] at h
theorem sndS_whl {c : C} {b : S} (sb : SndS P b) : SndS P (.whl c b) where
  one := by
    intro G cl lv tx X W at_ st h
    simp only [chkS] at h
    split at h
    · rename_i te body pos
      simp only [Bool.and_eq_true] at h
      refine ps_imp (ps_while at_.pass ((snd_all c).e at_ te h.1).2 (sb.many at_ body h.2)) ?_
      intro D σ H ⟨B, A, h, e, F, re, pp⟩
      simp only [exS] at pp
      refine ⟨fun m σ H => ∃ A2 h2 e2, Fits G B A2 h2 H ∧ RE G B A2 H e2 σ ∧ PostS G B W D A2 H (whlM (evE P.T cl.f cl.L c) (exS P.T cl.f cl.L b) m e2 h2), ⟨fuelW, A, h, e, F, re, pp⟩, ?_⟩
      rintro m σ2 H2 ⟨A2, h2, e2, F2, re2, p2⟩
      cases m with
      | zero => exact p2.elim
      | succ m =>
        simp only [whlM] at p2
        refine ⟨B, A2, h2, e2, F2, re2, ?_⟩
        cases ec : evE P.T cl.f cl.L c e2 h2 with
        | exc k h3 =>
          rw [ec] at p2
          exact fun A' H' C F' n' q => p2 A' H' σ2 C F' n' (re2.mono n') q
        | bad => rw [ec] at p2; exact p2.elim
        | ok v h3 =>
          rw [ec] at p2
          intro A3 H3 y F3 n3 ry
          cases v <;> try exact p2.elim
          rename_i k
          unfold RV at ry
          refine ⟨k, ry, ?_⟩
          cases k with
          | false => exact postS_nx p2 F3 n3 (re2.mono n3)
          | true =>
            rw [if_pos rfl]
            simp only at p2
            refine ⟨fun σ4 H4 => ∃ A4 h4 e4, Fits G B A4 h4 H4 ∧ RE G B A4 H4 e4 σ4 ∧ PostS G B W D A4 H4 (whlM (evE P.T cl.f cl.L c) (exS P.T cl.f cl.L b) m e4 h4), fun σ' H' q => ⟨m, Nat.lt_succ_self m, q⟩, B, A3, h3, e2, F3, re2.mono n3, ?_⟩
            cases ex : exS P.T cl.f cl.L b e2 h3 with
            | nx e4 h4 =>
              rw [ex] at p2
              exact fun A' H' σ' F' n' re' => ⟨A', h4, e4, F', re', PostS.shift p2 (n3.trans n')⟩
            | ct e4 h4 =>
              rw [ex] at p2
              exact fun A' H' σ' F' n' re' => ⟨A', h4, e4, F', re', PostS.shift p2 (n3.trans n')⟩
            | bk e4 h4 =>
              rw [ex] at p2
              exact PostS.shift (r := .nx e4 h4) p2 n3
            | rt u h4 =>
              rw [ex] at p2
              exact PostS.shift (r := .rt u h4) p2 n3
            | exc k e4 h4 =>
              rw [ex] at p2
              exact PostS.shift (r := .exc k e4 h4) p2 n3
            | bad => rw [ex] at p2; exact p2.elim
    · cases h
  many := by intro G cl lv tx X W at_ l h; simp [chkB] at h
/-- what a handler does with an error: the table's word of it -/
def tsW (P : Pg) (G : Sg) (i j : Nat) (a : Addr) (cls : Value) (d : Option Addr) : TS := fun D σ H => ∃ (C : Addr) (k : Nat) (z : Int), cls = .ref C ∧ d = none ∧ G.exc k = some C ∧ P.T.wh k = some z ∧ σ[i]? = some (some (.ref a)) ∧ ∀ H', (∀ b o, H b = some o → H' b = some o) → D.nx (σ.set j (some (.int z))) H'
theorem pe_wh (at_ : At P G cl lv tx X W) {x n : Str} {i : Nat} {a : Addr} {oe : Obj} {cls : Value} {d : Option Addr} {pn : List (Addr × Obj)} {p1 p2 p3 : Pos} (hz : Zc cls d oe) (hf : ∃ vs, oe.data = .fields vs) (hx : P.wh = some x) (gx : globB tx.sc x = true) (hi : tx.N[i]? = some n)
    (hl : tx.sc.names.lookup n = some .local) (hn : okName n = true) : PE (X.suite a ((a, oe) :: pn)) (.Call (.Name x p1) [.Name n p2] [] p3) (fun σ H Q => ∃ (C : Addr) (k : Nat) (z : Int), cls = .ref C ∧ d = none ∧ G.exc k = some C ∧ P.T.wh k = some z ∧ σ[i]? = some (some (.ref a)) ∧
      ∀ H', (∀ b o, H b = some o → H' b = some o) → Q (.int z) H') := by
  obtain ⟨f, mf, kf, wf⟩ := at_.fa.wh x hx
  obtain ⟨g1, g2, _⟩ := at_.glob gx
  simp only [okName, Bool.and_eq_true, decide_eq_true_eq] at hn
  have hs : (X.suite a ((a, oe) :: pn)).env.scope = tx.sc := at_.sh.sc
  refine ⟨fun pins s σ H Q I ⟨C, k, z, e1, e2, e3, e4, h0, q⟩ => ?_⟩
  subst e1 e2
  have var : PE (X.suite a ((a, oe) :: pn)) (.Name n p2) (tVar i) := pe_var (i := i) (show X.N[i]? = some n by rw [at_.sh.N]; exact hi) (by rw [hs]; exact .inl hl) hn.1 hn.2
  refine wpAny_Call_Name_kw (ld_glob I g1 mf ?_ g2)
  refine PySem.W.callWith_K (h₀ := X.base) I.ok.mod.kin kf (thn ((pa_cons var pa_nil).run p3 pins s σ H (fun vs H1 => vs = [.ref a] ∧ H1 = H) I ⟨.ref a, h0, rfl, rfl⟩) fun us s1 ⟨vs, H1, I1, r, ev, eh⟩ => ⟨I1.kIn, ?_⟩) rfl rfl
  subst ev eh
  obtain ⟨u, eu⟩ : ∃ u, us = [u] := by
    cases r with
    | cons _ t => cases t; exact ⟨_, rfl⟩
  subst eu
  have ru : u = .ref a := by
    cases r with
    | cons q _ => exact q
  subst ru
  have pin := I1.pin (a, oe) List.mem_cons_self
  refine wpAny_call (codeAny_mono (wf _ X.stack s1 H1 a C oe k z Q ⟨by have := at_.room.dp; show X.A.depth + 3 * 1 + 5 < _; omega, by have := at_.room.un; show X.A.units + 16 * 1 + 200 < _; omega⟩
    ⟨pin.1, pin.2.1, fun hm => ?_, pin.2.2.2.2⟩ hz hf e3 e4 I1.env0 q) fun r s' hq => ?_)
  · rcases List.mem_cons.mp (I1.stkSub a hm) with m | m
    · exact pin.2.2.1 m
    · exact pin.2.2.2.1 m
  · cases r with
    | error e =>
      obtain ⟨_, _, _, _, _, _, _, _, _, _, _, _, bad⟩ := hq
      exact bad.elim
    | ok fl =>
      cases fl with
      | ret u => exact I1.after hq
      | next => exact hq.elim
      | brk => exact hq.elim
      | cont => exact hq.elim
theorem At.try_ (a : At P G cl lv tx X W) {W' : WX} {pn : List (Addr × Obj)} {xe : Value → Shared → Prop} (tk : Takes (X.tr pn xe) W') (ps : PassesOwn (model X.prog X.w) X.A X.env xe) : At P G cl lv tx (X.tr pn xe) W' where
  sh := ⟨a.sh.N, a.sh.nd, a.sh.sc, a.sh.kd, a.sh.calm, a.sh.fn⟩
  fa := a.fa
  room := a.room
  ab := a.ab
  frm := a.frm
  tk := tk
  pass := ps
  lk := a.lk
  lkc := a.lkc
  mak := a.mak
  cv := a.cv
theorem sndS_tryX {b : S} {k i j : Nat} (sb : SndS P b) : SndS P (.tryX b k i j) where
  one := by
    intro G cl lv tx X W at_ st h
    simp only [chkS] at h
    split at h
    · rename_i body x px n y py f pf m pm pc pa ph pt
      simp only [Bool.and_eq_true, decide_eq_true_eq] at h
      obtain ⟨⟨⟨⟨⟨⟨⟨⟨⟨⟨⟨⟨h1, h2⟩, h3⟩, h4⟩, h5⟩, h6⟩, h7⟩, h8⟩, h9⟩, h10⟩, h11⟩, h12⟩, h13⟩ := h
      subst h8
      have hb : tx.blk = false := by simpa using h2
      obtain ⟨hs, hf⟩ := at_.frm hb
      obtain ⟨L, eL, mL⟩ := at_.fa.exn k x h3
      obtain ⟨g1, g2, _⟩ := at_.glob h4
      obtain ⟨l1, l2⟩ := at_.sh.loc h11
      have hln : X.env.kindOf m = some .local := by
        show X.env.scope.names.lookup m = _
        rw [at_.sh.sc]
        exact h7
      refine ps_imp (ps_try_as (i := i) (tb := fun W' => tS P G cl W' b) (ts := tsW P G i j) hs hf (by rw [at_.sh.N]; exact at_.sh.nd) (by rw [at_.sh.N]; exact h6) hln (c := .ref L) ⟨g1, g2, .inl mL⟩ at_.tk
        (fun W' pn xe tk' ps' => sb.many (at_.try_ tk' ps') body h1) (fun a oe cls d pn hz hfl => pss_one (ps_imp (ps_set (X := X.suite a ((a, oe) :: pn)) (i := j) (by show X.N.Nodup; rw [at_.sh.N]; exact at_.sh.nd) (by show X.N[j]? = some y; rw [at_.sh.N]; exact h10) l1
          (pe_wh at_ hz hfl h13 h12 h6 h7 h9) rfl l2) fun D σ H q => ?_))) ?_
      · obtain ⟨C, c, z, e1, e2, e3, e4, h0, q⟩ := q
        exact ⟨C, c, z, e1, e2, e3, e4, h0, q⟩
      · intro D σ H ⟨B, A, h, e, F, re, pp⟩
        simp only [exS] at pp
        refine ⟨B, A, h, e, F, re, ?_⟩
        cases eb : exS P.T cl.f cl.L b e h with
        | nx e2 h2 => rw [eb] at pp; exact pp
        | rt v h2 => rw [eb] at pp; exact pp
        | bk e2 h2 => rw [eb] at pp; exact pp.elim
        | ct e2 h2 => rw [eb] at pp; exact pp.elim
        | bad => rw [eb] at pp; exact pp.elim
        | exc c e2 h2 =>
          rw [eb] at pp
          simp only at pp
          intro A2 H2 σ2 C F2 n2 re2 ec
          refine ⟨(P.T.esup c).contains k, at_.fa.exm c k C L h5 ec eL, fun hc a ha => ?_, fun hc => ?_⟩
          · rw [if_pos hc] at pp
            cases ez : P.T.wh c with
            | none => rw [ez] at pp; exact pp.elim
            | some z =>
              rw [ez] at pp
              simp only at pp
              by_cases li : i < e2.length
              case neg => rw [if_neg li] at pp; exact pp.elim
              rw [if_pos li] at pp
              have l2 : i < σ2.length := by rw [← re2.1]; exact li
              refine ⟨C, c, z, rfl, rfl, ec, ez, by rw [List.getElem?_set_self l2], fun H3 kp => ?_⟩
              have n3 : Next A2 H2 A2 H3 := ⟨⟨[], by simp, fun _ z => by cases z⟩, fun b o q _ _ => kp b o q, fun b o q => ⟨o, kp b o q⟩, fun t p hp => (t p hp).ext kp⟩
              have F3 : Fits G B A2 h2 H3 := F2.step n3 fun b _ u q => kp b u q
              refine pp A2 H3 _ F3 (n2.trans n3) ⟨by simp [re2.1], fun q v ev => ?_⟩
              by_cases qi : q = i
              · subst qi
                rw [List.getElem?_set_self (by simpa using li)] at ev
                cases ev
              · rw [List.getElem?_set_ne (Ne.symm qi)] at ev
                rw [List.getElem?_set_ne (Ne.symm qi)]
                by_cases qj : q = j
                · subst qj
                  have lq : q < e2.length := by
                    have := (List.getElem?_eq_some_iff.mp ev).1
                    simpa using this
                  rw [List.getElem?_set_self lq] at ev
                  cases ev
                  exact ⟨.int z, by rw [List.getElem?_set_self (by simpa [← re2.1] using lq)], by unfold RV; rfl⟩
                · rw [List.getElem?_set_ne (Ne.symm qj)] at ev
                  rw [List.getElem?_set_ne (Ne.symm qj), List.getElem?_set_ne (Ne.symm qi)]
                  obtain ⟨x, ex, rx⟩ := re2.2 q v ev
                  exact ⟨x, ex, RV.mono n3 v rx⟩
          · rw [if_neg (by rw [hc]; exact Bool.false_ne_true)] at pp
            exact pp A2 H2 σ2 C F2 n2 re2 ec
    · cases h
  many := by intro G cl lv tx X W at_ l h; simp [chkB] at h
theorem sndS_tryN {b hd : S} {k : Nat} (sb : SndS P b) : SndS P (.tryN b k hd) where
  one := by
    intro G cl lv tx X W at_ st h
    simp only [chkS] at h
    split at h
    · rename_i body x px v kv pv pr ph pt
      simp only [Bool.and_eq_true, decide_eq_true_eq] at h
      obtain ⟨⟨⟨⟨⟨h1, h2⟩, h3⟩, h4⟩, h5⟩, h6⟩ := h
      have eh := retS_of h6
      subst eh
      have hb : tx.blk = false := by simpa using h2
      obtain ⟨hs, hf⟩ := at_.frm hb
      obtain ⟨L, eL, mL⟩ := at_.fa.exn k x h3
      obtain ⟨g1, g2, _⟩ := at_.glob h4
      refine ps_imp (ps_try_only (tb := fun W' => tS P G cl W' b) (ts := fun _ _ _ => fun D σ H => D.rt (.bl v) H) hs hf (c := .ref L) ⟨g1, g2, .inl mL⟩ at_.tk
        (fun W' pn xe tk' ps' => sb.many (at_.try_ tk' ps') body h1) (fun a oe cls d pn hz hfl => pss_one (ps_imp (ps_ret pe_bl) fun D σ H q => q))) ?_
      intro D σ H ⟨B, A, h, e, F, re, pp⟩
      simp only [exS] at pp
      refine ⟨B, A, h, e, F, re, ?_⟩
      cases eb : exS P.T cl.f cl.L b e h with
      | nx e2 h2 => rw [eb] at pp; exact pp
      | rt v h2 => rw [eb] at pp; exact pp
      | bk e2 h2 => rw [eb] at pp; exact pp.elim
      | ct e2 h2 => rw [eb] at pp; exact pp.elim
      | bad => rw [eb] at pp; exact pp.elim
      | exc c e2 h2 =>
        rw [eb] at pp
        simp only at pp
        intro A2 H2 σ2 C F2 n2 re2 ec
        refine ⟨(P.T.esup c).contains k, at_.fa.exm c k C L h5 ec eL, fun hc a ha => ?_, fun hc => ?_⟩
        · rw [if_pos hc] at pp
          exact pp A2 H2 (.bl v) F2 n2 (by unfold RV; rfl)
        · rw [if_neg (by rw [hc]; exact Bool.false_ne_true)] at pp
          exact pp A2 H2 σ2 C F2 n2 re2 ec
    · rename_i body x px n suite ph pt
      split at h
      · rename_i q eq
        simp only [Bool.and_eq_true, decide_eq_true_eq] at h
        obtain ⟨⟨⟨⟨⟨⟨⟨⟨h1, h2⟩, h3⟩, h4⟩, h5⟩, h6⟩, h7⟩, h8⟩, h9⟩ := h
        have hb : tx.blk = false := by simpa using h2
        obtain ⟨hs, hf⟩ := at_.frm hb
        obtain ⟨L, eL, mL⟩ := at_.fa.exn k x h3
        obtain ⟨g1, g2, _⟩ := at_.glob h4
        have hln : X.env.kindOf n = some .local := by
          show X.env.scope.names.lookup n = _
          rw [at_.sh.sc]
          exact h7
        have hne : ∃ b₀ r, suite = b₀ :: r := by
          cases suite with
          | nil => simp [wordB] at h9
          | cons b r => exact ⟨b, r, rfl⟩
        obtain ⟨b₀, r, rfl⟩ := hne
        refine ps_imp (ps_try_as (i := q.1) (tb := fun W' => tS P G cl W' b) (ts := tsWd P G q.1 q.2) hs hf (by rw [at_.sh.N]; exact at_.sh.nd) (by rw [at_.sh.N]; exact h6) hln (c := .ref L) ⟨g1, g2, .inl mL⟩ at_.tk
          (fun W' pn xe tk' ps' => sb.many (at_.try_ tk' ps') body h1) (fun a oe cls d pn hz hfl => word_suite at_ hz hfl h6 h7 h8 h9)) ?_
        intro D σ H ⟨B, A, h, e, F, re, pp⟩
        simp only [exS, eq] at pp
        refine ⟨B, A, h, e, F, re, ?_⟩
        cases eb : exS P.T cl.f cl.L b e h with
        | nx e2 h2 => rw [eb] at pp; exact pp
        | rt v h2 => rw [eb] at pp; exact pp
        | bk e2 h2 => rw [eb] at pp; exact pp.elim
        | ct e2 h2 => rw [eb] at pp; exact pp.elim
        | bad => rw [eb] at pp; exact pp.elim
        | exc c e2 h2 =>
          rw [eb] at pp
          simp only at pp
          intro A2 H2 σ2 C F2 n2 re2 ec
          refine ⟨(P.T.esup c).contains k, at_.fa.exm c k C L h5 ec eL, fun hc a ha => ?_, fun hc => ?_⟩
          · rw [if_pos hc] at pp
            cases ez : P.T.wd c with
            | none => rw [ez] at pp; exact pp.elim
            | some t =>
              rw [ez] at pp
              simp only at pp
              by_cases li : q.1 < e2.length ∧ q.2 < e2.length
              case neg => rw [if_neg li] at pp; exact pp.elim
              rw [if_pos li] at pp
              refine ⟨C, c, t, rfl, rfl, ec, ez, by rw [List.getElem?_set_self (by rw [← re2.1]; exact li.1)], by rw [List.length_set, ← re2.1]; exact li.2, fun s es H3 kp => ?_⟩
              have n3 : Next A2 H2 A2 H3 := ⟨⟨[], by simp, fun _ z => by cases z⟩, fun b o q _ _ => kp b o q, fun b o q => ⟨o, kp b o q⟩, fun t p hp => (t p hp).ext kp⟩
              have F3 : Fits G B A2 h2 H3 := F2.step n3 fun b _ u q => kp b u q
              refine pp A2 H3 (.str s) F3 (n2.trans n3) ?_
              unfold RV
              exact ⟨s, by rw [at_.fa.tx]; exact es, rfl⟩
          · rw [if_neg (by rw [hc]; exact Bool.false_ne_true)] at pp
            exact pp A2 H2 σ2 C F2 n2 re2 ec
      · cases h
    · cases h
  many := by intro G cl lv tx X W at_ l h; simp [chkB] at h
theorem sndS_all (s : S) : SndS P s := by
  induction s with
  | nil => exact sndS_nil
  | seq a b ha hb => exact sndS_seq ha hb
  | pass => exact sndS_pass
  | asg p x => exact sndS_asg
  | par is as => exact sndS_par
  | setI o i e => exact sndS_setI
  | setF o f e => exact sndS_setF
  | aug i o e => exact sndS_aug
  | augF x f o e => exact sndS_augF
  | ex e => exact sndS_ex
  | ite c a b ha hb => exact sndS_ite ha hb
  | loop p it b hb => exact sndS_loop hb
  | whl c b hb => exact sndS_whl hb
  | ret e => exact sndS_ret
  | retN => exact sndS_retN
  | rais k => exact sndS_rais
  | tryX b k i j hb => exact sndS_tryX hb
  | tryN b k hd hb hh => exact sndS_tryN hb
end
end MP
set_option Elab.async false
set_option linter.all false
set_option maxRecDepth 100000
set_option autoImplicit false
namespace MP
open PySem PySem.Spec PyProof.Rows L2
variable [Tabs]
/-- a lambda's text (parameters, captured names, where they stand among its maker's, all its names), and what it is in M -/
structure LamD where
  ps : List Str
  fr : List Str
  js : List Nat
  nm : List (Str × NameKind)
  c : C
def LamD.lm (l : Nat) (d : LamD) : Lm := (l, d.ps.length, d.js, d.c)
/-- one or two parameters, nothing else -/
def parsB (ps : List Str) : Arguments → Bool
  | ⟨[], [⟨a, _, _⟩], none, [], [], none, []⟩ => decide (ps = [a])
  | ⟨[], [⟨a, _, _⟩, ⟨b, _, _⟩], none, [], [], none, []⟩ => decide (ps = [a, b] ∧ (b == a) = false)
  | _ => false
theorem pars_bind {ps : List Str} {fd : FuncData} (h : parsB ps fd.params = true) (hd : fd.defaults = .none) (hk : fd.kwdefaults = .none) : ∀ us : List Value, us.length = ps.length → bindArgs fd ⟨us, []⟩ = pure (ps.zip us) := by
  intro us hl
  obtain ⟨nm, q, params, body, sc, gl, clo, de, kw, doc, pm, an, cd, ct, bu⟩ := fd
  simp only at h hd hk
  subst hd
  subst hk
  unfold parsB at h
  split at h
  · have h := of_decide_eq_true h
    subst h
    rename_i a _ _
    match us, hl with
    | [u], _ =>
      have e : (a == a) = true := beq_self_eq_true a
      simp only [bindArgs, List.map_cons, List.map_nil, List.nil_append, List.zip_cons_cons, List.zip_nil_right, List.append_nil, List.length_cons, List.length_nil]
      rw [show seqItems? Value.none = pure none from rfl]
      simp [List.lookup, e]
  · obtain ⟨h, e2⟩ := of_decide_eq_true h
    subst h
    rename_i a _ _ b _ _
    match us, hl with
    | [u, v], _ =>
      have e : (a == a) = true := beq_self_eq_true a
      have e' : (b == b) = true := beq_self_eq_true b
      simp only [bindArgs, List.map_cons, List.map_nil, List.nil_append, List.zip_cons_cons, List.zip_nil_right, List.append_nil, List.length_cons, List.length_nil]
      rw [show seqItems? Value.none = pure none from rfl]
      simp [List.lookup, e, e', e2]
  · cases h
/-- a def of the text, and what it is in M -/
structure Dfn where
  x : Str
  qual : Str
  st : Stmt
  N : List Str
  ps : List Str
  fn : Fn
abbrev tab (D : List Dfn) : Nat → Option Fn := fun i => (D[i]?).map (·.fn)
/-- no lambdas in lambdas -/
def Pg.bare (P : Pg) : Pg := { P with lnm := fun _ => [], lamB := fun _ _ _ _ => false }
def LamD.tx (d : LamD) (scope : Scope) : Tx := ⟨d.ps ++ d.fr, scope, fun _ => false, false, []⟩
/-- what is seen of a lambda's text alone -/
def okLam (P : Pg) (d : LamD) (params : Arguments) (body : Expr) (scope : Scope) : Bool :=
  NdefX.nscB (d.ps ++ d.fr) d.ps d.fr scope && parsB d.ps params && chkE P.bare d.c (d.tx scope) body && decide (d.js.length = d.fr.length)
def lamBof (P : Pg) (TL : List LamD) : Nat → Arguments → Expr → Scope → Bool := fun l params body scope => match TL[l]? with
  | some d => okLam P d params body scope
  | none => false
def lvl (n : Nat) : Nat := 3 * n
section
variable (P : Pg) (D : List Dfn) (prog : Program) (w : World) (K : PySem.W.Frag) (mg : Str → Option Value) (base : Heap)
/-- what a lambda of the frames fr gives when it is called later, at k -/
def LamP (k : Nat) : LKT := fun fr G B A H s =>
  ∀ (Ar : Around) (outer : List Env) (s' : Shared) (H' : Hp) (B' : Bor) (A' : List Addr) (h : Hm) (G' : Sg) (l : Nat) (cs ms : List Val) (f : Addr) (us : List Value) (vs : List V) (Q : VK) (E : XK),
    CellKeep H s.heap H' s'.heap → Since B A H B' A' H' → SameG G G' → CK G G' (fun _ => true) → Above G' k → Room (lvl k) Ar → Env0 prog w K mg base Ar outer s' H' → Vals vs us → Fits G' B' A' h H' → RVs G' B' A' H' ms vs → RV G' B' A' H' (.clo l cs) (.ref f) →
    Post G' B' (fun c d _ H' => E c d H') [] (RVr G' B') A' H' (runL P.T (tab D) k l cs ms h fr) (fun _ x _ _ H' => Q x H') →
    codeAny (model prog w) Ar (.call (.ref f) ⟨us, []⟩) (CR (L2.CX prog w) outer prog w H' s' Q E) s'
def LKn (n : Nat) : LKT := fun fr G B A H s => ∀ k, k < n → LamP P D prog w K mg base k fr G B A H s
end
section
variable {P : Pg} {D : List Dfn} {G G' : Sg} {prog : Program} {w : World} {K : PySem.W.Frag} {mg : Str → Option Value} {base : Heap} {B B' : Bor} {A A' : List Addr} {H H' : Hp} {s s' : Shared} {fr : Fr} {k n : Nat}
theorem runL_nil {l : Nat} {cs ms : List Val} {h : Hm} : runL P.T (tab D) k l cs ms h [] = .bad := by
  cases k <;> rfl
theorem LamP.nil : LamP P D prog w K mg base k [] G B A H s := by
  intro Ar outer s' H' B' A' h G' l cs ms f us vs Q E _ _ _ _ _ _ _ _ _ _ _ p
  rw [runL_nil] at p
  exact p.elim
theorem LamP.zero : LamP P D prog w K mg base 0 fr G B A H s := by
  intro Ar outer s' H' B' A' h G' l cs ms f us vs Q E _ _ _ _ _ _ _ _ _ _ _ p
  exact p.elim
theorem LamP.later (L : LamP P D prog w K mg base k fr G B A H s) (u : CellKeep H s.heap H' s'.heap) (n : Since B A H B' A' H') (sg : SameG G G') (ck : CK G G' fun _ => true) : LamP P D prog w K mg base k fr G' B' A' H' s' := by
  intro Ar outer s2 H2 B2 A2 h G2 l cs ms f us vs Q E u2 n2 sg2 ck2 ab hr e0 r F rv rc p
  exact L Ar outer s2 H2 B2 A2 h G2 l cs ms f us vs Q E (u.trans u2) (n.trans n2) (sg.trans sg2) (ck.all ck2) ab hr e0 r F rv rc p
theorem LKn.later (L : LKn P D prog w K mg base k fr G B A H s) (u : CellKeep H s.heap H' s'.heap) (n : Since B A H B' A' H') (sg : SameG G G') (ck : CK G G' fun _ => true) : LKn P D prog w K mg base k fr G' B' A' H' s' := fun j hj => (L j hj).later u n sg ck
theorem lvl_succ : lvl (k + 1) = lvl k + 2 + 1 := by unfold lvl; omega
/-- the frame's own lambdas: where they stand, what they captured holds -/
def OwnOk (TL : List LamD) (id : Nat) (G : Sg) (σ : L2.St) (H : Hp) (s : Shared) (lams : List Lm) : Prop := ∀ p ∈ lams, ∃ dl cl, TL[p.1]? = some dl ∧ p = dl.lm p.1 ∧ G.c p.1 id = some cl ∧ NdefX.CellsAt cl dl.fr (dl.js.map (NdefX.slotAt σ)) s.heap H
theorem isId_eq {id m : Nat} : isId id [.int (m : Nat)] = true ↔ m = id := by
  unfold isId
  simp only [beq_iff_eq]
  omega
theorem slot_some {e : En} {j : Nat} {v : Val} (h : slotM e j = some v) : e[j]? = some (some v) := by
  unfold slotM at h
  cases q : e[j]? with
  | none => rw [q] at h; cases h
  | some o => rw [q] at h; rw [show o = some v from h]
/-- a lambda of the running frame, or of those ahead -/
theorem lam_cons {TL : List LamD} {id : Nat} {lams : List Lm} {e : En} {σ : L2.St}
    (hL : ∀ l I, G.lam l I → ∃ d, TL[l]? = some d ∧ okLam P d I.params I.body I.scope = true)
    (fa : ∀ j, j < k → ∀ G', SameG G G' → Facts P.bare G' (run P.T (tab D) j) (lvl j) (LKn P D prog w K mg base j) j prog w K mg base)
    (hR : ∀ j, j ≤ k → LamP P D prog w K mg base j fr G B A H s) (re : RE G B A H e σ) (own : OwnOk TL id G σ H s lams) : LamP P D prog w K mg base k ((id, lams, e) :: fr) G B A H s := by
  intro Ar outer s' H' B' A' h G' l cs ms f us vs Q E un si sg ck ab hr e0 r F rv rc p
  cases k with
  | zero => exact p.elim
  | succ k =>
    have rc0 := rc
    unfold RV at rc
    obtain ⟨m, f', cl, c, I0, ecs, ef, hc, hl, hf, of, hcd, oc⟩ := rc
    cases ef
    subst ecs
    by_cases hm : m = id
    · subst hm
      have p0 := p
      unfold runL at p
      simp only [runs, findL, isId_eq.mpr rfl, if_true] at p
      cases q : lams.find? (fun p => p.1 == l) with
      | none => rw [q] at p; exact p.elim
      | some lm =>
        rw [q] at p
        simp only at p
        have ml := List.mem_of_find?_eq_some q
        have e1 : lm.1 = l := by simpa using List.find?_some q
        obtain ⟨dl, cl', hT, elm, hcl, C⟩ := own lm ml
        rw [e1] at hT elm hcl
        have ecl : cl' = cl := by
          have z := ck l m cl' rfl hcl
          rw [hc] at z
          exact (Option.some.inj z).symm
        subst ecl
        obtain ⟨dl2, hT2, ok⟩ := hL l I0 (by rw [sg.lam]; exact hl)
        rw [hT] at hT2
        cases hT2
        unfold okLam at ok
        simp only [Bool.and_eq_true, decide_eq_true_eq] at ok
        obtain ⟨⟨⟨o1, o2⟩, o3⟩, o4⟩ := ok
        have S := NdefX.nscope_by o1
        subst elm
        split at p
        · rename_i hlen
          have hlen : ms.length = dl.ps.length := hlen
          have lv : vs.length = dl.ps.length := by rw [← rv.length]; exact hlen
          have lu : us.length = dl.ps.length := by rw [← r.length]; exact lv
          have C' := cells_keep C un
          obtain ⟨⟨pm, ctv, ho⟩, _, _⟩ := e0.hok _ _ hf
          have lim : s'.heap.NoLimit := e0.mod.nolimit.keeps fun b o e => (e0.bs b o e).1
          refine PySem.W.kla_callFunE hr.depth ho rfl S.co S.gen rfl (NdefX.codeO_at e0.hok hcd) ?_
          rw [pars_bind (ps := dl.ps) (by exact o2) rfl rfl us lu]
          refine wpAny_pure (wpAny_newFunctionEnv S.nocell (fun ⟨n, _⟩ hy => S.par n (List.of_mem_zip hy).1) (fun h₁ hns hsb => ⟨lim.fresh _ hsb, ?_⟩) S.kind)
          have kp : ∀ b o, s'.heap.get? b = some o → h₁.get? b = some o := fun b o e => hsb.extBut b o (Nat.ne_of_lt (Heap.lt_size e)) (Heap.get?_push_of_some _ e)
          let F0 : NdefX.NF := ⟨"<lambda>", I0.qual, I0.params, [], I0.scope, cl', c⟩
          have J : Inv (NdefX.ncx (L2.CX prog w) prog w K mg base (dl.ps ++ dl.fr) F0 f Ar outer s' H' E) [] (NdefX.startF (dl.ps ++ dl.fr) vs (dl.js.map (NdefX.slotAt σ))) H' { s' with heap := h₁, toks := s'.toks + (dl.ps.zip us).length } :=
            NdefX.inv_startN (F := F0) S hr.hd e0 lv r C' hns kp
          let G2 : Sg := { G' with e := some (B', A', H') }
          have s2 : SameG G' G2 := ⟨rfl, rfl, rfl, rfl, rfl, rfl⟩
          have k2 : CK G' G2 (fun _ => true) := fun _ _ _ _ e => e
          have k2' : CK G2 G' (fun _ => true) := fun _ _ _ _ e => e
          have F2 : Fits G2 B' A' h H' := F.same s2 k2 (fun o _ => okO_all o) (Since.of .refl)
          have ab2 : Above G2 k := fun l m z => Nat.lt_of_succ_lt (ab l m z)
          have later : ∀ {pn : List (Addr × Obj)} {xe : Value → Shared → Prop} {pins : List (Addr × Obj)} {σ1 : L2.St} {H1 : Hp} {s1 : Shared} {B1 : Bor} {A1 : List Addr} {h1 : Hm}, Inv ((NdefX.ncx (L2.CX prog w) prog w K mg base (dl.ps ++ dl.fr) F0 f Ar outer s' H' E).tr pn xe) pins σ1 H1 s1 → Fits G2 B1 A1 h1 H1 → ∀ j, j ≤ k + 1 → LamP P D prog w K mg base j fr G2 B1 A1 H1 s1 := fun {pn xe pins σ1 H1 s1 B1 A1 h1} I F j hj =>
            ((hR j hj).later un si (sg.trans s2) (ck.all k2)).later (CellKeep.of_un (show Un _ [] H' H1 s'.heap s1.heap from I.base) fun b m => nomatch m) (show Since B' A' H' B1 A1 H1 from F.fr) SameG.rfl' (fun _ _ _ _ e => e)
          have at_ : At P.bare G2 ⟨run P.T (tab D) k, ⟨0, fun l cs vs h => runL P.T (tab D) k l cs vs h fr, fun _ => fr⟩⟩ ⟨lvl k, LKn P D prog w K mg base k, k⟩ (dl.tx I0.scope) (NdefX.ncx (L2.CX prog w) prog w K mg base (dl.ps ++ dl.fr) F0 f Ar outer s' H' E) (fun c dd _ H => E c dd H) :=
            { sh := ⟨rfl, S.nd, rfl, S.kind, rfl, fun _ z => nomatch z⟩
              fa := fa k (Nat.lt_succ_self k) G2 (sg.trans s2)
              room := (show Room (lvl k + 2 + 1) Ar by rw [← lvl_succ]; exact hr).deeper _
              ab := ab2
              frm := fun _ => ⟨rfl, rfl⟩
              tk := takes_of rfl rfl rfl rfl
              pass := passes_of (X := NdefX.ncx (L2.CX prog w) prog w K mg base (dl.ps ++ dl.fr) F0 f Ar outer s' H' E) rfl
              lk := fun _ {pn xe pins σ1 H1 s1 B1 A1 h1 e1} I F _ j hj => later I F j (by omega)
              lkc := fun L u n => L.later u n SameG.rfl' fun _ _ _ _ e => e
              mak := fun l z => nomatch z
              cv := fun _ {pn xe pins σ1 H1 s1 B1 A1 h1 Q1 E1 l1 cs1 ms1 f1 vs1 us1} I r1 F1 rv1 rc1 p1 => later I F1 k (by omega) _ _ s1 H1 B1 A1 h1 G2 l1 cs1 ms1 f1 us1 vs1 Q1 E1 CellKeep.refl (Since.of .refl) SameG.rfl' (fun _ _ _ _ e => e) ab2 (((show Room (lvl k + 2 + 1) Ar by rw [← lvl_succ]; exact hr).deeper _).mono (by omega)) I.env0 r1 F1 rv1 rc1 p1 }
          have hb := ((snd_all dl.c).e at_ I0.body o3).1
          have reS : RE G2 B' A' H' (ms.map some ++ dl.js.map (slotM e)) (NdefX.startF (dl.ps ++ dl.fr) vs (dl.js.map (NdefX.slotAt σ))) := by
            have lj : dl.js.length = dl.fr.length := o4
            refine ⟨by simp [NdefX.startF, rv.length]; omega, fun i v ei => ?_⟩
            unfold NdefX.startF
            by_cases hi : i < ms.length
            · rw [List.getElem?_append_left (by simpa using hi), List.getElem?_map] at ei
              rw [List.getElem?_append_left (by simpa [← rv.length] using hi), List.getElem?_map]
              cases qi : ms[i]? with
              | none => rw [qi] at ei; cases ei
              | some u =>
                rw [qi] at ei
                cases ei
                obtain ⟨x, ex, rx⟩ := rv.get qi
                exact ⟨x, by rw [ex]; rfl, RV.same s2 k2 _ (okC_all _) rx⟩
            · rw [List.getElem?_append_right (by simpa using hi), List.length_map, List.getElem?_map] at ei
              cases qj : dl.js[i - ms.length]? with
              | none => rw [qj] at ei; cases ei
              | some j =>
                rw [qj] at ei
                have ei : slotM e j = some v := Option.some.inj ei
                obtain ⟨x, ex, rx⟩ := re.2 j v (slot_some ei)
                have hj := (List.getElem?_eq_some_iff.mp qj).1
                refine ⟨x, ?_, RV.same s2 k2 _ (okC_all _) (RV.same sg ck _ (okC_all _) (RV.since si _ rx))⟩
                have lm : (vs.map some).length = ms.length := by rw [List.length_map]; exact rv.length.symm
                rw [List.getElem?_append_right (by rw [lm]; omega), List.getElem?_append_left (by rw [lm, List.length_map]; exact hj), List.getElem?_map, lm, qj]
                show some (NdefX.slotAt σ j) = _
                rw [NdefX.slotAt_of ex]
          refine PySem.W.kla_codeExpr (wpAny_mono (hb.run [] _ _ H' Q J ⟨B', A', h, _, F2, reS, ?_⟩) (fun v s3 hq => ?_) fun e s3 hq => hq)
          · show Post G2 B' _ _ (RVr G2 B') A' H' (evE P.T (runs P.T (tab D) k).1 ⟨0, fun l cs vs h => (runs P.T (tab D) k).2 l cs vs h fr, fun _ => fr⟩ dl.c (ms.map some ++ dl.js.map (slotM e)) h) _
            have p : Post G' B' (fun c d _ H' => E c d H') [] (RVr G' B') A' H' (evE P.T (runs P.T (tab D) k).1 ⟨0, fun l cs vs h => (runs P.T (tab D) k).2 l cs vs h fr, fun _ => fr⟩ dl.c (ms.map some ++ dl.js.map (slotM e)) h) (fun _ x _ _ H' => Q x H') := p
            cases ev : evE P.T (runs P.T (tab D) k).1 ⟨0, fun l cs vs h => (runs P.T (tab D) k).2 l cs vs h fr, fun _ => fr⟩ dl.c (ms.map some ++ dl.js.map (slotM e)) h with
            | ok v h2 =>
              rw [ev] at p
              exact fun A2 H2 x F3 n3 r3 => p A2 H2 x (F3.same s2.symm k2' (fun o _ => okO_all o) (Sg.fr_next F.fr n3)) n3 (RV.same s2.symm k2' _ (okC_all _) r3)
            | exc c2 h2 =>
              rw [ev] at p
              exact fun A2 H2 C F3 n3 ec => p A2 H2 C (F3.same s2.symm k2' (fun o _ => okO_all o) (Sg.fr_next F.fr n3)) n3 ec
            | bad =>
              rw [ev] at p
              exact p.elim
          · obtain ⟨w', H3, J3, rv3, q3⟩ := hq
            exact ⟨w', H3, J3.os, J3.bare, J3.base, J3.hok, rv3, q3⟩
        · exact p.elim
    · refine hR (k + 1) (Nat.le_refl _) Ar outer s' H' B' A' h G' l _ ms f us vs Q E un si sg ck ab hr e0 r F rv rc0 ?_
      unfold runL at p ⊢
      simp only [runs, findL, if_neg (show ¬ (isId id [.int (m : Nat)] = true) from fun z => hm (isId_eq.mp z))] at p ⊢
      exact p
end
/-- what is seen of the lambdas of a def -/
def LamsOk (P : Pg) (TL : List LamD) (N : List Str) (sc : Scope) (lams : List Lm) : Prop := ∀ p ∈ lams, ∃ dl, TL[p.1]? = some dl ∧ p = dl.lm p.1 ∧ P.lnm p.1 = dl.nm ∧
  (∀ y ∈ dl.nm, y.2 = .free → sc.names.lookup y.1 = some .cell ∨ sc.names.lookup y.1 = some .free) ∧ (∀ y ∈ dl.fr, (y, NameKind.free) ∈ dl.nm) ∧ dl.js.map (fun j => N[j]?) = dl.fr.map some
/-- what is seen of a def's text alone -/
structure Dfn.Ok (P : Pg) (TL : List LamD) (i : Nat) (d : Dfn) : Prop where
  sc : FnScope d.N d.ps (defScope d.st)
  bd : ∀ (K : PySem.W.Frag) (f : Addr) (fd : FuncData), Fun K d.x d.qual d.st f fd → Binds K fd d.ps []
  np : d.fn.np = d.ps.length
  ns : d.fn.ns = d.N.length
  ar : P.ar i = d.ps.length
  ok : chkB P d.fn.body ⟨d.N, defScope d.st, fun _ => true, false, d.fn.lams.map (·.1)⟩ (defBody d.st) = true
  lm : LamsOk P TL d.N (defScope d.st) d.fn.lams
abbrev lamName (qual : Str) : Nat → Nat → Str := fun _ _ => (qual ++ ".<locals>.") ++ "<lambda>"
/-- where the defs that make lambdas keep their code objects -/
def MkOk (D : List Dfn) (K : PySem.W.Frag) (mg : Str → Option Value) (base : Heap) : Prop := ∀ (i : Nat) (d : Dfn) (f : Addr) (fd : FuncData), D[i]? = some d → Fun K d.x d.qual d.st f fd → d.fn.lams ≠ [] →
  ∃ c Pt, fd.code = .ref c ∧ LamX.TabB base mg c Pt ∧ (Pt, lamName d.qual) ∈ Tabs.t ∧ ∀ p ∈ Tabs.t, p.1 = Pt → p.2 = lamName d.qual
/-- the i-th def stands at f -/
def FunL (D : List Dfn) (K : PySem.W.Frag) (i : Nat) (f : Addr) : Prop := ∃ d fd, D[i]? = some d ∧ Fun K d.x d.qual d.st f fd
/-- what stands behind the top, whatever the calls' depth -/
structure Base (P : Pg) (TL : List LamD) (D : List Dfn) (G : Sg) (K : PySem.W.Frag) (mg : Str → Option Value) : Prop where
  hK : K = G.K
  g : G.Good
  tx : G.txts = P.txts
  fl : G.fld = P.flds
  sep : ∀ x ∈ P.meths, x ∉ P.flds
  blt : ∀ x ∈ blts, mg x = none
  con : ∀ p ∈ P.cons, ∃ t, mg p.1 = some (.int p.2 t)
  fn : ∀ (i : Nat) (x : Str), P.funs[i]? = some (some x) → ∃ f, mg x = some (.ref f) ∧ FunL D K i f
  cls : ∀ (k : Nat) (x : Str), P.clss[k]? = some (some x) → ∃ C, G.cls k = some C ∧ mg x = some (.ref C)
  exn : ∀ (k : Nat) (x : Str), P.excs[k]? = some (some x) → ∃ C, G.exc k = some C ∧ mg x = some (.ref C)
  ins : ∀ (k : Nat) (C : Addr), G.cls k = some C → Cls K C ∧ (∀ n ∈ P.flds, NoAttr K C n)
  mkc : ∀ (k : Nat) (C : Addr), G.cls k = some C → PySem.W.keepIn K (.ref C) = true ∧ PySem.W.makesIn K C = true ∧ match P.T.init k with
    | some i => ∃ f, PySem.W.findIn K (.ref C) "__init__" = some (some (.ref f)) ∧ PySem.W.isFn K (.ref f) = true ∧ FunL D K i f
    | none => PySem.W.findIn K (.ref C) "__init__" = some (some (.builtin "object.__init__"))
  mt : ∀ (k : Nat) (C : Addr) (m : Nat) (n : Str) (i : Nat), G.cls k = some C → P.meths[m]? = some n → P.T.meth k m = some i → ∃ f, Meth K C n f ∧ FunL D K i f
  kin : ∀ (k : Nat) (C : Addr), G.cls k = some C → PySem.W.findIn K (.ref C) "__class__" = some (some (.builtin "object.__class__")) ∧ PySem.W.specialIn K (.builtin "object.__class__") "__get__" = some (some (.builtin "getset_descriptor.__get__")) ∧
    PySem.W.takesIn K (.builtin "object.__class__") = some true ∧ PySem.W.mroIn K C (.type "object") = some true
  kit : ∀ (d : Kd) (t : Ty) (a b : Value), kdV G.cls d = some a → tyV' G.cls t = some b → PySem.W.kitOne K a b = some (kdIs P.T.sup d t)
  lam : ∀ l params body scope q, P.lamB l params body scope = true → G.lam l ⟨q, params, body, scope⟩
  hL : ∀ l I, G.lam l I → ∃ d, TL[l]? = some d ∧ okLam P d I.params I.body I.scope = true
  wh : ∀ x, P.wh = some x → ∃ f, mg x = some (.ref f) ∧ PySem.W.keepIn K (.ref f) = true ∧ ∀ prog w base, WhX P.T G.exc prog w K mg base f
  exm : ∀ (k j : Nat) (C L : Addr), j ∈ P.exk → G.exc k = some C → G.exc j = some L → PySem.W.exmOne K (.ref C) (.ref L) = some ((P.T.esup k).contains j)
  xk : ∀ (k j t : Nat) (C L : Addr), (j, t) ∈ P.T.wrd → G.exc k = some C → G.exc j = some L → PySem.W.kitOne K (.ref C) (.ref L) = some ((P.T.esup k).contains j)
  xc : P.T.wrd ≠ [] → ∀ (k : Nat) (C : Addr), G.exc k = some C → ExcC K C
  exc : ∀ (k : Nat) (C : Addr), G.exc k = some C → ∃ (B newId initId : String) (bmB : List Value), ExcBaseFacts B newId initId bmB ∧ PySem.W.excIn K C bmB newId = true ∧ PySem.W.keepIn K (.ref C) = true ∧
    PySem.W.subIn K (.ref C) (.type "BaseException") = some true ∧ PySem.W.typeIn K (.ref C) = some (.type "type")
section
variable {P : Pg} {TL : List LamD} {D : List Dfn} {G : Sg} {prog : Program} {w : World} {K : PySem.W.Frag} {mg : Str → Option Value} {base : Heap}
theorem run_len (ok : ∀ (i : Nat) (d : Dfn), D[i]? = some d → Dfn.Ok P TL i d) (n i : Nat) (ms : List Val) (h : Hm) (fr : Fr) (l : ms.length ≠ P.ar i) : run P.T (tab D) n i ms h fr = .bad := by
  cases n with
  | zero => rfl
  | succ n =>
    unfold run
    simp only [runs]
    cases e : D[i]? with
    | none => simp [tab, e]
    | some d =>
      have o := ok i d e
      simp only [tab, e, Option.map_some]
      rw [if_neg]
      intro z
      exact l (by rw [z.1, o.np, o.ar])
/-- what a def promises, however it is called -/
def FnT (P : Pg) (D : List Dfn) (G : Sg) (prog : Program) (w : World) (K : PySem.W.Frag) (mg : Str → Option Value) (base : Heap) (n : Nat) : Prop := ∀ (i : Nat) (f : Addr) (d : Dfn) (fd : FuncData), D[i]? = some d → Fun K d.x d.qual d.st f fd →
  ∀ (A : Around) (outer : List Env) (s : Shared) (H : Hp) (args : Args) (us : List Value) (vs : List V) (G' : Sg) (B : Bor) (Am : List Addr) (h : Hm) (ms : List Val) (fr : Fr) (Q : VK) (E : XK), Room (lvl n) A → Env0 prog w K mg base A outer s H → BindsTo s fd args (d.ps.zip us) → Vals vs us →
    SameG G G' → Above G' n → Fits G' B Am h H → RVs G' B Am H ms vs → LKn P D prog w K mg base n fr G' B Am H s → Post G' B (fun c d _ H' => E c d H') [] (RVr G' B) Am H (run P.T (tab D) n i ms h fr) (fun _ x _ _ H' => Q x H') →
    codeAny (model prog w) A (.call (.ref f) args) (CR (L2.CX prog w) outer prog w H s Q E) s
theorem FnT.at (ok : ∀ (i : Nat) (d : Dfn), D[i]? = some d → Dfn.Ok P TL i d) {n : Nat} (T : FnT P D G prog w K mg base n) {G' : Sg} (sg : SameG G G') {i : Nat} {f : Addr} (F : FunL D K i f) : FunAt G' (run P.T (tab D) n) (lvl n) (LKn P D prog w K mg base n) n prog w K mg base i f := by
  obtain ⟨d, fd, e, F⟩ := F
  have o := ok i d e
  refine ⟨F.kp, fun A outer s H us vs G2 B Am h ms fr Q E hr e0 r sg2 ab Fi rv lk p => ?_⟩
  by_cases l : ms.length = P.ar i
  · have lu : us.length = d.ps.length := by rw [← r.length, ← rv.length, l, o.ar]
    have hb := o.bd K f fd F s us (e0.mod.kin.keeps fun b o e => (e0.bs b o e).1) (by simpa using lu)
    rw [List.append_nil] at hb
    exact T i f d fd e F A outer s H ⟨us, []⟩ us vs G2 B Am h ms fr Q E hr e0 hb r (sg.trans sg2) ab Fi rv lk p
  · rw [run_len ok n i ms h fr l] at p
    exact p.elim
theorem Base.facts (b : Base P TL D G K mg) (ok : ∀ (i : Nat) (d : Dfn), D[i]? = some d → Dfn.Ok P TL i d) {n : Nat} (T : FnT P D G prog w K mg base n) {G' : Sg} (sg : SameG G G') : Facts P G' (run P.T (tab D) n) (lvl n) (LKn P D prog w K mg base n) n prog w K mg base where
  hK := by rw [← sg.K]; exact b.hK
  g := ⟨by rw [← sg.txts]; exact b.g.nd, by rw [← sg.txts]; exact b.g.ok, by rw [← sg.fld]; exact b.g.fnd⟩
  tx := by rw [← sg.txts]; exact b.tx
  fl := by rw [← sg.fld]; exact b.fl
  sep := b.sep
  lk0 := fun G B A H s k _ => LamP.nil
  lam := fun l params body scope q z => by rw [← sg.lam]; exact b.lam l params body scope q z
  blt := b.blt
  con := b.con
  fn := fun i x e => by
    obtain ⟨f, h1, h2⟩ := b.fn i x e
    exact ⟨f, h1, T.at ok sg h2⟩
  cls := fun k x e => by rw [← sg.cls]; exact b.cls k x e
  exn := fun k x e => by rw [← sg.exc]; exact b.exn k x e
  ins := fun k C e => b.ins k C (by rw [sg.cls]; exact e)
  mkc := fun k C e => by
    obtain ⟨h1, h2, h3⟩ := b.mkc k C (by rw [sg.cls]; exact e)
    refine ⟨h1, h2, ?_⟩
    cases q : P.T.init k with
    | none =>
      rw [q] at h3
      exact h3
    | some i =>
      rw [q] at h3
      obtain ⟨f, g1, g2, g3⟩ := h3
      exact ⟨f, g1, g2, T.at ok sg g3⟩
  mt := fun k C m x i e1 e2 e3 => by
    obtain ⟨f, h1, h2⟩ := b.mt k C m x i (by rw [sg.cls]; exact e1) e2 e3
    exact ⟨f, h1, T.at ok sg h2⟩
  kin := fun k C e => b.kin k C (by rw [sg.cls]; exact e)
  kit := fun d t x y e1 e2 => b.kit d t x y (by rw [sg.cls]; exact e1) (by rw [sg.cls]; exact e2)
  wh := fun x e => by
    obtain ⟨f, h1, h2, h3⟩ := b.wh x e
    exact ⟨f, h1, h2, by rw [← sg.exc]; exact h3 prog w base⟩
  exm := fun k j C L m e1 e2 => b.exm k j C L m (by rw [sg.exc]; exact e1) (by rw [sg.exc]; exact e2)
  xk := fun k j t C L m e1 e2 => b.xk k j t C L m (by rw [sg.exc]; exact e1) (by rw [sg.exc]; exact e2)
  xc := fun hn k C e => b.xc hn k C (by rw [sg.exc]; exact e)
  exc := fun k C e => b.exc k C (by rw [sg.exc]; exact e)
theorem Facts.bare {cl : CallF} {lv : Nat} {LK : LKT} {nb : Nat} (f : Facts P G cl lv LK nb prog w K mg base) : Facts P.bare G cl lv LK nb prog w K mg base where
  hK := f.hK
  g := f.g
  tx := f.tx
  fl := f.fl
  sep := f.sep
  lk0 := f.lk0
  lam := fun _ _ _ _ _ z => nomatch z
  blt := f.blt
  con := f.con
  fn := f.fn
  cls := f.cls
  exn := f.exn
  ins := f.ins
  mkc := f.mkc
  mt := f.mt
  kin := f.kin
  kit := f.kit
  wh := f.wh
  exm := f.exm
  xk := f.xk
  xc := f.xc
  exc := f.exc
theorem re_start {B : Bor} {A : List Addr} {H : Hp} {N : List Str} : ∀ {ms : List Val} {vs : List V}, RVs G B A H ms vs → RE G B A H (ms.map some ++ List.replicate (N.length - ms.length) none) (L2.start N vs) := by
  intro ms vs r
  have l := r.length
  unfold L2.start
  refine ⟨by simp [l], fun i v e => ?_⟩
  by_cases hi : i < ms.length
  · rw [List.getElem?_append_left (by simpa using hi), List.getElem?_map] at e
    rw [List.getElem?_append_left (by simpa [← l] using hi), List.getElem?_map]
    cases q : ms[i]? with
    | none => rw [q] at e; cases e
    | some u =>
      rw [q] at e
      cases e
      obtain ⟨x, ex, rx⟩ := r.get q
      exact ⟨x, by rw [ex]; rfl, rx⟩
  · rw [List.getElem?_append_right (by simpa using hi), List.getElem?_replicate] at e
    split at e <;> cases e
theorem leave_ok {G2 G' : Sg} {B : Bor} {W : WX} {A A2 : List Addr} {H H2 : Hp} {h2 : Hm} {b : Bool} {id : Nat} {v : Val} {x : V} {Q : VK} (p : Post G' B W [] (RVr G' B) A H (leaveM b id (.ok v h2)) (fun _ x _ _ H' => Q x H')) (s : SameG G2 G') (kt : b = true → CK G2 G' fun _ => true) (k : CK G2 G' fun m => !(m == id))
    (F : Fits G2 B A2 h2 H2) (n : Next A H A2 H2) (r : RV G2 B A2 H2 v x) (f : G'.fr B A2 H2) : Q x H2 := by
  unfold leaveM at p
  cases b with
  | true =>
    simp only [if_true] at p
    exact p A2 H2 x (F.same s (kt rfl) (fun o _ => okO_all o) f) n (RV.same s (kt rfl) _ (okC_all _) r)
  | false =>
    simp only [Bool.false_eq_true, if_false] at p
    split at p
    · rename_i hv
      exact p A2 H2 x (F.scrub s k f) n (RV.same s k _ (okC_free _ hv) r)
    · exact p.elim
theorem leave_exc {G2 G' : Sg} {B : Bor} {W : WX} {A A2 : List Addr} {H H2 : Hp} {h2 : Hm} {b : Bool} {id : Nat} {c : Nat} {C : Addr} {Q : VK} (p : Post G' B W [] (RVr G' B) A H (leaveM b id (.exc c h2)) (fun _ x _ _ H' => Q x H')) (s : SameG G2 G') (kt : b = true → CK G2 G' fun _ => true) (k : CK G2 G' fun m => !(m == id))
    (F : Fits G2 B A2 h2 H2) (n : Next A H A2 H2) (ec : G2.exc c = some C) (f : G'.fr B A2 H2) : W (.ref C) none [] H2 := by
  unfold leaveM at p
  cases b with
  | true =>
    simp only [if_true] at p
    exact p A2 H2 C (F.same s (kt rfl) (fun o _ => okO_all o) f) n (by rw [← s.exc]; exact ec)
  | false =>
    simp only [Bool.false_eq_true, if_false] at p
    exact p A2 H2 C (F.scrub s k f) n (by rw [← s.exc]; exact ec)
theorem fun_step (b : Base P TL D G K mg) (ok : ∀ (i : Nat) (d : Dfn), D[i]? = some d → Dfn.Ok P TL i d) (mk : MkOk D K mg base) (m : Nat) (ih : ∀ j, j ≤ m → FnT P D G prog w K mg base j) : FnT P D G prog w K mg base (m + 1) := by
  intro i f d fd e F A outer s H args us vs G' B Am h ms fr Q E hr e0 hb r sg ab Fi rv lk p
  have o := ok i d e
  obtain ⟨oc, od, kV, doc, pm, an, cdv, ct, osl, efd, lkf, hcd⟩ := F.ex
  have e1 : ms.length = d.ps.length := by
    by_cases l : ms.length = P.ar i
    · rw [l, o.ar]
    · rw [run_len ok (m + 1) i ms h fr l] at p
      exact p.elim
  have hl : vs.length = d.ps.length := by rw [← rv.length]; exact e1
  have hmk := mk i d f fd e F
  subst efd
  refine LamX.run_ofS (k := lvl m + 2) lkf hcd o.sc (by rw [← lvl_succ]; exact hr) e0 hb r hl fun hr' => ?_
  let c2 : Nat → Nat → Option (List (Str × Addr)) := fun l mm => if mm = m + 1 then (if l ∈ d.fn.lams.map (·.1) then some (cloFrom (cellsFrom (s.heap.objs.size + 1) (defScope d.st).names []) (P.lnm l) []) else none) else G'.c l mm
  let G2 : Sg := { G' with c := c2, e := some (B, Am, H) }
  have s2 : SameG G' G2 := ⟨rfl, rfl, rfl, rfl, rfl, rfl⟩
  have k2 : CK G' G2 (fun _ => true) := fun l mm cl _ q => by
    have h1 := ab l mm (by rw [q]; simp)
    show c2 l mm = some cl
    simp only [c2]
    rw [if_neg (by omega)]
    exact q
  have k2' : CK G2 G' (fun mm => !(mm == m + 1)) := fun l mm cl o q => by
    have q : c2 l mm = some cl := q
    simp only [c2] at q
    rw [if_neg (by simpa using o)] at q
    exact q
  have k2t : d.fn.lams.isEmpty = true → CK G2 G' fun _ => true := fun z l mm cl _ q => by
    have q : c2 l mm = some cl := q
    simp only [c2] at q
    have z := List.isEmpty_iff.mp z
    split at q
    · rw [z] at q
      simp at q
    · exact q
  have ab2 : Above G2 m := fun l mm z => by
    have z : c2 l mm ≠ none := z
    simp only [c2] at z
    split at z
    · omega
    · have := ab l mm z
      omega
  have F2 : Fits G2 B Am h H := Fi.same s2 k2 (fun o _ => okO_all o) (Since.of .refl)
  have hF : LKn P D prog w K mg base (m + 1) (d.fn.fr fr) G' B Am H s := by
    unfold Fn.fr
    split
    · exact lk
    · exact fun k _ => LamP.nil
  have later : ∀ {pn : List (Addr × Obj)} {xe : Value → Shared → Prop} {pins : List (Addr × Obj)} {σ1 : L2.St} {H1 : Hp} {s1 : Shared} {B1 : Bor} {A1 : List Addr} {h1 : Hm}, Inv ((cxOf (L2.CX prog w) prog w K mg base d.N d.qual (defScope d.st) f cdv A outer s H E).tr pn xe) pins σ1 H1 s1 → Fits G2 B1 A1 h1 H1 → ∀ j, j ≤ m → LamP P D prog w K mg base j (d.fn.fr fr) G2 B1 A1 H1 s1 := fun {pn xe pins σ1 H1 s1 B1 A1 h1} I F j hj =>
    (hF j (by omega)).later (CellKeep.of_un (show Un _ [] H H1 s.heap s1.heap from I.base) fun b m => nomatch m) (show Since B Am H B1 A1 H1 from F.fr) s2 k2
  have a : At P G2 ⟨run P.T (tab D) m, d.fn.lc (m + 1) (runL P.T (tab D) m) fr⟩ ⟨lvl m, LKn P D prog w K mg base m, m⟩ ⟨d.N, defScope d.st, fun _ => true, false, d.fn.lams.map (·.1)⟩ (cxOf (L2.CX prog w) prog w K mg base d.N d.qual (defScope d.st) f cdv A outer s H E) (fun c dd _ H => E c dd H) :=
    { sh := ⟨rfl, o.sc.nd, rfl, o.sc.kind, rfl, fun _ _ => rfl⟩
      fa := b.facts ok (ih m (Nat.le_refl _)) (sg.trans s2)
      room := hr'
      ab := ab2
      frm := fun _ => ⟨rfl, rfl⟩
      tk := takes_of rfl rfl rfl rfl
      pass := passes_of (X := cxOf (L2.CX prog w) prog w K mg base d.N d.qual (defScope d.st) f cdv A outer s H E) rfl
      lk := fun _ {pn xe pins σ1 H1 s1 B1 A1 h1 e1} I F re => by
        show LKn P D prog w K mg base m (if d.fn.lams.isEmpty then d.fn.fr fr else (m + 1, d.fn.lams, e1) :: d.fn.fr fr) G2 B1 A1 H1 s1
        split
        · exact fun j hj => later I F j (by omega)
        · intro j hj
          refine lam_cons (fun l I0 z => b.hL l I0 (by rw [sg.lam]; exact z)) (fun j' hj' G3 sg3 => (b.facts ok (ih j' (by omega)) ((sg.trans s2).trans sg3)).bare) (fun i hi => later I F i (by omega)) re fun p hp => ?_
          obtain ⟨dl, hT, elm, enm, q1, q2, q3⟩ := o.lm p hp
          refine ⟨dl, cloFrom (cellsFrom (s.heap.objs.size + 1) (defScope d.st).names []) dl.nm [], hT, elm, ?_, ?_⟩
          · show c2 p.1 (m + 1) = _
            simp only [c2]
            rw [if_pos trivial, if_pos (List.mem_map_of_mem hp), enm]
          · exact NdefX.cells_of I (NdefX.Caps.made (scope := { defScope d.st with names := dl.nm }) I.ok q1 q2 q3)
      lkc := fun L u n => L.later u n SameG.rfl' fun _ _ _ _ e => e
      mak := fun l hl => by
        refine ⟨?_, ?_⟩
        · show c2 l (m + 1) = _
          simp only [c2]
          rw [if_pos trivial, if_pos hl]
          rfl
        · refine hmk fun z => ?_
          have hl : l ∈ d.fn.lams.map (·.1) := hl
          rw [z] at hl
          cases hl
      cv := fun _ {pn xe pins σ1 H1 s1 B1 A1 h1 Q1 E1 l1 cs1 ms1 f1 vs1 us1} I r1 F1 rv1 rc1 p1 => later I F1 m (Nat.le_refl _) _ _ s1 H1 B1 A1 h1 G2 l1 cs1 ms1 f1 us1 vs1 Q1 E1 CellKeep.refl (Since.of .refl) SameG.rfl' (fun _ _ _ _ e => e) ab2 (hr'.mono (by omega)) I.env0 r1 F1 rv1 rc1 p1 }
  refine ⟨_, (sndS_all d.fn.body).many a _ o.ok, ?_⟩
  unfold run at p
  simp only [runs, tab, e, Option.map_some] at p
  rw [if_pos (by
    refine ⟨by rw [o.np, e1], ?_⟩
    rw [o.np, o.ns]
    have := congrArg List.length o.sc.pre
    rw [List.length_take] at this
    omega)] at p
  have ens : d.fn.ns - d.fn.np = d.N.length - ms.length := by rw [o.ns, o.np, e1]
  rw [ens] at p
  refine ⟨B, Am, h, _, F2, re_start (RVs.same s2 k2 _ (okCs_all _) rv), ?_⟩
  show PostS G2 B _ _ Am H (exS P.T (runs P.T (tab D) m).1 (d.fn.lc (m + 1) (runs P.T (tab D) m).2 fr) d.fn.body _ h)
  cases q : exS P.T (runs P.T (tab D) m).1 (d.fn.lc (m + 1) (runs P.T (tab D) m).2 fr) d.fn.body (ms.map some ++ List.replicate (d.N.length - ms.length) none) h with
  | nx e2 h2 =>
    rw [q] at p
    exact fun A2 H2 σ2 F2 n2 _ => leave_ok p s2.symm k2t k2' F2 n2 rv_non (Sg.fr_next Fi.fr n2)
  | rt v h2 =>
    rw [q] at p
    exact fun A2 H2 x F2 n2 r => leave_ok p s2.symm k2t k2' F2 n2 r (Sg.fr_next Fi.fr n2)
  | exc k e2 h2 =>
    rw [q] at p
    exact fun A2 H2 σ2 C F2 n2 _ ec => leave_exc p s2.symm k2t k2' F2 n2 ec (Sg.fr_next Fi.fr n2)
  | bk e2 h2 =>
    rw [q] at p
    cases hz : d.fn.lams.isEmpty <;> rw [hz] at p <;> exact p.elim
  | ct e2 h2 =>
    rw [q] at p
    cases hz : d.fn.lams.isEmpty <;> rw [hz] at p <;> exact p.elim
  | bad =>
    rw [q] at p
    cases hz : d.fn.lams.isEmpty <;> rw [hz] at p <;> exact p.elim
theorem fun_all (b : Base P TL D G K mg) (ok : ∀ (i : Nat) (d : Dfn), D[i]? = some d → Dfn.Ok P TL i d) (mk : MkOk D K mg base) (n : Nat) : FnT P D G prog w K mg base n := by
  induction n using Nat.strongRecOn with
  | ind n ih =>
    cases n with
    | zero =>
      intro i f d fd e F A outer s H args us vs G' B Am h ms fr Q E hr e0 hb r sg ab Fi rv lk p
      exact p.elim
    | succ m => exact fun_step b ok mk m fun j hj => ih j (by omega)
end
/-- where a code object keeps its table -/
def codeTab (o : Obj) : Option Addr := match o.data with
  | .fields vs => (match (vs[11]? : Option Value) with | some (.ref P) => some P | _ => none)
  | _ => none
/-- all functions of this name have one code object -/
def codeOne (K : PySem.W.Frag) (q : Str) (c : Addr) : Bool := K.all fun p => match p.2.data with
  | .func fd => !(fd.qualname == q) || (match fd.code with | .ref a => a == c | _ => false)
  | _ => true
theorem all_lookup {f : Addr × Obj → Bool} {a : Addr} {o : Obj} : ∀ {K : List (Addr × Obj)}, K.all f = true → K.lookup a = some o → f (a, o) = true
  | [], _, e => by cases e
  | (b, p) :: K, h, e => by
    rw [List.all_cons, Bool.and_eq_true] at h
    rw [List.lookup_cons] at e
    split at e
    · rename_i q
      cases e
      have q : a = b := by simpa using q
      subst q
      exact h.1
    · exact all_lookup h.2 e
theorem mk_one [Tabs] {K : PySem.W.Frag} {mg : Str → Option Value} {base : Heap} {d : Dfn} {f c Pt : Addr} {fd : FuncData} (hw : codeOne K d.qual c = true) (F : Fun K d.x d.qual d.st f fd) (TB : LamX.TabB base mg c Pt) (hm : (Pt, lamName d.qual) ∈ Tabs.t)
    (hu : ∀ p ∈ Tabs.t, p.1 = Pt → p.2 = lamName d.qual) : ∃ c Pt, fd.code = .ref c ∧ LamX.TabB base mg c Pt ∧ (Pt, lamName d.qual) ∈ Tabs.t ∧ ∀ p ∈ Tabs.t, p.1 = Pt → p.2 = lamName d.qual := by
  obtain ⟨oc, od, kV, doc, pm, an, cdv, ct, osl, efd, lkf, hcd⟩ := F.ex
  subst efd
  have h := all_lookup hw lkf
  simp only [PySem.W.fnOf, beq_self_eq_true, Bool.not_true, Bool.false_or] at h
  cases cdv with
  | ref a =>
    obtain rfl : a = c := by simpa using h
    exact ⟨a, Pt, rfl, TB, hm, hu⟩
  | _ => simp at h
/-- the law in M: from its number and the table -/
def Says (P : Pg) (D : List Dfn) (n i : Nat) : Prop := ∀ ns : List Int, ns.length ≤ 63 → (∀ z ∈ ns, Builtin.Int.intBits z ≤ 1048576) → ∃ h, run P.T (tab D) n i [.lst .scr (ns.map .int)] [] [] = .ok (.bl true) h
/-- law's promise -/
def spLaw (cs : List (Addr × Addr)) (K : PySem.W.Frag) : Sp := fun vs H Q E => ∃ (a : Addr) (ns : List Int), vs = [.ref a] ∧ ns.length ≤ 63 ∧ (∀ z ∈ ns, Builtin.Int.intBits z ≤ 1048576) ∧ (∀ p ∈ cs, H p.2 = some (.tbl #[])) ∧ SqL K H a (ns.map V.int) ∧ ∀ H', Q (.bl true) H'
section
variable {P : Pg} {TL : List LamD} {D : List Dfn} {G : Sg} {prog : Program} {w : World} {K : PySem.W.Frag} {mg : Str → Option Value} {base : Heap}
/-- a list that nobody changes meanwhile -/
theorem env_frz {A : Around} {outer : List Env} {s : Shared} {H : Hp} {a : Addr} {xs : List V} (e0 : Env0 prog w K mg base A outer s H) (hS : H a = some (.lst xs)) : ∃ o, Env0 prog w K mg base A outer s (upd H a (.frz o (.lst xs))) := by
  obtain ⟨z, its, n, rv, ho⟩ := e0.hok a _ hS
  refine ⟨{ cls := .type "list", data := .seq its.toArray n }, ⟨e0.frames, e0.mod, fun b o e => ⟨(e0.bs b o e).1, ?_⟩, e0.bsz, e0.funs, fun b hb => ?_, fun b u e => ?_, e0.bare⟩⟩
  · rw [upd_ne (ne_of_none hS (e0.bs b o e).2).symm]
    exact (e0.bs b o e).2
  · rw [upd_ne (ne_of_none hS (e0.frf b hb)).symm]
    exact e0.frf b hb
  · have st : ∀ {b u}, ObjOk prog w H s.heap b u → ObjOk prog w (upd H a (.frz { cls := .type "list", data := .seq its.toArray n } (.lst xs))) s.heap b u := fun {b u} x => x.stay (fun _ _ _ q => q) (fun c q => by
      rw [upd_ne (ne_of q hS (fun z => by cases z))]
      exact q) fun c ys q => by
      rw [upd_ne (ne_of q hS (fun z => by cases z))]
      exact q
    by_cases hb : b = a
    · subst hb
      rw [upd_same] at e
      cases e
      exact ⟨ho, st (e0.hok b _ hS)⟩
    · rw [upd_ne hb] at e
      exact st (e0.hok b u e)
theorem un_frz {fs : List Addr} {H H1 : Hp} {h h1 : Heap} {a : Addr} {xs : List V} {o : Obj} (hS : H a = some (.lst xs)) (u : Un fs [] (upd H a (.frz o (.lst xs))) H1 h h1) : Un fs [] H H1 h h1 := by
  have nn : ∀ {b}, H b = none → upd H a (.frz o (.lst xs)) b = none := fun {b} q => by rw [upd_ne (ne_of_none hS q).symm]; exact q
  exact ⟨fun b ob e n => u.keep b ob e (nn n), fun b ob e n => u.slot b ob e (nn n), fun b ob e n => u.free b ob e (nn n), u.there, fun b ys q => u.tups b ys (by rw [upd_ne (ne_of q hS (fun z => by cases z))]; exact q),
    fun b ob v q => u.frzs b ob v (by rw [upd_ne (ne_of q hS (fun z => by cases z))]; exact q), fun b ps q => u.tbls b ps (by rw [upd_ne (ne_of q hS (fun z => by cases z))]; exact q)⟩
theorem law_fn (b : Base P TL D G K mg) (ok : ∀ (i : Nat) (d : Dfn), D[i]? = some d → Dfn.Ok P TL i d) (mk : MkOk D K mg base) {cs : List (Addr × Addr)} (ht : ∀ q ∈ Tabs.t, ∃ p ∈ cs, q.1 = p.2) (hc : ∀ l m, G.c l m = none) (he : G.e = none) {n i : Nat} {f : Addr} {d : Dfn} {fd : FuncData}
    (ed : D[i]? = some d) (F : Fun K d.x d.qual d.st f fd) (ep : d.ps.length = 1) (sy : Says P D n i) : FnOk prog w K mg base (L2.CX prog w) (lvl n) f fd d.ps (spLaw cs K) := by
  have T := fun_all (prog := prog) (w := w) b ok mk n
  have core : ∀ (A : Around) (outer : List Env) (s : Shared) (H : Hp) (args : Args) (us : List Value) (a : Addr) (ns : List Int) (Q : VK), Room (lvl n) A → Env0 prog w K mg base A outer s H → BindsTo s fd args (d.ps.zip us) → Vals [.ref a] us → ns.length ≤ 63 → (∀ z ∈ ns, Builtin.Int.intBits z ≤ 1048576) →
      (∀ p ∈ cs, H p.2 = some (.tbl #[])) → ((∃ o, H a = some (.frz o (.lst (ns.map V.int)))) ∨ KLst K a (ns.map V.int)) → (∀ H', Q (.bl true) H') → codeAny (model prog w) A (.call (.ref f) args) (CR (L2.CX prog w) outer prog w H s Q fun _ _ _ => False) s := by
    intro A outer s H args us a ns Q hr e0 hb r hl hz hT hS k
    obtain ⟨h, hr2⟩ := sy ns hl hz
    refine T i f d fd ed F A outer s H args us [.ref a] G ⟨fun _ => False, fun _ => False⟩ [] [] [.lst .scr (ns.map .int)] [] Q (fun _ _ _ => False) hr e0 hb r SameG.rfl' (fun l m z => absurd (hc l m) z) ?_ (.one ?_) (fun k _ => LamP.nil) ?_
    · refine ⟨rfl, .nil, fun i o a e => by simp at e, fun a z => z.elim, fun a z => z.elim, ?_, fun q hq => ?_⟩
      · unfold Sg.fr
        rw [he]
        trivial
      · obtain ⟨p, hp, e⟩ := ht q hq
        exact NdefX.TabN.nil (by rw [e]; exact hT p hp)
    · unfold RV
      refine ⟨a, ns.map V.int, rfl, ?_, by rw [List.length_map, sizeLine_eq]; omega, RVs.ofInts ns⟩
      show (∃ o, _) ∨ _
      rcases hS with ⟨o, hS⟩ | hS
      · exact .inl ⟨o, hS, by simp, fun z => z⟩
      · right
        rw [← b.hK]
        exact hS
    · rw [hr2]
      intro A' H' x _ _ r
      unfold RVr RV at r
      subst r
      exact k H'
  refine ⟨?_, ?_⟩
  · rintro vs H Q E ⟨a, ns, rfl, _⟩
    exact ep.symm
  · rintro A outer s H args us vs Q E hr e0 hb r ⟨a, ns, rfl, hl, hz, hT, hS, k⟩
    have noE : ∀ {H0 : Hp} {e : Value} {s' : Shared}, L2.CX prog w outer H0 s (fun _ _ _ => False) e s' → False := fun {H0 e s'} z => by
      obtain ⟨_, _, _, _, _, _, _, _, _, _, _, _, z⟩ := z
      exact z
    rcases hS with (hS | ⟨o, hS⟩) | hS
    · obtain ⟨o, e1⟩ := env_frz e0 hS
      refine codeAny_mono (core A outer s _ args us a ns Q hr e1 hb r hl hz (fun p hp => by rw [upd_ne (ne_of (hT p hp) hS (fun z => by cases z))]; exact hT p hp) (.inl ⟨o, upd_same⟩) k) fun r s' hq => ?_
      cases r with
      | error e => exact (noE hq).elim
      | ok fl =>
        cases fl with
        | ret u =>
          obtain ⟨v, H1, os, bare, un, hok, rv, q⟩ := hq
          exact ⟨v, H1, os, bare, un_frz hS un, hok, rv, q⟩
        | next => exact hq
        | brk => exact hq
        | cont => exact hq
    · refine codeAny_mono (core A outer s H args us a ns Q hr e0 hb r hl hz hT (.inl ⟨o, hS⟩) k) fun r s' hq => ?_
      cases r with
      | error e => exact (noE hq).elim
      | ok fl =>
        cases fl with
        | ret u => exact hq
        | next => exact hq
        | brk => exact hq
        | cont => exact hq
    · refine codeAny_mono (core A outer s H args us a ns Q hr e0 hb r hl hz hT (.inr hS) k) fun r s' hq => ?_
      cases r with
      | error e => exact (noE hq).elim
      | ok fl =>
        cases fl with
        | ret u => exact hq
        | next => exact hq
        | brk => exact hq
        | cont => exact hq
end
omit [Tabs] in
/-- the law's end -/
theorem law_end {l : PySem.W.OpenLaw} {q : Program} {loose : List Str} {XP : (Str → Option Value) → Heap → Prop} {YP : World → Heap → Prop} {d : DefRec} {K : Params → PySem.W.Frag} {n : Nat} (hn : l.most = some 63) (hdf : d.params.defaults = []) (hr : Room (lvl n) callerA)
    (hY : ∀ (w : World) (h : Heap), YP w h → (K w.params).In h)
    (F : ∀ (w : World) (mg : Str → Option Value) (fa : Addr) (h : Heap), YP w h → (K w.params).In h → h.Ns mainGlobals mg → mg d.name = some (.ref fa) → LamX.LawAtS l w (K w.params) (L2.CX l.prog w) (lvl n) 63 "_law_script" mg fa h) :
    PySem.W.WalkO q loose XP YP l.row.toRowW d [] (fun f vs => PySem.call f vs) := by
  refine LamX.walk_ofTs hn (by rw [sizeLine_eq]; omega) hdf hr hY F fun w H s e s' z => ?_
  obtain ⟨_, _, _, _, _, _, _, _, _, _, _, _, z⟩ := z
  exact z
end MP
set_option Elab.async false
set_option linter.all false
set_option maxRecDepth 100000
set_option autoImplicit false
namespace MP
/-- 0 -/
def c_day_of : Fn := ⟨3, 4, (.seq (.ite (.cmp .eq (.idx (.var 0) (.cst (.int 0))) (.cst (.str 0))) (.seq (.ret (.idx (.var 0) (.cst (.int 1))))
    .nil) .nil)
    (.seq (.asg (.nm 3) (.ite (.cmp .eq (.idx (.var 0) (.cst (.int 0))) (.cst (.str 1))) (.idx (.var 1) (.idx (.var 0) (.cst (.int 1)))) (.idx (.var 2) (.idx (.var 0) (.cst (.int 1))))))
    (.seq (.ret (.ite (.cmp .is (.var 3) (.cst .non)) (.cst .non) (.bin true .add (.var 3) (.idx (.var 0) (.cst (.int 2))))))
    .nil))), [], false⟩
/-- 1 -/
def c_dues_of : Fn := ⟨2, 7, (.seq (.asg (.nm 2) (.lst false .nil))
    (.seq (.loop (.tp (.cons (.nm 3) (.cons (.nm 4) .nil))) (.iSeq (.var 0)) (.seq (.asg (.nm 5) (.comp true [6] (.nm 6) (.iSeq (.var 4)) (.cst (.bl true)) (.call .pur 0 (.cons (.var 6) (.cons (.var 1) (.cons (.var 2) .nil))))))
    (.seq (.ex (.meth .append (.var 2) (.cons (.ite (.cmp .inn (.cst .non) (.var 5)) (.cst .non) (.bi .max1 true (.cons (.var 5) .nil))) .nil)))
    .nil)))
    (.seq (.ret (.var 2))
    .nil))), [], false⟩
/-- 2 -/
def c_is_whole : Fn := ⟨1, 1, (.seq (.ret (.and (.isi (.var 0) .int) (.not (.isi (.var 0) .bool))))
    .nil), [], false⟩
/-- 3 -/
def c_is_between : Fn := ⟨3, 3, (.seq (.ret (.and (.call .pur 2 (.cons (.var 0) .nil)) (.cmp2 .le .le (.var 1) (.var 0) (.var 2))))
    .nil), [], false⟩
/-- 4 -/
def c_are_heirs : Fn := ⟨1, 2, (.seq (.ite (.or (.not (.isi (.var 0) .list)) (.not (.cmp2 .le .le (.cst (.int 1)) (.bi .len true (.cons (.var 0) .nil)) (.cst (.int 3))))) (.seq (.ret (.cst (.bl false)))
    .nil) .nil)
    (.seq (.ret (.and (.bi .all true (.cons (.comp true [1] (.nm 1) (.iSeq (.var 0)) (.cst (.bl true)) (.call .pur 3 (.cons (.var 1) (.cons (.cst (.int 0)) (.cons (.cst (.int 9)) .nil))))) .nil)) (.cmp .eq (.bi .lenSet true (.cons (.var 0) .nil)) (.bi .len true (.cons (.var 0) .nil)))))
    .nil)), [], false⟩
/-- 5 -/
def c_is_term : Fn := ⟨2, 2, (.seq (.ite (.or (.not (.isi (.var 0) .tuple)) (.cmp .lt (.bi .len true (.cons (.var 0) .nil)) (.cst (.int 2)))) (.seq (.ret (.cst (.bl false)))
    .nil) .nil)
    (.seq (.ite (.cmp .eq (.idx (.var 0) (.cst (.int 0))) (.cst (.str 0))) (.seq (.ret (.and (.cmp .eq (.bi .len true (.cons (.var 0) .nil)) (.cst (.int 2))) (.call .pur 3 (.cons (.idx (.var 0) (.cst (.int 1))) (.cons (.cst (.int 0)) (.cons (.cst (.int 60)) .nil))))))
    .nil) .nil)
    (.seq (.ite (.or (.cmp .ne (.bi .len true (.cons (.var 0) .nil)) (.cst (.int 3))) (.not (.call .pur 3 (.cons (.idx (.var 0) (.cst (.int 2))) (.cons (.cst (.int 0)) (.cons (.cst (.int 20)) .nil)))))) (.seq (.ret (.cst (.bl false)))
    .nil) .nil)
    (.seq (.ite (.cmp .eq (.idx (.var 0) (.cst (.int 0))) (.cst (.str 1))) (.seq (.ret (.call .pur 3 (.cons (.idx (.var 0) (.cst (.int 1))) (.cons (.cst (.int 0)) (.cons (.bin true .sub (.cst (.int 6)) (.cst (.int 1))) .nil)))))
    .nil) .nil)
    (.seq (.ret (.and (.cmp .eq (.idx (.var 0) (.cst (.int 0))) (.cst (.str 2))) (.call .pur 3 (.cons (.idx (.var 0) (.cst (.int 1))) (.cons (.cst (.int 0)) (.cons (.bin true .sub (.var 1) (.cst (.int 1))) .nil))))))
    .nil))))), [], false⟩
/-- 6 -/
def c_is_letter : Fn := ⟨2, 3, (.seq (.ite (.or (.not (.isi (.var 0) .tuple)) (.or (.cmp .ne (.bi .len true (.cons (.var 0) .nil)) (.cst (.int 2))) (.not (.call .pur 4 (.cons (.idx (.var 0) (.cst (.int 0))) .nil))))) (.seq (.ret (.cst (.bl false)))
    .nil) .nil)
    (.seq (.ite (.or (.not (.isi (.idx (.var 0) (.cst (.int 1))) .list)) (.not (.cmp2 .le .le (.cst (.int 1)) (.bi .len true (.cons (.idx (.var 0) (.cst (.int 1))) .nil)) (.cst (.int 4))))) (.seq (.ret (.cst (.bl false)))
    .nil) .nil)
    (.seq (.ret (.bi .all true (.cons (.comp true [2] (.nm 2) (.iSeq (.idx (.var 0) (.cst (.int 1)))) (.cst (.bl true)) (.call .pur 5 (.cons (.var 2) (.cons (.var 1) .nil)))) .nil)))
    .nil))), [], false⟩
/-- 7 -/
def c_check_letters : Fn := ⟨1, 3, (.seq (.ite (.or (.not (.isi (.var 0) .list)) (.not (.cmp2 .le .le (.cst (.int 1)) (.bi .len true (.cons (.var 0) .nil)) (.cst (.int 40))))) (.seq (.rais 1)
    .nil) .nil)
    (.seq (.ite (.not (.bi .all true (.cons (.comp true [1, 2] (.tp (.cons (.nm 1) (.cons (.nm 2) .nil))) (.iEnum (.var 0)) (.cst (.bl true)) (.call .pur 6 (.cons (.var 2) (.cons (.var 1) .nil)))) .nil))) (.seq (.rais 1)
    .nil) .nil)
    .nil)), [], false⟩
/-- 8 -/
def c_are_days : Fn := ⟨2, 3, (.seq (.ite (.or (.not (.isi (.var 0) .list)) (.cmp .ne (.bi .len true (.cons (.var 0) .nil)) (.var 1))) (.seq (.ret (.cst (.bl false)))
    .nil) .nil)
    (.seq (.ret (.bi .all true (.cons (.comp true [2] (.nm 2) (.iSeq (.var 0)) (.cst (.bl true)) (.or (.cmp .is (.var 2) (.cst .non)) (.call .pur 3 (.cons (.var 2) (.cons (.cst (.int 0)) (.cons (.cst (.int 60)) .nil)))))) .nil)))
    .nil)), [], false⟩
/-- 9 -/
def c_check_days : Fn := ⟨2, 2, (.seq (.ex (.call .pur 7 (.cons (.var 0) .nil)))
    (.seq (.ite (.not (.call .pur 8 (.cons (.var 1) (.cons (.cst (.int 6)) .nil)))) (.seq (.rais 2)
    .nil) .nil)
    .nil)), [], false⟩
/-- 10 -/
def c_due_days : Fn := ⟨2, 2, (.seq (.ex (.call .pur 9 (.cons (.var 0) (.cons (.var 1) .nil))))
    (.seq (.ret (.call .top 1 (.cons (.var 0) (.cons (.var 1) .nil))))
    .nil)), [], false⟩
/-- 11 -/
def c_chain_to : Fn := ⟨3, 9, (.seq (.asg (.tp (.cons (.nm 3) (.cons (.nm 4) .nil))) (.tup (.cons (.lst false .nil) (.cons (.call .pur 1 (.cons (.var 0) (.cons (.var 1) .nil))) .nil))))
    (.seq (.whl (.cst (.bl true)) (.seq (.asg (.nm 5) (.idx (.idx (.var 0) (.var 2)) (.cst (.int 1))))
    (.seq (.asg (.nm 6) (.comp true [7] (.nm 7) (.iSeq (.var 5)) (.cst (.bl true)) (.call .pur 0 (.cons (.var 7) (.cons (.var 1) (.cons (.var 4) .nil))))))
    (.seq (.asg (.nm 8) (.ite (.cmp .inn (.cst .non) (.var 6)) (.meth .index (.var 6) (.cons (.cst .non) .nil)) (.meth .index (.var 6) (.cons (.bi .max1 true (.cons (.var 6) .nil)) .nil))))
    (.seq (.ex (.meth .append (.var 3) (.cons (.tup (.cons (.var 2) (.cons (.var 8) .nil))) .nil)))
    (.seq (.ite (.cmp .ne (.idx (.idx (.var 5) (.var 8)) (.cst (.int 0))) (.cst (.str 2))) (.seq (.ret (.var 3))
    .nil) .nil)
    (.seq (.asg (.nm 2) (.idx (.idx (.var 5) (.var 8)) (.cst (.int 1))))
    .nil)))))))
    .nil)), [], false⟩
/-- 12 -/
def c_chain_day : Fn := ⟨4, 9, (.seq (.asg (.nm 4) (.cst (.int 0)))
    (.seq (.loop (.tp (.cons (.nm 5) (.cons (.tp (.cons (.nm 6) (.cons (.nm 7) .nil))) .nil))) (.iEnum (.var 3)) (.seq (.ite (.or (.cmp .ne (.var 6) (.var 2)) (.not (.cmp2 .le .lt (.cst (.int 0)) (.var 7) (.bi .len true (.cons (.idx (.idx (.var 0) (.var 6)) (.cst (.int 1))) .nil))))) (.seq (.ret (.neg (.cst (.int 1))))
    .nil) .nil)
    (.seq (.asg (.nm 8) (.idx (.idx (.idx (.var 0) (.var 6)) (.cst (.int 1))) (.var 7)))
    (.seq (.ite (.cmp .ne (.cmp .eq (.idx (.var 8) (.cst (.int 0))) (.cst (.str 2))) (.cmp .lt (.bin true .add (.var 5) (.cst (.int 1))) (.bi .len true (.cons (.var 3) .nil)))) (.seq (.ret (.neg (.cst (.int 1))))
    .nil) .nil)
    (.seq (.ite (.cmp .eq (.idx (.var 8) (.cst (.int 0))) (.cst (.str 0))) (.seq (.ret (.bin true .add (.idx (.var 8) (.cst (.int 1))) (.var 4)))
    .nil) .nil)
    (.seq (.ite (.cmp .eq (.idx (.var 8) (.cst (.int 0))) (.cst (.str 1))) (.seq (.ret (.ite (.cmp .is (.idx (.var 1) (.idx (.var 8) (.cst (.int 1)))) (.cst .non)) (.cst .non) (.bin true .add (.bin true .add (.idx (.var 1) (.idx (.var 8) (.cst (.int 1)))) (.idx (.var 8) (.cst (.int 2)))) (.var 4))))
    .nil) .nil)
    (.seq (.aug 4 .add (.idx (.var 8) (.cst (.int 2))))
    (.seq (.asg (.nm 2) (.idx (.var 8) (.cst (.int 1))))
    .nil))))))))
    (.seq (.ret (.neg (.cst (.int 1))))
    .nil))), [], false⟩
/-- 13 -/
def c_ends_of : Fn := ⟨2, 3, (.seq (.ret (.comp false [2] (.nm 2) (.iSeq (.var 0)) (.cst (.bl true)) (.ite (.cmp .is (.var 2) (.cst .non)) (.cst .non) (.idx (.var 2) (.bi .toInt true (.cons (.var 1) .nil))))))
    .nil), [], false⟩
/-- 14 -/
def c_is_ahead : Fn := ⟨3, 3, (.seq (.ret (.cmp .lt (.tup (.cons (.idx (.var 0) (.var 1)) (.cons (.var 1) .nil))) (.tup (.cons (.idx (.var 0) (.var 2)) (.cons (.var 2) .nil)))))
    .nil), [], false⟩
/-- 15 -/
def c_lists_to_try : Fn := ⟨1, 5, (.seq (.asg (.nm 1) (.lst false (.cons (.call .pur 13 (.cons (.var 0) (.cons (.cst (.bl false)) .nil))) .nil)))
    (.seq (.loop (.tp (.cons (.nm 2) (.cons (.nm 3) .nil))) (.iEnum (.var 0)) (.seq (.ite (.cmp .isn (.var 3) (.cst .non)) (.seq (.asg (.nm 4) (.call .top 13 (.cons (.var 0) (.cons (.cst (.bl false)) .nil))))
    (.seq (.setI (.var 4) (.var 2) (.idx (.var 3) (.cst (.int 1))))
    (.seq (.ex (.meth .append (.var 1) (.cons (.var 4) .nil)))
    .nil))) .nil)
    .nil))
    (.seq (.ret (.var 1))
    .nil))), [], false⟩
/-- 16 -/
def c_why : Fn := ⟨3, 4, (.seq (.ex (.call .pur 9 (.cons (.var 0) (.cons (.var 1) .nil))))
    (.seq (.ite (.not (.call .pur 3 (.cons (.var 2) (.cons (.cst (.int 0)) (.cons (.bin true .sub (.bi .len true (.cons (.var 0) .nil)) (.cst (.int 1))) .nil))))) (.seq (.rais 3)
    .nil) .nil)
    (.seq (.asg (.nm 3) (.call .pur 11 (.cons (.var 0) (.cons (.var 1) (.cons (.var 2) .nil)))))
    (.seq (.ret (.ite (.cmp .is (.idx (.call .pur 1 (.cons (.var 0) (.cons (.var 1) .nil))) (.var 2)) (.cst .non)) (.new 2 (.cons (.var 3) .nil)) (.new 1 (.cons (.var 3) .nil))))
    .nil)))), [], false⟩
/-- 17 -/
def c_Why___init__ : Fn := ⟨2, 2, (.seq (.setF (.var 0) 0 (.bi .list false (.cons (.var 1) .nil)))
    .nil), [], false⟩
/-- 18 -/
def c_Why_shows : Fn := ⟨4, 5, (.seq (.asg (.nm 4) (.idx (.call .pur 1 (.cons (.var 1) (.cons (.var 2) .nil))) (.var 3)))
    (.seq (.ret (.and (.cmp .isn (.var 4) (.cst .non)) (.cmp .eq (.call .pur 12 (.cons (.var 1) (.cons (.var 2) (.cons (.var 3) (.cons (.fld (.var 0) 0) .nil))))) (.var 4))))
    .nil)), [], false⟩
/-- 19 -/
def c_Waits___init__ : Fn := ⟨2, 2, (.seq (.setF (.var 0) 0 (.bi .list false (.cons (.var 1) .nil)))
    .nil), [], false⟩
/-- 20 -/
def c_Waits_shows : Fn := ⟨4, 4, (.seq (.ret (.cmp .is (.call .pur 12 (.cons (.var 1) (.cons (.var 2) (.cons (.var 3) (.cons (.fld (.var 0) 0) .nil))))) (.cst .non)))
    .nil), [], false⟩
/-- 21 -/
def c_Ahead_shows : Fn := ⟨5, 6, (.seq (.ret (.bi .all true (.cons (.comp true [5] (.nm 5) (.iSeq (.call .pur 15 (.cons (.var 2) .nil))) (.cst (.bl true)) (.call .pur 14 (.cons (.call .pur 1 (.cons (.var 1) (.cons (.var 5) .nil))) (.cons (.var 3) (.cons (.var 4) .nil))))) .nil)))
    .nil), [], false⟩
/-- 22 -/
def c_Perhaps___init__ : Fn := ⟨2, 2, (.seq (.setF (.var 0) 1 (.bi .list false (.cons (.var 1) .nil)))
    .nil), [], false⟩
/-- 23 -/
def c_Perhaps_shows : Fn := ⟨5, 7, (.seq (.ite (.cmp .ne (.bi .len true (.cons (.fld (.var 0) 1) .nil)) (.bi .len true (.cons (.var 2) .nil))) (.seq (.ret (.cst (.bl false)))
    .nil) .nil)
    (.seq (.loop (.tp (.cons (.nm 5) (.cons (.nm 6) .nil))) (.iZip (.cons (.var 2) (.cons (.fld (.var 0) 1) .nil))) (.seq (.ite (.or (.cmp .ne (.cmp .is (.var 5) (.cst .non)) (.cmp .is (.var 6) (.cst .non))) (.and (.cmp .isn (.var 5) (.cst .non)) (.not (.cmp2 .le .le (.idx (.var 5) (.cst (.int 0))) (.var 6) (.idx (.var 5) (.cst (.int 1))))))) (.seq (.ret (.cst (.bl false)))
    .nil) .nil)
    .nil))
    (.seq (.ret (.not (.call .pur 14 (.cons (.call .pur 1 (.cons (.var 1) (.cons (.fld (.var 0) 1) .nil))) (.cons (.var 3) (.cons (.var 4) .nil))))))
    .nil))), [], false⟩
/-- 24 -/
def c_heir_of : Fn := ⟨3, 4, (.seq (.loop (.nm 3) (.iSeq (.var 0)) (.seq (.ite (.or (.cmp .is (.idx (.var 1) (.var 3)) (.cst .non)) (.cmp .gt (.idx (.var 1) (.var 3)) (.var 2))) (.seq (.ret (.var 3))
    .nil) .nil)
    .nil))
    (.seq (.ret (.cst .non))
    .nil)), [], false⟩
/-- 25 -/
def c_check_gone : Fn := ⟨1, 1, (.seq (.ite (.not (.call .pur 8 (.cons (.var 0) (.cons (.bin true .add (.cst (.int 9)) (.cst (.int 1))) .nil)))) (.seq (.rais 4)
    .nil) .nil)
    .nil), [], false⟩
/-- 26 -/
def c_handed_out : Fn := ⟨3, 7, (.seq (.ex (.call .pur 9 (.cons (.var 0) (.cons (.var 1) .nil))))
    (.seq (.ex (.call .pur 25 (.cons (.var 2) .nil)))
    (.seq (.asg (.nm 3) (.call .pur 1 (.cons (.var 0) (.cons (.var 1) .nil))))
    (.seq (.asg (.nm 4) (.bi .sorted true (.cons (.comp true [5, 6] (.tp (.cons (.nm 5) (.cons (.nm 6) .nil))) (.iEnum (.var 3)) (.cmp .isn (.var 6) (.cst .non)) (.tup (.cons (.var 6) (.cons (.var 5) .nil)))) .nil)))
    (.seq (.ret (.comp false [5, 6] (.tp (.cons (.nm 6) (.cons (.nm 5) .nil))) (.iSeq (.var 4)) (.cst (.bl true)) (.tup (.cons (.var 6) (.cons (.var 5) (.cons (.call .pur 24 (.cons (.idx (.idx (.var 0) (.var 5)) (.cst (.int 0))) (.cons (.var 2) (.cons (.var 6) .nil)))) .nil))))))
    .nil))))), [], false⟩
/-- 27 -/
def c_is_span : Fn := ⟨1, 1, (.seq (.ite (.or (.not (.isi (.var 0) .tuple)) (.or (.cmp .ne (.bi .len true (.cons (.var 0) .nil)) (.cst (.int 2))) (.not (.call .pur 3 (.cons (.idx (.var 0) (.cst (.int 0))) (.cons (.cst (.int 0)) (.cons (.cst (.int 60)) .nil))))))) (.seq (.ret (.cst (.bl false)))
    .nil) .nil)
    (.seq (.ret (.call .pur 3 (.cons (.idx (.var 0) (.cst (.int 1))) (.cons (.idx (.var 0) (.cst (.int 0))) (.cons (.cst (.int 60)) .nil)))))
    .nil)), [], false⟩
/-- 28 -/
def c_check_spans : Fn := ⟨2, 3, (.seq (.ex (.call .pur 7 (.cons (.var 0) .nil)))
    (.seq (.ite (.or (.not (.isi (.var 1) .list)) (.cmp .ne (.bi .len true (.cons (.var 1) .nil)) (.cst (.int 6)))) (.seq (.rais 5)
    .nil) .nil)
    (.seq (.ite (.not (.bi .all true (.cons (.comp true [2] (.nm 2) (.iSeq (.var 1)) (.cst (.bl true)) (.or (.cmp .is (.var 2) (.cst .non)) (.call .pur 27 (.cons (.var 2) .nil)))) .nil))) (.seq (.rais 5)
    .nil) .nil)
    .nil))), [], false⟩
/-- 29 -/
def c_between : Fn := ⟨2, 6, (.seq (.ex (.call .pur 28 (.cons (.var 0) (.cons (.var 1) .nil))))
    (.seq (.par [2, 3] (.cons (.call .pur 1 (.cons (.var 0) (.cons (.call .pur 13 (.cons (.var 1) (.cons (.cst (.bl false)) .nil))) .nil))) (.cons (.call .pur 1 (.cons (.var 0) (.cons (.call .pur 13 (.cons (.var 1) (.cons (.cst (.bl true)) .nil))) .nil))) .nil)))
    (.seq (.ret (.comp false [4, 5] (.tp (.cons (.nm 4) (.cons (.nm 5) .nil))) (.iZip (.cons (.var 2) (.cons (.var 3) .nil))) (.cst (.bl true)) (.ite (.cmp .is (.var 4) (.cst .non)) (.cst .non) (.tup (.cons (.var 4) (.cons (.var 5) .nil))))))
    .nil))), [], false⟩
/-- 30 -/
def c_surely : Fn := ⟨4, 6, (.seq (.ex (.call .pur 28 (.cons (.var 0) (.cons (.var 1) .nil))))
    (.seq (.ite (.or (.not (.call .pur 3 (.cons (.var 2) (.cons (.cst (.int 0)) (.cons (.bin true .sub (.bi .len true (.cons (.var 0) .nil)) (.cst (.int 1))) .nil))))) (.or (.not (.call .pur 3 (.cons (.var 3) (.cons (.cst (.int 0)) (.cons (.bin true .sub (.bi .len true (.cons (.var 0) .nil)) (.cst (.int 1))) .nil))))) (.cmp .eq (.var 2) (.var 3)))) (.seq (.rais 3)
    .nil) .nil)
    (.seq (.asg (.nm 4) (.call .pur 1 (.cons (.var 0) (.cons (.call .pur 13 (.cons (.var 1) (.cons (.cst (.bl false)) .nil))) .nil))))
    (.seq (.ite (.or (.cmp .is (.idx (.var 4) (.var 2)) (.cst .non)) (.cmp .is (.idx (.var 4) (.var 3)) (.cst .non))) (.seq (.rais 10)
    .nil) .nil)
    (.seq (.loop (.nm 5) (.iSeq (.call .pur 15 (.cons (.var 1) .nil))) (.seq (.ite (.not (.call .pur 14 (.cons (.call .pur 1 (.cons (.var 0) (.cons (.var 5) .nil))) (.cons (.var 2) (.cons (.var 3) .nil))))) (.seq (.ret (.new 4 (.cons (.var 5) .nil)))
    .nil) .nil)
    .nil))
    (.seq (.ret (.new 3 .nil))
    .nil)))))), [], false⟩
/-- 31 -/
def c_Keeper___init__ : Fn := ⟨1, 1, (.seq (.setF (.var 0) 2 (.lst false .nil))
    (.seq (.setF (.var 0) 3 (.dct [] .nil))
    (.seq (.setF (.var 0) 1 (.bin false .mul (.lst false (.cons (.cst .non) .nil)) (.cst (.int 6))))
    (.seq (.setF (.var 0) 4 (.bin false .mul (.lst false (.cons (.cst .non) .nil)) (.bin false .add (.cst (.int 9)) (.cst (.int 1)))))
    (.seq (.setF (.var 0) 5 (.cst (.int 0)))
    .nil))))), [], false⟩
/-- 32 -/
def c_Keeper_copied : Fn := ⟨3, 3, (.seq (.ite (.not (.call .pur 6 (.cons (.var 1) (.cons (.var 2) .nil)))) (.seq (.rais 6)
    .nil) .nil)
    (.seq (.ret (.tup (.cons (.bi .list true (.cons (.idx (.var 1) (.cst (.int 0))) .nil)) (.cons (.bi .list true (.cons (.idx (.var 1) (.cst (.int 1))) .nil)) .nil))))
    .nil)), [], false⟩
/-- 33 -/
def c_Keeper_put : Fn := ⟨2, 3, (.seq (.asg (.nm 2) (.ocall .pur 1 (.var 0) (.cons (.var 1) (.cons (.bi .len true (.cons (.fld (.var 0) 2) .nil)) .nil))))
    (.seq (.ite (.cmp .eq (.bi .len true (.cons (.fld (.var 0) 2) .nil)) (.cst (.int 40))) (.seq (.rais 12)
    .nil) .nil)
    (.seq (.ex (.meth .append (.fld (.var 0) 2) (.cons (.var 2) .nil)))
    (.seq (.ret (.bin true .sub (.bi .len true (.cons (.fld (.var 0) 2) .nil)) (.cst (.int 1))))
    .nil)))), [], false⟩
/-- 34 -/
def c_Keeper_check_left : Fn := ⟨2, 2, (.seq (.ite (.or (.not (.call .pur 3 (.cons (.var 1) (.cons (.cst (.int 0)) (.cons (.bin true .sub (.bi .len true (.cons (.fld (.var 0) 2) .nil)) (.cst (.int 1))) .nil))))) (.cmp .inn (.var 1) (.fld (.var 0) 3))) (.seq (.rais 3)
    .nil) .nil)
    .nil), [], false⟩
/-- 35 -/
def c_Keeper_change : Fn := ⟨3, 3, (.seq (.ex (.ocall .pur 3 (.var 0) (.cons (.var 1) .nil)))
    (.seq (.setI (.fld (.var 0) 2) (.var 1) (.ocall .pur 1 (.var 0) (.cons (.var 2) (.cons (.var 1) .nil))))
    .nil)), [], false⟩
/-- 36 -/
def c_Keeper_take_back : Fn := ⟨2, 2, (.seq (.ex (.ocall .pur 3 (.var 0) (.cons (.var 1) .nil)))
    (.seq (.setI (.fld (.var 0) 3) (.var 1) (.cst (.bl false)))
    .nil)), [], false⟩
/-- 37 -/
def c_Keeper_tell : Fn := ⟨3, 3, (.seq (.ite (.not (.call .pur 3 (.cons (.var 1) (.cons (.cst (.int 0)) (.cons (.bin true .sub (.cst (.int 6)) (.cst (.int 1))) .nil))))) (.seq (.rais 7)
    .nil) .nil)
    (.seq (.ret (.ocall .dir 8 (.var 0) (.cons (.fld (.var 0) 1) (.cons (.var 1) (.cons (.var 2) .nil)))))
    .nil)), [], false⟩
/-- 38 -/
def c_Keeper_leave : Fn := ⟨3, 3, (.seq (.ite (.not (.call .pur 3 (.cons (.var 1) (.cons (.cst (.int 0)) (.cons (.cst (.int 9)) .nil))))) (.seq (.rais 9)
    .nil) .nil)
    (.seq (.ret (.ocall .dir 8 (.var 0) (.cons (.fld (.var 0) 4) (.cons (.var 1) (.cons (.var 2) .nil)))))
    .nil)), [], false⟩
/-- 39 -/
def c_Keeper_noted : Fn := ⟨4, 5, (.seq (.ite (.not (.call .pur 3 (.cons (.var 3) (.cons (.cst (.int 0)) (.cons (.cst (.int 60)) .nil))))) (.seq (.rais 8)
    .nil) .nil)
    (.seq (.ite (.and (.cmp .isn (.idx (.var 1) (.var 2)) (.cst .non)) (.cmp .ne (.idx (.var 1) (.var 2)) (.var 3))) (.seq (.rais 11)
    .nil) .nil)
    (.seq (.asg (.nm 4) (.cmp .is (.idx (.var 1) (.var 2)) (.cst .non)))
    (.seq (.setI (.var 1) (.var 2) (.var 3))
    (.seq (.ret (.var 4))
    .nil))))), [], false⟩
/-- 40 -/
def c_Keeper_due_by_now : Fn := ⟨1, 7, (.seq (.asg (.nm 1) (.lst false .nil))
    (.seq (.loop (.tp (.cons (.nm 2) (.cons (.tp (.cons (.nm 3) (.cons (.nm 4) .nil))) .nil))) (.iEnum (.fld (.var 0) 2)) (.seq (.asg (.nm 5) (.comp true [6] (.nm 6) (.iSeq (.var 4)) (.cst (.bl true)) (.call .pur 0 (.cons (.var 6) (.cons (.fld (.var 0) 1) (.cons (.var 1) .nil))))))
    (.seq (.ex (.meth .append (.var 1) (.cons (.ite (.or (.cmp .inn (.cst .non) (.var 5)) (.cmp .is (.meth .get (.fld (.var 0) 3) (.cons (.var 2) .nil)) (.cst (.bl false)))) (.cst .non) (.bi .max1 true (.cons (.var 5) .nil))) .nil)))
    .nil)))
    (.seq (.ret (.var 1))
    .nil))), [], false⟩
/-- 41 -/
def c_Keeper_hand : Fn := ⟨1, 6, (.seq (.par [1, 2] (.cons (.ocall .pur 9 (.var 0) .nil) (.cons (.lst false .nil) .nil)))
    (.seq (.loop (.tp (.cons (.nm 3) (.cons (.nm 4) .nil))) (.iEnum (.var 1)) (.seq (.ite (.and (.cmp .nin (.var 3) (.fld (.var 0) 3)) (.and (.cmp .isn (.var 4) (.cst .non)) (.cmp .le (.var 4) (.fld (.var 0) 5)))) (.seq (.ex (.meth .append (.var 2) (.cons (.tup (.cons (.var 4) (.cons (.var 3) .nil))) .nil)))
    .nil) .nil)
    .nil))
    (.seq (.loop (.tp (.cons (.nm 4) (.cons (.nm 3) .nil))) (.iSeq (.bi .sorted true (.cons (.var 2) .nil))) (.seq (.setI (.fld (.var 0) 3) (.var 3) (.cst (.bl true)))
    .nil))
    (.seq (.asg (.nm 5) (.lst false .nil))
    (.seq (.loop (.tp (.cons (.nm 4) (.cons (.nm 3) .nil))) (.iSeq (.bi .sorted true (.cons (.var 2) .nil))) (.seq (.ex (.meth .append (.var 5) (.cons (.tup (.cons (.var 3) (.cons (.call .pur 24 (.cons (.idx (.idx (.fld (.var 0) 2) (.var 3)) (.cst (.int 0))) (.cons (.fld (.var 0) 4) (.cons (.var 4) .nil)))) (.cons (.bin true .sub (.fld (.var 0) 5) (.var 4)) .nil)))) .nil)))
    .nil))
    (.seq (.ret (.var 5))
    .nil)))))), [], false⟩
/-- 42 -/
def c_Keeper_pass_day : Fn := ⟨1, 1, (.seq (.augF (.var 0) 5 .add (.cst (.int 1)))
    (.seq (.ret (.fld (.var 0) 5))
    .nil)), [], false⟩
/-- 43 -/
def c_Keeper_kept : Fn := ⟨1, 2, (.seq (.ret (.comp true [1] (.nm 1) (.iRng (.cons (.bi .len true (.cons (.fld (.var 0) 2) .nil)) .nil)) (.cmp .nin (.var 1) (.fld (.var 0) 3)) (.var 1)))
    .nil), [], false⟩
/-- 44 -/
def c_Keeper_all_letters : Fn := ⟨1, 3, (.seq (.ret (.comp true [1, 2] (.tp (.cons (.nm 1) (.cons (.nm 2) .nil))) (.iSeq (.fld (.var 0) 2)) (.cst (.bl true)) (.tup (.cons (.bi .list true (.cons (.var 1) .nil)) (.cons (.bi .list true (.cons (.var 2) .nil)) .nil)))))
    .nil), [], false⟩
end MP
set_option Elab.async false
set_option linter.all false
set_option maxRecDepth 100000
set_option autoImplicit false
namespace MP
section
variable {T : Tab} {F : Nat → Option Fn}
/-- what a def without lambdas knows of lambdas -/
def lc0 (T : Tab) (F : Nat → Option Fn) (n : Nat) : LC := ⟨n + 1, fun l cs vs h => runL T F n l cs vs h [], fun _ => []⟩
/-- a def called that takes no lambdas -/
def run0 (T : Tab) (F : Nat → Option Fn) (n : Nat) (f : Nat) (vs : List Val) (h : Hm) : R Val := run T F n f vs h []
theorem run_at {n f : Nat} {d : Fn} {vs : List Val} {h : Hm} (e : F f = some d) (l : vs.length = d.np) (k : d.np ≤ d.ns) (z : d.lams = [] := by rfl) (t : d.tk = false := by rfl) : run0 T F (n + 1) f vs h = (exS T (run T F n) (lc0 T F n) d.body (vs.map some ++ List.replicate (d.ns - d.np) none) h).fin := by
  unfold run0 run
  simp only [runs, e]
  rw [if_pos ⟨l, k⟩]
  unfold Fn.lc Fn.fr
  rw [z, t]
  rfl
/-- a source that does not change: its items -/
def Static (s : Src) (l : List Val) : Prop := ∀ h, s.len h = some l.length ∧ ∀ k, s.at h k = l[k]?
variable {cl : CallF} {L : LC} {fr : Fr}
mutual
theorem deep_closed {lk : Nat → Option Val} : ∀ (v : Val), closed v = true → deep lk v = some v
  | .non, _ => by simp [deep]
  | .bl _, _ => by simp [deep]
  | .int _, _ => by simp [deep]
  | .str _, _ => by simp [deep]
  | .err _, _ => by simp [deep]
  | .tup vs, c => by unfold closed at c; simp [deep, deepL_closed vs c]
  | .lst _ vs, c => by unfold closed at c; simp [deep, deepL_closed vs c]
  | .dct _ _ vs, c => by unfold closed at c; simp [deep, deepL_closed vs c]
  | .obj _ _ _ vs, c => by unfold closed at c; simp [deep, deepL_closed vs c]
  | .ref _, c => by simp [closed] at c
  | .clo _ _, c => by simp [closed] at c
theorem deepL_closed {lk : Nat → Option Val} : ∀ (vs : List Val), closedL vs = true → deepL lk vs = some vs
  | [], _ => by simp [deepL]
  | v :: vs, c => by
    unfold closedL at c
    rw [Bool.and_eq_true] at c
    simp [deepL, deep_closed v c.1, deepL_closed vs c.2]
end
theorem snapL_closed {h : Hm} {vs : List Val} (c : closedL vs = true) : snapL h vs = some vs := deepL_closed vs c
theorem froz_closed {h : Hm} {v : Val} (c : closed v = true) : froz h v = some v := deep_closed v c
/-- a call by values, told by what the callee gives -/
theorem pure_ok {cl : CallF} {fr : Fr} {f : Nat} {vs ws : List Val} {h h' : Hm} {v w : Val} (s : snapL h vs = some ws) (r : cl f ws [] [] = .ok v h') (z : froz h' v = some w) (c : clean w = true) : callM cl .pur f vs h fr = .ok w h := by
  simp only [callM, pureM, s, r, z, if_pos c]
end
section
variable {T : Tab} {F : Nat → Option Fn} {n : Nat} {h : Hm}
end
end MP
set_option Elab.async false
set_option linter.all false
set_option maxRecDepth 100000
set_option autoImplicit false
namespace MP
open PySem L2
/-- isinstance, of errors too -/
def isiX (T : Tab) (h : Hm) (x : Val) (t : Ty) : Option Bool := match isiM T.sup h x t with
  | some r => some r
  | none => match x with
    | .err k => some (isiE T.esup k t)
    | _ => none
/-- a run that ends well ends so; with an exception: so -/
def E {α : Type} (r : R α) (Q : α → Hm → Prop) (X : Nat → Hm → Prop) : Prop := match r with
  | .ok a h => Q a h
  | .exc k h => X k h
  | .bad => False
def W (r : RS) (N : En → Hm → Prop) (V : Val → Hm → Prop) (X : Nat → En → Hm → Prop) : Prop := match r with
  | .nx e h => N e h
  | .rt v h => V v h
  | .exc k e h => X k e h
  | _ => False
def OE {α : Type} (o : Option α) (Q : α → Prop) : Prop := match o with
  | some a => Q a
  | none => False
def lkV (o : Option (Option Val)) (Q : Val → Prop) : Prop := match o with
  | some (some v) => Q v
  | _ => False
def brV (v : Val) (A B : Prop) : Prop := match v with
  | .bl true => A
  | .bl false => B
  | _ => False
def asI (v : Val) (Q : Int → Prop) : Prop := match v with
  | .int i => Q i
  | _ => False
theorem E_bind {α β : Type} {r : R α} {f : α → Hm → R β} {Q : β → Hm → Prop} {X : Nat → Hm → Prop} : E (r.bind f) Q X = E r (fun a h => E (f a h) Q X) X := by cases r <;> rfl
theorem W_on {α : Type} {r : R α} {e : En} {f : α → Hm → RS} {N : En → Hm → Prop} {V : Val → Hm → Prop} {X : Nat → En → Hm → Prop} : W (.on r e f) N V X = E r (fun a h => W (f a h) N V X) (fun k h => X k e h) := by cases r <;> rfl
theorem W_then {r : RS} {f : En → Hm → RS} {N : En → Hm → Prop} {V : Val → Hm → Prop} {X : Nat → En → Hm → Prop} : W (r.then f) N V X = W r (fun e h => W (f e h) N V X) V X := by cases r <;> rfl
theorem E_fin {r : RS} {Q : Val → Hm → Prop} {X : Nat → Hm → Prop} : E r.fin Q X = W r (fun _ h => Q .non h) Q (fun k _ h => X k h) := by cases r <;> rfl
/-- no exception -/
abbrev nox : Nat → Hm → Prop := fun _ _ => False
theorem ex_of_E {α : Type} {r : R α} {Q : α → Hm → Prop} (p : E r Q nox) : ∃ a h, r = .ok a h ∧ Q a h := by
  cases r with
  | ok x g => exact ⟨x, g, rfl, p⟩
  | exc k g => exact p.elim
  | bad => exact p.elim
section
variable {T : Tab} {cl : CallF} {L : LC} {fr : Fr} {e : En} {h : Hm} {Q : Val → Hm → Prop} {X : Nat → Hm → Prop}
theorem e_var {i : Nat} : E (evE T cl L (.var i) e h) Q X = lkV e[i]? (fun v => Q v h) := by
  simp only [evE]
  cases e[i]? with
  | none => rfl
  | some o => cases o <;> rfl
theorem e_cst {v : Val} : E (evE T cl L (.cst v) e h) Q X = Q v h := by simp only [evE]; rfl
theorem e_bin {z : Bool} {o : BOp} {a b : C} : E (evE T cl L (.bin z o a b) e h) Q X = E (evE T cl L a e h) (fun x h => E (evE T cl L b e h) (fun y h => E (binM z o x y h) Q X) X) X := by simp only [evE, E_bind]
theorem e_neg {a : C} : E (evE T cl L (.neg a) e h) Q X = E (evE T cl L a e h) (fun x h => asI x fun i => Q (.int (-i)) h) X := by
  simp only [evE, E_bind]
  congr; funext x h; cases x <;> rfl
theorem e_cmp {o : COp} {a b : C} : E (evE T cl L (.cmp o a b) e h) Q X = E (evE T cl L a e h) (fun x h => E (evE T cl L b e h) (fun y h => OE (cmpM o h x y) fun r => Q (.bl r) h) X) X := by
  simp only [evE, E_bind]
  congr; funext x h; congr; funext y h
  cases cmpM o h x y <;> rfl
theorem e_cmp2 {o p : COp} {a b c : C} : E (evE T cl L (.cmp2 o p a b c) e h) Q X = E (evE T cl L a e h) (fun x h => E (evE T cl L b e h) (fun y h => OE (cmpM o h x y) fun r =>
    brV (.bl r) (E (evE T cl L c e h) (fun w h => OE (cmpM p h y w) fun r => Q (.bl r) h) X) (Q (.bl false) h)) X) X := by
  simp only [evE, E_bind]
  congr; funext x h; congr; funext y h
  cases cmpM o h x y with
  | none => rfl
  | some r =>
    cases r with
    | false => rfl
    | true =>
      simp only [OE, brV, E_bind]
      congr; funext w h; cases cmpM p h y w <;> rfl
theorem e_cmp3 {o p q : COp} {a b c d : C} : E (evE T cl L (.cmp3 o p q a b c d) e h) Q X = E (evE T cl L a e h) (fun x h => E (evE T cl L b e h) (fun y h => OE (cmpM o h x y) fun r =>
    brV (.bl r) (E (evE T cl L c e h) (fun w h => OE (cmpM p h y w) fun r => brV (.bl r) (E (evE T cl L d e h) (fun u h => OE (cmpM q h w u) fun r => Q (.bl r) h) X) (Q (.bl false) h)) X) (Q (.bl false) h)) X) X := by
  simp only [evE, E_bind]
  congr; funext x h; congr; funext y h
  cases cmpM o h x y with
  | none => rfl
  | some r =>
    cases r with
    | false => rfl
    | true =>
      simp only [OE, brV, E_bind]
      congr; funext w h
      cases cmpM p h y w with
      | none => rfl
      | some r =>
        cases r with
        | false => rfl
        | true =>
          simp only [OE, brV, E_bind]
          congr; funext u h; cases cmpM q h w u <;> rfl
theorem e_not {a : C} : E (evE T cl L (.not a) e h) Q X = E (evE T cl L a e h) (fun x h => brV x (Q (.bl false) h) (Q (.bl true) h)) X := by
  simp only [evE, E_bind]
  congr; funext x h
  cases x with
  | bl b => cases b <;> rfl
  | _ => rfl
theorem e_and {a b : C} : E (evE T cl L (.and a b) e h) Q X = E (evE T cl L a e h) (fun x h => brV x (E (evE T cl L b e h) Q X) (Q (.bl false) h)) X := by
  simp only [evE, E_bind]
  congr; funext x h
  cases x with
  | bl b => cases b <;> rfl
  | _ => rfl
theorem e_or {a b : C} : E (evE T cl L (.or a b) e h) Q X = E (evE T cl L a e h) (fun x h => brV x (Q (.bl true) h) (E (evE T cl L b e h) Q X)) X := by
  simp only [evE, E_bind]
  congr; funext x h
  cases x with
  | bl b => cases b <;> rfl
  | _ => rfl
theorem e_ite {t a b : C} : E (evE T cl L (.ite t a b) e h) Q X = E (evE T cl L t e h) (fun x h => brV x (E (evE T cl L a e h) Q X) (E (evE T cl L b e h) Q X)) X := by
  simp only [evE, E_bind]
  congr; funext x h
  cases x with
  | bl b => cases b <;> rfl
  | _ => rfl
theorem e_idx {a i : C} : E (evE T cl L (.idx a i) e h) Q X = E (evE T cl L a e h) (fun x h => E (evE T cl L i e h) (fun y h => E (idxM x y h) Q X) X) X := by simp only [evE, E_bind]
theorem e_slc {z : Bool} {a lo hi : C} : E (evE T cl L (.slc z a lo hi) e h) Q X = E (evE T cl L a e h) (fun x h => E (evP T cl L lo e h) (fun l h => E (evP T cl L hi e h) (fun u h => E (slcM z x l u h) Q X) X) X) X := by simp only [evE, E_bind]
theorem e_rev {z : Bool} {a : C} : E (evE T cl L (.rev z a) e h) Q X = E (evE T cl L a e h) (fun x h => OE (lstOf h x) fun vs => E (mkL z vs.reverse h) Q X) X := by
  simp only [evE, E_bind]
  congr; funext x h
  cases lstOf h x <;> rfl
theorem e_fld {a : C} {f : Nat} : E (evE T cl L (.fld a f) e h) Q X = E (evE T cl L a e h) (fun x h => E (fldM x f h) Q X) X := by simp only [evE, E_bind]
theorem e_tup {as : C} : E (evE T cl L (.tup as) e h) Q X = E (evA T cl L as e h) (fun vs h => vs.length ≤ big ∧ Q (.tup vs) h) X := by
  simp only [evE, E_bind]
  congr; funext vs h
  split
  · rename_i k; simp [E, k]
  · rename_i k; simp [E, k]
theorem e_lst {z : Bool} {as : C} : E (evE T cl L (.lst z as) e h) Q X = E (evA T cl L as e h) (fun vs h => vs.length ≤ big ∧ E (mkL z vs h) Q X) X := by
  simp only [evE, E_bind]
  congr; funext vs h
  split
  · rename_i k; simp [k]
  · rename_i k; simp [E, k]
theorem e_dsp {ks : List MKey} {as : C} : E (evE T cl L (.dct ks as) e h) Q X = E (evA T cl L as e (h ++ [.dct [] []])) (fun vs h2 => E (dspM ks h.length vs h2) Q X) X := by
  simp only [evE, E_bind]
/-- {} -/
theorem e_dct : E (evE T cl L (.dct [] .nil) e h) Q X = Q (.ref h.length) (h ++ [.dct [] []]) := by
  rw [e_dsp]
  simp only [evA, E, dspM, List.getElem?_concat_length, List.length_nil, if_true]
  rw [List.set_append_right _ _ (Nat.le_refl _), Nat.sub_self]
  rfl
theorem e_call {z : Md} {f : Nat} {as : C} : E (evE T cl L (.call z f as) e h) Q X = E (evA T cl L as e h) (fun vs h => E (callM cl z f vs h (L.push e)) Q X) X := by simp only [evE, E_bind]
theorem e_bi {b : BI} {z : Bool} {as : C} : E (evE T cl L (.bi b z as) e h) Q X = E (evA T cl L as e h) (fun vs h => E (biM b z vs h) Q X) X := by simp only [evE, E_bind]
theorem e_meth {m : MI} {o as : C} : E (evE T cl L (.meth m o as) e h) Q X = E (evE T cl L o e h) (fun x h => methK m h x = true ∧ E (evA T cl L as e h) (fun vs h => E (methM m x vs h) Q X) X) X := by
  simp only [evE, E_bind]
  congr; funext x h
  split
  · rename_i k; simp only [k, true_and, E_bind]
  · rename_i k; simp [E, k]
theorem e_ocall {z : Md} {m : Nat} {o as : C} : E (evE T cl L (.ocall z m o as) e h) Q X = E (evE T cl L o e h) (fun x h => OE (clsOf h x) fun k => OE (T.meth k m) fun f => E (evA T cl L as e h) (fun vs h => E (callM cl z f (x :: vs) h []) Q X) X) X := by
  simp only [evE, E_bind]
  congr; funext x h
  cases clsOf h x with
  | none => rfl
  | some k =>
    simp only [OE]
    cases T.meth k m with
    | none => rfl
    | some f => simp only [E_bind]
theorem e_new {k : Nat} {as : C} : E (evE T cl L (.new k as) e h) Q X = E (evA T cl L as e h) (fun vs h => E (newM T cl k vs h) Q X) X := by simp only [evE, E_bind]
theorem e_isi {a : C} {t : Ty} : E (evE T cl L (.isi a t) e h) Q X = E (evE T cl L a e h) (fun x h => OE (isiX T h x t) fun r => Q (.bl r) h) X := by
  simp only [evE, E_bind]
  congr; funext x h
  unfold isiX
  cases isiM T.sup h x t with
  | some r => rfl
  | none =>
    cases x <;> rfl
theorem a_nil {Q : List Val → Hm → Prop} : E (evA T cl L .nil e h) Q X = Q [] h := by simp only [evA]; rfl
theorem a_cons {a b : C} {Q : List Val → Hm → Prop} : E (evA T cl L (.cons a b) e h) Q X = E (evE T cl L a e h) (fun x h => E (evA T cl L b e h) (fun xs h => Q (x :: xs) h) X) X := by
  simp only [evA, E_bind]; rfl
theorem p_omit {Q : Option Int → Hm → Prop} : E (evP T cl L .omit e h) Q X = Q none h := by simp only [evP]; rfl
theorem p_part {a : C} {Q : Option Int → Hm → Prop} : E (evP T cl L (.part a) e h) Q X = E (evE T cl L a e h) (fun x h => asI x fun i => Q (some i) h) X := by
  simp only [evP, E_bind]
  congr; funext x h; cases x <;> rfl
theorem i_seq {a : C} {Q : Src → Hm → Prop} : E (evI T cl L (.iSeq a) e h) Q X = E (evE T cl L a e h) (fun x h => OE (srcOf h x) fun s => Q s h) X := by
  simp only [evI, E_bind]
  congr; funext x h; cases srcOf h x <;> rfl
theorem i_rng {as : C} {Q : Src → Hm → Prop} : E (evI T cl L (.iRng as) e h) Q X = E (evA T cl L as e h) (fun vs h => OE (rngM vs) fun s => Q s h) X := by
  simp only [evI, E_bind]
  congr; funext x h; cases rngM x <;> rfl
theorem i_enum {a : C} {Q : Src → Hm → Prop} : E (evI T cl L (.iEnum a) e h) Q X = E (evE T cl L a e h) (fun x h => isTup x = false ∧ OE (srcOf h x) fun s => Q (.enum s) h) X := by
  simp only [evI, E_bind]
  congr; funext x h
  cases isTup x with
  | true => simp [E]
  | false => cases srcOf h x <;> simp [E, OE]
theorem i_zip {as : C} {Q : Src → Hm → Prop} : E (evI T cl L (.iZip as) e h) Q X = E (evA T cl L as e h) (fun vs h => OE (zipM h vs) fun s => Q s h) X := by
  simp only [evI, E_bind]
  congr; funext x h; cases zipM h x <;> rfl
end
section
variable {T : Tab} {cl : CallF} {L : LC} {fr : Fr} {e : En} {h : Hm} {N : En → Hm → Prop} {V : Val → Hm → Prop} {X : Nat → En → Hm → Prop}
theorem s_nil : W (exS T cl L .nil e h) N V X = N e h := by simp only [exS]; rfl
theorem s_pass : W (exS T cl L .pass e h) N V X = N e h := by simp only [exS]; rfl
theorem s_seq {a b : S} : W (exS T cl L (.seq a b) e h) N V X = W (exS T cl L a e h) (fun e h => W (exS T cl L b e h) N V X) V X := by simp only [exS, W_then]
theorem s_asg {p : Pat} {x : C} : W (exS T cl L (.asg p x) e h) N V X = E (evE T cl L x e h) (fun v h => OE (bindP p v e) fun e' => N e' h) (fun k h => X k e h) := by
  simp only [exS, W_on]
  congr; funext v h; cases bindP p v e <;> rfl
theorem s_par {is : List Nat} {as : C} : W (exS T cl L (.par is as) e h) N V X = E (evA T cl L as e h) (fun vs h => OE (setAll is vs e) fun e' => N e' h) (fun k h => X k e h) := by
  simp only [exS, W_on]
  congr; funext v h; cases setAll is v e <;> rfl
theorem s_setI {o i x : C} : W (exS T cl L (.setI o i x) e h) N V X = E (evE T cl L x e h) (fun v h => E (evE T cl L o e h) (fun w h => E (evE T cl L i e h) (fun u h => OE (setIM w u v h) fun h' => N e h') (fun k h => X k e h)) (fun k h => X k e h)) (fun k h => X k e h) := by
  simp only [exS, W_on]
  congr; funext v h; congr; funext w h; congr; funext u h; cases setIM w u v h <;> rfl
theorem s_setF {o : C} {f : Nat} {x : C} : W (exS T cl L (.setF o f x) e h) N V X = E (evE T cl L x e h) (fun v h => E (evE T cl L o e h) (fun w h => OE (setFM w f v h) fun h' => N e h') (fun k h => X k e h)) (fun k h => X k e h) := by
  simp only [exS, W_on]
  congr; funext v h; congr; funext w h; cases setFM w f v h <;> rfl
theorem s_aug {i : Nat} {o : BOp} {x : C} : W (exS T cl L (.aug i o x) e h) N V X = lkV e[i]? (fun a => asI a fun a => E (evE T cl L x e h) (fun v h => asI v fun b => OE (binI o a b) fun k => N (e.set i (some (.int k))) h) (fun k h => X k e h)) := by
  simp only [exS]
  cases e[i]? with
  | none => rfl
  | some q =>
    cases q with
    | none => rfl
    | some v =>
      cases v with
      | int a =>
        simp only [lkV, asI, W_on]
        congr; funext v h
        cases v with
        | int b => simp only [asI]; cases binI o a b <;> rfl
        | _ => rfl
      | _ => rfl
theorem s_augF {x y : C} {f : Nat} {o : BOp} : W (exS T cl L (.augF x f o y) e h) N V X = E (evE T cl L x e h) (fun w h => E (fldM w f h) (fun a _ => asI a fun a => E (evE T cl L y e h) (fun v h2 => asI v fun b => OE (binI o a b) fun k => clsOf h w = clsOf h2 w ∧ OE (setFM w f (.int k) h2) fun h' => N e h') (fun k h => X k e h)) (fun _ _ => False)) (fun k h => X k e h) := by
  simp only [exS, W_on]
  congr; funext w h
  cases fldM w f h with
  | exc k g => rfl
  | bad => rfl
  | ok a g =>
    cases a with
    | int a =>
      simp only [E, asI, W_on]
      congr; funext v h2
      cases v with
      | int b =>
        simp only [asI]
        cases binI o a b with
        | none => rfl
        | some k =>
          simp only [OE]
          split
          · rename_i z; cases setFM w f (.int k) h2 <;> simp [W, z]
          · rename_i z; simp [W, z]
      | _ => rfl
    | _ => rfl
theorem s_ex {x : C} : W (exS T cl L (.ex x) e h) N V X = E (evE T cl L x e h) (fun _ h => N e h) (fun k h => X k e h) := by
  simp only [exS, W_on]; rfl
theorem s_ite {c : C} {a b : S} : W (exS T cl L (.ite c a b) e h) N V X = E (evE T cl L c e h) (fun v h => brV v (W (exS T cl L a e h) N V X) (W (exS T cl L b e h) N V X)) (fun k h => X k e h) := by
  simp only [exS, W_on]
  congr; funext v h
  cases v with
  | bl b => cases b <;> rfl
  | _ => rfl
theorem s_ret {x : C} : W (exS T cl L (.ret x) e h) N V X = E (evE T cl L x e h) V (fun k h => X k e h) := by
  simp only [exS, W_on]; rfl
theorem s_retN : W (exS T cl L .retN e h) N V X = V .non h := by simp only [exS]; rfl
theorem s_rais {k : Nat} : W (exS T cl L (.rais k) e h) N V X = X k e h := by simp only [exS]; rfl
end
end MP
set_option Elab.async false
set_option linter.all false
set_option maxRecDepth 100000
set_option autoImplicit false
namespace MP
open PySem L2
/-- what a source gives at this heap -/
def StAt (s : Src) (l : List Val) (h : Hm) : Prop := s.len h = some l.length ∧ ∀ k, s.at h k = l[k]?
theorem Static.st {s : Src} {l : List Val} (a : Static s l) (h : Hm) : StAt s l h := a h
section
variable {T : Tab} {cl : CallF} {L : LC} {fr : Fr}
/-- item and what it gives, side by side -/
inductive All2 {α β : Type} (P : α → β → Prop) : List α → List β → Prop
  | nil : All2 P [] []
  | cons {a : α} {b : β} {as : List α} {bs : List β} : P a b → All2 P as bs → All2 P (a :: as) (b :: bs)
theorem All2.length {α β : Type} {P : α → β → Prop} {as : List α} {bs : List β} (q : All2 P as bs) : as.length = bs.length := by
  induction q with
  | nil => rfl
  | cons x _ ih => simp [ih]
theorem All2.get {α β : Type} {P : α → β → Prop} {as : List α} {bs : List β} (q : All2 P as bs) {i : Nat} {a : α} (h : as[i]? = some a) : ∃ b, bs[i]? = some b ∧ P a b := by
  induction q generalizing i with
  | nil => cases h
  | cons x _ ih =>
    cases i with
    | zero => cases h; exact ⟨_, rfl, x⟩
    | succ i => exact ih h
end
section
variable {h : Hm} {Q : Val → Hm → Prop} {X : Nat → Hm → Prop}
theorem b_add {z : Bool} {i j : Int} : E (binM z .add (.int i) (.int j) h) Q X = Q (.int (i + j)) h := rfl
theorem b_sub {z : Bool} {i j : Int} : E (binM z .sub (.int i) (.int j) h) Q X = Q (.int (i - j)) h := rfl
theorem i_add {i j : Int} {Q : Int → Prop} : OE (binI .add i j) Q = Q (i + j) := rfl
theorem i_sub {i j : Int} {Q : Int → Prop} : OE (binI .sub i j) Q = Q (i - j) := rfl
theorem eqM_int {i j : Int} : eqM h (.int i) (.int j) = some (decide (i = j)) := by
  simp only [eqM, snap, deep, isData, eqV, Bool.and_self, if_true]
  congr 1
theorem eqM_str {i j : Nat} : eqM h (.str i) (.str j) = some (decide (i = j)) := by
  simp only [eqM, snap, deep, isData, eqV, Bool.and_self, if_true]
  congr 1
theorem c_lt {i j : Int} : cmpM .lt h (.int i) (.int j) = some (decide (i < j)) := rfl
theorem c_le {i j : Int} : cmpM .le h (.int i) (.int j) = some (decide (i ≤ j)) := rfl
theorem c_gt {i j : Int} : cmpM .gt h (.int i) (.int j) = some (decide (j < i)) := rfl
theorem c_ge {i j : Int} : cmpM .ge h (.int i) (.int j) = some (decide (j ≤ i)) := rfl
theorem c_eq {i j : Int} : cmpM .eq h (.int i) (.int j) = some (decide (i = j)) := eqM_int (h := h)
theorem c_ne {i j : Int} : cmpM .ne h (.int i) (.int j) = some (!decide (i = j)) := by simp only [cmpM, eqM_int]; rfl
theorem c_eqs {i j : Nat} : cmpM .eq h (.str i) (.str j) = some (decide (i = j)) := eqM_str (h := h)
theorem c_nes {i j : Nat} : cmpM .ne h (.str i) (.str j) = some (!decide (i = j)) := by simp only [cmpM, eqM_str]; rfl
theorem c_is {x y : Val} : cmpM .is h x y = isM x y := rfl
theorem c_isn {x y : Val} : cmpM .isn h x y = (isM x y).map (!·) := rfl
theorem is_non : isM .non .non = some true := rfl
theorem is_int {i : Int} : isM (.int i) .non = some false := rfl
theorem is_tup {vs : List Val} : isM (.tup vs) .non = some false := rfl
theorem is_lst {c : Fz} {vs : List Val} : isM (.lst c vs) .non = some false := rfl
theorem is_ref {i : Nat} : isM (.ref i) .non = some false := rfl
theorem is_bl {a b : Bool} : isM (.bl a) (.bl b) = some (a == b) := rfl
theorem map_not {b : Bool} : (some b).map (!·) = some (!b) := rfl
theorem oe_some {α : Type} {a : α} {Q : α → Prop} : OE (some a) Q = Q a := rfl
theorem oe_none {α : Type} {Q : α → Prop} : OE none Q = False := rfl
theorem lk_some {v : Val} {Q : Val → Prop} : lkV (some (some v)) Q = Q v := rfl
theorem br_t {A B : Prop} : brV (.bl true) A B = A := rfl
theorem br_f {A B : Prop} : brV (.bl false) A B = B := rfl
theorem asI_int {i : Int} {Q : Int → Prop} : asI (.int i) Q = Q i := rfl
theorem E_ok' {α : Type} {a : α} {Q : α → Hm → Prop} : E (.ok a h) Q X = Q a h := rfl
theorem x_int {x : Val} {j : Int} : E (idxM x (.int j) h) Q X = OE (seqOf h x) fun vs => OE (atI vs j) fun v => Q v h := by
  simp only [idxM]
  cases seqOf h x with
  | none => rfl
  | some vs => simp only [OE]; cases atI vs j <;> rfl
theorem so_tup {vs : List Val} : seqOf h (.tup vs) = some vs := rfl
theorem so_lst {c : Fz} {vs : List Val} : seqOf h (.lst c vs) = some vs := rfl
theorem lo_lst {c : Fz} {vs : List Val} : lstOf h (.lst c vs) = some vs := rfl
theorem src_tup {vs : List Val} : srcOf h (.tup vs) = some (.stat vs) := rfl
theorem src_lst {c : Fz} {vs : List Val} : srcOf h (.lst c vs) = some (.stat vs) := rfl
theorem mk_t {vs : List Val} : E (mkL true vs h) Q X = Q (.lst .own vs) h := rfl
theorem mk_f {vs : List Val} : E (mkL false vs h) Q X = Q (.ref h.length) (h ++ [.lst vs]) := rfl
theorem at0 {α : Type} {x : α} {l : List α} : atI (x :: l) 0 = some x := by
  unfold atI ixN
  rw [if_pos (Int.le_refl _)]
  simp
theorem at1 {α : Type} {x y : α} {l : List α} : atI (x :: y :: l) 1 = some y := by
  unfold atI ixN
  rw [if_pos (by omega), if_pos (by simp only [List.length_cons]; omega)]
  rfl
theorem at2 {α : Type} {x y z : α} {l : List α} : atI (x :: y :: z :: l) 2 = some z := by
  unfold atI ixN
  rw [if_pos (by omega), if_pos (by simp only [List.length_cons]; omega)]
  rfl
theorem at3 {α : Type} {x y z w : α} {l : List α} : atI (x :: y :: z :: w :: l) 3 = some w := by
  unfold atI ixN
  rw [if_pos (by omega), if_pos (by simp only [List.length_cons]; omega)]
  rfl
theorem atm2 {α : Type} {x y : α} : atI [x, y] (-1) = some y := by
  unfold atI ixN
  simp
theorem atm3 {α : Type} {x y z : α} : atI [x, y, z] (-1) = some z := by
  unfold atI ixN
  simp
theorem atm1 {α : Type} {x : α} : atI [x] (-1) = some x := by
  unfold atI ixN
  simp
theorem f_len {z : Bool} {x : Val} : E (biM .len z [x] h) Q X = OE (seqOf h x) fun ws => Q (.int ws.length) h := by
  simp only [biM]
  cases seqOf h x <;> rfl
theorem f_max1 {z : Bool} {x : Val} : E (biM .max1 z [x] h) Q X = OE (lstOf h x) fun ws => OE (intsOf ws) fun is => OE (maxI is) fun m => Q (.int m) h := by
  simp only [biM]
  cases lstOf h x with
  | none => rfl
  | some ws =>
    simp only [OE]
    cases intsOf ws with
    | none => rfl
    | some is => simp only []; cases maxI is <;> rfl
theorem f_max2 {z : Bool} {i j : Int} : E (biM .max2 z [.int i, .int j] h) Q X = Q (.int (if j > i then j else i)) h := rfl
theorem f_min2 {z : Bool} {i j : Int} : E (biM .min2 z [.int i, .int j] h) Q X = Q (.int (if j < i then j else i)) h := rfl
theorem f_abs {z : Bool} {i : Int} : E (biM .abs z [.int i] h) Q X = Q (.int (if i < 0 then -i else i)) h := rfl
theorem f_sum {z : Bool} {x : Val} : E (biM .sum z [x] h) Q X = OE (lstOf h x) fun ws => OE (intsOf ws) fun is => Q (.int is.sum) h := by
  simp only [biM]
  cases lstOf h x with
  | none => rfl
  | some ws => simp only [OE]; cases intsOf ws <;> rfl
theorem f_all {z : Bool} {x : Val} : E (biM .all z [x] h) Q X = OE (lstOf h x) fun ws => OE (blsOf ws) fun bs => Q (.bl (bs.all id)) h := by
  simp only [biM]
  cases lstOf h x with
  | none => rfl
  | some ws => simp only [OE]; cases blsOf ws <;> rfl
theorem f_any {z : Bool} {x : Val} : E (biM .any z [x] h) Q X = OE (lstOf h x) fun ws => OE (blsOf ws) fun bs => Q (.bl (bs.any id)) h := by
  simp only [biM]
  cases lstOf h x with
  | none => rfl
  | some ws => simp only [OE]; cases blsOf ws <;> rfl
theorem f_sorted {z : Bool} {x : Val} : E (biM .sorted z [x] h) Q X = OE (lstOf h x) fun ws => OE (sortM ws) fun r => E (mkL z r h) Q X := by
  simp only [biM]
  cases lstOf h x with
  | none => rfl
  | some ws => simp only [OE]; cases sortM ws <;> rfl
theorem f_list {z : Bool} {x : Val} : E (biM .list z [x] h) Q X = OE (seqOf h x) fun ws => E (mkL z ws h) Q X := by
  simp only [biM]
  cases seqOf h x <;> rfl
theorem f_tuple {z : Bool} {x : Val} : E (biM .tuple z [x] h) Q X = OE (lstOf h x) fun ws => Q (.tup ws) h := by
  simp only [biM]
  cases lstOf h x <;> rfl
theorem f_toIntb {z b : Bool} : E (biM .toInt z [.bl b] h) Q X = Q (.int (if b then 1 else 0)) h := rfl
theorem f_toInti {z : Bool} {i : Int} : E (biM .toInt z [.int i] h) Q X = Q (.int i) h := rfl
theorem f_sortedSet {z : Bool} {x : Val} : E (biM .sortedSet z [x] h) Q X = OE (lstOf h x) fun ws => OE (intsOf ws) fun is => is.length < 64 ∧ E (mkL z ((sortI (nubI is)).map .int) h) Q X := by
  simp only [biM]
  cases lstOf h x with
  | none => rfl
  | some ws =>
    simp only [OE]
    cases intsOf ws with
    | none => rfl
    | some is =>
      simp only []
      split
      · rename_i k; simp [k]
      · rename_i k; simp [k, E]
theorem f_lenSet {z : Bool} {x : Val} : E (biM .lenSet z [x] h) Q X = OE (lstOf h x) fun ws => OE (intsOf ws) fun is => is.length < 64 ∧ Q (.int (nubI is).length) h := by
  simp only [biM]
  cases lstOf h x with
  | none => rfl
  | some ws =>
    simp only [OE]
    cases intsOf ws with
    | none => rfl
    | some is =>
      simp only []
      split
      · rename_i k; simp [k, E]
      · rename_i k; simp [k, E]
end
/-- a def, asked by values alone, tells w -/
def Pf (cl : CallF) (f : Nat) (ws : List Val) (w : Val) : Prop := (∃ v h, cl f ws [] [] = .ok v h ∧ froz h v = some w) ∧ clean w = true
/-- it refuses -/
def Px (cl : CallF) (f : Nat) (ws : List Val) (k : Nat) : Prop := ∃ h, cl f ws [] [] = .exc k h
mutual
theorem closed_of_clean : ∀ (v : Val), clean v = true → closed v = true
  | .non, _ => rfl
  | .bl _, _ => rfl
  | .int _, _ => rfl
  | .str _, _ => rfl
  | .err _, _ => rfl
  | .tup vs, c => by unfold clean at c; unfold closed; exact closedL_of_clean vs c
  | .lst _ vs, c => by unfold clean at c; rw [Bool.and_eq_true] at c; unfold closed; exact closedL_of_clean vs c.2
  | .dct _ _ vs, c => by unfold clean at c; rw [Bool.and_eq_true] at c; unfold closed; exact closedL_of_clean vs c.2
  | .obj _ _ _ vs, c => by unfold clean at c; rw [Bool.and_eq_true] at c; unfold closed; exact closedL_of_clean vs c.2
  | .ref _, c => by unfold clean at c; exact absurd c (by decide)
  | .clo _ _, c => by unfold clean at c; exact absurd c (by decide)
theorem closedL_of_clean : ∀ (vs : List Val), cleanL vs = true → closedL vs = true
  | [], _ => rfl
  | v :: vs, c => by
    unfold cleanL at c
    rw [Bool.and_eq_true] at c
    unfold closedL
    rw [closed_of_clean v c.1, closedL_of_clean vs c.2]
    rfl
end
theorem Pf.closed {cl : CallF} {f : Nat} {ws : List Val} {w : Val} (p : Pf cl f ws w) : closed w = true := closed_of_clean w p.2
theorem Pf.of_ok {cl : CallF} {f : Nat} {ws : List Val} {w : Val} {h : Hm} (r : cl f ws [] [] = .ok w h) (c : clean w = true) : Pf cl f ws w := ⟨⟨w, h, r, froz_closed (closed_of_clean w c)⟩, c⟩
theorem Pf.uniq {cl : CallF} {f : Nat} {ws : List Val} {w w' : Val} (p : Pf cl f ws w) (q : Pf cl f ws w') : w = w' := by
  obtain ⟨⟨v, h, e, z⟩, _⟩ := p
  obtain ⟨⟨v', h', e', z'⟩, _⟩ := q
  rw [e] at e'
  cases e'
  rw [z] at z'
  exact Option.some.inj z'
theorem e_pur {cl : CallF} {fr : Fr} {f : Nat} {vs ws : List Val} {h : Hm} {w : Val} {Q : Val → Hm → Prop} {X : Nat → Hm → Prop} (s : snapL h vs = some ws) (p : Pf cl f ws w) (q : Q w h) : E (callM cl .pur f vs h fr) Q X := by
  obtain ⟨⟨v, h', r, z⟩, c⟩ := p
  rw [pure_ok s r z c]
  exact q
/-- closed arguments -/
theorem e_pc {cl : CallF} {fr : Fr} {f : Nat} {vs : List Val} {h : Hm} {w : Val} {Q : Val → Hm → Prop} {X : Nat → Hm → Prop} (p : Pf cl f vs w) (c : closedL vs = true) (q : Q w h) : E (callM cl .pur f vs h fr) Q X := e_pur (snapL_closed c) p q
theorem e_run {T : Tab} {F : Nat → Option Fn} {n f : Nat} {d : Fn} {vs : List Val} {h : Hm} {Q : Val → Hm → Prop} {X : Nat → Hm → Prop} (e : F f = some d) (l : vs.length = d.np) (k : d.np ≤ d.ns)
    (w : W (exS T (run T F n) (lc0 T F n) d.body (vs.map some ++ List.replicate (d.ns - d.np) none) h) (fun _ h => Q .non h) Q (fun k _ h => X k h)) (z : d.lams = [] := by rfl) (t : d.tk = false := by rfl) : E (run0 T F (n + 1) f vs h) Q X := by
  rw [run_at e l k z t, E_fin]
  exact w
def wp := And.intro @e_var <| And.intro @e_cst <| And.intro @e_bin <| And.intro @e_neg <| And.intro @e_cmp <| And.intro @e_cmp2 <| And.intro @e_cmp3 <| And.intro @e_not <| And.intro @e_and <| And.intro @e_or <| And.intro @e_ite <| And.intro @e_idx <| And.intro @e_slc <| And.intro @e_rev <| And.intro @e_fld <| And.intro @e_tup <| And.intro @e_lst <| And.intro @e_dct <| And.intro @e_call <| And.intro @e_bi <| And.intro @e_meth <| And.intro @e_ocall <| And.intro @e_new <| And.intro @e_isi <| And.intro @a_nil <| And.intro @a_cons <| And.intro @p_omit <| And.intro @p_part <| And.intro @i_seq <| And.intro @i_rng <| And.intro @i_enum <| And.intro @i_zip <| And.intro @s_nil <| And.intro @s_pass <| And.intro @s_seq <| And.intro @s_asg <| And.intro @s_par <| And.intro @s_setI <| And.intro @s_setF <| And.intro @s_aug <| And.intro @s_augF <| And.intro @s_ex <| And.intro @s_ite <| And.intro @s_ret <| And.intro @s_retN <| @s_rais
def wo := And.intro @b_add <| And.intro @b_sub <| And.intro @i_add <| And.intro @i_sub <| And.intro @c_lt <| And.intro @c_le <| And.intro @c_gt <| And.intro @c_ge <| And.intro @c_eq <| And.intro @c_ne <| And.intro @c_eqs <| And.intro @c_nes <| And.intro @c_is <| And.intro @c_isn <| And.intro @is_non <| And.intro @is_int <| And.intro @is_tup <| And.intro @is_lst <| And.intro @is_ref <| And.intro @is_bl <| And.intro @map_not <| And.intro @oe_some <| And.intro @oe_none <| And.intro @lk_some <| And.intro @br_t <| And.intro @br_f <| And.intro @asI_int <| And.intro @E_ok' <| And.intro @x_int <| And.intro @so_tup <| And.intro @so_lst <| And.intro @lo_lst <| And.intro @src_tup <| And.intro @src_lst <| And.intro @mk_t <| And.intro @mk_f <| And.intro @at0 <| And.intro @at1 <| And.intro @at2 <| And.intro @at3 <| And.intro @atm1 <| And.intro @atm2 <| And.intro @atm3 <| And.intro @f_len <| And.intro @f_max1 <| And.intro @f_max2 <| And.intro @f_min2 <| And.intro @f_abs <| And.intro @f_sum <| And.intro @f_all <| And.intro @f_any <| And.intro @f_sorted <| And.intro @f_list <| And.intro @f_tuple <| And.intro @f_toIntb <| And.intro @f_toInti <| And.intro @f_sortedSet <| @f_lenSet
theorem bp_nm {i : Nat} {v : Val} {e : En} {Q : En → Prop} : OE (bindP (.nm i) v e) Q = (i < e.length ∧ Q (e.set i (some v))) := by
  unfold bindP
  split
  · rename_i k; simp [OE, k]
  · rename_i k; simp [OE, k]
theorem bp_tp {q : Pat} {vs : List Val} {e : En} {Q : En → Prop} : OE (bindP (.tp q) (.tup vs) e) Q = OE (bindPs q vs e) Q := by rw [bindP]
theorem bp_nil {e : En} {Q : En → Prop} : OE (bindPs .nil [] e) Q = Q e := by rw [bindPs]; rfl
theorem bp_cons {p q : Pat} {v : Val} {vs : List Val} {e : En} {Q : En → Prop} : OE (bindPs (.cons p q) (v :: vs) e) Q = OE (bindP p v e) fun e' => OE (bindPs q vs e') Q := by
  rw [bindPs]
  cases bindP p v e <;> rfl
theorem sa_nil {e : En} {Q : En → Prop} : OE (setAll [] [] e) Q = Q e := rfl
theorem sa_cons {i : Nat} {is : List Nat} {v : Val} {vs : List Val} {e : En} {Q : En → Prop} : OE (setAll (i :: is) (v :: vs) e) Q = (i < e.length ∧ OE (setAll is vs (e.set i (some v))) Q) := by
  show OE (if i < e.length then setAll is vs (e.set i (some v)) else none) Q = _
  split
  · rename_i k; simp [k]
  · rename_i k; simp [OE, k]
theorem wm_nil {e : En} : wipeM e [] = e := rfl
theorem wm_cons {e : En} {v : Nat} {vs : List Nat} : wipeM e (v :: vs) = (wipeM e vs).set v none := rfl
def wl := And.intro @bp_nm <| And.intro @bp_tp <| And.intro @bp_nil <| And.intro @bp_cons <| And.intro @sa_nil <| And.intro @sa_cons <| And.intro @wm_nil <| And.intro @wm_cons <| And.intro @List.map_cons.{0,0} <| And.intro @List.map_nil.{0,0} <| And.intro @List.cons_append.{0} <| And.intro @List.nil_append.{0} <| And.intro @List.getElem?_cons_zero.{0} <| And.intro @List.getElem?_cons_succ.{0} <| And.intro @List.set_cons_zero.{0} <| And.intro @List.set_cons_succ.{0} <| And.intro @List.length_cons.{0} <| @List.length_nil.{0}
theorem isi_non_int {T : Tab} {h : Hm} : isiX T h .non .int = some false := rfl
theorem isi_non_bool {T : Tab} {h : Hm} : isiX T h .non .bool = some false := rfl
theorem isi_non_str {T : Tab} {h : Hm} : isiX T h .non .str = some false := rfl
theorem isi_non_list {T : Tab} {h : Hm} : isiX T h .non .list = some false := rfl
theorem isi_non_tuple {T : Tab} {h : Hm} : isiX T h .non .tuple = some false := rfl
theorem isi_non_cls {T : Tab} {h : Hm} {j : Nat} : isiX T h .non (.cls j) = some false := rfl
theorem isi_bl_int {T : Tab} {h : Hm} {b : Bool} : isiX T h (.bl b) .int = some true := rfl
theorem isi_bl_bool {T : Tab} {h : Hm} {b : Bool} : isiX T h (.bl b) .bool = some true := rfl
theorem isi_bl_str {T : Tab} {h : Hm} {b : Bool} : isiX T h (.bl b) .str = some false := rfl
theorem isi_bl_list {T : Tab} {h : Hm} {b : Bool} : isiX T h (.bl b) .list = some false := rfl
theorem isi_bl_tuple {T : Tab} {h : Hm} {b : Bool} : isiX T h (.bl b) .tuple = some false := rfl
theorem isi_bl_cls {T : Tab} {h : Hm} {j : Nat} {b : Bool} : isiX T h (.bl b) (.cls j) = some false := rfl
theorem isi_int_int {T : Tab} {h : Hm} {i : Int} : isiX T h (.int i) .int = some true := rfl
theorem isi_int_bool {T : Tab} {h : Hm} {i : Int} : isiX T h (.int i) .bool = some false := rfl
theorem isi_int_str {T : Tab} {h : Hm} {i : Int} : isiX T h (.int i) .str = some false := rfl
theorem isi_int_list {T : Tab} {h : Hm} {i : Int} : isiX T h (.int i) .list = some false := rfl
theorem isi_int_tuple {T : Tab} {h : Hm} {i : Int} : isiX T h (.int i) .tuple = some false := rfl
theorem isi_int_cls {T : Tab} {h : Hm} {j : Nat} {i : Int} : isiX T h (.int i) (.cls j) = some false := rfl
theorem isi_str_int {T : Tab} {h : Hm} {n : Nat} : isiX T h (.str n) .int = some false := rfl
theorem isi_str_bool {T : Tab} {h : Hm} {n : Nat} : isiX T h (.str n) .bool = some false := rfl
theorem isi_str_str {T : Tab} {h : Hm} {n : Nat} : isiX T h (.str n) .str = some true := rfl
theorem isi_str_list {T : Tab} {h : Hm} {n : Nat} : isiX T h (.str n) .list = some false := rfl
theorem isi_str_tuple {T : Tab} {h : Hm} {n : Nat} : isiX T h (.str n) .tuple = some false := rfl
theorem isi_str_cls {T : Tab} {h : Hm} {j : Nat} {n : Nat} : isiX T h (.str n) (.cls j) = some false := rfl
theorem isi_tup_int {T : Tab} {h : Hm} {vs : List Val} : isiX T h (.tup vs) .int = some false := rfl
theorem isi_tup_bool {T : Tab} {h : Hm} {vs : List Val} : isiX T h (.tup vs) .bool = some false := rfl
theorem isi_tup_str {T : Tab} {h : Hm} {vs : List Val} : isiX T h (.tup vs) .str = some false := rfl
theorem isi_tup_list {T : Tab} {h : Hm} {vs : List Val} : isiX T h (.tup vs) .list = some false := rfl
theorem isi_tup_tuple {T : Tab} {h : Hm} {vs : List Val} : isiX T h (.tup vs) .tuple = some true := rfl
theorem isi_tup_cls {T : Tab} {h : Hm} {j : Nat} {vs : List Val} : isiX T h (.tup vs) (.cls j) = some false := rfl
theorem isi_lst_int {T : Tab} {h : Hm} {c : Fz} {vs : List Val} : isiX T h (.lst c vs) .int = some false := rfl
theorem isi_lst_bool {T : Tab} {h : Hm} {c : Fz} {vs : List Val} : isiX T h (.lst c vs) .bool = some false := rfl
theorem isi_lst_str {T : Tab} {h : Hm} {c : Fz} {vs : List Val} : isiX T h (.lst c vs) .str = some false := rfl
theorem isi_lst_list {T : Tab} {h : Hm} {c : Fz} {vs : List Val} : isiX T h (.lst c vs) .list = some true := rfl
theorem isi_lst_tuple {T : Tab} {h : Hm} {c : Fz} {vs : List Val} : isiX T h (.lst c vs) .tuple = some false := rfl
theorem isi_lst_cls {T : Tab} {h : Hm} {j : Nat} {c : Fz} {vs : List Val} : isiX T h (.lst c vs) (.cls j) = some false := rfl
theorem isi_dct_int {T : Tab} {h : Hm} {c : Fz} {ks : List MKey} {vs : List Val} : isiX T h (.dct c ks vs) .int = some false := rfl
theorem isi_dct_bool {T : Tab} {h : Hm} {c : Fz} {ks : List MKey} {vs : List Val} : isiX T h (.dct c ks vs) .bool = some false := rfl
theorem isi_dct_str {T : Tab} {h : Hm} {c : Fz} {ks : List MKey} {vs : List Val} : isiX T h (.dct c ks vs) .str = some false := rfl
theorem isi_dct_list {T : Tab} {h : Hm} {c : Fz} {ks : List MKey} {vs : List Val} : isiX T h (.dct c ks vs) .list = some false := rfl
theorem isi_dct_tuple {T : Tab} {h : Hm} {c : Fz} {ks : List MKey} {vs : List Val} : isiX T h (.dct c ks vs) .tuple = some false := rfl
theorem isi_dct_cls {T : Tab} {h : Hm} {j : Nat} {c : Fz} {ks : List MKey} {vs : List Val} : isiX T h (.dct c ks vs) (.cls j) = some false := rfl
theorem isi_obj_int {T : Tab} {h : Hm} {c : Fz} {k : Nat} {fs : List Nat} {vs : List Val} : isiX T h (.obj c k fs vs) .int = some false := rfl
theorem isi_obj_bool {T : Tab} {h : Hm} {c : Fz} {k : Nat} {fs : List Nat} {vs : List Val} : isiX T h (.obj c k fs vs) .bool = some false := rfl
theorem isi_obj_str {T : Tab} {h : Hm} {c : Fz} {k : Nat} {fs : List Nat} {vs : List Val} : isiX T h (.obj c k fs vs) .str = some false := rfl
theorem isi_obj_list {T : Tab} {h : Hm} {c : Fz} {k : Nat} {fs : List Nat} {vs : List Val} : isiX T h (.obj c k fs vs) .list = some false := rfl
theorem isi_obj_tuple {T : Tab} {h : Hm} {c : Fz} {k : Nat} {fs : List Nat} {vs : List Val} : isiX T h (.obj c k fs vs) .tuple = some false := rfl
theorem isi_obj_cls {T : Tab} {h : Hm} {j : Nat} {c : Fz} {k : Nat} {fs : List Nat} {vs : List Val} : isiX T h (.obj c k fs vs) (.cls j) = some ((T.sup k).contains j) := rfl
theorem isi_err_int {T : Tab} {h : Hm} {k : Nat} : isiX T h (.err k) .int = some false := rfl
theorem isi_err_bool {T : Tab} {h : Hm} {k : Nat} : isiX T h (.err k) .bool = some false := rfl
theorem isi_err_str {T : Tab} {h : Hm} {k : Nat} : isiX T h (.err k) .str = some false := rfl
theorem isi_err_list {T : Tab} {h : Hm} {k : Nat} : isiX T h (.err k) .list = some false := rfl
theorem isi_err_tuple {T : Tab} {h : Hm} {k : Nat} : isiX T h (.err k) .tuple = some false := rfl
def wi := And.intro @isi_err_int <| And.intro @isi_err_bool <| And.intro @isi_err_str <| And.intro @isi_err_list <| And.intro @isi_err_tuple <| And.intro @isi_non_int <| And.intro @isi_non_bool <| And.intro @isi_non_str <| And.intro @isi_non_list <| And.intro @isi_non_tuple <| And.intro @isi_non_cls <| And.intro @isi_bl_int <| And.intro @isi_bl_bool <| And.intro @isi_bl_str <| And.intro @isi_bl_list <| And.intro @isi_bl_tuple <| And.intro @isi_bl_cls <| And.intro @isi_int_int <| And.intro @isi_int_bool <| And.intro @isi_int_str <| And.intro @isi_int_list <| And.intro @isi_int_tuple <| And.intro @isi_int_cls <| And.intro @isi_str_int <| And.intro @isi_str_bool <| And.intro @isi_str_str <| And.intro @isi_str_list <| And.intro @isi_str_tuple <| And.intro @isi_str_cls <| And.intro @isi_tup_int <| And.intro @isi_tup_bool <| And.intro @isi_tup_str <| And.intro @isi_tup_list <| And.intro @isi_tup_tuple <| And.intro @isi_tup_cls <| And.intro @isi_lst_int <| And.intro @isi_lst_bool <| And.intro @isi_lst_str <| And.intro @isi_lst_list <| And.intro @isi_lst_tuple <| And.intro @isi_lst_cls <| And.intro @isi_dct_int <| And.intro @isi_dct_bool <| And.intro @isi_dct_str <| And.intro @isi_dct_list <| And.intro @isi_dct_tuple <| And.intro @isi_dct_cls <| And.intro @isi_obj_int <| And.intro @isi_obj_bool <| And.intro @isi_obj_str <| And.intro @isi_obj_list <| And.intro @isi_obj_tuple <| @isi_obj_cls
end MP
set_option Elab.async false
set_option linter.all false
set_option maxRecDepth 100000
set_option autoImplicit false
namespace MP
open PySem L2
/-- what is `is_between` -/
def btw (v : Val) (a b : Int) : Bool := match v with
  | .int i => decide (a ≤ i) && decide (i ≤ b)
  | _ => false
def inL (vs : List Val) : List Int := vs.filterMap intOf
def heirsOk (v : Val) : Bool := match v with
  | .lst _ vs => decide (1 ≤ vs.length) && decide (vs.length ≤ 3) && vs.all (btw · 0 9) && decide ((nubI (inL vs)).length = vs.length)
  | _ => false
def termOk (v : Val) (k : Int) : Bool := match v with
  | .tup [.str 0, x] => btw x 0 60
  | .tup [.str 1, x, y] => btw y 0 20 && btw x 0 5
  | .tup [.str 2, x, y] => btw y 0 20 && btw x 0 (k - 1)
  | _ => false
def letterOk (v : Val) (k : Int) : Bool := match v with
  | .tup [a, .lst _ ts] => heirsOk a && decide (1 ≤ ts.length) && decide (ts.length ≤ 4) && ts.all (termOk · k)
  | _ => false
def lettersOk (v : Val) : Bool := match v with
  | .lst _ vs => decide (1 ≤ vs.length) && decide (vs.length ≤ 40) && vs.zipIdx.all fun p => letterOk p.1 (p.2 : Nat)
  | _ => false
def dayOk (v : Val) : Bool := match v with
  | .non => true
  | v => btw v 0 60
def daysOk (v : Val) (k : Int) : Bool := match v with
  | .lst _ vs => decide ((vs.length : Int) = k) && vs.all dayOk
  | _ => false
section
variable {T : Tab} {F : Nat → Option Fn} {n : Nat} {h : Hm}
theorem closedL_iff {vs : List Val} : closedL vs = true ↔ ∀ v ∈ vs, closed v = true := by
  induction vs with
  | nil => simp [closedL]
  | cons v vs ih => simp [closedL, ih]
theorem cleanL_iff {vs : List Val} : cleanL vs = true ↔ ∀ v ∈ vs, clean v = true := by
  induction vs with
  | nil => simp [cleanL]
  | cons v vs ih => simp [cleanL, ih]
mutual
theorem closed_data : ∀ (v : Val) (n : Nat), isData n v = true → closed v = true
  | .non, n, _ => rfl
  | .bl _, n, _ => rfl
  | .int _, n, _ => rfl
  | .str _, n, _ => rfl
  | .err _, n, _ => rfl
  | .tup vs, n, d => by
    cases n with
    | zero => simp [isData] at d
    | succ n =>
      unfold isData at d
      unfold closed
      exact closedL_data vs n d
  | .lst _ vs, n, d => by
    cases n with
    | zero => simp [isData] at d
    | succ n =>
      unfold isData at d
      unfold closed
      exact closedL_data vs n d
  | .dct _ _ vs, n, d => by cases n <;> simp [isData] at d
  | .obj _ _ _ vs, n, d => by cases n <;> simp [isData] at d
  | .ref _, n, d => by cases n <;> simp [isData] at d
  | .clo _ _, n, d => by cases n <;> simp [isData] at d
theorem closedL_data : ∀ (vs : List Val) (n : Nat), vs.all (isData n) = true → closedL vs = true
  | [], n, _ => rfl
  | v :: vs, n, d => by
    rw [List.all_cons, Bool.and_eq_true] at d
    unfold closedL
    rw [closed_data v n d.1, closedL_data vs n d.2]
    rfl
end
theorem clean_lst {vs : List Val} : clean (.lst .own vs) = cleanL vs := by simp [clean]
/-- a look that refuses or goes by -/
def Gate (cl : CallF) (f : Nat) (vs : List Val) (o : Option Nat) : Prop := match o with
  | none => Pf cl f vs .non
  | some k => Px cl f vs k
theorem Gate.of {cl : CallF} {f : Nat} {vs : List Val} {o : Option Nat} (r : E (cl f vs [] []) (fun w _ => w = .non ∧ o = none) (fun j _ => o = some j)) : Gate cl f vs o := by
  cases q : cl f vs [] [] with
  | ok w g =>
    rw [q] at r
    obtain ⟨rfl, rfl⟩ := r
    exact Pf.of_ok q rfl
  | exc j g =>
    rw [q] at r
    have r : o = some j := r
    subst r
    exact ⟨g, q⟩
  | bad => rw [q] at r; exact r.elim
end
end MP
set_option Elab.async false
set_option linter.all false
set_option maxRecDepth 100000
set_option autoImplicit false
namespace MP
open PySem L2
mutual
def er : Val → Val
  | .tup vs => .tup (erL vs)
  | .lst _ vs => .lst .own (erL vs)
  | .dct _ ks vs => .dct .own ks (erL vs)
  | .obj _ k fs vs => .obj .own k fs (erL vs)
  | .non => .non
  | .bl b => .bl b
  | .int i => .int i
  | .str n => .str n
  | .ref i => .ref i
  | .err k => .err k
  | .clo l c => .clo l c
def erL : List Val → List Val
  | [] => []
  | v :: vs => er v :: erL vs
end
mutual
theorem er_er : ∀ v : Val, er (er v) = er v
  | .tup vs => by simp [er, erL_erL vs]
  | .lst _ vs => by simp [er, erL_erL vs]
  | .dct _ _ vs => by simp [er, erL_erL vs]
  | .obj _ _ _ vs => by simp [er, erL_erL vs]
  | .non => rfl
  | .bl _ => rfl
  | .int _ => rfl
  | .str _ => rfl
  | .ref _ => rfl
  | .err _ => rfl
  | .clo _ _ => rfl
theorem erL_erL : ∀ vs : List Val, erL (erL vs) = erL vs
  | [] => rfl
  | v :: vs => by simp [erL, er_er v, erL_erL vs]
end
mutual
theorem eqV_er : ∀ a b : Val, eqV (er a) (er b) = eqV a b
  | .tup vs, b => by cases b <;> simp [er, eqV, eqVs_er]
  | .lst _ vs, b => by cases b <;> simp [er, eqV, eqVs_er]
  | .dct _ _ vs, b => by cases b <;> simp [er, eqV]
  | .obj _ _ _ vs, b => by cases b <;> simp [er, eqV]
  | .non, b => by cases b <;> simp [er, eqV]
  | .bl _, b => by cases b <;> simp [er, eqV]
  | .int _, b => by cases b <;> simp [er, eqV]
  | .str _, b => by cases b <;> simp [er, eqV]
  | .ref _, b => by cases b <;> simp [er, eqV]
  | .err _, b => by cases b <;> simp [er, eqV]
  | .clo _ _, b => by cases b <;> simp [er, eqV]
theorem eqVs_er : ∀ a b : List Val, eqVs (erL a) (erL b) = eqVs a b
  | [], [] => rfl
  | [], _ :: _ => rfl
  | _ :: _, [] => rfl
  | a :: as, b :: bs => by simp [erL, eqVs, eqV_er a b, eqVs_er as bs]
end
mutual
theorem isData_er : ∀ (v : Val) (n : Nat), isData n (er v) = isData n v
  | .tup vs, n => by cases n <;> simp [er, isData, isDataL_er]
  | .lst _ vs, n => by cases n <;> simp [er, isData, isDataL_er]
  | .dct _ _ vs, n => by cases n <;> simp [er, isData]
  | .obj _ _ _ vs, n => by cases n <;> simp [er, isData]
  | .non, n => rfl
  | .bl _, n => rfl
  | .int _, n => rfl
  | .str _, n => rfl
  | .ref _, n => rfl
  | .err _, n => rfl
  | .clo _ _, n => rfl
theorem isDataL_er : ∀ (vs : List Val) (n : Nat), (erL vs).all (isData n) = vs.all (isData n)
  | [], n => rfl
  | v :: vs, n => by simp only [erL, List.all_cons, isData_er v n, isDataL_er vs n]
end
mutual
theorem eqV_refl : ∀ (v : Val) (n : Nat), isData n v = true → eqV v v = true
  | .tup vs, n, d => by
    cases n with
    | zero => simp [isData] at d
    | succ n => unfold isData at d; unfold eqV; exact eqVs_refl vs n d
  | .lst _ vs, n, d => by
    cases n with
    | zero => simp [isData] at d
    | succ n => unfold isData at d; unfold eqV; exact eqVs_refl vs n d
  | .dct _ _ vs, n, d => by cases n <;> simp [isData] at d
  | .obj _ _ _ vs, n, d => by cases n <;> simp [isData] at d
  | .non, n, d => rfl
  | .bl _, n, d => by simp [eqV]
  | .int _, n, d => by simp [eqV]
  | .str _, n, d => by simp [eqV]
  | .ref _, n, d => by cases n <;> simp [isData] at d
  | .err _, n, d => by cases n <;> simp [isData] at d
  | .clo _ _, n, d => by cases n <;> simp [isData] at d
theorem eqVs_refl : ∀ (vs : List Val) (n : Nat), vs.all (isData n) = true → eqVs vs vs = true
  | [], n, d => rfl
  | v :: vs, n, d => by
    rw [List.all_cons, Bool.and_eq_true] at d
    unfold eqVs
    rw [eqV_refl v n d.1, eqVs_refl vs n d.2]
    rfl
end
mutual
theorem closed_er : ∀ (v : Val), closed (er v) = closed v
  | .tup vs => by simp [er, closed, closedL_er vs]
  | .lst _ vs => by simp [er, closed, closedL_er vs]
  | .dct _ _ vs => by simp [er, closed, closedL_er vs]
  | .obj _ _ _ vs => by simp [er, closed, closedL_er vs]
  | .non => rfl
  | .bl _ => rfl
  | .int _ => rfl
  | .str _ => rfl
  | .ref _ => rfl
  | .err _ => rfl
  | .clo _ _ => rfl
theorem closedL_er : ∀ (vs : List Val), closedL (erL vs) = closedL vs
  | [] => rfl
  | v :: vs => by simp [erL, closedL, closed_er v, closedL_er vs]
end
inductive Term where
  | day (d : Int) | when (j d : Int) | after (j d : Int)
  deriving DecidableEq
def encT : Term → Val
  | .day d => .tup [.str 0, .int d]
  | .when j d => .tup [.str 1, .int j, .int d]
  | .after j d => .tup [.str 2, .int j, .int d]
def encO : Option Int → Val
  | none => .non
  | some d => .int d
structure Letter where
  heirs : List Int
  terms : List Term
  deriving DecidableEq
def encL (l : Letter) : Val := .tup [.lst .own (l.heirs.map .int), .lst .own (l.terms.map encT)]
def encLs (ls : List Letter) : Val := .lst .own (ls.map encL)
def encR (row : List (Option Int)) : Val := .lst .own (row.map encO)
def encSp : Option (Int × Int) → Val
  | none => .non
  | some (a, b) => .tup [.int a, .int b]
def encSs (row : List (Option (Int × Int))) : Val := .lst .own (row.map encSp)
def VT (k : Int) : Term → Prop
  | .day d => 0 ≤ d ∧ d ≤ 60
  | .when j d => (0 ≤ j ∧ j ≤ 5) ∧ 0 ≤ d ∧ d ≤ 20
  | .after j d => (0 ≤ j ∧ j ≤ k - 1) ∧ 0 ≤ d ∧ d ≤ 20
structure VLet (k : Int) (l : Letter) : Prop where
  h1 : 1 ≤ l.heirs.length
  h3 : l.heirs.length ≤ 3
  hb : ∀ x ∈ l.heirs, 0 ≤ x ∧ x ≤ 9
  hn : l.heirs.Nodup
  t1 : 1 ≤ l.terms.length
  t4 : l.terms.length ≤ 4
  tt : ∀ t ∈ l.terms, VT k t
structure VL (ls : List Letter) : Prop where
  l1 : 1 ≤ ls.length
  l40 : ls.length ≤ 40
  ok : ∀ (k : Nat) (l : Letter), ls[k]? = some l → VLet k l
def VO (o : Option Int) : Prop := ∀ d, o = some d → 0 ≤ d ∧ d ≤ 60
structure VD (n : Nat) (row : List (Option Int)) : Prop where
  len : row.length = n
  ok : ∀ o ∈ row, VO o
def VS1 (o : Option (Int × Int)) : Prop := ∀ a b, o = some (a, b) → 0 ≤ a ∧ a ≤ b ∧ b ≤ 60
structure VS (row : List (Option (Int × Int))) : Prop where
  len : row.length = 6
  ok : ∀ o ∈ row, VS1 o
theorem nubI_le : ∀ is : List Int, (nubI is).length ≤ is.length
  | [] => Nat.le_refl _
  | x :: xs => by
    unfold nubI
    have := nubI_le xs
    split <;> simp <;> omega
theorem nodup_nubI : ∀ {is : List Int}, (nubI is).length = is.length → is.Nodup
  | [], _ => List.nodup_nil
  | x :: xs, h => by
    unfold nubI at h
    have l := nubI_le xs
    split at h
    · simp at h; omega
    · rename_i n
      simp at h
      rw [List.nodup_cons]
      exact ⟨by simpa using n, nodup_nubI h⟩
theorem inL_ints (is : List Int) : inL (is.map .int) = is := by
  unfold inL
  induction is with
  | nil => rfl
  | cons a l ih => simp [intOf, ih]
theorem btw_int {i a b : Int} : btw (.int i) a b = true ↔ a ≤ i ∧ i ≤ b := by simp [btw]
end MP
set_option Elab.async false
set_option linter.all false
set_option maxRecDepth 100000
set_option autoImplicit false
namespace MP
open PySem L2
/-- the place in a row, a day or None -/
def rowAt (row : List (Option Int)) (j : Int) : Option Int := (row[j.toNat]?).getD none
def dayOf (days found : List (Option Int)) : Term → Option Int
  | .day d => some d
  | .when j d => (rowAt days j).map (· + d)
  | .after j d => (rowAt found j).map (· + d)
/-- the latest of the terms, if all have a day -/
def latest (l : List (Option Int)) : Option Int := if l.all (·.isSome) then maxI (l.filterMap id) else none
def duesFrom (days : List (Option Int)) : List (Option Int) → List Letter → List (Option Int)
  | acc, [] => acc
  | acc, l :: ls => duesFrom days (acc ++ [latest (l.terms.map (dayOf days acc))]) ls
def dues (days : List (Option Int)) (ls : List Letter) : List (Option Int) := duesFrom days [] ls
theorem closed_encT (t : Term) : closed (encT t) = true := by cases t <;> rfl
theorem closed_encO (t : Option Int) : closed (encO t) = true := by cases t <;> rfl
theorem closed_encSp (t : Option (Int × Int)) : closed (encSp t) = true := by rcases t with _ | ⟨a, b⟩ <;> rfl
theorem closed_map {α : Type} {f : α → Val} (k : ∀ a, closed (f a) = true) {c : Fz} {l : List α} : closed (.lst c (l.map f)) = true := by
  unfold closed
  rw [closedL_iff]
  intro v m
  obtain ⟨a, _, rfl⟩ := List.mem_map.mp m
  exact k a
theorem clean_map {α : Type} {f : α → Val} (k : ∀ a, clean (f a) = true) {l : List α} : clean (.lst .own (l.map f)) = true := by
  rw [clean_lst, cleanL_iff]
  intro v m
  obtain ⟨a, _, rfl⟩ := List.mem_map.mp m
  exact k a
theorem closed_row {c : Fz} {row : List (Option Int)} : closed (.lst c (row.map encO)) = true := closed_map closed_encO
theorem closed_spans {c : Fz} {row : List (Option (Int × Int))} : closed (.lst c (row.map encSp)) = true := closed_map closed_encSp
theorem clean_encT (t : Term) : clean (encT t) = true := by cases t <;> rfl
section
variable {T : Tab} {F : Nat → Option Fn} {n : Nat} {h : Hm}
theorem intsOf_map : ∀ l : List Int, intsOf (l.map .int) = some l
  | [] => rfl
  | a :: l => by simp [intsOf, intsOf_map l]
/-- a def that gives a new list, ours to change -/
def Rf (cl : CallF) (f : Nat) (ws us : List Val) : Prop := ∃ i h, cl f ws [] [] = .ok (.ref i) h ∧ h[i]? = some (.lst us)
theorem Rf.of {cl : CallF} {f : Nat} {ws us : List Val} (r : E (cl f ws [] []) (fun v h => ∃ i, v = .ref i ∧ h[i]? = some (.lst us)) nox) : Rf cl f ws us := by
  obtain ⟨v, h, e, i, rfl, q⟩ := ex_of_E r
  exact ⟨i, h, e, q⟩
theorem Rf.ex {cl : CallF} {f : Nat} {ws : List Val} {α : Type} {g : α → List Val} {P : α → Prop} (r : E (cl f ws [] []) (fun v h => ∃ a, ∃ i, v = .ref i ∧ h[i]? = some (.lst (g a)) ∧ P a) nox) : ∃ a, Rf cl f ws (g a) ∧ P a := by
  obtain ⟨v, h, e, a, i, rfl, q, p⟩ := ex_of_E r
  exact ⟨a, ⟨i, h, e, q⟩, p⟩
theorem Rf.pf {cl : CallF} {f : Nat} {ws us : List Val} (r : Rf cl f ws us) (c : cleanL us = true) : Pf cl f ws (.lst .own us) := by
  obtain ⟨i, h, e, q⟩ := r
  refine ⟨⟨_, h, e, ?_⟩, by rw [clean_lst]; exact c⟩
  simp only [froz, deep, follow, q, deepL_closed us (closedL_of_clean us c)]
end
end MP
set_option Elab.async false
set_option linter.all false
set_option maxRecDepth 100000
set_option autoImplicit false
namespace MP
open PySem L2
def Bd (k : Nat) (i : Int) : Prop := i.natAbs < 2 ^ k
theorem Bd.mono {k l : Nat} {i : Int} (h : Bd k i) (q : k ≤ l) : Bd l i := Nat.lt_of_lt_of_le h (Nat.pow_le_pow_right (by decide) q)
theorem Bd.add {k : Nat} {i j : Int} (a : Bd k i) (b : Bd k j) : Bd (k + 1) (i + j) := by
  unfold Bd at *
  have := Int.natAbs_add_le i j
  rw [Nat.pow_succ]
  omega
theorem Bd.mul {k l : Nat} {i j : Int} (a : Bd k i) (b : Bd l j) : Bd (k + l) (i * j) := by
  unfold Bd at *
  rw [Int.natAbs_mul, Nat.pow_add]
  exact Nat.mul_lt_mul'' a b
theorem Bd.lt {k : Nat} {i : Int} (h0 : 0 ≤ i) (h1 : i < 2 ^ k) : Bd k i := by
  unfold Bd
  have : (i.natAbs : Int) < ((2 ^ k : Nat) : Int) := by
    rw [Int.natAbs_of_nonneg h0]
    simpa using h1
  exact Int.ofNat_lt.mp this
section
variable {T : Tab} {F : Nat → Option Fn} {n : Nat} {h : Hm}
theorem closedL_map {α : Type} {f : α → Val} (k : ∀ a, closed (f a) = true) (l : List α) : closedL (l.map f) = true := closedL_iff.mpr fun v m => by obtain ⟨a, _, rfl⟩ := List.mem_map.mp m; exact k a
theorem clean_encL (l : Letter) : clean (encL l) = true := by
  have h1 : clean (.lst .own (l.heirs.map .int)) = true := clean_map fun _ => rfl
  have h2 : clean (.lst .own (l.terms.map encT)) = true := clean_map clean_encT
  simp only [encL, clean, cleanL, Bool.and_eq_true] at h1 h2 ⊢
  simp [h1.2, h2.2]
/-- the cells of a script -/
structure Cells (K : Nat) (cs : List Int) : Prop where
  ne : 0 < cs.length
  le : cs.length ≤ 63
  bd : ∀ z ∈ cs, Bd K z
theorem Pf.ex {cl : CallF} {f : Nat} {ws : List Val} {α : Type} {g : α → Val} {P : α → Prop} (c : ∀ a, clean (g a) = true) (r : E (cl f ws [] []) (fun v h => ∃ a, froz h v = some (g a) ∧ P a) nox) : ∃ a, Pf cl f ws (g a) ∧ P a := by
  obtain ⟨v, h, e, a, z, p⟩ := ex_of_E r
  exact ⟨a, ⟨⟨v, h, e, z⟩, c a⟩, p⟩
/-- letters with so many at the most -/
structure GL (m : Int) (ls : List Letter) : Prop where
  l1 : 1 ≤ ls.length
  lm : (ls.length : Int) ≤ m
  ok : ∀ (k : Nat) (l : Letter), ls[k]? = some l → VLet k l
theorem GL.vl {m : Int} {ls : List Letter} (g : GL m ls) (h : m ≤ 40) : VL ls := ⟨g.l1, by have := g.lm; omega, g.ok⟩
theorem closed_encL (l : Letter) : closed (encL l) = true := closed_of_clean _ (clean_encL l)
end
end MP
set_option Elab.async false
set_option linter.all false
set_option maxRecDepth 100000
set_option autoImplicit false
namespace MP
open PySem L2
section
variable {T : Tab} {F : Nat → Option Fn} {n : Nat} {h : Hm}
def NN (row : List (Option Int)) : Prop := ∀ o ∈ row, ∀ d, o = some d → 0 ≤ d
theorem VD.nn {n : Nat} {row : List (Option Int)} (v : VD n row) : NN row := fun o m d e => (v.ok o m d e).1
end
end MP
set_option Elab.async false
set_option linter.all false
set_option maxRecDepth 100000
set_option autoImplicit false
namespace MP
open PySem L2
def lterms (l : Letter) : List Val := l.terms.map encT
def lheirs (l : Letter) : List Val := l.heirs.map .int
def tups (b n : Nat) : List Val := (List.range n).map fun i => Val.tup [.ref (b + 2 * i), .ref (b + 2 * i + 1)]
structure Laid (h : Hm) (i b : Nat) (ls : List Letter) : Prop where
  root : h[i]? = some (.lst (tups b ls.length))
  hs : ∀ (k : Nat) (l : Letter), ls[k]? = some l → h[b + 2 * k]? = some (.lst (lheirs l))
  ts : ∀ (k : Nat) (l : Letter), ls[k]? = some l → h[b + 2 * k + 1]? = some (.lst (lterms l))
  out : i < b ∨ b + 2 * ls.length ≤ i
theorem get_app {h t : Hm} {i : Nat} {o : Ob} (e : h[i]? = some o) : (h ++ t)[i]? = some o := by
  rw [List.getElem?_append_left]
  · exact e
  · by_cases l : i < h.length
    · exact l
    · rw [List.getElem?_eq_none (by omega)] at e; cases e
theorem lt_of_getL {α : Type} {h : List α} {i : Nat} {o : α} (e : h[i]? = some o) : i < h.length := by
  by_cases l : i < h.length
  · exact l
  · rw [List.getElem?_eq_none (by omega)] at e; cases e
theorem Laid.app {h : Hm} {i b : Nat} {ls : List Letter} (a : Laid h i b ls) (t : Hm) : Laid (h ++ t) i b ls :=
  ⟨get_app a.root, fun k l e => get_app (a.hs k l e), fun k l e => get_app (a.ts k l e), a.out⟩
theorem tups_get {b n k : Nat} (l : k < n) : (tups b n)[k]? = some (.tup [.ref (b + 2 * k), .ref (b + 2 * k + 1)]) := by
  unfold tups
  rw [List.getElem?_map, List.getElem?_range l]
  rfl
theorem tups_len {b n : Nat} : (tups b n).length = n := by simp [tups]
theorem deepL_of {lk : Nat → Option Val} : ∀ {vs ws : List Val}, vs.length = ws.length → (∀ (k : Nat) (v w : Val), vs[k]? = some v → ws[k]? = some w → deep lk v = some w) → deepL lk vs = some ws
  | [], [], _, _ => by simp [deepL]
  | [], _ :: _, l, _ => by simp at l
  | _ :: _, [], l, _ => by simp at l
  | v :: vs, w :: ws, l, q => by
    have h1 := q 0 v w rfl rfl
    have h2 := deepL_of (vs := vs) (ws := ws) (by simpa using l) fun k v w a b => q (k + 1) v w (by simpa using a) (by simpa using b)
    simp [deepL, h1, h2]
theorem closedL_lheirs (l : Letter) : closedL (lheirs l) = true := closedL_map (fun _ => rfl) _
theorem closedL_lterms (l : Letter) : closedL (lterms l) = true := closedL_map closed_encT _
/-- a value that is one of two -/
def pick (v : Val) (r s : R Val) : R Val := match v with
  | .bl true => r
  | .bl false => s
  | _ => .bad
theorem pick_t {r s : R Val} : pick (.bl true) r s = r := rfl
theorem pick_f {r s : R Val} : pick (.bl false) r s = s := rfl
theorem e_itp {T : Tab} {cl : CallF} {L : LC} {e : En} {h : Hm} {Q : Val → Hm → Prop} {X : Nat → Hm → Prop} {t a b : C} : E (evE T cl L (.ite t a b) e h) Q X = E (evE T cl L t e h) (fun x h => E (pick x (evE T cl L a e h) (evE T cl L b e h)) Q X) X := by
  simp only [evE, E_bind]
  rfl
theorem e_andp {T : Tab} {cl : CallF} {L : LC} {e : En} {h : Hm} {Q : Val → Hm → Prop} {X : Nat → Hm → Prop} {a b : C} : E (evE T cl L (.and a b) e h) Q X = E (evE T cl L a e h) (fun x h => E (pick x (evE T cl L b e h) (.ok (.bl false) h)) Q X) X := by
  simp only [evE, E_bind]
  rfl
/-- a truth turned, once -/
def asB (v : Val) (Q : Bool → Prop) : Prop := match v with
  | .bl b => Q b
  | _ => False
theorem asB_bl {b : Bool} {Q : Bool → Prop} : asB (.bl b) Q = Q b := rfl
theorem e_notb {T : Tab} {cl : CallF} {L : LC} {e : En} {h : Hm} {Q : Val → Hm → Prop} {X : Nat → Hm → Prop} {a : C} : E (evE T cl L (.not a) e h) Q X = E (evE T cl L a e h) (fun x h => asB x fun b => Q (.bl (!b)) h) X := by
  rw [e_not]
  congr; funext x h
  cases x with
  | bl b => cases b <;> rfl
  | _ => rfl
def ws := And.intro @e_var <| And.intro @e_cst <| And.intro @e_bin <| And.intro @e_neg <| And.intro @e_cmp <| And.intro @e_cmp2 <| And.intro @e_cmp3 <| And.intro @e_notb <| And.intro @asB_bl <| And.intro @e_andp <| And.intro @e_or <| And.intro @e_itp <| And.intro @pick_t <| And.intro @pick_f <| And.intro @e_idx <| And.intro @e_slc <| And.intro @e_rev <| And.intro @e_fld <| And.intro @e_tup <| And.intro @e_lst <| And.intro @e_dct <| And.intro @e_call <| And.intro @e_bi <| And.intro @e_meth <| And.intro @e_ocall <| And.intro @e_new <| And.intro @e_isi <| And.intro @a_nil <| And.intro @a_cons <| And.intro @p_omit <| And.intro @p_part <| And.intro @i_seq <| And.intro @i_rng <| And.intro @i_enum <| And.intro @i_zip <| And.intro @s_nil <| And.intro @s_pass <| And.intro @s_seq <| And.intro @s_asg <| And.intro @s_par <| And.intro @s_setI <| And.intro @s_setF <| And.intro @s_aug <| And.intro @s_augF <| And.intro @s_ex <| And.intro @s_ite <| And.intro @s_ret <| And.intro @s_retN <| @s_rais
/-- a letter as it is seen, with lists of such a kind -/
def sL (c : Fz) (l : Letter) : Val := .tup [.lst c (lheirs l), .lst c (lterms l)]
theorem Laid.follow {h : Hm} {i b n : Nat} {ls : List Letter} {c : Fz} (a : Laid h i b ls) : MP.follow (n + 2) c h i = some (.lst c (ls.map (sL c))) := by
  unfold MP.follow
  rw [a.root]
  simp only
  rw [deepL_of (ws := ls.map (sL c)) (by simp [tups_len]) fun k v w e1 e2 => ?_]
  have lk : k < ls.length := by have := lt_of_getL e2; simpa using this
  rw [tups_get lk] at e1
  rw [List.getElem?_map, List.getElem?_eq_getElem lk] at e2
  cases e1
  cases e2
  have el : ls[k]? = some ls[k] := List.getElem?_eq_getElem lk
  simp only [deep, deepL, MP.follow, a.hs k _ el, a.ts k _ el, deepL_closed _ (closedL_lheirs _), deepL_closed _ (closedL_lterms _)]
  rfl
theorem Laid.snap {h : Hm} {i b : Nat} {ls : List Letter} (a : Laid h i b ls) : MP.snap h (.ref i) = some (.lst .bor (ls.map (sL .bor))) := by
  unfold MP.snap
  simp only [deep]
  exact a.follow (n := 7)
/-- a flat list on the heap -/
theorem follow_flat {h : Hm} {i n : Nat} {c : Fz} {vs : List Val} (e : h[i]? = some (.lst vs)) (cl : closedL vs = true) : MP.follow (n + 1) c h i = some (.lst c vs) := by
  unfold MP.follow
  rw [e]
  simp only [deepL_closed _ cl]
theorem closed_encR (r : List (Option Int)) : closed (encR r) = true := closed_row
theorem closed_encLs (ls : List Letter) : closed (encLs ls) = true := closed_map closed_encL
theorem closed_encSs (r : List (Option (Int × Int))) : closed (encSs r) = true := closed_spans
theorem so_encR {h : Hm} {r : List (Option Int)} : seqOf h (encR r) = some (r.map encO) := rfl
theorem so_encLs {h : Hm} {r : List Letter} : seqOf h (encLs r) = some (r.map encL) := rfl
theorem so_encSs {h : Hm} {r : List (Option (Int × Int))} : seqOf h (encSs r) = some (r.map encSp) := rfl
theorem lo_encR {h : Hm} {r : List (Option Int)} : lstOf h (encR r) = some (r.map encO) := rfl
theorem lo_encLs {h : Hm} {r : List Letter} : lstOf h (encLs r) = some (r.map encL) := rfl
theorem lo_encSs {h : Hm} {r : List (Option (Int × Int))} : lstOf h (encSs r) = some (r.map encSp) := rfl
/-- more that is closed, or a list -/
def wd := And.intro @closed_encR <| And.intro @closed_encLs <| And.intro @closed_encSs <| And.intro @closed_encL <| And.intro @so_encR <| And.intro @so_encLs <| And.intro @so_encSs <| And.intro @lo_encR <| And.intro @lo_encLs <| @lo_encSs
theorem VL.set {ls : List Letter} {k : Nat} {l : Letter} (v : VL ls) (q : VLet k l) : VL (ls.set k l) := by
  refine ⟨by rw [List.length_set]; exact v.l1, by rw [List.length_set]; exact v.l40, fun j m e => ?_⟩
  by_cases jk : k = j
  · subst jk
    have lk : k < ls.length := by have := lt_of_getL e; simpa using this
    rw [List.getElem?_set_self lk] at e
    cases e
    exact q
  · rw [List.getElem?_set_ne jk] at e
    exact v.ok j m e
theorem VT_iff {k : Int} {t : Term} : termOk (encT t) k = true ↔ VT k t := by
  cases t <;> simp [VT, termOk, encT, btw] <;> omega
theorem VL.of_ok {ls : List Letter} (h : lettersOk (encLs ls) = true) : VL ls := by
  simp only [encLs, lettersOk, List.length_map, Bool.and_eq_true, decide_eq_true_eq, List.all_eq_true] at h
  obtain ⟨⟨h1, h2⟩, h3⟩ := h
  refine ⟨h1, h2, fun k l e => ?_⟩
  have m : (encL l, k) ∈ (ls.map encL).zipIdx := List.mk_mem_zipIdx_iff_getElem?.mpr (by rw [List.getElem?_map, e]; rfl)
  have q := h3 _ m
  simp only [letterOk, encL, Bool.and_eq_true, decide_eq_true_eq, List.length_map, heirsOk, inL_ints, List.all_eq_true, List.mem_map, forall_exists_index, and_imp, forall_apply_eq_imp_iff₂] at q
  obtain ⟨⟨⟨⟨⟨⟨a1, a2⟩, a3⟩, a4⟩, a5⟩, a6⟩, a7⟩ := q
  exact ⟨a1, a2, fun x m => btw_int.mp (a3 x m), nodup_nubI a4, a5, a6, fun t m => VT_iff.mp (a7 t m)⟩
theorem VD.of_ok {n : Nat} {row : List (Option Int)} (h : daysOk (encR row) n = true) : VD n row := by
  simp only [encR, daysOk, List.length_map, Bool.and_eq_true, decide_eq_true_eq, List.all_eq_true, List.mem_map, forall_exists_index, and_imp, forall_apply_eq_imp_iff₂] at h
  refine ⟨by omega, fun o m d e => ?_⟩
  have := h.2 o m
  subst e
  exact btw_int.mp this
/-- letters and a row, handed in -/
structure Hd (h : Hm) (r i b d : Nat) (ls : List Letter) (row : List Val) : Prop where
  laid : Laid h i b ls
  days : h[d]? = some (.lst row)
  top : h[r]? = some (.lst [.ref i, .ref d])
  cl : closedL row = true
  di : d ≠ i
  rd : r ≠ d
  ri : r ≠ i
  dO : d < b ∨ b + 2 * ls.length ≤ d
  rO : r < b ∨ b + 2 * ls.length ≤ r
theorem Hd.app {h : Hm} {r i b d : Nat} {ls : List Letter} {row : List Val} (a : Hd h r i b d ls row) (t : Hm) : Hd (h ++ t) r i b d ls row :=
  ⟨a.laid.app t, get_app a.days, get_app a.top, a.cl, a.di, a.rd, a.ri, a.dO, a.rO⟩
theorem Hd.snap {h : Hm} {r i b d : Nat} {ls : List Letter} {row : List Val} (a : Hd h r i b d ls row) : MP.snap h (.ref r) = some (.lst .bor [.lst .bor (ls.map (sL .bor)), .lst .bor row]) := by
  unfold MP.snap
  simp only [deep]
  unfold MP.follow
  rw [a.top]
  simp only [deepL, deep, a.laid.follow (n := 6), follow_flat (n := 7) a.days a.cl]
section
variable {T : Tab} {F : Nat → Option Fn} {n : Nat} {h : Hm}
end
end MP
set_option Elab.async false
set_option linter.all false
set_option maxRecDepth 100000
set_option autoImplicit false
namespace MP
theorem bits_bd {m : Nat} {z : Int} (h : PySem.Builtin.Int.intBits z ≤ m) : Bd m z := by
  unfold PySem.Builtin.Int.intBits at h
  unfold Bd
  by_cases z0 : z = 0
  · subst z0
    exact Nat.two_pow_pos m
  · rw [if_neg (by simpa using z0)] at h
    have h1 : z.natAbs ≠ 0 := by omega
    exact (Nat.log2_lt h1).mp (by omega)
theorem says_of {P : Pg} {D : List Dfn} {n i : Nat} (q : ∀ (ns : List Int) (K : Nat), ns.length ≤ 63 → 64 ≤ K → K ≤ 5000000 → (∀ z ∈ ns, Bd K z) → ∃ h, run P.T (tab D) n i [.lst .scr (ns.map .int)] [] [] = .ok (.bl true) h) : Says P D n i :=
  fun ns l b => q ns 1048576 l (by decide) (by decide) fun z m => bits_bd (b z m)
end MP
set_option Elab.async false
set_option linter.all false
set_option maxRecDepth 100000
set_option autoImplicit false
namespace MP
/-- _law_letters -/
def cl144 : Fn := ⟨0, 1, (.seq (.asg (.nm 0) (.lst true (.cons (.tup (.cons (.lst true (.cons (.cst (.int 0)) (.cons (.cst (.int 1)) .nil))) (.cons (.lst true (.cons (.tup (.cons (.cst (.str 0)) (.cons (.cst (.int 5)) .nil))) (.cons (.tup (.cons (.cst (.str 1)) (.cons (.cst (.int 0)) (.cons (.cst (.int 3)) .nil)))) .nil))) .nil))) (.cons (.tup (.cons (.lst true (.cons (.cst (.int 1)) .nil)) (.cons (.lst true (.cons (.tup (.cons (.cst (.str 2)) (.cons (.cst (.int 0)) (.cons (.cst (.int 2)) .nil)))) .nil)) .nil))) .nil))))
    (.seq (.asg (.nm 0) (.bin true .add (.var 0) (.lst true (.cons (.tup (.cons (.lst true (.cons (.cst (.int 2)) .nil)) (.cons (.lst true (.cons (.tup (.cons (.cst (.str 2)) (.cons (.cst (.int 1)) (.cons (.cst (.int 1)) .nil)))) (.cons (.tup (.cons (.cst (.str 0)) (.cons (.cst (.int 9)) .nil))) .nil))) .nil))) .nil))))
    (.seq (.ret (.bin true .add (.var 0) (.lst true (.cons (.tup (.cons (.lst true (.cons (.cst (.int 0)) .nil)) (.cons (.lst true (.cons (.tup (.cons (.cst (.str 1)) (.cons (.cst (.int 1)) (.cons (.cst (.int 0)) .nil)))) (.cons (.tup (.cons (.cst (.str 1)) (.cons (.cst (.int 2)) (.cons (.cst (.int 1)) .nil)))) .nil))) .nil))) (.cons (.tup (.cons (.lst true (.cons (.cst (.int 3)) .nil)) (.cons (.lst true (.cons (.tup (.cons (.cst (.str 2)) (.cons (.cst (.int 3)) (.cons (.cst (.int 1)) .nil)))) (.cons (.tup (.cons (.cst (.str 0)) (.cons (.cst (.int 1)) .nil))) .nil))) .nil))) .nil)))))
    .nil))), [], false⟩
/-- _law_chains_right -/
def cl145 : Fn := ⟨0, 6, (.seq (.asg (.tp (.cons (.nm 0) (.cons (.nm 1) .nil))) (.tup (.cons (.call .pur 144 .nil) (.cons (.bin true .mul (.lst true (.cons (.cst .non) .nil)) (.cst (.int 5))) .nil))))
    (.seq (.ite (.cmp .ne (.call .pur 10 (.cons (.var 0) (.cons (.bin true .add (.lst true (.cons (.cst (.int 4)) .nil)) (.var 1)) .nil))) (.lst true (.cons (.cst (.int 7)) (.cons (.cst (.int 9)) (.cons (.cst (.int 10)) (.cons (.cst .non) (.cons (.cst .non) .nil))))))) (.seq (.ret (.cst (.bl false)))
    .nil) .nil)
    (.seq (.ite (.cmp .ne (.call .pur 10 (.cons (.var 0) (.cons (.bin true .add (.lst true (.cons (.cst (.int 0)) (.cons (.cst (.int 2)) (.cons (.cst (.int 0)) .nil)))) (.slc true (.var 1) .omit (.part (.cst (.int 3))))) .nil))) (.lst true (.cons (.cst (.int 5)) (.cons (.cst (.int 7)) (.cons (.cst (.int 9)) (.cons (.cst (.int 2)) (.cons (.cst (.int 3)) .nil))))))) (.seq (.ret (.cst (.bl false)))
    .nil) .nil)
    (.seq (.asg (.nm 2) (.lst true (.cons (.tup (.cons (.lst true (.cons (.tup (.cons (.cst (.int 2)) (.cons (.cst (.int 0)) .nil))) (.cons (.tup (.cons (.cst (.int 1)) (.cons (.cst (.int 0)) .nil))) (.cons (.tup (.cons (.cst (.int 0)) (.cons (.cst (.int 1)) .nil))) .nil)))) (.cons (.cst (.int 2)) (.cons (.cst (.bl true)) .nil)))) (.cons (.tup (.cons (.lst true (.cons (.tup (.cons (.cst (.int 2)) (.cons (.cst (.int 1)) .nil))) .nil)) (.cons (.cst (.int 2)) (.cons (.cst (.bl false)) .nil)))) .nil))))
    (.seq (.asg (.nm 2) (.bin true .add (.var 2) (.lst true (.cons (.tup (.cons (.lst true (.cons (.tup (.cons (.cst (.int 1)) (.cons (.cst (.int 0)) .nil))) (.cons (.tup (.cons (.cst (.int 0)) (.cons (.cst (.int 0)) .nil))) .nil))) (.cons (.cst (.int 1)) (.cons (.cst (.bl false)) .nil)))) (.cons (.tup (.cons (.lst true (.cons (.tup (.cons (.cst (.int 1)) (.cons (.cst (.int 0)) .nil))) (.cons (.tup (.cons (.cst (.int 0)) (.cons (.cst (.int 1)) .nil))) .nil))) (.cons (.cst (.int 2)) (.cons (.cst (.bl false)) .nil)))) .nil)))))
    (.seq (.asg (.nm 2) (.bin true .add (.var 2) (.lst true (.cons (.tup (.cons (.lst true (.cons (.tup (.cons (.cst (.int 2)) (.cons (.cst (.int 0)) .nil))) (.cons (.tup (.cons (.cst (.int 0)) (.cons (.cst (.int 1)) .nil))) .nil))) (.cons (.cst (.int 2)) (.cons (.cst (.bl false)) .nil)))) (.cons (.tup (.cons (.lst true (.cons (.tup (.cons (.cst (.int 2)) (.cons (.cst (.int 0)) .nil))) (.cons (.tup (.cons (.cst (.int 1)) (.cons (.cst (.int 0)) .nil))) .nil))) (.cons (.cst (.int 2)) (.cons (.cst (.bl false)) .nil)))) (.cons (.tup (.cons (.lst true (.cons (.tup (.cons (.cst (.int 0)) (.cons (.cst (.int 1)) .nil))) .nil)) (.cons (.cst (.int 0)) (.cons (.cst (.bl true)) .nil)))) .nil))))))
    (.seq (.asg (.nm 2) (.bin true .add (.var 2) (.lst true (.cons (.tup (.cons (.lst true .nil) (.cons (.cst (.int 0)) (.cons (.cst (.bl false)) .nil)))) (.cons (.tup (.cons (.lst true (.cons (.tup (.cons (.cst (.int 0)) (.cons (.cst (.int 2)) .nil))) .nil)) (.cons (.cst (.int 0)) (.cons (.cst (.bl false)) .nil)))) .nil)))))
    (.seq (.loop (.tp (.cons (.nm 3) (.cons (.nm 4) (.cons (.nm 5) .nil)))) (.iSeq (.var 2)) (.seq (.ite (.cmp .ne (.ocall .pur 0 (.new 1 (.cons (.var 3) .nil)) (.cons (.var 0) (.cons (.bin true .add (.lst true (.cons (.cst (.int 4)) .nil)) (.var 1)) (.cons (.var 4) .nil)))) (.var 5)) (.seq (.ret (.cst (.bl false)))
    .nil) .nil)
    (.seq (.ite (.ocall .pur 0 (.new 2 (.cons (.var 3) .nil)) (.cons (.var 0) (.cons (.bin true .add (.lst true (.cons (.cst (.int 4)) .nil)) (.var 1)) (.cons (.var 4) .nil)))) (.seq (.ret (.cst (.bl false)))
    .nil) .nil)
    .nil)))
    (.seq (.loop (.nm 3) (.iSeq (.tup (.cons (.lst true (.cons (.tup (.cons (.cst (.int 0)) (.cons (.cst (.int 0)) .nil))) .nil)) (.cons (.lst true (.cons (.tup (.cons (.cst (.int 0)) (.cons (.cst (.int 1)) .nil))) .nil)) .nil)))) (.seq (.ite (.not (.ocall .pur 0 (.new 1 (.cons (.var 3) .nil)) (.cons (.var 0) (.cons (.bin true .add (.lst true (.cons (.cst (.int 2)) .nil)) (.var 1)) (.cons (.cst (.int 0)) .nil))))) (.seq (.ret (.cst (.bl false)))
    .nil) .nil)
    .nil))
    (.seq (.ite (.not (.ocall .pur 0 (.new 1 (.cons (.lst true (.cons (.tup (.cons (.cst (.int 2)) (.cons (.cst (.int 1)) .nil))) .nil)) .nil)) (.cons (.var 0) (.cons (.bin true .add (.lst true (.cons (.cst (.int 0)) .nil)) (.var 1)) (.cons (.cst (.int 2)) .nil))))) (.seq (.ret (.cst (.bl false)))
    .nil) .nil)
    (.seq (.ite (.ocall .pur 0 (.new 1 (.cons (.lst true (.cons (.tup (.cons (.cst (.int 2)) (.cons (.cst (.int 0)) .nil))) (.cons (.tup (.cons (.cst (.int 1)) (.cons (.cst (.int 0)) .nil))) (.cons (.tup (.cons (.cst (.int 0)) (.cons (.cst (.int 0)) .nil))) .nil)))) .nil)) (.cons (.var 0) (.cons (.bin true .add (.lst true (.cons (.cst (.int 0)) .nil)) (.var 1)) (.cons (.cst (.int 2)) .nil)))) (.seq (.ret (.cst (.bl false)))
    .nil) .nil)
    (.seq (.asg (.nm 2) (.lst true (.cons (.tup (.cons (.lst true (.cons (.tup (.cons (.cst (.int 4)) (.cons (.cst (.int 0)) .nil))) (.cons (.tup (.cons (.cst (.int 3)) (.cons (.cst (.int 0)) .nil))) .nil))) (.cons (.cst (.int 4)) (.cons (.cst (.bl true)) .nil)))) (.cons (.tup (.cons (.lst true (.cons (.tup (.cons (.cst (.int 4)) (.cons (.cst (.int 0)) .nil))) (.cons (.tup (.cons (.cst (.int 3)) (.cons (.cst (.int 1)) .nil))) .nil))) (.cons (.cst (.int 4)) (.cons (.cst (.bl true)) .nil)))) (.cons (.tup (.cons (.lst true (.cons (.tup (.cons (.cst (.int 4)) (.cons (.cst (.int 1)) .nil))) .nil)) (.cons (.cst (.int 4)) (.cons (.cst (.bl false)) .nil)))) .nil)))))
    (.seq (.asg (.nm 2) (.bin true .add (.var 2) (.lst true (.cons (.tup (.cons (.lst true (.cons (.tup (.cons (.cst (.int 3)) (.cons (.cst (.int 0)) .nil))) .nil)) (.cons (.cst (.int 3)) (.cons (.cst (.bl true)) .nil)))) (.cons (.tup (.cons (.lst true (.cons (.tup (.cons (.cst (.int 3)) (.cons (.cst (.int 1)) .nil))) .nil)) (.cons (.cst (.int 4)) (.cons (.cst (.bl false)) .nil)))) .nil)))))
    (.seq (.ite (.bi .any true (.cons (.comp true [3, 4, 5] (.tp (.cons (.nm 3) (.cons (.nm 4) (.cons (.nm 5) .nil)))) (.iSeq (.var 2)) (.cst (.bl true)) (.cmp .ne (.ocall .pur 0 (.new 2 (.cons (.var 3) .nil)) (.cons (.var 0) (.cons (.bin true .add (.lst true (.cons (.cst (.int 4)) .nil)) (.var 1)) (.cons (.var 4) .nil)))) (.var 5))) .nil)) (.seq (.ret (.cst (.bl false)))
    .nil) .nil)
    (.seq (.ite (.ocall .pur 0 (.new 2 (.cons (.lst true (.cons (.tup (.cons (.cst (.int 4)) (.cons (.cst (.int 0)) .nil))) (.cons (.tup (.cons (.cst (.int 3)) (.cons (.cst (.int 1)) .nil))) .nil))) .nil)) (.cons (.var 0) (.cons (.bin true .add (.lst true (.cons (.cst (.int 4)) (.cons (.cst .non) (.cons (.cst (.int 7)) .nil)))) (.slc true (.var 1) .omit (.part (.cst (.int 3))))) (.cons (.cst (.int 4)) .nil)))) (.seq (.ret (.cst (.bl false)))
    .nil) .nil)
    (.seq (.ite (.ocall .pur 0 (.new 2 (.cons (.lst true (.cons (.tup (.cons (.cst (.int 0)) (.cons (.cst (.int 1)) .nil))) .nil)) .nil)) (.cons (.var 0) (.cons (.bin true .add (.lst true (.cons (.cst (.int 4)) .nil)) (.var 1)) (.cons (.cst (.int 0)) .nil)))) (.seq (.ret (.cst (.bl false)))
    .nil) .nil)
    (.seq (.ite (.not (.isi (.call .pur 16 (.cons (.var 0) (.cons (.bin true .add (.lst true (.cons (.cst (.int 4)) .nil)) (.var 1)) (.cons (.cst (.int 4)) .nil)))) (.cls 2))) (.seq (.ret (.cst (.bl false)))
    .nil) .nil)
    (.seq (.ret (.isi (.call .pur 16 (.cons (.var 0) (.cons (.bin true .add (.lst true (.cons (.cst (.int 4)) (.cons (.cst (.int 60)) (.cons (.cst (.int 60)) .nil)))) (.slc true (.var 1) .omit (.part (.cst (.int 3))))) (.cons (.cst (.int 4)) .nil)))) (.cls 1)))
    .nil)))))))))))))))))), [], false⟩
/-- _law_handed_right -/
def cl146 : Fn := ⟨0, 4, (.seq (.par [0, 1, 2] (.cons (.call .pur 144 .nil) (.cons (.bin true .add (.lst true (.cons (.cst (.int 4)) .nil)) (.bin true .mul (.lst true (.cons (.cst .non) .nil)) (.cst (.int 5)))) (.cons (.bin true .mul (.lst true (.cons (.cst .non) .nil)) (.cst (.int 10))) .nil))))
    (.seq (.asg (.nm 3) (.lst true (.cons (.tup (.cons (.cst (.int 7)) (.cons (.cst (.int 0)) (.cons (.cst (.int 0)) .nil)))) (.cons (.tup (.cons (.cst (.int 9)) (.cons (.cst (.int 1)) (.cons (.cst (.int 1)) .nil)))) (.cons (.tup (.cons (.cst (.int 10)) (.cons (.cst (.int 2)) (.cons (.cst (.int 2)) .nil)))) .nil)))))
    (.seq (.ite (.or (.cmp .ne (.call .pur 26 (.cons (.var 0) (.cons (.var 1) (.cons (.var 2) .nil)))) (.var 3)) (.cmp .ne (.call .pur 26 (.cons (.var 0) (.cons (.var 1) (.cons (.bin true .add (.lst true (.cons (.cst (.int 8)) .nil)) (.slc true (.var 2) (.part (.cst (.int 1))) .omit)) .nil)))) (.var 3))) (.seq (.ret (.cst (.bl false)))
    .nil) .nil)
    (.seq (.ite (.cmp .ne (.call .pur 26 (.cons (.var 0) (.cons (.var 1) (.cons (.bin true .add (.lst true (.cons (.cst (.int 7)) (.cons (.cst (.int 9)) .nil))) (.slc true (.var 2) (.part (.cst (.int 2))) .omit)) .nil)))) (.lst true (.cons (.tup (.cons (.cst (.int 7)) (.cons (.cst (.int 0)) (.cons (.cst (.int 1)) .nil)))) (.cons (.tup (.cons (.cst (.int 9)) (.cons (.cst (.int 1)) (.cons (.cst .non) .nil)))) (.cons (.tup (.cons (.cst (.int 10)) (.cons (.cst (.int 2)) (.cons (.cst (.int 2)) .nil)))) .nil))))) (.seq (.ret (.cst (.bl false)))
    .nil) .nil)
    (.seq (.ite (.cmp .ne (.call .pur 26 (.cons (.var 0) (.cons (.var 1) (.cons (.bin true .add (.lst true (.cons (.cst (.int 0)) (.cons (.cst (.int 0)) (.cons (.cst (.int 11)) .nil)))) (.slc true (.var 2) (.part (.cst (.int 3))) .omit)) .nil)))) (.lst true (.cons (.tup (.cons (.cst (.int 7)) (.cons (.cst (.int 0)) (.cons (.cst .non) .nil)))) (.cons (.tup (.cons (.cst (.int 9)) (.cons (.cst (.int 1)) (.cons (.cst .non) .nil)))) (.cons (.tup (.cons (.cst (.int 10)) (.cons (.cst (.int 2)) (.cons (.cst (.int 2)) .nil)))) .nil))))) (.seq (.ret (.cst (.bl false)))
    .nil) .nil)
    (.seq (.asg (.nm 0) (.lst true (.cons (.tup (.cons (.lst true (.cons (.cst (.int 5)) .nil)) (.cons (.lst true (.cons (.tup (.cons (.cst (.str 0)) (.cons (.cst (.int 9)) .nil))) .nil)) .nil))) (.cons (.tup (.cons (.lst true (.cons (.cst (.int 6)) .nil)) (.cons (.lst true (.cons (.tup (.cons (.cst (.str 0)) (.cons (.cst (.int 2)) .nil))) .nil)) .nil))) (.cons (.tup (.cons (.lst true (.cons (.cst (.int 7)) .nil)) (.cons (.lst true (.cons (.tup (.cons (.cst (.str 0)) (.cons (.cst (.int 9)) .nil))) .nil)) .nil))) .nil)))))
    (.seq (.ret (.cmp .eq (.call .pur 26 (.cons (.var 0) (.cons (.var 1) (.cons (.var 2) .nil)))) (.lst true (.cons (.tup (.cons (.cst (.int 2)) (.cons (.cst (.int 1)) (.cons (.cst (.int 6)) .nil)))) (.cons (.tup (.cons (.cst (.int 9)) (.cons (.cst (.int 0)) (.cons (.cst (.int 5)) .nil)))) (.cons (.tup (.cons (.cst (.int 9)) (.cons (.cst (.int 2)) (.cons (.cst (.int 7)) .nil)))) .nil))))))
    .nil))))))), [], false⟩
/-- _law_spans_right -/
def cl147 : Fn := ⟨0, 8, (.seq (.par [0, 1] (.cons (.call .pur 144 .nil) (.cons (.bin true .mul (.lst true (.cons (.cst .non) .nil)) (.cst (.int 5))) .nil)))
    (.seq (.ite (.cmp .ne (.call .pur 29 (.cons (.var 0) (.cons (.bin true .add (.lst true (.cons (.tup (.cons (.cst (.int 4)) (.cons (.cst (.int 6)) .nil))) .nil)) (.var 1)) .nil))) (.lst true (.cons (.tup (.cons (.cst (.int 7)) (.cons (.cst (.int 9)) .nil))) (.cons (.tup (.cons (.cst (.int 9)) (.cons (.cst (.int 11)) .nil))) (.cons (.tup (.cons (.cst (.int 10)) (.cons (.cst (.int 12)) .nil))) (.cons (.cst .non) (.cons (.cst .non) .nil))))))) (.seq (.ret (.cst (.bl false)))
    .nil) .nil)
    (.seq (.ite (.cmp .ne (.call .pur 29 (.cons (.var 0) (.cons (.bin true .add (.lst true (.cons (.tup (.cons (.cst (.int 0)) (.cons (.cst (.int 0)) .nil))) (.cons (.tup (.cons (.cst (.int 3)) (.cons (.cst (.int 5)) .nil))) (.cons (.tup (.cons (.cst (.int 1)) (.cons (.cst (.int 9)) .nil))) .nil)))) (.slc true (.var 1) .omit (.part (.cst (.int 3))))) .nil))) (.lst true (.cons (.tup (.cons (.cst (.int 5)) (.cons (.cst (.int 5)) .nil))) (.cons (.tup (.cons (.cst (.int 7)) (.cons (.cst (.int 7)) .nil))) (.cons (.tup (.cons (.cst (.int 9)) (.cons (.cst (.int 9)) .nil))) (.cons (.tup (.cons (.cst (.int 3)) (.cons (.cst (.int 10)) .nil))) (.cons (.tup (.cons (.cst (.int 4)) (.cons (.cst (.int 11)) .nil))) .nil))))))) (.seq (.ret (.cst (.bl false)))
    .nil) .nil)
    (.seq (.asg (.nm 2) (.lst true (.cons (.tup (.cons (.lst true (.cons (.cst (.int 0)) .nil)) (.cons (.lst true (.cons (.tup (.cons (.cst (.str 0)) (.cons (.cst (.int 5)) .nil))) .nil)) .nil))) (.cons (.tup (.cons (.lst true (.cons (.cst (.int 0)) .nil)) (.cons (.lst true (.cons (.tup (.cons (.cst (.str 0)) (.cons (.cst (.int 5)) .nil))) .nil)) .nil))) (.cons (.tup (.cons (.lst true (.cons (.cst (.int 0)) .nil)) (.cons (.lst true (.cons (.tup (.cons (.cst (.str 1)) (.cons (.cst (.int 0)) (.cons (.cst (.int 0)) .nil)))) .nil)) .nil))) .nil)))))
    (.seq (.asg (.nm 3) (.lst true (.cons (.call .pur 30 (.cons (.var 2) (.cons (.bin true .add (.lst true (.cons (.tup (.cons (.cst (.int 3)) (.cons (.cst (.int 6)) .nil))) .nil)) (.var 1)) (.cons (.cst (.int 0)) (.cons (.cst (.int 1)) .nil))))) .nil)))
    (.seq (.asg (.nm 3) (.bin true .add (.var 3) (.lst true (.cons (.call .pur 30 (.cons (.var 2) (.cons (.bin true .add (.lst true (.cons (.tup (.cons (.cst (.int 3)) (.cons (.cst (.int 6)) .nil))) .nil)) (.var 1)) (.cons (.cst (.int 1)) (.cons (.cst (.int 0)) .nil))))) (.cons (.call .pur 30 (.cons (.var 2) (.cons (.bin true .add (.lst true (.cons (.tup (.cons (.cst (.int 3)) (.cons (.cst (.int 5)) .nil))) .nil)) (.var 1)) (.cons (.cst (.int 0)) (.cons (.cst (.int 2)) .nil))))) .nil)))))
    (.seq (.ite (.cmp .ne (.comp true [4] (.nm 4) (.iSeq (.var 3)) (.cst (.bl true)) (.isi (.var 4) (.cls 3))) (.lst true (.cons (.cst (.bl true)) (.cons (.cst (.bl false)) (.cons (.cst (.bl false)) .nil))))) (.seq (.ret (.cst (.bl false)))
    .nil) .nil)
    (.seq (.ite (.not (.isi (.call .pur 30 (.cons (.var 2) (.cons (.bin true .add (.lst true (.cons (.tup (.cons (.cst (.int 5)) (.cons (.cst (.int 9)) .nil))) .nil)) (.var 1)) (.cons (.cst (.int 1)) (.cons (.cst (.int 2)) .nil))))) (.cls 3))) (.seq (.ret (.cst (.bl false)))
    .nil) .nil)
    (.seq (.asg (.nm 5) (.lst true (.cons (.tup (.cons (.lst true (.cons (.cst (.int 0)) .nil)) (.cons (.lst true (.cons (.tup (.cons (.cst (.str 1)) (.cons (.cst (.int 0)) (.cons (.cst (.int 0)) .nil)))) .nil)) .nil))) (.cons (.tup (.cons (.lst true (.cons (.cst (.int 0)) .nil)) (.cons (.lst true (.cons (.tup (.cons (.cst (.str 0)) (.cons (.cst (.int 5)) .nil))) .nil)) .nil))) .nil))))
    (.seq (.asg (.nm 3) (.call .pur 30 (.cons (.var 5) (.cons (.bin true .add (.lst true (.cons (.tup (.cons (.cst (.int 3)) (.cons (.cst (.int 6)) .nil))) .nil)) (.var 1)) (.cons (.cst (.int 0)) (.cons (.cst (.int 1)) .nil))))))
    (.seq (.ite (.or (.not (.isi (.var 3) (.cls 4))) (.cmp .ne (.fld (.var 3) 1) (.bin true .add (.lst true (.cons (.cst (.int 6)) .nil)) (.var 1)))) (.seq (.ret (.cst (.bl false)))
    .nil) .nil)
    (.seq (.ite (.not (.isi (.call .pur 30 (.cons (.var 5) (.cons (.bin true .add (.lst true (.cons (.tup (.cons (.cst (.int 3)) (.cons (.cst (.int 5)) .nil))) .nil)) (.var 1)) (.cons (.cst (.int 0)) (.cons (.cst (.int 1)) .nil))))) (.cls 3))) (.seq (.ret (.cst (.bl false)))
    .nil) .nil)
    (.seq (.loop (.tp (.cons (.nm 6) (.cons (.nm 7) .nil))) (.iSeq (.tup (.cons (.tup (.cons (.cst (.int 6)) (.cons (.cst (.bl true)) .nil))) (.cons (.tup (.cons (.cst (.int 5)) (.cons (.cst (.bl false)) .nil))) (.cons (.tup (.cons (.cst (.int 7)) (.cons (.cst (.bl false)) .nil))) (.cons (.tup (.cons (.cst .non) (.cons (.cst (.bl false)) .nil))) (.cons (.tup (.cons (.cst (.int 2)) (.cons (.cst (.bl false)) .nil))) .nil))))))) (.seq (.ite (.cmp .ne (.ocall .pur 0 (.new 4 (.cons (.bin true .add (.lst true (.cons (.var 6) .nil)) (.var 1)) .nil)) (.cons (.var 5) (.cons (.bin true .add (.lst true (.cons (.tup (.cons (.cst (.int 3)) (.cons (.cst (.int 6)) .nil))) .nil)) (.var 1)) (.cons (.cst (.int 0)) (.cons (.cst (.int 1)) .nil))))) (.var 7)) (.seq (.ret (.cst (.bl false)))
    .nil) .nil)
    .nil))
    (.seq (.ite (.ocall .pur 0 (.new 4 (.cons (.bin true .add (.lst true (.cons (.cst (.int 6)) (.cons (.cst (.int 1)) .nil))) (.slc true (.var 1) (.part (.cst (.int 1))) .omit)) .nil)) (.cons (.var 5) (.cons (.bin true .add (.lst true (.cons (.tup (.cons (.cst (.int 3)) (.cons (.cst (.int 6)) .nil))) .nil)) (.var 1)) (.cons (.cst (.int 0)) (.cons (.cst (.int 1)) .nil))))) (.seq (.ret (.cst (.bl false)))
    .nil) .nil)
    (.seq (.ite (.ocall .pur 0 (.new 4 (.cons (.lst true (.cons (.cst (.int 6)) .nil)) .nil)) (.cons (.var 5) (.cons (.bin true .add (.lst true (.cons (.tup (.cons (.cst (.int 3)) (.cons (.cst (.int 6)) .nil))) .nil)) (.var 1)) (.cons (.cst (.int 0)) (.cons (.cst (.int 1)) .nil))))) (.seq (.ret (.cst (.bl false)))
    .nil) .nil)
    (.seq (.ite (.or (.ocall .pur 0 (.new 3 .nil) (.cons (.var 5) (.cons (.bin true .add (.lst true (.cons (.tup (.cons (.cst (.int 3)) (.cons (.cst (.int 6)) .nil))) .nil)) (.var 1)) (.cons (.cst (.int 0)) (.cons (.cst (.int 1)) .nil))))) (.not (.ocall .pur 0 (.new 3 .nil) (.cons (.var 5) (.cons (.bin true .add (.lst true (.cons (.tup (.cons (.cst (.int 3)) (.cons (.cst (.int 5)) .nil))) .nil)) (.var 1)) (.cons (.cst (.int 0)) (.cons (.cst (.int 1)) .nil))))))) (.seq (.ret (.cst (.bl false)))
    .nil) .nil)
    (.seq (.tryN (.seq (.ex (.call .pur 30 (.cons (.var 5) (.cons (.bin true .add (.lst true (.cons (.cst .non) .nil)) (.var 1)) (.cons (.cst (.int 0)) (.cons (.cst (.int 1)) .nil))))))
    (.seq (.ret (.cst (.bl false)))
    .nil)) 10 (.seq (.ret (.cst (.bl true))) .nil))
    .nil))))))))))))))))), [], false⟩
/-- _law_word -/
def cl148 : Fn := ⟨2, 4, (.seq (.tryN (.seq (.ex (.callv 0 (.cons (.var 1) .nil)))
    .nil) 0 (.seq (.rais 2) (.rais 3)))
    (.seq (.ret (.cst (.str 18)))
    .nil)), [], true⟩
/-- _law_keeper_right -/
def cl149 : Fn := ⟨1, 5, (.seq (.asg (.tp (.cons (.nm 1) (.cons (.nm 2) .nil))) (.tup (.cons (.new 5 .nil) (.cons (.tup (.cons (.lst true (.cons (.var 0) .nil)) (.cons (.lst true (.cons (.tup (.cons (.cst (.str 0)) (.cons (.cst (.int 2)) .nil))) .nil)) .nil))) .nil))))
    (.seq (.asg (.nm 3) (.lst true (.cons (.ocall .dir 2 (.var 1) (.cons (.tup (.cons (.lst true (.cons (.cst (.int 0)) (.cons (.cst (.int 1)) .nil))) (.cons (.lst true (.cons (.tup (.cons (.cst (.str 1)) (.cons (.cst (.int 0)) (.cons (.cst (.int 3)) .nil)))) .nil)) .nil))) .nil)) .nil)))
    (.seq (.asg (.nm 3) (.bin true .add (.var 3) (.lst true (.cons (.ocall .dir 2 (.var 1) (.cons (.tup (.cons (.lst true (.cons (.cst (.int 2)) .nil)) (.cons (.lst true (.cons (.tup (.cons (.cst (.str 2)) (.cons (.cst (.int 0)) (.cons (.cst (.int 2)) .nil)))) (.cons (.tup (.cons (.cst (.str 0)) (.cons (.cst (.int 1)) .nil))) .nil))) .nil))) .nil)) (.cons (.ocall .pur 9 (.var 1) .nil) .nil)))))
    (.seq (.ite (.cmp .ne (.var 3) (.lst true (.cons (.cst (.int 0)) (.cons (.cst (.int 1)) (.cons (.lst true (.cons (.cst .non) (.cons (.cst .non) .nil))) .nil))))) (.seq (.ret (.cst (.bl false)))
    .nil) .nil)
    (.seq (.ite (.cmp .ne (.lst true (.cons (.ocall .dir 6 (.var 1) (.cons (.cst (.int 0)) (.cons (.cst (.int 0)) .nil))) (.cons (.ocall .dir 6 (.var 1) (.cons (.cst (.int 0)) (.cons (.cst (.int 0)) .nil))) (.cons (.ocall .pur 9 (.var 1) .nil) .nil)))) (.lst true (.cons (.cst (.bl true)) (.cons (.cst (.bl false)) (.cons (.lst true (.cons (.cst (.int 3)) (.cons (.cst (.int 5)) .nil))) .nil))))) (.seq (.ret (.cst (.bl false)))
    .nil) .nil)
    (.seq (.ite (.or (.cmp .ne (.call .dir 148 (.cons (.lam 1) (.cons (.var 1) .nil))) (.cst (.str 20))) (.cmp .ne (.ocall .dir 10 (.var 1) .nil) (.lst true .nil))) (.seq (.ret (.cst (.bl false)))
    .nil) .nil)
    (.seq (.ite (.cmp .ne (.comp true [4] (.nm 4) (.iRng (.cons (.cst (.int 3)) .nil)) (.cst (.bl true)) (.ocall .din 11 (.var 1) .nil)) (.lst true (.cons (.cst (.int 1)) (.cons (.cst (.int 2)) (.cons (.cst (.int 3)) .nil))))) (.seq (.ret (.cst (.bl false)))
    .nil) .nil)
    (.seq (.asg (.nm 3) (.lst true (.cons (.ocall .dir 7 (.var 1) (.cons (.cst (.int 0)) (.cons (.cst (.int 3)) .nil))) (.cons (.ocall .dir 7 (.var 1) (.cons (.cst (.int 0)) (.cons (.cst (.int 3)) .nil))) (.cons (.ocall .dir 10 (.var 1) .nil) (.cons (.ocall .dir 10 (.var 1) .nil) (.cons (.ocall .dir 7 (.var 1) (.cons (.cst (.int 1)) (.cons (.cst (.int 0)) .nil))) .nil)))))))
    (.seq (.ite (.or (.cmp .ne (.var 3) (.lst true (.cons (.cst (.bl true)) (.cons (.cst (.bl false)) (.cons (.lst true (.cons (.tup (.cons (.cst (.int 0)) (.cons (.cst (.int 1)) (.cons (.cst (.int 0)) .nil)))) .nil)) (.cons (.lst true .nil) (.cons (.cst (.bl true)) .nil))))))) (.cmp .ne (.call .dir 148 (.cons (.lam 0) (.cons (.var 1) .nil))) (.cst (.str 20)))) (.seq (.ret (.cst (.bl false)))
    .nil) .nil)
    (.seq (.ret (.call .dir 150 (.cons (.var 1) (.cons (.var 2) (.cons (.var 0) .nil)))))
    .nil)))))))))), [(0, 1, [], (.ocall .dir 7 (.var 0) (.cons (.cst (.int 0)) (.cons (.cst (.int 4)) .nil)))), (1, 1, [], (.ocall .dir 6 (.var 0) (.cons (.cst (.int 0)) (.cons (.cst (.int 1)) .nil))))], false⟩
/-- _law_keeper_on_right -/
def cl150 : Fn := ⟨3, 7, (.seq (.ite (.or (.cmp .ne (.comp true [3] (.nm 3) (.iRng (.cons (.cst (.int 3)) .nil)) (.cst (.bl true)) (.ocall .din 11 (.var 0) .nil)) (.lst true (.cons (.cst (.int 4)) (.cons (.cst (.int 5)) (.cons (.cst (.int 6)) .nil))))) (.cmp .ne (.ocall .dir 10 (.var 0) .nil) (.lst true (.cons (.tup (.cons (.cst (.int 1)) (.cons (.cst (.int 2)) (.cons (.cst (.int 1)) .nil)))) .nil)))) (.seq (.ret (.cst (.bl false)))
    .nil) .nil)
    (.seq (.ite (.cmp .ne (.ocall .pur 12 (.var 0) .nil) (.lst true .nil)) (.seq (.ret (.cst (.bl false)))
    .nil) .nil)
    (.seq (.asg (.nm 4) (.lst true (.cons (.ocall .dir 2 (.var 0) (.cons (.var 1) .nil)) (.cons (.ocall .dir 10 (.var 0) .nil) (.cons (.ocall .dir 2 (.var 0) (.cons (.tup (.cons (.lst true (.cons (.cst (.int 1)) .nil)) (.cons (.lst true (.cons (.tup (.cons (.cst (.str 0)) (.cons (.cst (.int 50)) .nil))) .nil)) .nil))) .nil)) .nil)))))
    (.seq (.asg (.nm 4) (.bin true .add (.var 4) (.lst true (.cons (.ocall .dir 5 (.var 0) (.cons (.cst (.int 3)) .nil)) (.cons (.ocall .dir 2 (.var 0) (.cons (.tup (.cons (.lst true (.cons (.cst (.int 8)) .nil)) (.cons (.lst true (.cons (.tup (.cons (.cst (.str 2)) (.cons (.cst (.int 3)) (.cons (.cst (.int 1)) .nil)))) .nil)) .nil))) .nil)) .nil)))))
    (.seq (.ite (.or (.cmp .ne (.var 4) (.lst true (.cons (.cst (.int 2)) (.cons (.lst true (.cons (.tup (.cons (.cst (.int 2)) (.cons (.var 2) (.cons (.cst (.int 4)) .nil)))) .nil)) (.cons (.cst (.int 3)) (.cons (.cst .non) (.cons (.cst (.int 4)) .nil))))))) (.cmp .ne (.ocall .pur 9 (.var 0) .nil) (.lst true (.cons (.cst (.int 3)) (.cons (.cst (.int 5)) (.cons (.cst (.int 2)) (.cons (.cst .non) (.cons (.cst .non) .nil)))))))) (.seq (.ret (.cst (.bl false)))
    .nil) .nil)
    (.seq (.ite (.cmp .ne (.ocall .pur 12 (.var 0) .nil) (.lst true (.cons (.cst (.int 4)) .nil))) (.seq (.ret (.cst (.bl false)))
    .nil) .nil)
    (.seq (.asg (.nm 5) (.lst true (.cons (.lam 6) .nil)))
    (.seq (.asg (.nm 5) (.bin true .add (.var 5) (.lst true (.cons (.lam 5) (.cons (.lam 4) .nil)))))
    (.seq (.asg (.nm 5) (.bin true .add (.var 5) (.lst true (.cons (.lam 3) (.cons (.lam 2) .nil)))))
    (.seq (.ite (.cmp .ne (.mapC true [6] (.nm 6) (.iSeq (.var 5)) 148 (.cons (.var 6) (.cons (.var 0) .nil))) (.lst true (.cons (.cst (.str 21)) (.cons (.cst (.str 21)) (.cons (.cst (.str 16)) (.cons (.cst (.str 16)) (.cons (.cst (.str 21)) .nil))))))) (.seq (.ret (.cst (.bl false)))
    .nil) .nil)
    (.seq (.ex (.ocall .dir 4 (.var 0) (.cons (.cst (.int 4)) (.cons (.tup (.cons (.lst true (.cons (.cst (.int 1)) (.cons (.cst (.int 8)) .nil))) (.cons (.lst true (.cons (.tup (.cons (.cst (.str 2)) (.cons (.cst (.int 0)) (.cons (.cst (.int 3)) .nil)))) .nil)) .nil))) .nil))))
    (.seq (.ite (.or (.cmp .ne (.ocall .dir 10 (.var 0) .nil) (.lst true (.cons (.tup (.cons (.cst (.int 4)) (.cons (.cst (.int 8)) (.cons (.cst (.int 0)) .nil)))) .nil))) (.cmp .ne (.ocall .pur 9 (.var 0) .nil) (.lst true (.cons (.cst (.int 3)) (.cons (.cst (.int 5)) (.cons (.cst (.int 2)) (.cons (.cst .non) (.cons (.cst (.int 6)) .nil)))))))) (.seq (.ret (.cst (.bl false)))
    .nil) .nil)
    (.seq (.ite (.cmp .ne (.bi .len true (.cons (.ocall .pur 13 (.var 0) .nil) .nil)) (.cst (.int 5))) (.seq (.ret (.cst (.bl false)))
    .nil) .nil)
    (.seq (.ite (.cmp .ne (.idx (.ocall .pur 13 (.var 0) .nil) (.cst (.int 4))) (.tup (.cons (.lst true (.cons (.cst (.int 1)) (.cons (.cst (.int 8)) .nil))) (.cons (.lst true (.cons (.tup (.cons (.cst (.str 2)) (.cons (.cst (.int 0)) (.cons (.cst (.int 3)) .nil)))) .nil)) .nil)))) (.seq (.ret (.cst (.bl false)))
    .nil) .nil)
    (.seq (.ret (.and (.cmp .eq (.ocall .dir 2 (.var 0) (.cons (.tup (.cons (.lst true (.cons (.cst (.int 1)) .nil)) (.cons (.lst true (.cons (.tup (.cons (.cst (.str 0)) (.cons (.cst (.int 60)) .nil))) .nil)) .nil))) .nil)) (.cst (.int 5))) (.cmp .eq (.ocall .pur 12 (.var 0) .nil) (.lst true (.cons (.cst (.int 5)) .nil)))))
    .nil))))))))))))))), [(2, 1, [], (.ocall .dir 5 (.var 0) (.cons (.cst (.int 9)) .nil))), (3, 1, [], (.ocall .dir 4 (.var 0) (.cons (.cst (.int 4)) (.cons (.tup (.cons (.lst true (.cons (.cst (.int 1)) .nil)) (.cons (.lst true (.cons (.tup (.cons (.cst (.str 2)) (.cons (.cst (.int 5)) (.cons (.cst (.int 1)) .nil)))) .nil)) .nil))) .nil)))), (4, 1, [], (.ocall .dir 4 (.var 0) (.cons (.cst (.int 4)) (.cons (.tup (.cons (.lst true (.cons (.cst (.int 1)) .nil)) (.cons (.lst true (.cons (.tup (.cons (.cst (.str 2)) (.cons (.cst (.int 4)) (.cons (.cst (.int 1)) .nil)))) .nil)) .nil))) .nil)))), (5, 1, [], (.ocall .dir 5 (.var 0) (.cons (.cst (.int 3)) .nil))), (6, 1, [1], (.ocall .dir 4 (.var 0) (.cons (.cst (.int 0)) (.cons (.var 1) .nil))))], false⟩
/-- law -/
def cl151 : Fn := ⟨1, 1, (.seq (.ite (.or (.not (.call .pur 145 .nil)) (.or (.not (.call .pur 146 .nil)) (.not (.call .pur 147 .nil)))) (.seq (.ret (.cst (.bl false)))
    .nil) .nil)
    (.seq (.ret (.call .pur 149 (.cons (.bin true .add (.cst (.int 3)) (.bin true .mod (.bi .abs true (.cons (.bi .sum true (.cons (.slc true (.var 0) .omit (.part (.cst (.int 2)))) .nil)) .nil)) (.cst (.int 7)))) .nil)))
    .nil)), [], false⟩
end MP
set_option Elab.async false
set_option linter.all false
set_option maxRecDepth 100000
set_option autoImplicit false
namespace MP.K18
open PySem PySem.Spec PyProof.Rows L2 MP
def top (i : Nat) : Stmt := PySem.Challenge.pw_laterletters_k18_promises_by_hand.main.body.getD i (.Pass ⟨0, 0, 0, 0⟩)
abbrev d0 : Dfn := ⟨"day_of", "day_of", (top 1), [("term" : Str), ("days" : Str), ("found" : Str), ("ahead" : Str)], [("term" : Str), ("days" : Str), ("found" : Str)], MP.c_day_of⟩
abbrev d1 : Dfn := ⟨"dues_of", "dues_of", (top 2), [("letters" : Str), ("days" : Str), ("found" : Str), ("heirs" : Str), ("terms" : Str), ("some" : Str), ("term" : Str)], [("letters" : Str), ("days" : Str)], MP.c_dues_of⟩
abbrev d2 : Dfn := ⟨"is_whole", "is_whole", (top 37), [("thing" : Str)], [("thing" : Str)], MP.c_is_whole⟩
abbrev d3 : Dfn := ⟨"is_between", "is_between", (top 38), [("thing" : Str), ("least" : Str), ("most" : Str)], [("thing" : Str), ("least" : Str), ("most" : Str)], MP.c_is_between⟩
abbrev d4 : Dfn := ⟨"are_heirs", "are_heirs", (top 39), [("thing" : Str), ("one" : Str)], [("thing" : Str)], MP.c_are_heirs⟩
abbrev d5 : Dfn := ⟨"is_term", "is_term", (top 40), [("thing" : Str), ("at" : Str)], [("thing" : Str), ("at" : Str)], MP.c_is_term⟩
abbrev d6 : Dfn := ⟨"is_letter", "is_letter", (top 41), [("thing" : Str), ("at" : Str), ("term" : Str)], [("thing" : Str), ("at" : Str)], MP.c_is_letter⟩
abbrev d7 : Dfn := ⟨"check_letters", "check_letters", (top 42), [("letters" : Str), ("at" : Str), ("letter" : Str)], [("letters" : Str)], MP.c_check_letters⟩
abbrev d8 : Dfn := ⟨"are_days", "are_days", (top 43), [("thing" : Str), ("many" : Str), ("one" : Str)], [("thing" : Str), ("many" : Str)], MP.c_are_days⟩
abbrev d9 : Dfn := ⟨"check_days", "check_days", (top 44), [("letters" : Str), ("days" : Str)], [("letters" : Str), ("days" : Str)], MP.c_check_days⟩
abbrev d10 : Dfn := ⟨"due_days", "due_days", (top 49), [("letters" : Str), ("days" : Str)], [("letters" : Str), ("days" : Str)], MP.c_due_days⟩
abbrev d11 : Dfn := ⟨"chain_to", "chain_to", (top 3), [("letters" : Str), ("days" : Str), ("number" : Str), ("found" : Str), ("dues" : Str), ("terms" : Str), ("some" : Str), ("term" : Str), ("place" : Str)], [("letters" : Str), ("days" : Str), ("number" : Str)], MP.c_chain_to⟩
abbrev d12 : Dfn := ⟨"chain_day", "chain_day", (top 4), [("letters" : Str), ("days" : Str), ("number" : Str), ("chain" : Str), ("late" : Str), ("at" : Str), ("letter" : Str), ("place" : Str), ("term" : Str)], [("letters" : Str), ("days" : Str), ("number" : Str), ("chain" : Str)], MP.c_chain_day⟩
abbrev d13 : Dfn := ⟨"ends_of", "ends_of", (top 6), [("spans" : Str), ("last" : Str), ("span" : Str)], [("spans" : Str), ("last" : Str)], MP.c_ends_of⟩
abbrev d14 : Dfn := ⟨"is_ahead", "is_ahead", (top 7), [("dues" : Str), ("one" : Str), ("other" : Str)], [("dues" : Str), ("one" : Str), ("other" : Str)], MP.c_is_ahead⟩
abbrev d15 : Dfn := ⟨"lists_to_try", "lists_to_try", (top 8), [("spans" : Str), ("found" : Str), ("at" : Str), ("span" : Str), ("some" : Str)], [("spans" : Str)], MP.c_lists_to_try⟩
abbrev d16 : Dfn := ⟨"why", "why", (top 50), [("letters" : Str), ("days" : Str), ("number" : Str), ("chain" : Str)], [("letters" : Str), ("days" : Str), ("number" : Str)], MP.c_why⟩
abbrev d17 : Dfn := ⟨"__init__", "Why.__init__", (inClass (top 11) 0), [("self" : Str), ("chain" : Str)], [("self" : Str), ("chain" : Str)], MP.c_Why___init__⟩
abbrev d18 : Dfn := ⟨"shows", "Why.shows", (inClass (top 11) 1), [("self" : Str), ("letters" : Str), ("days" : Str), ("number" : Str), ("due" : Str)], [("self" : Str), ("letters" : Str), ("days" : Str), ("number" : Str)], MP.c_Why_shows⟩
abbrev d19 : Dfn := ⟨"__init__", "Waits.__init__", (inClass (top 12) 0), [("self" : Str), ("chain" : Str)], [("self" : Str), ("chain" : Str)], MP.c_Waits___init__⟩
abbrev d20 : Dfn := ⟨"shows", "Waits.shows", (inClass (top 12) 1), [("self" : Str), ("letters" : Str), ("days" : Str), ("number" : Str)], [("self" : Str), ("letters" : Str), ("days" : Str), ("number" : Str)], MP.c_Waits_shows⟩
abbrev d21 : Dfn := ⟨"shows", "Ahead.shows", (inClass (top 13) 0), [("self" : Str), ("letters" : Str), ("spans" : Str), ("one" : Str), ("other" : Str), ("days" : Str)], [("self" : Str), ("letters" : Str), ("spans" : Str), ("one" : Str), ("other" : Str)], MP.c_Ahead_shows⟩
abbrev d22 : Dfn := ⟨"__init__", "Perhaps.__init__", (inClass (top 14) 0), [("self" : Str), ("days" : Str)], [("self" : Str), ("days" : Str)], MP.c_Perhaps___init__⟩
abbrev d23 : Dfn := ⟨"shows", "Perhaps.shows", (inClass (top 14) 1), [("self" : Str), ("letters" : Str), ("spans" : Str), ("one" : Str), ("other" : Str), ("span" : Str), ("day" : Str)], [("self" : Str), ("letters" : Str), ("spans" : Str), ("one" : Str), ("other" : Str)], MP.c_Perhaps_shows⟩
abbrev d24 : Dfn := ⟨"heir_of", "heir_of", (top 5), [("heirs" : Str), ("gone" : Str), ("day" : Str), ("person" : Str)], [("heirs" : Str), ("gone" : Str), ("day" : Str)], MP.c_heir_of⟩
abbrev d25 : Dfn := ⟨"check_gone", "check_gone", (top 45), [("gone" : Str)], [("gone" : Str)], MP.c_check_gone⟩
abbrev d26 : Dfn := ⟨"handed_out", "handed_out", (top 51), [("letters" : Str), ("days" : Str), ("gone" : Str), ("dues" : Str), ("turn" : Str), ("number" : Str), ("day" : Str)], [("letters" : Str), ("days" : Str), ("gone" : Str)], MP.c_handed_out⟩
abbrev d27 : Dfn := ⟨"is_span", "is_span", (top 46), [("thing" : Str)], [("thing" : Str)], MP.c_is_span⟩
abbrev d28 : Dfn := ⟨"check_spans", "check_spans", (top 47), [("letters" : Str), ("spans" : Str), ("one" : Str)], [("letters" : Str), ("spans" : Str)], MP.c_check_spans⟩
abbrev d29 : Dfn := ⟨"between", "between", (top 52), [("letters" : Str), ("spans" : Str), ("least" : Str), ("most" : Str), ("one" : Str), ("other" : Str)], [("letters" : Str), ("spans" : Str)], MP.c_between⟩
abbrev d30 : Dfn := ⟨"surely", "surely", (top 53), [("letters" : Str), ("spans" : Str), ("one" : Str), ("other" : Str), ("dues" : Str), ("days" : Str)], [("letters" : Str), ("spans" : Str), ("one" : Str), ("other" : Str)], MP.c_surely⟩
abbrev d31 : Dfn := ⟨"__init__", "Keeper.__init__", (inClass (top 55) 0), [("self" : Str)], [("self" : Str)], MP.c_Keeper___init__⟩
abbrev d32 : Dfn := ⟨"copied", "Keeper.copied", (inClass (top 55) 1), [("self" : Str), ("letter" : Str), ("at" : Str)], [("self" : Str), ("letter" : Str), ("at" : Str)], MP.c_Keeper_copied⟩
abbrev d33 : Dfn := ⟨"put", "Keeper.put", (inClass (top 55) 2), [("self" : Str), ("letter" : Str), ("mine" : Str)], [("self" : Str), ("letter" : Str)], MP.c_Keeper_put⟩
abbrev d34 : Dfn := ⟨"check_left", "Keeper.check_left", (inClass (top 55) 3), [("self" : Str), ("number" : Str)], [("self" : Str), ("number" : Str)], MP.c_Keeper_check_left⟩
abbrev d35 : Dfn := ⟨"change", "Keeper.change", (inClass (top 55) 4), [("self" : Str), ("number" : Str), ("letter" : Str)], [("self" : Str), ("number" : Str), ("letter" : Str)], MP.c_Keeper_change⟩
abbrev d36 : Dfn := ⟨"take_back", "Keeper.take_back", (inClass (top 55) 5), [("self" : Str), ("number" : Str)], [("self" : Str), ("number" : Str)], MP.c_Keeper_take_back⟩
abbrev d37 : Dfn := ⟨"tell", "Keeper.tell", (inClass (top 55) 6), [("self" : Str), ("happening" : Str), ("day" : Str)], [("self" : Str), ("happening" : Str), ("day" : Str)], MP.c_Keeper_tell⟩
abbrev d38 : Dfn := ⟨"leave", "Keeper.leave", (inClass (top 55) 7), [("self" : Str), ("person" : Str), ("day" : Str)], [("self" : Str), ("person" : Str), ("day" : Str)], MP.c_Keeper_leave⟩
abbrev d39 : Dfn := ⟨"noted", "Keeper.noted", (inClass (top 55) 8), [("self" : Str), ("row" : Str), ("at" : Str), ("day" : Str), ("new" : Str)], [("self" : Str), ("row" : Str), ("at" : Str), ("day" : Str)], MP.c_Keeper_noted⟩
abbrev d40 : Dfn := ⟨"due_by_now", "Keeper.due_by_now", (inClass (top 55) 9), [("self" : Str), ("found" : Str), ("number" : Str), ("heirs" : Str), ("terms" : Str), ("some" : Str), ("term" : Str)], [("self" : Str)], MP.c_Keeper_due_by_now⟩
abbrev d41 : Dfn := ⟨"hand", "Keeper.hand", (inClass (top 55) 10), [("self" : Str), ("dues" : Str), ("found" : Str), ("number" : Str), ("day" : Str), ("told" : Str)], [("self" : Str)], MP.c_Keeper_hand⟩
abbrev d42 : Dfn := ⟨"pass_day", "Keeper.pass_day", (inClass (top 55) 11), [("self" : Str)], [("self" : Str)], MP.c_Keeper_pass_day⟩
abbrev d43 : Dfn := ⟨"kept", "Keeper.kept", (inClass (top 55) 12), [("self" : Str), ("number" : Str)], [("self" : Str)], MP.c_Keeper_kept⟩
abbrev d44 : Dfn := ⟨"all_letters", "Keeper.all_letters", (inClass (top 55) 13), [("self" : Str), ("heirs" : Str), ("terms" : Str)], [("self" : Str)], MP.c_Keeper_all_letters⟩
abbrev d144 : Dfn := ⟨"_law_letters", "_law_letters", (top 57), [("_law_letters_here" : Str)], [], MP.cl144⟩
abbrev d145 : Dfn := ⟨"_law_chains_right", "_law_chains_right", (top 58), [("_law_letters_here" : Str), ("_law_none" : Str), ("_law_cases" : Str), ("_law_chain" : Str), ("_law_number" : Str), ("_law_due" : Str)], [], MP.cl145⟩
abbrev d146 : Dfn := ⟨"_law_handed_right", "_law_handed_right", (top 59), [("_law_letters_here" : Str), ("_law_days" : Str), ("_law_gone" : Str), ("_law_told" : Str)], [], MP.cl146⟩
abbrev d147 : Dfn := ⟨"_law_spans_right", "_law_spans_right", (top 60), [("_law_letters_here" : Str), ("_law_rest" : Str), ("_law_same" : Str), ("_law_found" : Str), ("_law_one" : Str), ("_law_turned" : Str), ("_law_day" : Str), ("_law_due" : Str)], [], MP.cl147⟩
abbrev d148 : Dfn := ⟨"_law_word", "_law_word", (top 61), [("_law_ask" : Str), ("_law_keeper" : Str), ("error" : Str), ("_law_kinds" : Str)], [("_law_ask" : Str), ("_law_keeper" : Str)], MP.cl148⟩
abbrev d149 : Dfn := ⟨"_law_keeper_right", "_law_keeper_right", (top 62), [("_law_person" : Str), ("_law_keeper" : Str), ("_law_late" : Str), ("_law_told" : Str), ("_law_turn" : Str)], [("_law_person" : Str)], MP.cl149⟩
abbrev d150 : Dfn := ⟨"_law_keeper_on_right", "_law_keeper_on_right", (top 63), [("_law_keeper" : Str), ("_law_late" : Str), ("_law_person" : Str), ("_law_turn" : Str), ("_law_told" : Str), ("_law_asks" : Str), ("_law_ask" : Str)], [("_law_keeper" : Str), ("_law_late" : Str), ("_law_person" : Str)], MP.cl150⟩
abbrev d151 : Dfn := ⟨"law", "law", (top 64), [("_law_script" : Str)], [("_law_script" : Str)], MP.cl151⟩
def D : List Dfn := [d0, d1, d2, d3, d4, d5, d6, d7, d8, d9, d10, d11, d12, d13, d14, d15, d16, d17, d18, d19, d20, d21, d22, d23, d24, d25, d26, d27, d28, d29, d30, d31, d32, d33, d34, d35, d36, d37, d38, d39, d40, d41, d42, d43, d44, d0, d0, d0, d0, d0, d0, d0, d0, d0, d0, d0, d0, d0, d0, d0, d0, d0, d0, d0, d0, d0, d0, d0, d0, d0, d0, d0, d0, d0, d0, d0, d0, d0, d0, d0, d0, d0, d0, d0, d0, d0, d0, d0, d0, d0, d0, d0, d0, d0, d0, d0, d0, d0, d0, d0, d0, d0, d0, d0, d0, d0, d0, d0, d0, d0, d0, d0, d0, d0, d0, d0, d0, d0, d0, d0, d0, d0, d0, d0, d0, d0, d0, d0, d0, d0, d0, d0, d0, d0, d0, d0, d0, d0, d0, d0, d0, d0, d0, d0, d144, d145, d146, d147, d148, d149, d150, d151]
def tb : Tab where
  init := fun k => match k with | 1 => some 17 | 2 => some 19 | 4 => some 22 | 5 => some 31 | _ => none
  meth := fun k m => match k, m with | 1, 0 => some 18 | 2, 0 => some 20 | 3, 0 => some 21 | 4, 0 => some 23 | 5, 1 => some 32 | 5, 2 => some 33 | 5, 3 => some 34 | 5, 4 => some 35 | 5, 5 => some 36 | 5, 6 => some 37 | 5, 7 => some 38 | 5, 8 => some 39 | 5, 9 => some 40 | 5, 10 => some 41 | 5, 11 => some 42 | 5, 12 => some 43 | 5, 13 => some 44 | _, _ => none
  sup := fun k => (([[0], [1, 0], [2, 0], [3, 0], [4, 0], [5]] : List (List Nat))).getD k []
  esup := fun k => (([[0], [1, 0], [2, 0], [3, 0], [4, 0], [5, 0], [6, 0], [7, 0], [8, 0], [9, 0], [10, 0], [11, 0], [12, 0]] : List (List Nat))).getD k []
  wh := fun _ => none
  wrd := [(11, 20), (3, 21), (6, 16)]
def P0 : Pg where
  txts := [("day" : Str), ("when" : Str), ("after" : Str), ("letters" : Str), ("over" : Str), ("days" : Str), ("gone" : Str), ("now" : Str), ("back" : Str), ("out" : Str), ("tell" : Str), ("leave" : Str), ("1" : Str), ("0" : Str), ("spans" : Str), ("01" : Str), ("letter" : Str), ("then" : Str), ("done" : Str), ("other" : Str), ("unlike" : Str), ("number" : Str)]
  flds := [("chain" : Str), ("days" : Str), ("letters" : Str), ("over" : Str), ("gone" : Str), ("now" : Str)]
  funs := [some ("day_of" : Str), some ("dues_of" : Str), some ("is_whole" : Str), some ("is_between" : Str), some ("are_heirs" : Str), some ("is_term" : Str), some ("is_letter" : Str), some ("check_letters" : Str), some ("are_days" : Str), some ("check_days" : Str), some ("due_days" : Str), some ("chain_to" : Str), some ("chain_day" : Str), some ("ends_of" : Str), some ("is_ahead" : Str), some ("lists_to_try" : Str), some ("why" : Str), none, none, none, none, none, none, none, some ("heir_of" : Str), some ("check_gone" : Str), some ("handed_out" : Str), some ("is_span" : Str), some ("check_spans" : Str), some ("between" : Str), some ("surely" : Str), none, none, none, none, none, none, none, none, none, none, none, none, none, none, none, none, none, none, none, none, none, none, none, none, none, none, none, none, none, none, none, none, none, none, none, none, none, none, none, none, none, none, none, none, none, none, none, none, none, none, none, none, none, none, none, none, none, none, none, none, none, none, none, none, none, none, none, none, none, none, none, none, none, none, none, none, none, none, none, none, none, none, none, none, none, none, none, none, none, none, none, none, none, none, none, none, none, none, none, none, none, none, none, none, none, none, none, none, none, none, none, none, none, some ("_law_letters" : Str), some ("_law_chains_right" : Str), some ("_law_handed_right" : Str), some ("_law_spans_right" : Str), some ("_law_word" : Str), some ("_law_keeper_right" : Str), some ("_law_keeper_on_right" : Str), some ("law" : Str)]
  clss := [some ("Answer" : Str), some ("Why" : Str), some ("Waits" : Str), some ("Ahead" : Str), some ("Perhaps" : Str), some ("Keeper" : Str)]
  meths := [("shows" : Str), ("copied" : Str), ("put" : Str), ("check_left" : Str), ("change" : Str), ("take_back" : Str), ("tell" : Str), ("leave" : Str), ("noted" : Str), ("due_by_now" : Str), ("hand" : Str), ("pass_day" : Str), ("kept" : Str), ("all_letters" : Str)]
  cons := [("MOST_LETTERS", 40), ("MOST_HEIRS", 3), ("MOST_PERSON", 9), ("MOST_TERMS", 4), ("HAPPENINGS", 6), ("MOST_DAY", 60), ("MOST_DELAY", 20)]
  ar := fun i => ([3, 2, 1, 3, 1, 2, 2, 1, 2, 2, 2, 3, 4, 2, 3, 1, 3, 2, 4, 2, 4, 5, 2, 5, 3, 1, 3, 1, 2, 2, 4, 1, 3, 2, 2, 3, 2, 3, 3, 4, 1, 1, 1, 1, 1, 3, 3, 3, 3, 3, 3, 3, 3, 3, 3, 3, 3, 3, 3, 3, 3, 3, 3, 3, 3, 3, 3, 3, 3, 3, 3, 3, 3, 3, 3, 3, 3, 3, 3, 3, 3, 3, 3, 3, 3, 3, 3, 3, 3, 3, 3, 3, 3, 3, 3, 3, 3, 3, 3, 3, 3, 3, 3, 3, 3, 3, 3, 3, 3, 3, 3, 3, 3, 3, 3, 3, 3, 3, 3, 3, 3, 3, 3, 3, 3, 3, 3, 3, 3, 3, 3, 3, 3, 3, 3, 3, 3, 3, 3, 3, 3, 3, 3, 3, 0, 0, 0, 0, 2, 1, 3, 1] : List Nat).getD i 0
  T := tb
  excs := [some ("LetterError" : Str), some ("BadLetters" : Str), some ("BadDays" : Str), some ("BadNumber" : Str), some ("BadGone" : Str), some ("BadSpans" : Str), some ("BadLetter" : Str), some ("BadHappening" : Str), some ("BadDay" : Str), some ("BadPerson" : Str), some ("NoDay" : Str), some ("Unlike" : Str), some ("TooMany" : Str)]
  exk := [0, 10]
def TL : List LamD := [⟨[("_law_it" : Str)], [], [], [(("_law_it" : Str), .local)], (.ocall .dir 7 (.var 0) (.cons (.cst (.int 0)) (.cons (.cst (.int 4)) .nil)))⟩,
  ⟨[("_law_it" : Str)], [], [], [(("_law_it" : Str), .local)], (.ocall .dir 6 (.var 0) (.cons (.cst (.int 0)) (.cons (.cst (.int 1)) .nil)))⟩,
  ⟨[("_law_eight" : Str)], [], [], [(("_law_eight" : Str), .local)], (.ocall .dir 5 (.var 0) (.cons (.cst (.int 9)) .nil))⟩,
  ⟨[("_law_seven" : Str)], [], [], [(("_law_seven" : Str), .local)], (.ocall .dir 4 (.var 0) (.cons (.cst (.int 4)) (.cons (.tup (.cons (.lst true (.cons (.cst (.int 1)) .nil)) (.cons (.lst true (.cons (.tup (.cons (.cst (.str 2)) (.cons (.cst (.int 5)) (.cons (.cst (.int 1)) .nil)))) .nil)) .nil))) .nil)))⟩,
  ⟨[("_law_six" : Str)], [], [], [(("_law_six" : Str), .local)], (.ocall .dir 4 (.var 0) (.cons (.cst (.int 4)) (.cons (.tup (.cons (.lst true (.cons (.cst (.int 1)) .nil)) (.cons (.lst true (.cons (.tup (.cons (.cst (.str 2)) (.cons (.cst (.int 4)) (.cons (.cst (.int 1)) .nil)))) .nil)) .nil))) .nil)))⟩,
  ⟨[("_law_two" : Str)], [], [], [(("_law_two" : Str), .local)], (.ocall .dir 5 (.var 0) (.cons (.cst (.int 3)) .nil))⟩,
  ⟨[("_law_one" : Str)], [("_law_late" : Str)], [1], [(("_law_one" : Str), .local), (("_law_late" : Str), .free)], (.ocall .dir 4 (.var 0) (.cons (.cst (.int 0)) (.cons (.var 1) .nil)))⟩]
def pg : Pg := { P0 with lnm := fun l => (TL.map (·.nm)).getD l [], lamB := lamBof P0 TL }
theorem ok0 : ∀ i, pg.ar i = 3 → Dfn.Ok pg TL i d0 := fun i e => ⟨⟨rfl, rfl, rfl, by decide +kernel, rfl, by decide +kernel, by decide +kernel⟩, fun K f fd F => F.binds (ps := [("term" : Str), ("days" : Str), ("found" : Str)]) fun _ _ _ _ _ _ us hl => match us, hl with | [_, _, _], _ => rfl, rfl, rfl, e, by decide +kernel, fun _ z => nomatch z⟩
theorem ok1 : ∀ i, pg.ar i = 2 → Dfn.Ok pg TL i d1 := fun i e => ⟨⟨rfl, rfl, rfl, by decide +kernel, rfl, by decide +kernel, by decide +kernel⟩, fun K f fd F => F.binds (ps := [("letters" : Str), ("days" : Str)]) fun _ _ _ _ _ _ us hl => match us, hl with | [_, _], _ => rfl, rfl, rfl, e, by decide +kernel, fun _ z => nomatch z⟩
theorem ok2 : ∀ i, pg.ar i = 1 → Dfn.Ok pg TL i d2 := fun i e => ⟨⟨rfl, rfl, rfl, by decide +kernel, rfl, by decide +kernel, by decide +kernel⟩, fun K f fd F => F.binds (ps := [("thing" : Str)]) fun _ _ _ _ _ _ us hl => match us, hl with | [_], _ => rfl, rfl, rfl, e, by decide +kernel, fun _ z => nomatch z⟩
theorem ok3 : ∀ i, pg.ar i = 3 → Dfn.Ok pg TL i d3 := fun i e => ⟨⟨rfl, rfl, rfl, by decide +kernel, rfl, by decide +kernel, by decide +kernel⟩, fun K f fd F => F.binds (ps := [("thing" : Str), ("least" : Str), ("most" : Str)]) fun _ _ _ _ _ _ us hl => match us, hl with | [_, _, _], _ => rfl, rfl, rfl, e, by decide +kernel, fun _ z => nomatch z⟩
theorem ok4 : ∀ i, pg.ar i = 1 → Dfn.Ok pg TL i d4 := fun i e => ⟨⟨rfl, rfl, rfl, by decide +kernel, rfl, by decide +kernel, by decide +kernel⟩, fun K f fd F => F.binds (ps := [("thing" : Str)]) fun _ _ _ _ _ _ us hl => match us, hl with | [_], _ => rfl, rfl, rfl, e, by decide +kernel, fun _ z => nomatch z⟩
theorem ok5 : ∀ i, pg.ar i = 2 → Dfn.Ok pg TL i d5 := fun i e => ⟨⟨rfl, rfl, rfl, by decide +kernel, rfl, by decide +kernel, by decide +kernel⟩, fun K f fd F => F.binds (ps := [("thing" : Str), ("at" : Str)]) fun _ _ _ _ _ _ us hl => match us, hl with | [_, _], _ => rfl, rfl, rfl, e, by decide +kernel, fun _ z => nomatch z⟩
theorem ok6 : ∀ i, pg.ar i = 2 → Dfn.Ok pg TL i d6 := fun i e => ⟨⟨rfl, rfl, rfl, by decide +kernel, rfl, by decide +kernel, by decide +kernel⟩, fun K f fd F => F.binds (ps := [("thing" : Str), ("at" : Str)]) fun _ _ _ _ _ _ us hl => match us, hl with | [_, _], _ => rfl, rfl, rfl, e, by decide +kernel, fun _ z => nomatch z⟩
theorem ok7 : ∀ i, pg.ar i = 1 → Dfn.Ok pg TL i d7 := fun i e => ⟨⟨rfl, rfl, rfl, by decide +kernel, rfl, by decide +kernel, by decide +kernel⟩, fun K f fd F => F.binds (ps := [("letters" : Str)]) fun _ _ _ _ _ _ us hl => match us, hl with | [_], _ => rfl, rfl, rfl, e, by decide +kernel, fun _ z => nomatch z⟩
theorem ok8 : ∀ i, pg.ar i = 2 → Dfn.Ok pg TL i d8 := fun i e => ⟨⟨rfl, rfl, rfl, by decide +kernel, rfl, by decide +kernel, by decide +kernel⟩, fun K f fd F => F.binds (ps := [("thing" : Str), ("many" : Str)]) fun _ _ _ _ _ _ us hl => match us, hl with | [_, _], _ => rfl, rfl, rfl, e, by decide +kernel, fun _ z => nomatch z⟩
theorem ok9 : ∀ i, pg.ar i = 2 → Dfn.Ok pg TL i d9 := fun i e => ⟨⟨rfl, rfl, rfl, by decide +kernel, rfl, by decide +kernel, by decide +kernel⟩, fun K f fd F => F.binds (ps := [("letters" : Str), ("days" : Str)]) fun _ _ _ _ _ _ us hl => match us, hl with | [_, _], _ => rfl, rfl, rfl, e, by decide +kernel, fun _ z => nomatch z⟩
theorem ok10 : ∀ i, pg.ar i = 2 → Dfn.Ok pg TL i d10 := fun i e => ⟨⟨rfl, rfl, rfl, by decide +kernel, rfl, by decide +kernel, by decide +kernel⟩, fun K f fd F => F.binds (ps := [("letters" : Str), ("days" : Str)]) fun _ _ _ _ _ _ us hl => match us, hl with | [_, _], _ => rfl, rfl, rfl, e, by decide +kernel, fun _ z => nomatch z⟩
theorem ok11 : ∀ i, pg.ar i = 3 → Dfn.Ok pg TL i d11 := fun i e => ⟨⟨rfl, rfl, rfl, by decide +kernel, rfl, by decide +kernel, by decide +kernel⟩, fun K f fd F => F.binds (ps := [("letters" : Str), ("days" : Str), ("number" : Str)]) fun _ _ _ _ _ _ us hl => match us, hl with | [_, _, _], _ => rfl, rfl, rfl, e, by decide +kernel, fun _ z => nomatch z⟩
theorem ok12 : ∀ i, pg.ar i = 4 → Dfn.Ok pg TL i d12 := fun i e => ⟨⟨rfl, rfl, rfl, by decide +kernel, rfl, by decide +kernel, by decide +kernel⟩, fun K f fd F => F.binds (ps := [("letters" : Str), ("days" : Str), ("number" : Str), ("chain" : Str)]) fun _ _ _ _ _ _ us hl => match us, hl with | [_, _, _, _], _ => rfl, rfl, rfl, e, by decide +kernel, fun _ z => nomatch z⟩
theorem ok13 : ∀ i, pg.ar i = 2 → Dfn.Ok pg TL i d13 := fun i e => ⟨⟨rfl, rfl, rfl, by decide +kernel, rfl, by decide +kernel, by decide +kernel⟩, fun K f fd F => F.binds (ps := [("spans" : Str), ("last" : Str)]) fun _ _ _ _ _ _ us hl => match us, hl with | [_, _], _ => rfl, rfl, rfl, e, by decide +kernel, fun _ z => nomatch z⟩
theorem ok14 : ∀ i, pg.ar i = 3 → Dfn.Ok pg TL i d14 := fun i e => ⟨⟨rfl, rfl, rfl, by decide +kernel, rfl, by decide +kernel, by decide +kernel⟩, fun K f fd F => F.binds (ps := [("dues" : Str), ("one" : Str), ("other" : Str)]) fun _ _ _ _ _ _ us hl => match us, hl with | [_, _, _], _ => rfl, rfl, rfl, e, by decide +kernel, fun _ z => nomatch z⟩
theorem ok15 : ∀ i, pg.ar i = 1 → Dfn.Ok pg TL i d15 := fun i e => ⟨⟨rfl, rfl, rfl, by decide +kernel, rfl, by decide +kernel, by decide +kernel⟩, fun K f fd F => F.binds (ps := [("spans" : Str)]) fun _ _ _ _ _ _ us hl => match us, hl with | [_], _ => rfl, rfl, rfl, e, by decide +kernel, fun _ z => nomatch z⟩
theorem ok16 : ∀ i, pg.ar i = 3 → Dfn.Ok pg TL i d16 := fun i e => ⟨⟨rfl, rfl, rfl, by decide +kernel, rfl, by decide +kernel, by decide +kernel⟩, fun K f fd F => F.binds (ps := [("letters" : Str), ("days" : Str), ("number" : Str)]) fun _ _ _ _ _ _ us hl => match us, hl with | [_, _, _], _ => rfl, rfl, rfl, e, by decide +kernel, fun _ z => nomatch z⟩
theorem ok17 : ∀ i, pg.ar i = 2 → Dfn.Ok pg TL i d17 := fun i e => ⟨⟨rfl, rfl, rfl, by decide +kernel, rfl, by decide +kernel, by decide +kernel⟩, fun K f fd F => F.binds (ps := [("self" : Str), ("chain" : Str)]) fun _ _ _ _ _ _ us hl => match us, hl with | [_, _], _ => rfl, rfl, rfl, e, by decide +kernel, fun _ z => nomatch z⟩
theorem ok18 : ∀ i, pg.ar i = 4 → Dfn.Ok pg TL i d18 := fun i e => ⟨⟨rfl, rfl, rfl, by decide +kernel, rfl, by decide +kernel, by decide +kernel⟩, fun K f fd F => F.binds (ps := [("self" : Str), ("letters" : Str), ("days" : Str), ("number" : Str)]) fun _ _ _ _ _ _ us hl => match us, hl with | [_, _, _, _], _ => rfl, rfl, rfl, e, by decide +kernel, fun _ z => nomatch z⟩
theorem ok19 : ∀ i, pg.ar i = 2 → Dfn.Ok pg TL i d19 := fun i e => ⟨⟨rfl, rfl, rfl, by decide +kernel, rfl, by decide +kernel, by decide +kernel⟩, fun K f fd F => F.binds (ps := [("self" : Str), ("chain" : Str)]) fun _ _ _ _ _ _ us hl => match us, hl with | [_, _], _ => rfl, rfl, rfl, e, by decide +kernel, fun _ z => nomatch z⟩
theorem ok20 : ∀ i, pg.ar i = 4 → Dfn.Ok pg TL i d20 := fun i e => ⟨⟨rfl, rfl, rfl, by decide +kernel, rfl, by decide +kernel, by decide +kernel⟩, fun K f fd F => F.binds (ps := [("self" : Str), ("letters" : Str), ("days" : Str), ("number" : Str)]) fun _ _ _ _ _ _ us hl => match us, hl with | [_, _, _, _], _ => rfl, rfl, rfl, e, by decide +kernel, fun _ z => nomatch z⟩
theorem ok21 : ∀ i, pg.ar i = 5 → Dfn.Ok pg TL i d21 := fun i e => ⟨⟨rfl, rfl, rfl, by decide +kernel, rfl, by decide +kernel, by decide +kernel⟩, fun K f fd F => F.binds (ps := [("self" : Str), ("letters" : Str), ("spans" : Str), ("one" : Str), ("other" : Str)]) fun _ _ _ _ _ _ us hl => match us, hl with | [_, _, _, _, _], _ => rfl, rfl, rfl, e, by decide +kernel, fun _ z => nomatch z⟩
theorem ok22 : ∀ i, pg.ar i = 2 → Dfn.Ok pg TL i d22 := fun i e => ⟨⟨rfl, rfl, rfl, by decide +kernel, rfl, by decide +kernel, by decide +kernel⟩, fun K f fd F => F.binds (ps := [("self" : Str), ("days" : Str)]) fun _ _ _ _ _ _ us hl => match us, hl with | [_, _], _ => rfl, rfl, rfl, e, by decide +kernel, fun _ z => nomatch z⟩
theorem ok23 : ∀ i, pg.ar i = 5 → Dfn.Ok pg TL i d23 := fun i e => ⟨⟨rfl, rfl, rfl, by decide +kernel, rfl, by decide +kernel, by decide +kernel⟩, fun K f fd F => F.binds (ps := [("self" : Str), ("letters" : Str), ("spans" : Str), ("one" : Str), ("other" : Str)]) fun _ _ _ _ _ _ us hl => match us, hl with | [_, _, _, _, _], _ => rfl, rfl, rfl, e, by decide +kernel, fun _ z => nomatch z⟩
theorem ok24 : ∀ i, pg.ar i = 3 → Dfn.Ok pg TL i d24 := fun i e => ⟨⟨rfl, rfl, rfl, by decide +kernel, rfl, by decide +kernel, by decide +kernel⟩, fun K f fd F => F.binds (ps := [("heirs" : Str), ("gone" : Str), ("day" : Str)]) fun _ _ _ _ _ _ us hl => match us, hl with | [_, _, _], _ => rfl, rfl, rfl, e, by decide +kernel, fun _ z => nomatch z⟩
theorem ok25 : ∀ i, pg.ar i = 1 → Dfn.Ok pg TL i d25 := fun i e => ⟨⟨rfl, rfl, rfl, by decide +kernel, rfl, by decide +kernel, by decide +kernel⟩, fun K f fd F => F.binds (ps := [("gone" : Str)]) fun _ _ _ _ _ _ us hl => match us, hl with | [_], _ => rfl, rfl, rfl, e, by decide +kernel, fun _ z => nomatch z⟩
theorem ok26 : ∀ i, pg.ar i = 3 → Dfn.Ok pg TL i d26 := fun i e => ⟨⟨rfl, rfl, rfl, by decide +kernel, rfl, by decide +kernel, by decide +kernel⟩, fun K f fd F => F.binds (ps := [("letters" : Str), ("days" : Str), ("gone" : Str)]) fun _ _ _ _ _ _ us hl => match us, hl with | [_, _, _], _ => rfl, rfl, rfl, e, by decide +kernel, fun _ z => nomatch z⟩
theorem ok27 : ∀ i, pg.ar i = 1 → Dfn.Ok pg TL i d27 := fun i e => ⟨⟨rfl, rfl, rfl, by decide +kernel, rfl, by decide +kernel, by decide +kernel⟩, fun K f fd F => F.binds (ps := [("thing" : Str)]) fun _ _ _ _ _ _ us hl => match us, hl with | [_], _ => rfl, rfl, rfl, e, by decide +kernel, fun _ z => nomatch z⟩
theorem ok28 : ∀ i, pg.ar i = 2 → Dfn.Ok pg TL i d28 := fun i e => ⟨⟨rfl, rfl, rfl, by decide +kernel, rfl, by decide +kernel, by decide +kernel⟩, fun K f fd F => F.binds (ps := [("letters" : Str), ("spans" : Str)]) fun _ _ _ _ _ _ us hl => match us, hl with | [_, _], _ => rfl, rfl, rfl, e, by decide +kernel, fun _ z => nomatch z⟩
theorem ok29 : ∀ i, pg.ar i = 2 → Dfn.Ok pg TL i d29 := fun i e => ⟨⟨rfl, rfl, rfl, by decide +kernel, rfl, by decide +kernel, by decide +kernel⟩, fun K f fd F => F.binds (ps := [("letters" : Str), ("spans" : Str)]) fun _ _ _ _ _ _ us hl => match us, hl with | [_, _], _ => rfl, rfl, rfl, e, by decide +kernel, fun _ z => nomatch z⟩
theorem ok30 : ∀ i, pg.ar i = 4 → Dfn.Ok pg TL i d30 := fun i e => ⟨⟨rfl, rfl, rfl, by decide +kernel, rfl, by decide +kernel, by decide +kernel⟩, fun K f fd F => F.binds (ps := [("letters" : Str), ("spans" : Str), ("one" : Str), ("other" : Str)]) fun _ _ _ _ _ _ us hl => match us, hl with | [_, _, _, _], _ => rfl, rfl, rfl, e, by decide +kernel, fun _ z => nomatch z⟩
theorem ok31 : ∀ i, pg.ar i = 1 → Dfn.Ok pg TL i d31 := fun i e => ⟨⟨rfl, rfl, rfl, by decide +kernel, rfl, by decide +kernel, by decide +kernel⟩, fun K f fd F => F.binds (ps := [("self" : Str)]) fun _ _ _ _ _ _ us hl => match us, hl with | [_], _ => rfl, rfl, rfl, e, by decide +kernel, fun _ z => nomatch z⟩
theorem ok32 : ∀ i, pg.ar i = 3 → Dfn.Ok pg TL i d32 := fun i e => ⟨⟨rfl, rfl, rfl, by decide +kernel, rfl, by decide +kernel, by decide +kernel⟩, fun K f fd F => F.binds (ps := [("self" : Str), ("letter" : Str), ("at" : Str)]) fun _ _ _ _ _ _ us hl => match us, hl with | [_, _, _], _ => rfl, rfl, rfl, e, by decide +kernel, fun _ z => nomatch z⟩
theorem ok33 : ∀ i, pg.ar i = 2 → Dfn.Ok pg TL i d33 := fun i e => ⟨⟨rfl, rfl, rfl, by decide +kernel, rfl, by decide +kernel, by decide +kernel⟩, fun K f fd F => F.binds (ps := [("self" : Str), ("letter" : Str)]) fun _ _ _ _ _ _ us hl => match us, hl with | [_, _], _ => rfl, rfl, rfl, e, by decide +kernel, fun _ z => nomatch z⟩
theorem ok34 : ∀ i, pg.ar i = 2 → Dfn.Ok pg TL i d34 := fun i e => ⟨⟨rfl, rfl, rfl, by decide +kernel, rfl, by decide +kernel, by decide +kernel⟩, fun K f fd F => F.binds (ps := [("self" : Str), ("number" : Str)]) fun _ _ _ _ _ _ us hl => match us, hl with | [_, _], _ => rfl, rfl, rfl, e, by decide +kernel, fun _ z => nomatch z⟩
theorem ok35 : ∀ i, pg.ar i = 3 → Dfn.Ok pg TL i d35 := fun i e => ⟨⟨rfl, rfl, rfl, by decide +kernel, rfl, by decide +kernel, by decide +kernel⟩, fun K f fd F => F.binds (ps := [("self" : Str), ("number" : Str), ("letter" : Str)]) fun _ _ _ _ _ _ us hl => match us, hl with | [_, _, _], _ => rfl, rfl, rfl, e, by decide +kernel, fun _ z => nomatch z⟩
theorem ok36 : ∀ i, pg.ar i = 2 → Dfn.Ok pg TL i d36 := fun i e => ⟨⟨rfl, rfl, rfl, by decide +kernel, rfl, by decide +kernel, by decide +kernel⟩, fun K f fd F => F.binds (ps := [("self" : Str), ("number" : Str)]) fun _ _ _ _ _ _ us hl => match us, hl with | [_, _], _ => rfl, rfl, rfl, e, by decide +kernel, fun _ z => nomatch z⟩
theorem ok37 : ∀ i, pg.ar i = 3 → Dfn.Ok pg TL i d37 := fun i e => ⟨⟨rfl, rfl, rfl, by decide +kernel, rfl, by decide +kernel, by decide +kernel⟩, fun K f fd F => F.binds (ps := [("self" : Str), ("happening" : Str), ("day" : Str)]) fun _ _ _ _ _ _ us hl => match us, hl with | [_, _, _], _ => rfl, rfl, rfl, e, by decide +kernel, fun _ z => nomatch z⟩
theorem ok38 : ∀ i, pg.ar i = 3 → Dfn.Ok pg TL i d38 := fun i e => ⟨⟨rfl, rfl, rfl, by decide +kernel, rfl, by decide +kernel, by decide +kernel⟩, fun K f fd F => F.binds (ps := [("self" : Str), ("person" : Str), ("day" : Str)]) fun _ _ _ _ _ _ us hl => match us, hl with | [_, _, _], _ => rfl, rfl, rfl, e, by decide +kernel, fun _ z => nomatch z⟩
theorem ok39 : ∀ i, pg.ar i = 4 → Dfn.Ok pg TL i d39 := fun i e => ⟨⟨rfl, rfl, rfl, by decide +kernel, rfl, by decide +kernel, by decide +kernel⟩, fun K f fd F => F.binds (ps := [("self" : Str), ("row" : Str), ("at" : Str), ("day" : Str)]) fun _ _ _ _ _ _ us hl => match us, hl with | [_, _, _, _], _ => rfl, rfl, rfl, e, by decide +kernel, fun _ z => nomatch z⟩
theorem ok40 : ∀ i, pg.ar i = 1 → Dfn.Ok pg TL i d40 := fun i e => ⟨⟨rfl, rfl, rfl, by decide +kernel, rfl, by decide +kernel, by decide +kernel⟩, fun K f fd F => F.binds (ps := [("self" : Str)]) fun _ _ _ _ _ _ us hl => match us, hl with | [_], _ => rfl, rfl, rfl, e, by decide +kernel, fun _ z => nomatch z⟩
theorem ok41 : ∀ i, pg.ar i = 1 → Dfn.Ok pg TL i d41 := fun i e => ⟨⟨rfl, rfl, rfl, by decide +kernel, rfl, by decide +kernel, by decide +kernel⟩, fun K f fd F => F.binds (ps := [("self" : Str)]) fun _ _ _ _ _ _ us hl => match us, hl with | [_], _ => rfl, rfl, rfl, e, by decide +kernel, fun _ z => nomatch z⟩
theorem ok42 : ∀ i, pg.ar i = 1 → Dfn.Ok pg TL i d42 := fun i e => ⟨⟨rfl, rfl, rfl, by decide +kernel, rfl, by decide +kernel, by decide +kernel⟩, fun K f fd F => F.binds (ps := [("self" : Str)]) fun _ _ _ _ _ _ us hl => match us, hl with | [_], _ => rfl, rfl, rfl, e, by decide +kernel, fun _ z => nomatch z⟩
theorem ok43 : ∀ i, pg.ar i = 1 → Dfn.Ok pg TL i d43 := fun i e => ⟨⟨rfl, rfl, rfl, by decide +kernel, rfl, by decide +kernel, by decide +kernel⟩, fun K f fd F => F.binds (ps := [("self" : Str)]) fun _ _ _ _ _ _ us hl => match us, hl with | [_], _ => rfl, rfl, rfl, e, by decide +kernel, fun _ z => nomatch z⟩
theorem ok44 : ∀ i, pg.ar i = 1 → Dfn.Ok pg TL i d44 := fun i e => ⟨⟨rfl, rfl, rfl, by decide +kernel, rfl, by decide +kernel, by decide +kernel⟩, fun K f fd F => F.binds (ps := [("self" : Str)]) fun _ _ _ _ _ _ us hl => match us, hl with | [_], _ => rfl, rfl, rfl, e, by decide +kernel, fun _ z => nomatch z⟩
theorem ok144 : ∀ i, pg.ar i = 0 → Dfn.Ok pg TL i d144 := fun i e => ⟨⟨rfl, rfl, rfl, by decide +kernel, rfl, by decide +kernel, by decide +kernel⟩, fun K f fd F => F.binds (ps := []) fun _ _ _ _ _ _ us hl => match us, hl with | [], _ => rfl, rfl, rfl, e, by decide +kernel, fun _ z => nomatch z⟩
theorem ok145 : ∀ i, pg.ar i = 0 → Dfn.Ok pg TL i d145 := fun i e => ⟨⟨rfl, rfl, rfl, by decide +kernel, rfl, by decide +kernel, by decide +kernel⟩, fun K f fd F => F.binds (ps := []) fun _ _ _ _ _ _ us hl => match us, hl with | [], _ => rfl, rfl, rfl, e, by decide +kernel, fun _ z => nomatch z⟩
theorem ok146 : ∀ i, pg.ar i = 0 → Dfn.Ok pg TL i d146 := fun i e => ⟨⟨rfl, rfl, rfl, by decide +kernel, rfl, by decide +kernel, by decide +kernel⟩, fun K f fd F => F.binds (ps := []) fun _ _ _ _ _ _ us hl => match us, hl with | [], _ => rfl, rfl, rfl, e, by decide +kernel, fun _ z => nomatch z⟩
theorem ok147 : ∀ i, pg.ar i = 0 → Dfn.Ok pg TL i d147 := fun i e => ⟨⟨rfl, rfl, rfl, by decide +kernel, rfl, by decide +kernel, by decide +kernel⟩, fun K f fd F => F.binds (ps := []) fun _ _ _ _ _ _ us hl => match us, hl with | [], _ => rfl, rfl, rfl, e, by decide +kernel, fun _ z => nomatch z⟩
theorem ok148 : ∀ i, pg.ar i = 2 → Dfn.Ok pg TL i d148 := fun i e => ⟨⟨rfl, rfl, rfl, by decide +kernel, rfl, by decide +kernel, by decide +kernel⟩, fun K f fd F => F.binds (ps := [("_law_ask" : Str), ("_law_keeper" : Str)]) fun _ _ _ _ _ _ us hl => match us, hl with | [_, _], _ => rfl, rfl, rfl, e, by decide +kernel, fun _ z => nomatch z⟩
theorem ok149 : ∀ i, pg.ar i = 1 → Dfn.Ok pg TL i d149 := fun i e => ⟨⟨rfl, rfl, rfl, by decide +kernel, rfl, by decide +kernel, by decide +kernel⟩, fun K f fd F => F.binds (ps := [("_law_person" : Str)]) fun _ _ _ _ _ _ us hl => match us, hl with | [_], _ => rfl, rfl, rfl, e, by decide +kernel, List.forall_mem_cons.mpr ⟨⟨_, rfl, rfl, rfl, by decide +kernel, by decide +kernel, rfl⟩, List.forall_mem_cons.mpr ⟨⟨_, rfl, rfl, rfl, by decide +kernel, by decide +kernel, rfl⟩, fun _ z => nomatch z⟩⟩⟩
theorem ok150 : ∀ i, pg.ar i = 3 → Dfn.Ok pg TL i d150 := fun i e => ⟨⟨rfl, rfl, rfl, by decide +kernel, rfl, by decide +kernel, by decide +kernel⟩, fun K f fd F => F.binds (ps := [("_law_keeper" : Str), ("_law_late" : Str), ("_law_person" : Str)]) fun _ _ _ _ _ _ us hl => match us, hl with | [_, _, _], _ => rfl, rfl, rfl, e, by decide +kernel, List.forall_mem_cons.mpr ⟨⟨_, rfl, rfl, rfl, by decide +kernel, by decide +kernel, rfl⟩, List.forall_mem_cons.mpr ⟨⟨_, rfl, rfl, rfl, by decide +kernel, by decide +kernel, rfl⟩, List.forall_mem_cons.mpr ⟨⟨_, rfl, rfl, rfl, by decide +kernel, by decide +kernel, rfl⟩, List.forall_mem_cons.mpr ⟨⟨_, rfl, rfl, rfl, by decide +kernel, by decide +kernel, rfl⟩, List.forall_mem_cons.mpr ⟨⟨_, rfl, rfl, rfl, by decide +kernel, by decide +kernel, rfl⟩, fun _ z => nomatch z⟩⟩⟩⟩⟩⟩
theorem ok151 : ∀ i, pg.ar i = 1 → Dfn.Ok pg TL i d151 := fun i e => ⟨⟨rfl, rfl, rfl, by decide +kernel, rfl, by decide +kernel, by decide +kernel⟩, fun K f fd F => F.binds (ps := [("_law_script" : Str)]) fun _ _ _ _ _ _ us hl => match us, hl with | [_], _ => rfl, rfl, rfl, e, by decide +kernel, fun _ z => nomatch z⟩
theorem ok_all : ∀ (i : Nat) (d : Dfn), D[i]? = some d → Dfn.Ok pg TL i d
  | 0, d, e => by cases e; exact ok0 _ (by decide +kernel)
  | 1, d, e => by cases e; exact ok1 _ (by decide +kernel)
  | 2, d, e => by cases e; exact ok2 _ (by decide +kernel)
  | 3, d, e => by cases e; exact ok3 _ (by decide +kernel)
  | 4, d, e => by cases e; exact ok4 _ (by decide +kernel)
  | 5, d, e => by cases e; exact ok5 _ (by decide +kernel)
  | 6, d, e => by cases e; exact ok6 _ (by decide +kernel)
  | 7, d, e => by cases e; exact ok7 _ (by decide +kernel)
  | 8, d, e => by cases e; exact ok8 _ (by decide +kernel)
  | 9, d, e => by cases e; exact ok9 _ (by decide +kernel)
  | 10, d, e => by cases e; exact ok10 _ (by decide +kernel)
  | 11, d, e => by cases e; exact ok11 _ (by decide +kernel)
  | 12, d, e => by cases e; exact ok12 _ (by decide +kernel)
  | 13, d, e => by cases e; exact ok13 _ (by decide +kernel)
  | 14, d, e => by cases e; exact ok14 _ (by decide +kernel)
  | 15, d, e => by cases e; exact ok15 _ (by decide +kernel)
  | 16, d, e => by cases e; exact ok16 _ (by decide +kernel)
  | 17, d, e => by cases e; exact ok17 _ (by decide +kernel)
  | 18, d, e => by cases e; exact ok18 _ (by decide +kernel)
  | 19, d, e => by cases e; exact ok19 _ (by decide +kernel)
  | 20, d, e => by cases e; exact ok20 _ (by decide +kernel)
  | 21, d, e => by cases e; exact ok21 _ (by decide +kernel)
  | 22, d, e => by cases e; exact ok22 _ (by decide +kernel)
  | 23, d, e => by cases e; exact ok23 _ (by decide +kernel)
  | 24, d, e => by cases e; exact ok24 _ (by decide +kernel)
  | 25, d, e => by cases e; exact ok25 _ (by decide +kernel)
  | 26, d, e => by cases e; exact ok26 _ (by decide +kernel)
  | 27, d, e => by cases e; exact ok27 _ (by decide +kernel)
  | 28, d, e => by cases e; exact ok28 _ (by decide +kernel)
  | 29, d, e => by cases e; exact ok29 _ (by decide +kernel)
  | 30, d, e => by cases e; exact ok30 _ (by decide +kernel)
  | 31, d, e => by cases e; exact ok31 _ (by decide +kernel)
  | 32, d, e => by cases e; exact ok32 _ (by decide +kernel)
  | 33, d, e => by cases e; exact ok33 _ (by decide +kernel)
  | 34, d, e => by cases e; exact ok34 _ (by decide +kernel)
  | 35, d, e => by cases e; exact ok35 _ (by decide +kernel)
  | 36, d, e => by cases e; exact ok36 _ (by decide +kernel)
  | 37, d, e => by cases e; exact ok37 _ (by decide +kernel)
  | 38, d, e => by cases e; exact ok38 _ (by decide +kernel)
  | 39, d, e => by cases e; exact ok39 _ (by decide +kernel)
  | 40, d, e => by cases e; exact ok40 _ (by decide +kernel)
  | 41, d, e => by cases e; exact ok41 _ (by decide +kernel)
  | 42, d, e => by cases e; exact ok42 _ (by decide +kernel)
  | 43, d, e => by cases e; exact ok43 _ (by decide +kernel)
  | 44, d, e => by cases e; exact ok44 _ (by decide +kernel)
  | 45, d, e => by cases e; exact ok0 _ (by decide +kernel)
  | 46, d, e => by cases e; exact ok0 _ (by decide +kernel)
  | 47, d, e => by cases e; exact ok0 _ (by decide +kernel)
  | 48, d, e => by cases e; exact ok0 _ (by decide +kernel)
  | 49, d, e => by cases e; exact ok0 _ (by decide +kernel)
  | 50, d, e => by cases e; exact ok0 _ (by decide +kernel)
  | 51, d, e => by cases e; exact ok0 _ (by decide +kernel)
  | 52, d, e => by cases e; exact ok0 _ (by decide +kernel)
  | 53, d, e => by cases e; exact ok0 _ (by decide +kernel)
  | 54, d, e => by cases e; exact ok0 _ (by decide +kernel)
  | 55, d, e => by cases e; exact ok0 _ (by decide +kernel)
  | 56, d, e => by cases e; exact ok0 _ (by decide +kernel)
  | 57, d, e => by cases e; exact ok0 _ (by decide +kernel)
  | 58, d, e => by cases e; exact ok0 _ (by decide +kernel)
  | 59, d, e => by cases e; exact ok0 _ (by decide +kernel)
  | 60, d, e => by cases e; exact ok0 _ (by decide +kernel)
  | 61, d, e => by cases e; exact ok0 _ (by decide +kernel)
  | 62, d, e => by cases e; exact ok0 _ (by decide +kernel)
  | 63, d, e => by cases e; exact ok0 _ (by decide +kernel)
  | 64, d, e => by cases e; exact ok0 _ (by decide +kernel)
  | 65, d, e => by cases e; exact ok0 _ (by decide +kernel)
  | 66, d, e => by cases e; exact ok0 _ (by decide +kernel)
  | 67, d, e => by cases e; exact ok0 _ (by decide +kernel)
  | 68, d, e => by cases e; exact ok0 _ (by decide +kernel)
  | 69, d, e => by cases e; exact ok0 _ (by decide +kernel)
  | 70, d, e => by cases e; exact ok0 _ (by decide +kernel)
  | 71, d, e => by cases e; exact ok0 _ (by decide +kernel)
  | 72, d, e => by cases e; exact ok0 _ (by decide +kernel)
  | 73, d, e => by cases e; exact ok0 _ (by decide +kernel)
  | 74, d, e => by cases e; exact ok0 _ (by decide +kernel)
  | 75, d, e => by cases e; exact ok0 _ (by decide +kernel)
  | 76, d, e => by cases e; exact ok0 _ (by decide +kernel)
  | 77, d, e => by cases e; exact ok0 _ (by decide +kernel)
  | 78, d, e => by cases e; exact ok0 _ (by decide +kernel)
  | 79, d, e => by cases e; exact ok0 _ (by decide +kernel)
  | 80, d, e => by cases e; exact ok0 _ (by decide +kernel)
  | 81, d, e => by cases e; exact ok0 _ (by decide +kernel)
  | 82, d, e => by cases e; exact ok0 _ (by decide +kernel)
  | 83, d, e => by cases e; exact ok0 _ (by decide +kernel)
  | 84, d, e => by cases e; exact ok0 _ (by decide +kernel)
  | 85, d, e => by cases e; exact ok0 _ (by decide +kernel)
  | 86, d, e => by cases e; exact ok0 _ (by decide +kernel)
  | 87, d, e => by cases e; exact ok0 _ (by decide +kernel)
  | 88, d, e => by cases e; exact ok0 _ (by decide +kernel)
  | 89, d, e => by cases e; exact ok0 _ (by decide +kernel)
  | 90, d, e => by cases e; exact ok0 _ (by decide +kernel)
  | 91, d, e => by cases e; exact ok0 _ (by decide +kernel)
  | 92, d, e => by cases e; exact ok0 _ (by decide +kernel)
  | 93, d, e => by cases e; exact ok0 _ (by decide +kernel)
  | 94, d, e => by cases e; exact ok0 _ (by decide +kernel)
  | 95, d, e => by cases e; exact ok0 _ (by decide +kernel)
  | 96, d, e => by cases e; exact ok0 _ (by decide +kernel)
  | 97, d, e => by cases e; exact ok0 _ (by decide +kernel)
  | 98, d, e => by cases e; exact ok0 _ (by decide +kernel)
  | 99, d, e => by cases e; exact ok0 _ (by decide +kernel)
  | 100, d, e => by cases e; exact ok0 _ (by decide +kernel)
  | 101, d, e => by cases e; exact ok0 _ (by decide +kernel)
  | 102, d, e => by cases e; exact ok0 _ (by decide +kernel)
  | 103, d, e => by cases e; exact ok0 _ (by decide +kernel)
  | 104, d, e => by cases e; exact ok0 _ (by decide +kernel)
  | 105, d, e => by cases e; exact ok0 _ (by decide +kernel)
  | 106, d, e => by cases e; exact ok0 _ (by decide +kernel)
  | 107, d, e => by cases e; exact ok0 _ (by decide +kernel)
  | 108, d, e => by cases e; exact ok0 _ (by decide +kernel)
  | 109, d, e => by cases e; exact ok0 _ (by decide +kernel)
  | 110, d, e => by cases e; exact ok0 _ (by decide +kernel)
  | 111, d, e => by cases e; exact ok0 _ (by decide +kernel)
  | 112, d, e => by cases e; exact ok0 _ (by decide +kernel)
  | 113, d, e => by cases e; exact ok0 _ (by decide +kernel)
  | 114, d, e => by cases e; exact ok0 _ (by decide +kernel)
  | 115, d, e => by cases e; exact ok0 _ (by decide +kernel)
  | 116, d, e => by cases e; exact ok0 _ (by decide +kernel)
  | 117, d, e => by cases e; exact ok0 _ (by decide +kernel)
  | 118, d, e => by cases e; exact ok0 _ (by decide +kernel)
  | 119, d, e => by cases e; exact ok0 _ (by decide +kernel)
  | 120, d, e => by cases e; exact ok0 _ (by decide +kernel)
  | 121, d, e => by cases e; exact ok0 _ (by decide +kernel)
  | 122, d, e => by cases e; exact ok0 _ (by decide +kernel)
  | 123, d, e => by cases e; exact ok0 _ (by decide +kernel)
  | 124, d, e => by cases e; exact ok0 _ (by decide +kernel)
  | 125, d, e => by cases e; exact ok0 _ (by decide +kernel)
  | 126, d, e => by cases e; exact ok0 _ (by decide +kernel)
  | 127, d, e => by cases e; exact ok0 _ (by decide +kernel)
  | 128, d, e => by cases e; exact ok0 _ (by decide +kernel)
  | 129, d, e => by cases e; exact ok0 _ (by decide +kernel)
  | 130, d, e => by cases e; exact ok0 _ (by decide +kernel)
  | 131, d, e => by cases e; exact ok0 _ (by decide +kernel)
  | 132, d, e => by cases e; exact ok0 _ (by decide +kernel)
  | 133, d, e => by cases e; exact ok0 _ (by decide +kernel)
  | 134, d, e => by cases e; exact ok0 _ (by decide +kernel)
  | 135, d, e => by cases e; exact ok0 _ (by decide +kernel)
  | 136, d, e => by cases e; exact ok0 _ (by decide +kernel)
  | 137, d, e => by cases e; exact ok0 _ (by decide +kernel)
  | 138, d, e => by cases e; exact ok0 _ (by decide +kernel)
  | 139, d, e => by cases e; exact ok0 _ (by decide +kernel)
  | 140, d, e => by cases e; exact ok0 _ (by decide +kernel)
  | 141, d, e => by cases e; exact ok0 _ (by decide +kernel)
  | 142, d, e => by cases e; exact ok0 _ (by decide +kernel)
  | 143, d, e => by cases e; exact ok0 _ (by decide +kernel)
  | 144, d, e => by cases e; exact ok144 _ (by decide +kernel)
  | 145, d, e => by cases e; exact ok145 _ (by decide +kernel)
  | 146, d, e => by cases e; exact ok146 _ (by decide +kernel)
  | 147, d, e => by cases e; exact ok147 _ (by decide +kernel)
  | 148, d, e => by cases e; exact ok148 _ (by decide +kernel)
  | 149, d, e => by cases e; exact ok149 _ (by decide +kernel)
  | 150, d, e => by cases e; exact ok150 _ (by decide +kernel)
  | 151, d, e => by cases e; exact ok151 _ (by decide +kernel)
  | i + 152, d, e => by cases e
theorem lam_at : ∀ (i : Nat) (d : Dfn), D[i]? = some d → d.fn.lams ≠ [] → d = d149 ∨ d = d150
  | 0, d, e, h => by cases e; exact absurd rfl h
  | 1, d, e, h => by cases e; exact absurd rfl h
  | 2, d, e, h => by cases e; exact absurd rfl h
  | 3, d, e, h => by cases e; exact absurd rfl h
  | 4, d, e, h => by cases e; exact absurd rfl h
  | 5, d, e, h => by cases e; exact absurd rfl h
  | 6, d, e, h => by cases e; exact absurd rfl h
  | 7, d, e, h => by cases e; exact absurd rfl h
  | 8, d, e, h => by cases e; exact absurd rfl h
  | 9, d, e, h => by cases e; exact absurd rfl h
  | 10, d, e, h => by cases e; exact absurd rfl h
  | 11, d, e, h => by cases e; exact absurd rfl h
  | 12, d, e, h => by cases e; exact absurd rfl h
  | 13, d, e, h => by cases e; exact absurd rfl h
  | 14, d, e, h => by cases e; exact absurd rfl h
  | 15, d, e, h => by cases e; exact absurd rfl h
  | 16, d, e, h => by cases e; exact absurd rfl h
  | 17, d, e, h => by cases e; exact absurd rfl h
  | 18, d, e, h => by cases e; exact absurd rfl h
  | 19, d, e, h => by cases e; exact absurd rfl h
  | 20, d, e, h => by cases e; exact absurd rfl h
  | 21, d, e, h => by cases e; exact absurd rfl h
  | 22, d, e, h => by cases e; exact absurd rfl h
  | 23, d, e, h => by cases e; exact absurd rfl h
  | 24, d, e, h => by cases e; exact absurd rfl h
  | 25, d, e, h => by cases e; exact absurd rfl h
  | 26, d, e, h => by cases e; exact absurd rfl h
  | 27, d, e, h => by cases e; exact absurd rfl h
  | 28, d, e, h => by cases e; exact absurd rfl h
  | 29, d, e, h => by cases e; exact absurd rfl h
  | 30, d, e, h => by cases e; exact absurd rfl h
  | 31, d, e, h => by cases e; exact absurd rfl h
  | 32, d, e, h => by cases e; exact absurd rfl h
  | 33, d, e, h => by cases e; exact absurd rfl h
  | 34, d, e, h => by cases e; exact absurd rfl h
  | 35, d, e, h => by cases e; exact absurd rfl h
  | 36, d, e, h => by cases e; exact absurd rfl h
  | 37, d, e, h => by cases e; exact absurd rfl h
  | 38, d, e, h => by cases e; exact absurd rfl h
  | 39, d, e, h => by cases e; exact absurd rfl h
  | 40, d, e, h => by cases e; exact absurd rfl h
  | 41, d, e, h => by cases e; exact absurd rfl h
  | 42, d, e, h => by cases e; exact absurd rfl h
  | 43, d, e, h => by cases e; exact absurd rfl h
  | 44, d, e, h => by cases e; exact absurd rfl h
  | 45, d, e, h => by cases e; exact absurd rfl h
  | 46, d, e, h => by cases e; exact absurd rfl h
  | 47, d, e, h => by cases e; exact absurd rfl h
  | 48, d, e, h => by cases e; exact absurd rfl h
  | 49, d, e, h => by cases e; exact absurd rfl h
  | 50, d, e, h => by cases e; exact absurd rfl h
  | 51, d, e, h => by cases e; exact absurd rfl h
  | 52, d, e, h => by cases e; exact absurd rfl h
  | 53, d, e, h => by cases e; exact absurd rfl h
  | 54, d, e, h => by cases e; exact absurd rfl h
  | 55, d, e, h => by cases e; exact absurd rfl h
  | 56, d, e, h => by cases e; exact absurd rfl h
  | 57, d, e, h => by cases e; exact absurd rfl h
  | 58, d, e, h => by cases e; exact absurd rfl h
  | 59, d, e, h => by cases e; exact absurd rfl h
  | 60, d, e, h => by cases e; exact absurd rfl h
  | 61, d, e, h => by cases e; exact absurd rfl h
  | 62, d, e, h => by cases e; exact absurd rfl h
  | 63, d, e, h => by cases e; exact absurd rfl h
  | 64, d, e, h => by cases e; exact absurd rfl h
  | 65, d, e, h => by cases e; exact absurd rfl h
  | 66, d, e, h => by cases e; exact absurd rfl h
  | 67, d, e, h => by cases e; exact absurd rfl h
  | 68, d, e, h => by cases e; exact absurd rfl h
  | 69, d, e, h => by cases e; exact absurd rfl h
  | 70, d, e, h => by cases e; exact absurd rfl h
  | 71, d, e, h => by cases e; exact absurd rfl h
  | 72, d, e, h => by cases e; exact absurd rfl h
  | 73, d, e, h => by cases e; exact absurd rfl h
  | 74, d, e, h => by cases e; exact absurd rfl h
  | 75, d, e, h => by cases e; exact absurd rfl h
  | 76, d, e, h => by cases e; exact absurd rfl h
  | 77, d, e, h => by cases e; exact absurd rfl h
  | 78, d, e, h => by cases e; exact absurd rfl h
  | 79, d, e, h => by cases e; exact absurd rfl h
  | 80, d, e, h => by cases e; exact absurd rfl h
  | 81, d, e, h => by cases e; exact absurd rfl h
  | 82, d, e, h => by cases e; exact absurd rfl h
  | 83, d, e, h => by cases e; exact absurd rfl h
  | 84, d, e, h => by cases e; exact absurd rfl h
  | 85, d, e, h => by cases e; exact absurd rfl h
  | 86, d, e, h => by cases e; exact absurd rfl h
  | 87, d, e, h => by cases e; exact absurd rfl h
  | 88, d, e, h => by cases e; exact absurd rfl h
  | 89, d, e, h => by cases e; exact absurd rfl h
  | 90, d, e, h => by cases e; exact absurd rfl h
  | 91, d, e, h => by cases e; exact absurd rfl h
  | 92, d, e, h => by cases e; exact absurd rfl h
  | 93, d, e, h => by cases e; exact absurd rfl h
  | 94, d, e, h => by cases e; exact absurd rfl h
  | 95, d, e, h => by cases e; exact absurd rfl h
  | 96, d, e, h => by cases e; exact absurd rfl h
  | 97, d, e, h => by cases e; exact absurd rfl h
  | 98, d, e, h => by cases e; exact absurd rfl h
  | 99, d, e, h => by cases e; exact absurd rfl h
  | 100, d, e, h => by cases e; exact absurd rfl h
  | 101, d, e, h => by cases e; exact absurd rfl h
  | 102, d, e, h => by cases e; exact absurd rfl h
  | 103, d, e, h => by cases e; exact absurd rfl h
  | 104, d, e, h => by cases e; exact absurd rfl h
  | 105, d, e, h => by cases e; exact absurd rfl h
  | 106, d, e, h => by cases e; exact absurd rfl h
  | 107, d, e, h => by cases e; exact absurd rfl h
  | 108, d, e, h => by cases e; exact absurd rfl h
  | 109, d, e, h => by cases e; exact absurd rfl h
  | 110, d, e, h => by cases e; exact absurd rfl h
  | 111, d, e, h => by cases e; exact absurd rfl h
  | 112, d, e, h => by cases e; exact absurd rfl h
  | 113, d, e, h => by cases e; exact absurd rfl h
  | 114, d, e, h => by cases e; exact absurd rfl h
  | 115, d, e, h => by cases e; exact absurd rfl h
  | 116, d, e, h => by cases e; exact absurd rfl h
  | 117, d, e, h => by cases e; exact absurd rfl h
  | 118, d, e, h => by cases e; exact absurd rfl h
  | 119, d, e, h => by cases e; exact absurd rfl h
  | 120, d, e, h => by cases e; exact absurd rfl h
  | 121, d, e, h => by cases e; exact absurd rfl h
  | 122, d, e, h => by cases e; exact absurd rfl h
  | 123, d, e, h => by cases e; exact absurd rfl h
  | 124, d, e, h => by cases e; exact absurd rfl h
  | 125, d, e, h => by cases e; exact absurd rfl h
  | 126, d, e, h => by cases e; exact absurd rfl h
  | 127, d, e, h => by cases e; exact absurd rfl h
  | 128, d, e, h => by cases e; exact absurd rfl h
  | 129, d, e, h => by cases e; exact absurd rfl h
  | 130, d, e, h => by cases e; exact absurd rfl h
  | 131, d, e, h => by cases e; exact absurd rfl h
  | 132, d, e, h => by cases e; exact absurd rfl h
  | 133, d, e, h => by cases e; exact absurd rfl h
  | 134, d, e, h => by cases e; exact absurd rfl h
  | 135, d, e, h => by cases e; exact absurd rfl h
  | 136, d, e, h => by cases e; exact absurd rfl h
  | 137, d, e, h => by cases e; exact absurd rfl h
  | 138, d, e, h => by cases e; exact absurd rfl h
  | 139, d, e, h => by cases e; exact absurd rfl h
  | 140, d, e, h => by cases e; exact absurd rfl h
  | 141, d, e, h => by cases e; exact absurd rfl h
  | 142, d, e, h => by cases e; exact absurd rfl h
  | 143, d, e, h => by cases e; exact absurd rfl h
  | 144, d, e, h => by cases e; exact absurd rfl h
  | 145, d, e, h => by cases e; exact absurd rfl h
  | 146, d, e, h => by cases e; exact absurd rfl h
  | 147, d, e, h => by cases e; exact absurd rfl h
  | 148, d, e, h => by cases e; exact absurd rfl h
  | 149, d, e, h => by cases e; exact .inl rfl
  | 150, d, e, h => by cases e; exact .inr (rfl)
  | 151, d, e, h => by cases e; exact absurd rfl h
  | i + 152, d, e, h => by cases e
def sg (K : PySem.W.Frag) (C0 : Addr) (C1 : Addr) (C2 : Addr) (C3 : Addr) (C4 : Addr) (C5 : Addr) (E0 : Addr) (E1 : Addr) (E2 : Addr) (E3 : Addr) (E4 : Addr) (E5 : Addr) (E6 : Addr) (E7 : Addr) (E8 : Addr) (E9 : Addr) (E10 : Addr) (E11 : Addr) (E12 : Addr) : Sg := ⟨K, pg.txts, (fun k => match k with | 0 => some C0 | 1 => some C1 | 2 => some C2 | 3 => some C3 | 4 => some C4 | 5 => some C5 | _ => none), (fun k => match k with | 0 => some E0 | 1 => some E1 | 2 => some E2 | 3 => some E3 | 4 => some E4 | 5 => some E5 | 6 => some E6 | 7 => some E7 | 8 => some E8 | 9 => some E9 | 10 => some E10 | 11 => some E11 | 12 => some E12 | _ => none), pg.flds, fun l I => lamBof P0 TL l I.params I.body I.scope = true, fun _ _ => none, none⟩
set_option maxHeartbeats 0 in
theorem all_mk {l : PySem.W.OpenLaw} {w : World} {K : PySem.W.Frag} {h : Heap} {mg : Str → Option Value} {fa : Addr} (n : Nat) (sy : Says pg D n 151) (X : K.In h) (G : h.Ns mainGlobals mg) (hfa : mg "law" = some (.ref fa))
    {f0 : Addr} {oc0 kV0 dc0 pm0 cd0 ct0 : Value} {od0 an0 : Option Addr} {sl0 : Array (Option Value)}
    {f1 : Addr} {oc1 kV1 dc1 pm1 cd1 ct1 : Value} {od1 an1 : Option Addr} {sl1 : Array (Option Value)}
    {f2 : Addr} {oc2 kV2 dc2 pm2 cd2 ct2 : Value} {od2 an2 : Option Addr} {sl2 : Array (Option Value)}
    {f3 : Addr} {oc3 kV3 dc3 pm3 cd3 ct3 : Value} {od3 an3 : Option Addr} {sl3 : Array (Option Value)}
    {f4 : Addr} {oc4 kV4 dc4 pm4 cd4 ct4 : Value} {od4 an4 : Option Addr} {sl4 : Array (Option Value)}
    {f5 : Addr} {oc5 kV5 dc5 pm5 cd5 ct5 : Value} {od5 an5 : Option Addr} {sl5 : Array (Option Value)}
    {f6 : Addr} {oc6 kV6 dc6 pm6 cd6 ct6 : Value} {od6 an6 : Option Addr} {sl6 : Array (Option Value)}
    {f7 : Addr} {oc7 kV7 dc7 pm7 cd7 ct7 : Value} {od7 an7 : Option Addr} {sl7 : Array (Option Value)}
    {f8 : Addr} {oc8 kV8 dc8 pm8 cd8 ct8 : Value} {od8 an8 : Option Addr} {sl8 : Array (Option Value)}
    {f9 : Addr} {oc9 kV9 dc9 pm9 cd9 ct9 : Value} {od9 an9 : Option Addr} {sl9 : Array (Option Value)}
    {f10 : Addr} {oc10 kV10 dc10 pm10 cd10 ct10 : Value} {od10 an10 : Option Addr} {sl10 : Array (Option Value)}
    {f11 : Addr} {oc11 kV11 dc11 pm11 cd11 ct11 : Value} {od11 an11 : Option Addr} {sl11 : Array (Option Value)}
    {f12 : Addr} {oc12 kV12 dc12 pm12 cd12 ct12 : Value} {od12 an12 : Option Addr} {sl12 : Array (Option Value)}
    {f13 : Addr} {oc13 kV13 dc13 pm13 cd13 ct13 : Value} {od13 an13 : Option Addr} {sl13 : Array (Option Value)}
    {f14 : Addr} {oc14 kV14 dc14 pm14 cd14 ct14 : Value} {od14 an14 : Option Addr} {sl14 : Array (Option Value)}
    {f15 : Addr} {oc15 kV15 dc15 pm15 cd15 ct15 : Value} {od15 an15 : Option Addr} {sl15 : Array (Option Value)}
    {f16 : Addr} {oc16 kV16 dc16 pm16 cd16 ct16 : Value} {od16 an16 : Option Addr} {sl16 : Array (Option Value)}
    {f17 : Addr} {oc17 kV17 dc17 pm17 cd17 ct17 : Value} {od17 an17 : Option Addr} {sl17 : Array (Option Value)}
    {f18 : Addr} {oc18 kV18 dc18 pm18 cd18 ct18 : Value} {od18 an18 : Option Addr} {sl18 : Array (Option Value)}
    {f19 : Addr} {oc19 kV19 dc19 pm19 cd19 ct19 : Value} {od19 an19 : Option Addr} {sl19 : Array (Option Value)}
    {f20 : Addr} {oc20 kV20 dc20 pm20 cd20 ct20 : Value} {od20 an20 : Option Addr} {sl20 : Array (Option Value)}
    {f21 : Addr} {oc21 kV21 dc21 pm21 cd21 ct21 : Value} {od21 an21 : Option Addr} {sl21 : Array (Option Value)}
    {f22 : Addr} {oc22 kV22 dc22 pm22 cd22 ct22 : Value} {od22 an22 : Option Addr} {sl22 : Array (Option Value)}
    {f23 : Addr} {oc23 kV23 dc23 pm23 cd23 ct23 : Value} {od23 an23 : Option Addr} {sl23 : Array (Option Value)}
    {f24 : Addr} {oc24 kV24 dc24 pm24 cd24 ct24 : Value} {od24 an24 : Option Addr} {sl24 : Array (Option Value)}
    {f25 : Addr} {oc25 kV25 dc25 pm25 cd25 ct25 : Value} {od25 an25 : Option Addr} {sl25 : Array (Option Value)}
    {f26 : Addr} {oc26 kV26 dc26 pm26 cd26 ct26 : Value} {od26 an26 : Option Addr} {sl26 : Array (Option Value)}
    {f27 : Addr} {oc27 kV27 dc27 pm27 cd27 ct27 : Value} {od27 an27 : Option Addr} {sl27 : Array (Option Value)}
    {f28 : Addr} {oc28 kV28 dc28 pm28 cd28 ct28 : Value} {od28 an28 : Option Addr} {sl28 : Array (Option Value)}
    {f29 : Addr} {oc29 kV29 dc29 pm29 cd29 ct29 : Value} {od29 an29 : Option Addr} {sl29 : Array (Option Value)}
    {f30 : Addr} {oc30 kV30 dc30 pm30 cd30 ct30 : Value} {od30 an30 : Option Addr} {sl30 : Array (Option Value)}
    {f31 : Addr} {oc31 kV31 dc31 pm31 cd31 ct31 : Value} {od31 an31 : Option Addr} {sl31 : Array (Option Value)}
    {f32 : Addr} {oc32 kV32 dc32 pm32 cd32 ct32 : Value} {od32 an32 : Option Addr} {sl32 : Array (Option Value)}
    {f33 : Addr} {oc33 kV33 dc33 pm33 cd33 ct33 : Value} {od33 an33 : Option Addr} {sl33 : Array (Option Value)}
    {f34 : Addr} {oc34 kV34 dc34 pm34 cd34 ct34 : Value} {od34 an34 : Option Addr} {sl34 : Array (Option Value)}
    {f35 : Addr} {oc35 kV35 dc35 pm35 cd35 ct35 : Value} {od35 an35 : Option Addr} {sl35 : Array (Option Value)}
    {f36 : Addr} {oc36 kV36 dc36 pm36 cd36 ct36 : Value} {od36 an36 : Option Addr} {sl36 : Array (Option Value)}
    {f37 : Addr} {oc37 kV37 dc37 pm37 cd37 ct37 : Value} {od37 an37 : Option Addr} {sl37 : Array (Option Value)}
    {f38 : Addr} {oc38 kV38 dc38 pm38 cd38 ct38 : Value} {od38 an38 : Option Addr} {sl38 : Array (Option Value)}
    {f39 : Addr} {oc39 kV39 dc39 pm39 cd39 ct39 : Value} {od39 an39 : Option Addr} {sl39 : Array (Option Value)}
    {f40 : Addr} {oc40 kV40 dc40 pm40 cd40 ct40 : Value} {od40 an40 : Option Addr} {sl40 : Array (Option Value)}
    {f41 : Addr} {oc41 kV41 dc41 pm41 cd41 ct41 : Value} {od41 an41 : Option Addr} {sl41 : Array (Option Value)}
    {f42 : Addr} {oc42 kV42 dc42 pm42 cd42 ct42 : Value} {od42 an42 : Option Addr} {sl42 : Array (Option Value)}
    {f43 : Addr} {oc43 kV43 dc43 pm43 cd43 ct43 : Value} {od43 an43 : Option Addr} {sl43 : Array (Option Value)}
    {f44 : Addr} {oc44 kV44 dc44 pm44 cd44 ct44 : Value} {od44 an44 : Option Addr} {sl44 : Array (Option Value)}
    {f144 : Addr} {oc144 kV144 dc144 pm144 cd144 ct144 : Value} {od144 an144 : Option Addr} {sl144 : Array (Option Value)}
    {f145 : Addr} {oc145 kV145 dc145 pm145 cd145 ct145 : Value} {od145 an145 : Option Addr} {sl145 : Array (Option Value)}
    {f146 : Addr} {oc146 kV146 dc146 pm146 cd146 ct146 : Value} {od146 an146 : Option Addr} {sl146 : Array (Option Value)}
    {f147 : Addr} {oc147 kV147 dc147 pm147 cd147 ct147 : Value} {od147 an147 : Option Addr} {sl147 : Array (Option Value)}
    {f148 : Addr} {oc148 kV148 dc148 pm148 cd148 ct148 : Value} {od148 an148 : Option Addr} {sl148 : Array (Option Value)}
    {f149 : Addr} {oc149 kV149 dc149 pm149 cd149 ct149 : Value} {od149 an149 : Option Addr} {sl149 : Array (Option Value)}
    {f150 : Addr} {oc150 kV150 dc150 pm150 cd150 ct150 : Value} {od150 an150 : Option Addr} {sl150 : Array (Option Value)}
    {f151 : Addr} {oc151 kV151 dc151 pm151 cd151 ct151 : Value} {od151 an151 : Option Addr} {sl151 : Array (Option Value)}
    {E0 : Addr}
    {E1 : Addr}
    {E2 : Addr}
    {E3 : Addr}
    {E4 : Addr}
    {E5 : Addr}
    {E6 : Addr}
    {E7 : Addr}
    {E8 : Addr}
    {E9 : Addr}
    {E10 : Addr}
    {E11 : Addr}
    {E12 : Addr}
    {C0 : Addr}
    {C1 : Addr}
    {C2 : Addr}
    {C3 : Addr}
    {C4 : Addr}
    {C5 : Addr}
    {t0 : Tok}
    {t1 : Tok}
    {t2 : Tok}
    {t3 : Tok}
    {t4 : Tok}
    {t5 : Tok}
    {t6 : Tok}
    {cc149 pp149 : Addr} {co149 : Obj}
    {cc150 pp150 : Addr} {co150 : Obj}
    (a0 : PySem.W.nsIn K mainGlobals "day_of" = some (some (.ref f0)))
    (l0 : K.lookup f0 = some ⟨oc0, od0, .func (PySem.W.fnOf d0.x d0.qual (defArgs d0.st) (defBody d0.st) (defScope d0.st) .none kV0 dc0 pm0 an0 cd0 ct0), sl0⟩)
    (c0 : PySem.W.codeIn K cd0 d0.qual = true)
    (k0 : PySem.W.keepIn K (.ref f0) = true)
    (a1 : PySem.W.nsIn K mainGlobals "dues_of" = some (some (.ref f1)))
    (l1 : K.lookup f1 = some ⟨oc1, od1, .func (PySem.W.fnOf d1.x d1.qual (defArgs d1.st) (defBody d1.st) (defScope d1.st) .none kV1 dc1 pm1 an1 cd1 ct1), sl1⟩)
    (c1 : PySem.W.codeIn K cd1 d1.qual = true)
    (k1 : PySem.W.keepIn K (.ref f1) = true)
    (a2 : PySem.W.nsIn K mainGlobals "is_whole" = some (some (.ref f2)))
    (l2 : K.lookup f2 = some ⟨oc2, od2, .func (PySem.W.fnOf d2.x d2.qual (defArgs d2.st) (defBody d2.st) (defScope d2.st) .none kV2 dc2 pm2 an2 cd2 ct2), sl2⟩)
    (c2 : PySem.W.codeIn K cd2 d2.qual = true)
    (k2 : PySem.W.keepIn K (.ref f2) = true)
    (a3 : PySem.W.nsIn K mainGlobals "is_between" = some (some (.ref f3)))
    (l3 : K.lookup f3 = some ⟨oc3, od3, .func (PySem.W.fnOf d3.x d3.qual (defArgs d3.st) (defBody d3.st) (defScope d3.st) .none kV3 dc3 pm3 an3 cd3 ct3), sl3⟩)
    (c3 : PySem.W.codeIn K cd3 d3.qual = true)
    (k3 : PySem.W.keepIn K (.ref f3) = true)
    (a4 : PySem.W.nsIn K mainGlobals "are_heirs" = some (some (.ref f4)))
    (l4 : K.lookup f4 = some ⟨oc4, od4, .func (PySem.W.fnOf d4.x d4.qual (defArgs d4.st) (defBody d4.st) (defScope d4.st) .none kV4 dc4 pm4 an4 cd4 ct4), sl4⟩)
    (c4 : PySem.W.codeIn K cd4 d4.qual = true)
    (k4 : PySem.W.keepIn K (.ref f4) = true)
    (a5 : PySem.W.nsIn K mainGlobals "is_term" = some (some (.ref f5)))
    (l5 : K.lookup f5 = some ⟨oc5, od5, .func (PySem.W.fnOf d5.x d5.qual (defArgs d5.st) (defBody d5.st) (defScope d5.st) .none kV5 dc5 pm5 an5 cd5 ct5), sl5⟩)
    (c5 : PySem.W.codeIn K cd5 d5.qual = true)
    (k5 : PySem.W.keepIn K (.ref f5) = true)
    (a6 : PySem.W.nsIn K mainGlobals "is_letter" = some (some (.ref f6)))
    (l6 : K.lookup f6 = some ⟨oc6, od6, .func (PySem.W.fnOf d6.x d6.qual (defArgs d6.st) (defBody d6.st) (defScope d6.st) .none kV6 dc6 pm6 an6 cd6 ct6), sl6⟩)
    (c6 : PySem.W.codeIn K cd6 d6.qual = true)
    (k6 : PySem.W.keepIn K (.ref f6) = true)
    (a7 : PySem.W.nsIn K mainGlobals "check_letters" = some (some (.ref f7)))
    (l7 : K.lookup f7 = some ⟨oc7, od7, .func (PySem.W.fnOf d7.x d7.qual (defArgs d7.st) (defBody d7.st) (defScope d7.st) .none kV7 dc7 pm7 an7 cd7 ct7), sl7⟩)
    (c7 : PySem.W.codeIn K cd7 d7.qual = true)
    (k7 : PySem.W.keepIn K (.ref f7) = true)
    (a8 : PySem.W.nsIn K mainGlobals "are_days" = some (some (.ref f8)))
    (l8 : K.lookup f8 = some ⟨oc8, od8, .func (PySem.W.fnOf d8.x d8.qual (defArgs d8.st) (defBody d8.st) (defScope d8.st) .none kV8 dc8 pm8 an8 cd8 ct8), sl8⟩)
    (c8 : PySem.W.codeIn K cd8 d8.qual = true)
    (k8 : PySem.W.keepIn K (.ref f8) = true)
    (a9 : PySem.W.nsIn K mainGlobals "check_days" = some (some (.ref f9)))
    (l9 : K.lookup f9 = some ⟨oc9, od9, .func (PySem.W.fnOf d9.x d9.qual (defArgs d9.st) (defBody d9.st) (defScope d9.st) .none kV9 dc9 pm9 an9 cd9 ct9), sl9⟩)
    (c9 : PySem.W.codeIn K cd9 d9.qual = true)
    (k9 : PySem.W.keepIn K (.ref f9) = true)
    (a10 : PySem.W.nsIn K mainGlobals "due_days" = some (some (.ref f10)))
    (l10 : K.lookup f10 = some ⟨oc10, od10, .func (PySem.W.fnOf d10.x d10.qual (defArgs d10.st) (defBody d10.st) (defScope d10.st) .none kV10 dc10 pm10 an10 cd10 ct10), sl10⟩)
    (c10 : PySem.W.codeIn K cd10 d10.qual = true)
    (k10 : PySem.W.keepIn K (.ref f10) = true)
    (a11 : PySem.W.nsIn K mainGlobals "chain_to" = some (some (.ref f11)))
    (l11 : K.lookup f11 = some ⟨oc11, od11, .func (PySem.W.fnOf d11.x d11.qual (defArgs d11.st) (defBody d11.st) (defScope d11.st) .none kV11 dc11 pm11 an11 cd11 ct11), sl11⟩)
    (c11 : PySem.W.codeIn K cd11 d11.qual = true)
    (k11 : PySem.W.keepIn K (.ref f11) = true)
    (a12 : PySem.W.nsIn K mainGlobals "chain_day" = some (some (.ref f12)))
    (l12 : K.lookup f12 = some ⟨oc12, od12, .func (PySem.W.fnOf d12.x d12.qual (defArgs d12.st) (defBody d12.st) (defScope d12.st) .none kV12 dc12 pm12 an12 cd12 ct12), sl12⟩)
    (c12 : PySem.W.codeIn K cd12 d12.qual = true)
    (k12 : PySem.W.keepIn K (.ref f12) = true)
    (a13 : PySem.W.nsIn K mainGlobals "ends_of" = some (some (.ref f13)))
    (l13 : K.lookup f13 = some ⟨oc13, od13, .func (PySem.W.fnOf d13.x d13.qual (defArgs d13.st) (defBody d13.st) (defScope d13.st) .none kV13 dc13 pm13 an13 cd13 ct13), sl13⟩)
    (c13 : PySem.W.codeIn K cd13 d13.qual = true)
    (k13 : PySem.W.keepIn K (.ref f13) = true)
    (a14 : PySem.W.nsIn K mainGlobals "is_ahead" = some (some (.ref f14)))
    (l14 : K.lookup f14 = some ⟨oc14, od14, .func (PySem.W.fnOf d14.x d14.qual (defArgs d14.st) (defBody d14.st) (defScope d14.st) .none kV14 dc14 pm14 an14 cd14 ct14), sl14⟩)
    (c14 : PySem.W.codeIn K cd14 d14.qual = true)
    (k14 : PySem.W.keepIn K (.ref f14) = true)
    (a15 : PySem.W.nsIn K mainGlobals "lists_to_try" = some (some (.ref f15)))
    (l15 : K.lookup f15 = some ⟨oc15, od15, .func (PySem.W.fnOf d15.x d15.qual (defArgs d15.st) (defBody d15.st) (defScope d15.st) .none kV15 dc15 pm15 an15 cd15 ct15), sl15⟩)
    (c15 : PySem.W.codeIn K cd15 d15.qual = true)
    (k15 : PySem.W.keepIn K (.ref f15) = true)
    (a16 : PySem.W.nsIn K mainGlobals "why" = some (some (.ref f16)))
    (l16 : K.lookup f16 = some ⟨oc16, od16, .func (PySem.W.fnOf d16.x d16.qual (defArgs d16.st) (defBody d16.st) (defScope d16.st) .none kV16 dc16 pm16 an16 cd16 ct16), sl16⟩)
    (c16 : PySem.W.codeIn K cd16 d16.qual = true)
    (k16 : PySem.W.keepIn K (.ref f16) = true)
    (l17 : K.lookup f17 = some ⟨oc17, od17, .func (PySem.W.fnOf d17.x d17.qual (defArgs d17.st) (defBody d17.st) (defScope d17.st) .none kV17 dc17 pm17 an17 cd17 ct17), sl17⟩)
    (c17 : PySem.W.codeIn K cd17 d17.qual = true)
    (k17 : PySem.W.keepIn K (.ref f17) = true)
    (l18 : K.lookup f18 = some ⟨oc18, od18, .func (PySem.W.fnOf d18.x d18.qual (defArgs d18.st) (defBody d18.st) (defScope d18.st) .none kV18 dc18 pm18 an18 cd18 ct18), sl18⟩)
    (c18 : PySem.W.codeIn K cd18 d18.qual = true)
    (k18 : PySem.W.keepIn K (.ref f18) = true)
    (l19 : K.lookup f19 = some ⟨oc19, od19, .func (PySem.W.fnOf d19.x d19.qual (defArgs d19.st) (defBody d19.st) (defScope d19.st) .none kV19 dc19 pm19 an19 cd19 ct19), sl19⟩)
    (c19 : PySem.W.codeIn K cd19 d19.qual = true)
    (k19 : PySem.W.keepIn K (.ref f19) = true)
    (l20 : K.lookup f20 = some ⟨oc20, od20, .func (PySem.W.fnOf d20.x d20.qual (defArgs d20.st) (defBody d20.st) (defScope d20.st) .none kV20 dc20 pm20 an20 cd20 ct20), sl20⟩)
    (c20 : PySem.W.codeIn K cd20 d20.qual = true)
    (k20 : PySem.W.keepIn K (.ref f20) = true)
    (l21 : K.lookup f21 = some ⟨oc21, od21, .func (PySem.W.fnOf d21.x d21.qual (defArgs d21.st) (defBody d21.st) (defScope d21.st) .none kV21 dc21 pm21 an21 cd21 ct21), sl21⟩)
    (c21 : PySem.W.codeIn K cd21 d21.qual = true)
    (k21 : PySem.W.keepIn K (.ref f21) = true)
    (l22 : K.lookup f22 = some ⟨oc22, od22, .func (PySem.W.fnOf d22.x d22.qual (defArgs d22.st) (defBody d22.st) (defScope d22.st) .none kV22 dc22 pm22 an22 cd22 ct22), sl22⟩)
    (c22 : PySem.W.codeIn K cd22 d22.qual = true)
    (k22 : PySem.W.keepIn K (.ref f22) = true)
    (l23 : K.lookup f23 = some ⟨oc23, od23, .func (PySem.W.fnOf d23.x d23.qual (defArgs d23.st) (defBody d23.st) (defScope d23.st) .none kV23 dc23 pm23 an23 cd23 ct23), sl23⟩)
    (c23 : PySem.W.codeIn K cd23 d23.qual = true)
    (k23 : PySem.W.keepIn K (.ref f23) = true)
    (a24 : PySem.W.nsIn K mainGlobals "heir_of" = some (some (.ref f24)))
    (l24 : K.lookup f24 = some ⟨oc24, od24, .func (PySem.W.fnOf d24.x d24.qual (defArgs d24.st) (defBody d24.st) (defScope d24.st) .none kV24 dc24 pm24 an24 cd24 ct24), sl24⟩)
    (c24 : PySem.W.codeIn K cd24 d24.qual = true)
    (k24 : PySem.W.keepIn K (.ref f24) = true)
    (a25 : PySem.W.nsIn K mainGlobals "check_gone" = some (some (.ref f25)))
    (l25 : K.lookup f25 = some ⟨oc25, od25, .func (PySem.W.fnOf d25.x d25.qual (defArgs d25.st) (defBody d25.st) (defScope d25.st) .none kV25 dc25 pm25 an25 cd25 ct25), sl25⟩)
    (c25 : PySem.W.codeIn K cd25 d25.qual = true)
    (k25 : PySem.W.keepIn K (.ref f25) = true)
    (a26 : PySem.W.nsIn K mainGlobals "handed_out" = some (some (.ref f26)))
    (l26 : K.lookup f26 = some ⟨oc26, od26, .func (PySem.W.fnOf d26.x d26.qual (defArgs d26.st) (defBody d26.st) (defScope d26.st) .none kV26 dc26 pm26 an26 cd26 ct26), sl26⟩)
    (c26 : PySem.W.codeIn K cd26 d26.qual = true)
    (k26 : PySem.W.keepIn K (.ref f26) = true)
    (a27 : PySem.W.nsIn K mainGlobals "is_span" = some (some (.ref f27)))
    (l27 : K.lookup f27 = some ⟨oc27, od27, .func (PySem.W.fnOf d27.x d27.qual (defArgs d27.st) (defBody d27.st) (defScope d27.st) .none kV27 dc27 pm27 an27 cd27 ct27), sl27⟩)
    (c27 : PySem.W.codeIn K cd27 d27.qual = true)
    (k27 : PySem.W.keepIn K (.ref f27) = true)
    (a28 : PySem.W.nsIn K mainGlobals "check_spans" = some (some (.ref f28)))
    (l28 : K.lookup f28 = some ⟨oc28, od28, .func (PySem.W.fnOf d28.x d28.qual (defArgs d28.st) (defBody d28.st) (defScope d28.st) .none kV28 dc28 pm28 an28 cd28 ct28), sl28⟩)
    (c28 : PySem.W.codeIn K cd28 d28.qual = true)
    (k28 : PySem.W.keepIn K (.ref f28) = true)
    (a29 : PySem.W.nsIn K mainGlobals "between" = some (some (.ref f29)))
    (l29 : K.lookup f29 = some ⟨oc29, od29, .func (PySem.W.fnOf d29.x d29.qual (defArgs d29.st) (defBody d29.st) (defScope d29.st) .none kV29 dc29 pm29 an29 cd29 ct29), sl29⟩)
    (c29 : PySem.W.codeIn K cd29 d29.qual = true)
    (k29 : PySem.W.keepIn K (.ref f29) = true)
    (a30 : PySem.W.nsIn K mainGlobals "surely" = some (some (.ref f30)))
    (l30 : K.lookup f30 = some ⟨oc30, od30, .func (PySem.W.fnOf d30.x d30.qual (defArgs d30.st) (defBody d30.st) (defScope d30.st) .none kV30 dc30 pm30 an30 cd30 ct30), sl30⟩)
    (c30 : PySem.W.codeIn K cd30 d30.qual = true)
    (k30 : PySem.W.keepIn K (.ref f30) = true)
    (l31 : K.lookup f31 = some ⟨oc31, od31, .func (PySem.W.fnOf d31.x d31.qual (defArgs d31.st) (defBody d31.st) (defScope d31.st) .none kV31 dc31 pm31 an31 cd31 ct31), sl31⟩)
    (c31 : PySem.W.codeIn K cd31 d31.qual = true)
    (k31 : PySem.W.keepIn K (.ref f31) = true)
    (l32 : K.lookup f32 = some ⟨oc32, od32, .func (PySem.W.fnOf d32.x d32.qual (defArgs d32.st) (defBody d32.st) (defScope d32.st) .none kV32 dc32 pm32 an32 cd32 ct32), sl32⟩)
    (c32 : PySem.W.codeIn K cd32 d32.qual = true)
    (k32 : PySem.W.keepIn K (.ref f32) = true)
    (l33 : K.lookup f33 = some ⟨oc33, od33, .func (PySem.W.fnOf d33.x d33.qual (defArgs d33.st) (defBody d33.st) (defScope d33.st) .none kV33 dc33 pm33 an33 cd33 ct33), sl33⟩)
    (c33 : PySem.W.codeIn K cd33 d33.qual = true)
    (k33 : PySem.W.keepIn K (.ref f33) = true)
    (l34 : K.lookup f34 = some ⟨oc34, od34, .func (PySem.W.fnOf d34.x d34.qual (defArgs d34.st) (defBody d34.st) (defScope d34.st) .none kV34 dc34 pm34 an34 cd34 ct34), sl34⟩)
    (c34 : PySem.W.codeIn K cd34 d34.qual = true)
    (k34 : PySem.W.keepIn K (.ref f34) = true)
    (l35 : K.lookup f35 = some ⟨oc35, od35, .func (PySem.W.fnOf d35.x d35.qual (defArgs d35.st) (defBody d35.st) (defScope d35.st) .none kV35 dc35 pm35 an35 cd35 ct35), sl35⟩)
    (c35 : PySem.W.codeIn K cd35 d35.qual = true)
    (k35 : PySem.W.keepIn K (.ref f35) = true)
    (l36 : K.lookup f36 = some ⟨oc36, od36, .func (PySem.W.fnOf d36.x d36.qual (defArgs d36.st) (defBody d36.st) (defScope d36.st) .none kV36 dc36 pm36 an36 cd36 ct36), sl36⟩)
    (c36 : PySem.W.codeIn K cd36 d36.qual = true)
    (k36 : PySem.W.keepIn K (.ref f36) = true)
    (l37 : K.lookup f37 = some ⟨oc37, od37, .func (PySem.W.fnOf d37.x d37.qual (defArgs d37.st) (defBody d37.st) (defScope d37.st) .none kV37 dc37 pm37 an37 cd37 ct37), sl37⟩)
    (c37 : PySem.W.codeIn K cd37 d37.qual = true)
    (k37 : PySem.W.keepIn K (.ref f37) = true)
    (l38 : K.lookup f38 = some ⟨oc38, od38, .func (PySem.W.fnOf d38.x d38.qual (defArgs d38.st) (defBody d38.st) (defScope d38.st) .none kV38 dc38 pm38 an38 cd38 ct38), sl38⟩)
    (c38 : PySem.W.codeIn K cd38 d38.qual = true)
    (k38 : PySem.W.keepIn K (.ref f38) = true)
    (l39 : K.lookup f39 = some ⟨oc39, od39, .func (PySem.W.fnOf d39.x d39.qual (defArgs d39.st) (defBody d39.st) (defScope d39.st) .none kV39 dc39 pm39 an39 cd39 ct39), sl39⟩)
    (c39 : PySem.W.codeIn K cd39 d39.qual = true)
    (k39 : PySem.W.keepIn K (.ref f39) = true)
    (l40 : K.lookup f40 = some ⟨oc40, od40, .func (PySem.W.fnOf d40.x d40.qual (defArgs d40.st) (defBody d40.st) (defScope d40.st) .none kV40 dc40 pm40 an40 cd40 ct40), sl40⟩)
    (c40 : PySem.W.codeIn K cd40 d40.qual = true)
    (k40 : PySem.W.keepIn K (.ref f40) = true)
    (l41 : K.lookup f41 = some ⟨oc41, od41, .func (PySem.W.fnOf d41.x d41.qual (defArgs d41.st) (defBody d41.st) (defScope d41.st) .none kV41 dc41 pm41 an41 cd41 ct41), sl41⟩)
    (c41 : PySem.W.codeIn K cd41 d41.qual = true)
    (k41 : PySem.W.keepIn K (.ref f41) = true)
    (l42 : K.lookup f42 = some ⟨oc42, od42, .func (PySem.W.fnOf d42.x d42.qual (defArgs d42.st) (defBody d42.st) (defScope d42.st) .none kV42 dc42 pm42 an42 cd42 ct42), sl42⟩)
    (c42 : PySem.W.codeIn K cd42 d42.qual = true)
    (k42 : PySem.W.keepIn K (.ref f42) = true)
    (l43 : K.lookup f43 = some ⟨oc43, od43, .func (PySem.W.fnOf d43.x d43.qual (defArgs d43.st) (defBody d43.st) (defScope d43.st) .none kV43 dc43 pm43 an43 cd43 ct43), sl43⟩)
    (c43 : PySem.W.codeIn K cd43 d43.qual = true)
    (k43 : PySem.W.keepIn K (.ref f43) = true)
    (l44 : K.lookup f44 = some ⟨oc44, od44, .func (PySem.W.fnOf d44.x d44.qual (defArgs d44.st) (defBody d44.st) (defScope d44.st) .none kV44 dc44 pm44 an44 cd44 ct44), sl44⟩)
    (c44 : PySem.W.codeIn K cd44 d44.qual = true)
    (k44 : PySem.W.keepIn K (.ref f44) = true)
    (a144 : PySem.W.nsIn K mainGlobals "_law_letters" = some (some (.ref f144)))
    (l144 : K.lookup f144 = some ⟨oc144, od144, .func (PySem.W.fnOf d144.x d144.qual (defArgs d144.st) (defBody d144.st) (defScope d144.st) .none kV144 dc144 pm144 an144 cd144 ct144), sl144⟩)
    (c144 : PySem.W.codeIn K cd144 d144.qual = true)
    (k144 : PySem.W.keepIn K (.ref f144) = true)
    (a145 : PySem.W.nsIn K mainGlobals "_law_chains_right" = some (some (.ref f145)))
    (l145 : K.lookup f145 = some ⟨oc145, od145, .func (PySem.W.fnOf d145.x d145.qual (defArgs d145.st) (defBody d145.st) (defScope d145.st) .none kV145 dc145 pm145 an145 cd145 ct145), sl145⟩)
    (c145 : PySem.W.codeIn K cd145 d145.qual = true)
    (k145 : PySem.W.keepIn K (.ref f145) = true)
    (a146 : PySem.W.nsIn K mainGlobals "_law_handed_right" = some (some (.ref f146)))
    (l146 : K.lookup f146 = some ⟨oc146, od146, .func (PySem.W.fnOf d146.x d146.qual (defArgs d146.st) (defBody d146.st) (defScope d146.st) .none kV146 dc146 pm146 an146 cd146 ct146), sl146⟩)
    (c146 : PySem.W.codeIn K cd146 d146.qual = true)
    (k146 : PySem.W.keepIn K (.ref f146) = true)
    (a147 : PySem.W.nsIn K mainGlobals "_law_spans_right" = some (some (.ref f147)))
    (l147 : K.lookup f147 = some ⟨oc147, od147, .func (PySem.W.fnOf d147.x d147.qual (defArgs d147.st) (defBody d147.st) (defScope d147.st) .none kV147 dc147 pm147 an147 cd147 ct147), sl147⟩)
    (c147 : PySem.W.codeIn K cd147 d147.qual = true)
    (k147 : PySem.W.keepIn K (.ref f147) = true)
    (a148 : PySem.W.nsIn K mainGlobals "_law_word" = some (some (.ref f148)))
    (l148 : K.lookup f148 = some ⟨oc148, od148, .func (PySem.W.fnOf d148.x d148.qual (defArgs d148.st) (defBody d148.st) (defScope d148.st) .none kV148 dc148 pm148 an148 cd148 ct148), sl148⟩)
    (c148 : PySem.W.codeIn K cd148 d148.qual = true)
    (k148 : PySem.W.keepIn K (.ref f148) = true)
    (a149 : PySem.W.nsIn K mainGlobals "_law_keeper_right" = some (some (.ref f149)))
    (l149 : K.lookup f149 = some ⟨oc149, od149, .func (PySem.W.fnOf d149.x d149.qual (defArgs d149.st) (defBody d149.st) (defScope d149.st) .none kV149 dc149 pm149 an149 cd149 ct149), sl149⟩)
    (c149 : PySem.W.codeIn K cd149 d149.qual = true)
    (k149 : PySem.W.keepIn K (.ref f149) = true)
    (a150 : PySem.W.nsIn K mainGlobals "_law_keeper_on_right" = some (some (.ref f150)))
    (l150 : K.lookup f150 = some ⟨oc150, od150, .func (PySem.W.fnOf d150.x d150.qual (defArgs d150.st) (defBody d150.st) (defScope d150.st) .none kV150 dc150 pm150 an150 cd150 ct150), sl150⟩)
    (c150 : PySem.W.codeIn K cd150 d150.qual = true)
    (k150 : PySem.W.keepIn K (.ref f150) = true)
    (a151 : PySem.W.nsIn K mainGlobals "law" = some (some (.ref f151)))
    (l151 : K.lookup f151 = some ⟨oc151, od151, .func (PySem.W.fnOf d151.x d151.qual (defArgs d151.st) (defBody d151.st) (defScope d151.st) .none kV151 dc151 pm151 an151 cd151 ct151), sl151⟩)
    (c151 : PySem.W.codeIn K cd151 d151.qual = true)
    (k151 : PySem.W.keepIn K (.ref f151) = true)
    (e0 : PySem.W.nsIn K mainGlobals "LetterError" = some (some (.ref E0)))
    (xe0 : PySem.W.excIn K E0 [.type "ValueError", .type "Exception", .type "BaseException", .type "object"] "ValueError.__new__" = true)
    (ke0 : PySem.W.keepIn K (.ref E0) = true)
    (be0 : PySem.W.subIn K (.ref E0) (.type "BaseException") = some true)
    (te0 : PySem.W.typeIn K (.ref E0) = some (.type "type"))
    (e1 : PySem.W.nsIn K mainGlobals "BadLetters" = some (some (.ref E1)))
    (xe1 : PySem.W.excIn K E1 [.type "ValueError", .type "Exception", .type "BaseException", .type "object"] "ValueError.__new__" = true)
    (ke1 : PySem.W.keepIn K (.ref E1) = true)
    (be1 : PySem.W.subIn K (.ref E1) (.type "BaseException") = some true)
    (te1 : PySem.W.typeIn K (.ref E1) = some (.type "type"))
    (e2 : PySem.W.nsIn K mainGlobals "BadDays" = some (some (.ref E2)))
    (xe2 : PySem.W.excIn K E2 [.type "ValueError", .type "Exception", .type "BaseException", .type "object"] "ValueError.__new__" = true)
    (ke2 : PySem.W.keepIn K (.ref E2) = true)
    (be2 : PySem.W.subIn K (.ref E2) (.type "BaseException") = some true)
    (te2 : PySem.W.typeIn K (.ref E2) = some (.type "type"))
    (e3 : PySem.W.nsIn K mainGlobals "BadNumber" = some (some (.ref E3)))
    (xe3 : PySem.W.excIn K E3 [.type "ValueError", .type "Exception", .type "BaseException", .type "object"] "ValueError.__new__" = true)
    (ke3 : PySem.W.keepIn K (.ref E3) = true)
    (be3 : PySem.W.subIn K (.ref E3) (.type "BaseException") = some true)
    (te3 : PySem.W.typeIn K (.ref E3) = some (.type "type"))
    (e4 : PySem.W.nsIn K mainGlobals "BadGone" = some (some (.ref E4)))
    (xe4 : PySem.W.excIn K E4 [.type "ValueError", .type "Exception", .type "BaseException", .type "object"] "ValueError.__new__" = true)
    (ke4 : PySem.W.keepIn K (.ref E4) = true)
    (be4 : PySem.W.subIn K (.ref E4) (.type "BaseException") = some true)
    (te4 : PySem.W.typeIn K (.ref E4) = some (.type "type"))
    (e5 : PySem.W.nsIn K mainGlobals "BadSpans" = some (some (.ref E5)))
    (xe5 : PySem.W.excIn K E5 [.type "ValueError", .type "Exception", .type "BaseException", .type "object"] "ValueError.__new__" = true)
    (ke5 : PySem.W.keepIn K (.ref E5) = true)
    (be5 : PySem.W.subIn K (.ref E5) (.type "BaseException") = some true)
    (te5 : PySem.W.typeIn K (.ref E5) = some (.type "type"))
    (e6 : PySem.W.nsIn K mainGlobals "BadLetter" = some (some (.ref E6)))
    (xe6 : PySem.W.excIn K E6 [.type "ValueError", .type "Exception", .type "BaseException", .type "object"] "ValueError.__new__" = true)
    (ke6 : PySem.W.keepIn K (.ref E6) = true)
    (be6 : PySem.W.subIn K (.ref E6) (.type "BaseException") = some true)
    (te6 : PySem.W.typeIn K (.ref E6) = some (.type "type"))
    (e7 : PySem.W.nsIn K mainGlobals "BadHappening" = some (some (.ref E7)))
    (xe7 : PySem.W.excIn K E7 [.type "ValueError", .type "Exception", .type "BaseException", .type "object"] "ValueError.__new__" = true)
    (ke7 : PySem.W.keepIn K (.ref E7) = true)
    (be7 : PySem.W.subIn K (.ref E7) (.type "BaseException") = some true)
    (te7 : PySem.W.typeIn K (.ref E7) = some (.type "type"))
    (e8 : PySem.W.nsIn K mainGlobals "BadDay" = some (some (.ref E8)))
    (xe8 : PySem.W.excIn K E8 [.type "ValueError", .type "Exception", .type "BaseException", .type "object"] "ValueError.__new__" = true)
    (ke8 : PySem.W.keepIn K (.ref E8) = true)
    (be8 : PySem.W.subIn K (.ref E8) (.type "BaseException") = some true)
    (te8 : PySem.W.typeIn K (.ref E8) = some (.type "type"))
    (e9 : PySem.W.nsIn K mainGlobals "BadPerson" = some (some (.ref E9)))
    (xe9 : PySem.W.excIn K E9 [.type "ValueError", .type "Exception", .type "BaseException", .type "object"] "ValueError.__new__" = true)
    (ke9 : PySem.W.keepIn K (.ref E9) = true)
    (be9 : PySem.W.subIn K (.ref E9) (.type "BaseException") = some true)
    (te9 : PySem.W.typeIn K (.ref E9) = some (.type "type"))
    (e10 : PySem.W.nsIn K mainGlobals "NoDay" = some (some (.ref E10)))
    (xe10 : PySem.W.excIn K E10 [.type "ValueError", .type "Exception", .type "BaseException", .type "object"] "ValueError.__new__" = true)
    (ke10 : PySem.W.keepIn K (.ref E10) = true)
    (be10 : PySem.W.subIn K (.ref E10) (.type "BaseException") = some true)
    (te10 : PySem.W.typeIn K (.ref E10) = some (.type "type"))
    (e11 : PySem.W.nsIn K mainGlobals "Unlike" = some (some (.ref E11)))
    (xe11 : PySem.W.excIn K E11 [.type "ValueError", .type "Exception", .type "BaseException", .type "object"] "ValueError.__new__" = true)
    (ke11 : PySem.W.keepIn K (.ref E11) = true)
    (be11 : PySem.W.subIn K (.ref E11) (.type "BaseException") = some true)
    (te11 : PySem.W.typeIn K (.ref E11) = some (.type "type"))
    (e12 : PySem.W.nsIn K mainGlobals "TooMany" = some (some (.ref E12)))
    (xe12 : PySem.W.excIn K E12 [.type "ValueError", .type "Exception", .type "BaseException", .type "object"] "ValueError.__new__" = true)
    (ke12 : PySem.W.keepIn K (.ref E12) = true)
    (be12 : PySem.W.subIn K (.ref E12) (.type "BaseException") = some true)
    (te12 : PySem.W.typeIn K (.ref E12) = some (.type "type"))
    (ac0 : PySem.W.nsIn K mainGlobals "Answer" = some (some (.ref C0)))
    (pg0 : PySem.W.plainGet K C0 Str.empty = true)
    (hd0 : PySem.W.hasDictIn K C0 = true)
    (po0 : PySem.W.plainOver K C0 = true)
    (sa0 : PySem.W.findIn K (.ref C0) "__setattr__" = some (some (.builtin "object.__setattr__")))
    (n0_0 : PySem.W.findIn K (.ref C0) "chain" = some none)
    (n0_1 : PySem.W.findIn K (.ref C0) "days" = some none)
    (n0_2 : PySem.W.findIn K (.ref C0) "letters" = some none)
    (n0_3 : PySem.W.findIn K (.ref C0) "over" = some none)
    (n0_4 : PySem.W.findIn K (.ref C0) "gone" = some none)
    (n0_5 : PySem.W.findIn K (.ref C0) "now" = some none)
    (kc0 : PySem.W.keepIn K (.ref C0) = true)
    (mk0 : PySem.W.makesIn K C0 = true)
    (in0 : PySem.W.findIn K (.ref C0) "__init__" = some (some (.builtin "object.__init__")))
    (cl0 : PySem.W.findIn K (.ref C0) "__class__" = some (some (.builtin "object.__class__")))
    (mo0 : PySem.W.mroIn K C0 (.type "object") = some true)
    (ki0_int : PySem.W.kitOne K (.ref C0) (.type "int") = some false)
    (ki0_bool : PySem.W.kitOne K (.ref C0) (.type "bool") = some false)
    (ki0_str : PySem.W.kitOne K (.ref C0) (.type "str") = some false)
    (ki0_list : PySem.W.kitOne K (.ref C0) (.type "list") = some false)
    (ki0_tuple : PySem.W.kitOne K (.ref C0) (.type "tuple") = some false)
    (kj0_NoneType : PySem.W.kitOne K (.type "NoneType") (.ref C0) = some false)
    (kj0_bool : PySem.W.kitOne K (.type "bool") (.ref C0) = some false)
    (kj0_int : PySem.W.kitOne K (.type "int") (.ref C0) = some false)
    (kj0_str : PySem.W.kitOne K (.type "str") (.ref C0) = some false)
    (kj0_list : PySem.W.kitOne K (.type "list") (.ref C0) = some false)
    (kj0_tuple : PySem.W.kitOne K (.type "tuple") (.ref C0) = some false)
    (kj0_dict : PySem.W.kitOne K (.type "dict") (.ref C0) = some false)
    (ac1 : PySem.W.nsIn K mainGlobals "Why" = some (some (.ref C1)))
    (pg1 : PySem.W.plainGet K C1 Str.empty = true)
    (hd1 : PySem.W.hasDictIn K C1 = true)
    (po1 : PySem.W.plainOver K C1 = true)
    (sa1 : PySem.W.findIn K (.ref C1) "__setattr__" = some (some (.builtin "object.__setattr__")))
    (n1_0 : PySem.W.findIn K (.ref C1) "chain" = some none)
    (n1_1 : PySem.W.findIn K (.ref C1) "days" = some none)
    (n1_2 : PySem.W.findIn K (.ref C1) "letters" = some none)
    (n1_3 : PySem.W.findIn K (.ref C1) "over" = some none)
    (n1_4 : PySem.W.findIn K (.ref C1) "gone" = some none)
    (n1_5 : PySem.W.findIn K (.ref C1) "now" = some none)
    (kc1 : PySem.W.keepIn K (.ref C1) = true)
    (mk1 : PySem.W.makesIn K C1 = true)
    (in1 : PySem.W.findIn K (.ref C1) "__init__" = some (some (.ref f17)))
    (if1 : PySem.W.isFn K (.ref f17) = true)
    (m1_0 : PySem.W.findIn K (.ref C1) "shows" = some (some (.ref f18)))
    (mf1_0 : PySem.W.isFn K (.ref f18) = true)
    (cl1 : PySem.W.findIn K (.ref C1) "__class__" = some (some (.builtin "object.__class__")))
    (mo1 : PySem.W.mroIn K C1 (.type "object") = some true)
    (ki1_int : PySem.W.kitOne K (.ref C1) (.type "int") = some false)
    (ki1_bool : PySem.W.kitOne K (.ref C1) (.type "bool") = some false)
    (ki1_str : PySem.W.kitOne K (.ref C1) (.type "str") = some false)
    (ki1_list : PySem.W.kitOne K (.ref C1) (.type "list") = some false)
    (ki1_tuple : PySem.W.kitOne K (.ref C1) (.type "tuple") = some false)
    (kj1_NoneType : PySem.W.kitOne K (.type "NoneType") (.ref C1) = some false)
    (kj1_bool : PySem.W.kitOne K (.type "bool") (.ref C1) = some false)
    (kj1_int : PySem.W.kitOne K (.type "int") (.ref C1) = some false)
    (kj1_str : PySem.W.kitOne K (.type "str") (.ref C1) = some false)
    (kj1_list : PySem.W.kitOne K (.type "list") (.ref C1) = some false)
    (kj1_tuple : PySem.W.kitOne K (.type "tuple") (.ref C1) = some false)
    (kj1_dict : PySem.W.kitOne K (.type "dict") (.ref C1) = some false)
    (ac2 : PySem.W.nsIn K mainGlobals "Waits" = some (some (.ref C2)))
    (pg2 : PySem.W.plainGet K C2 Str.empty = true)
    (hd2 : PySem.W.hasDictIn K C2 = true)
    (po2 : PySem.W.plainOver K C2 = true)
    (sa2 : PySem.W.findIn K (.ref C2) "__setattr__" = some (some (.builtin "object.__setattr__")))
    (n2_0 : PySem.W.findIn K (.ref C2) "chain" = some none)
    (n2_1 : PySem.W.findIn K (.ref C2) "days" = some none)
    (n2_2 : PySem.W.findIn K (.ref C2) "letters" = some none)
    (n2_3 : PySem.W.findIn K (.ref C2) "over" = some none)
    (n2_4 : PySem.W.findIn K (.ref C2) "gone" = some none)
    (n2_5 : PySem.W.findIn K (.ref C2) "now" = some none)
    (kc2 : PySem.W.keepIn K (.ref C2) = true)
    (mk2 : PySem.W.makesIn K C2 = true)
    (in2 : PySem.W.findIn K (.ref C2) "__init__" = some (some (.ref f19)))
    (if2 : PySem.W.isFn K (.ref f19) = true)
    (m2_0 : PySem.W.findIn K (.ref C2) "shows" = some (some (.ref f20)))
    (mf2_0 : PySem.W.isFn K (.ref f20) = true)
    (cl2 : PySem.W.findIn K (.ref C2) "__class__" = some (some (.builtin "object.__class__")))
    (mo2 : PySem.W.mroIn K C2 (.type "object") = some true)
    (ki2_int : PySem.W.kitOne K (.ref C2) (.type "int") = some false)
    (ki2_bool : PySem.W.kitOne K (.ref C2) (.type "bool") = some false)
    (ki2_str : PySem.W.kitOne K (.ref C2) (.type "str") = some false)
    (ki2_list : PySem.W.kitOne K (.ref C2) (.type "list") = some false)
    (ki2_tuple : PySem.W.kitOne K (.ref C2) (.type "tuple") = some false)
    (kj2_NoneType : PySem.W.kitOne K (.type "NoneType") (.ref C2) = some false)
    (kj2_bool : PySem.W.kitOne K (.type "bool") (.ref C2) = some false)
    (kj2_int : PySem.W.kitOne K (.type "int") (.ref C2) = some false)
    (kj2_str : PySem.W.kitOne K (.type "str") (.ref C2) = some false)
    (kj2_list : PySem.W.kitOne K (.type "list") (.ref C2) = some false)
    (kj2_tuple : PySem.W.kitOne K (.type "tuple") (.ref C2) = some false)
    (kj2_dict : PySem.W.kitOne K (.type "dict") (.ref C2) = some false)
    (ac3 : PySem.W.nsIn K mainGlobals "Ahead" = some (some (.ref C3)))
    (pg3 : PySem.W.plainGet K C3 Str.empty = true)
    (hd3 : PySem.W.hasDictIn K C3 = true)
    (po3 : PySem.W.plainOver K C3 = true)
    (sa3 : PySem.W.findIn K (.ref C3) "__setattr__" = some (some (.builtin "object.__setattr__")))
    (n3_0 : PySem.W.findIn K (.ref C3) "chain" = some none)
    (n3_1 : PySem.W.findIn K (.ref C3) "days" = some none)
    (n3_2 : PySem.W.findIn K (.ref C3) "letters" = some none)
    (n3_3 : PySem.W.findIn K (.ref C3) "over" = some none)
    (n3_4 : PySem.W.findIn K (.ref C3) "gone" = some none)
    (n3_5 : PySem.W.findIn K (.ref C3) "now" = some none)
    (kc3 : PySem.W.keepIn K (.ref C3) = true)
    (mk3 : PySem.W.makesIn K C3 = true)
    (in3 : PySem.W.findIn K (.ref C3) "__init__" = some (some (.builtin "object.__init__")))
    (m3_0 : PySem.W.findIn K (.ref C3) "shows" = some (some (.ref f21)))
    (mf3_0 : PySem.W.isFn K (.ref f21) = true)
    (cl3 : PySem.W.findIn K (.ref C3) "__class__" = some (some (.builtin "object.__class__")))
    (mo3 : PySem.W.mroIn K C3 (.type "object") = some true)
    (ki3_int : PySem.W.kitOne K (.ref C3) (.type "int") = some false)
    (ki3_bool : PySem.W.kitOne K (.ref C3) (.type "bool") = some false)
    (ki3_str : PySem.W.kitOne K (.ref C3) (.type "str") = some false)
    (ki3_list : PySem.W.kitOne K (.ref C3) (.type "list") = some false)
    (ki3_tuple : PySem.W.kitOne K (.ref C3) (.type "tuple") = some false)
    (kj3_NoneType : PySem.W.kitOne K (.type "NoneType") (.ref C3) = some false)
    (kj3_bool : PySem.W.kitOne K (.type "bool") (.ref C3) = some false)
    (kj3_int : PySem.W.kitOne K (.type "int") (.ref C3) = some false)
    (kj3_str : PySem.W.kitOne K (.type "str") (.ref C3) = some false)
    (kj3_list : PySem.W.kitOne K (.type "list") (.ref C3) = some false)
    (kj3_tuple : PySem.W.kitOne K (.type "tuple") (.ref C3) = some false)
    (kj3_dict : PySem.W.kitOne K (.type "dict") (.ref C3) = some false)
    (ac4 : PySem.W.nsIn K mainGlobals "Perhaps" = some (some (.ref C4)))
    (pg4 : PySem.W.plainGet K C4 Str.empty = true)
    (hd4 : PySem.W.hasDictIn K C4 = true)
    (po4 : PySem.W.plainOver K C4 = true)
    (sa4 : PySem.W.findIn K (.ref C4) "__setattr__" = some (some (.builtin "object.__setattr__")))
    (n4_0 : PySem.W.findIn K (.ref C4) "chain" = some none)
    (n4_1 : PySem.W.findIn K (.ref C4) "days" = some none)
    (n4_2 : PySem.W.findIn K (.ref C4) "letters" = some none)
    (n4_3 : PySem.W.findIn K (.ref C4) "over" = some none)
    (n4_4 : PySem.W.findIn K (.ref C4) "gone" = some none)
    (n4_5 : PySem.W.findIn K (.ref C4) "now" = some none)
    (kc4 : PySem.W.keepIn K (.ref C4) = true)
    (mk4 : PySem.W.makesIn K C4 = true)
    (in4 : PySem.W.findIn K (.ref C4) "__init__" = some (some (.ref f22)))
    (if4 : PySem.W.isFn K (.ref f22) = true)
    (m4_0 : PySem.W.findIn K (.ref C4) "shows" = some (some (.ref f23)))
    (mf4_0 : PySem.W.isFn K (.ref f23) = true)
    (cl4 : PySem.W.findIn K (.ref C4) "__class__" = some (some (.builtin "object.__class__")))
    (mo4 : PySem.W.mroIn K C4 (.type "object") = some true)
    (ki4_int : PySem.W.kitOne K (.ref C4) (.type "int") = some false)
    (ki4_bool : PySem.W.kitOne K (.ref C4) (.type "bool") = some false)
    (ki4_str : PySem.W.kitOne K (.ref C4) (.type "str") = some false)
    (ki4_list : PySem.W.kitOne K (.ref C4) (.type "list") = some false)
    (ki4_tuple : PySem.W.kitOne K (.ref C4) (.type "tuple") = some false)
    (kj4_NoneType : PySem.W.kitOne K (.type "NoneType") (.ref C4) = some false)
    (kj4_bool : PySem.W.kitOne K (.type "bool") (.ref C4) = some false)
    (kj4_int : PySem.W.kitOne K (.type "int") (.ref C4) = some false)
    (kj4_str : PySem.W.kitOne K (.type "str") (.ref C4) = some false)
    (kj4_list : PySem.W.kitOne K (.type "list") (.ref C4) = some false)
    (kj4_tuple : PySem.W.kitOne K (.type "tuple") (.ref C4) = some false)
    (kj4_dict : PySem.W.kitOne K (.type "dict") (.ref C4) = some false)
    (ac5 : PySem.W.nsIn K mainGlobals "Keeper" = some (some (.ref C5)))
    (pg5 : PySem.W.plainGet K C5 Str.empty = true)
    (hd5 : PySem.W.hasDictIn K C5 = true)
    (po5 : PySem.W.plainOver K C5 = true)
    (sa5 : PySem.W.findIn K (.ref C5) "__setattr__" = some (some (.builtin "object.__setattr__")))
    (n5_0 : PySem.W.findIn K (.ref C5) "chain" = some none)
    (n5_1 : PySem.W.findIn K (.ref C5) "days" = some none)
    (n5_2 : PySem.W.findIn K (.ref C5) "letters" = some none)
    (n5_3 : PySem.W.findIn K (.ref C5) "over" = some none)
    (n5_4 : PySem.W.findIn K (.ref C5) "gone" = some none)
    (n5_5 : PySem.W.findIn K (.ref C5) "now" = some none)
    (kc5 : PySem.W.keepIn K (.ref C5) = true)
    (mk5 : PySem.W.makesIn K C5 = true)
    (in5 : PySem.W.findIn K (.ref C5) "__init__" = some (some (.ref f31)))
    (if5 : PySem.W.isFn K (.ref f31) = true)
    (m5_1 : PySem.W.findIn K (.ref C5) "copied" = some (some (.ref f32)))
    (mf5_1 : PySem.W.isFn K (.ref f32) = true)
    (m5_2 : PySem.W.findIn K (.ref C5) "put" = some (some (.ref f33)))
    (mf5_2 : PySem.W.isFn K (.ref f33) = true)
    (m5_3 : PySem.W.findIn K (.ref C5) "check_left" = some (some (.ref f34)))
    (mf5_3 : PySem.W.isFn K (.ref f34) = true)
    (m5_4 : PySem.W.findIn K (.ref C5) "change" = some (some (.ref f35)))
    (mf5_4 : PySem.W.isFn K (.ref f35) = true)
    (m5_5 : PySem.W.findIn K (.ref C5) "take_back" = some (some (.ref f36)))
    (mf5_5 : PySem.W.isFn K (.ref f36) = true)
    (m5_6 : PySem.W.findIn K (.ref C5) "tell" = some (some (.ref f37)))
    (mf5_6 : PySem.W.isFn K (.ref f37) = true)
    (m5_7 : PySem.W.findIn K (.ref C5) "leave" = some (some (.ref f38)))
    (mf5_7 : PySem.W.isFn K (.ref f38) = true)
    (m5_8 : PySem.W.findIn K (.ref C5) "noted" = some (some (.ref f39)))
    (mf5_8 : PySem.W.isFn K (.ref f39) = true)
    (m5_9 : PySem.W.findIn K (.ref C5) "due_by_now" = some (some (.ref f40)))
    (mf5_9 : PySem.W.isFn K (.ref f40) = true)
    (m5_10 : PySem.W.findIn K (.ref C5) "hand" = some (some (.ref f41)))
    (mf5_10 : PySem.W.isFn K (.ref f41) = true)
    (m5_11 : PySem.W.findIn K (.ref C5) "pass_day" = some (some (.ref f42)))
    (mf5_11 : PySem.W.isFn K (.ref f42) = true)
    (m5_12 : PySem.W.findIn K (.ref C5) "kept" = some (some (.ref f43)))
    (mf5_12 : PySem.W.isFn K (.ref f43) = true)
    (m5_13 : PySem.W.findIn K (.ref C5) "all_letters" = some (some (.ref f44)))
    (mf5_13 : PySem.W.isFn K (.ref f44) = true)
    (cl5 : PySem.W.findIn K (.ref C5) "__class__" = some (some (.builtin "object.__class__")))
    (mo5 : PySem.W.mroIn K C5 (.type "object") = some true)
    (ki5_int : PySem.W.kitOne K (.ref C5) (.type "int") = some false)
    (ki5_bool : PySem.W.kitOne K (.ref C5) (.type "bool") = some false)
    (ki5_str : PySem.W.kitOne K (.ref C5) (.type "str") = some false)
    (ki5_list : PySem.W.kitOne K (.ref C5) (.type "list") = some false)
    (ki5_tuple : PySem.W.kitOne K (.ref C5) (.type "tuple") = some false)
    (kj5_NoneType : PySem.W.kitOne K (.type "NoneType") (.ref C5) = some false)
    (kj5_bool : PySem.W.kitOne K (.type "bool") (.ref C5) = some false)
    (kj5_int : PySem.W.kitOne K (.type "int") (.ref C5) = some false)
    (kj5_str : PySem.W.kitOne K (.type "str") (.ref C5) = some false)
    (kj5_list : PySem.W.kitOne K (.type "list") (.ref C5) = some false)
    (kj5_tuple : PySem.W.kitOne K (.type "tuple") (.ref C5) = some false)
    (kj5_dict : PySem.W.kitOne K (.type "dict") (.ref C5) = some false)
    (kk0_0 : PySem.W.kitOne K (.ref C0) (.ref C0) = some true)
    (kk0_1 : PySem.W.kitOne K (.ref C0) (.ref C1) = some false)
    (kk0_2 : PySem.W.kitOne K (.ref C0) (.ref C2) = some false)
    (kk0_3 : PySem.W.kitOne K (.ref C0) (.ref C3) = some false)
    (kk0_4 : PySem.W.kitOne K (.ref C0) (.ref C4) = some false)
    (kk0_5 : PySem.W.kitOne K (.ref C0) (.ref C5) = some false)
    (kk1_0 : PySem.W.kitOne K (.ref C1) (.ref C0) = some true)
    (kk1_1 : PySem.W.kitOne K (.ref C1) (.ref C1) = some true)
    (kk1_2 : PySem.W.kitOne K (.ref C1) (.ref C2) = some false)
    (kk1_3 : PySem.W.kitOne K (.ref C1) (.ref C3) = some false)
    (kk1_4 : PySem.W.kitOne K (.ref C1) (.ref C4) = some false)
    (kk1_5 : PySem.W.kitOne K (.ref C1) (.ref C5) = some false)
    (kk2_0 : PySem.W.kitOne K (.ref C2) (.ref C0) = some true)
    (kk2_1 : PySem.W.kitOne K (.ref C2) (.ref C1) = some false)
    (kk2_2 : PySem.W.kitOne K (.ref C2) (.ref C2) = some true)
    (kk2_3 : PySem.W.kitOne K (.ref C2) (.ref C3) = some false)
    (kk2_4 : PySem.W.kitOne K (.ref C2) (.ref C4) = some false)
    (kk2_5 : PySem.W.kitOne K (.ref C2) (.ref C5) = some false)
    (kk3_0 : PySem.W.kitOne K (.ref C3) (.ref C0) = some true)
    (kk3_1 : PySem.W.kitOne K (.ref C3) (.ref C1) = some false)
    (kk3_2 : PySem.W.kitOne K (.ref C3) (.ref C2) = some false)
    (kk3_3 : PySem.W.kitOne K (.ref C3) (.ref C3) = some true)
    (kk3_4 : PySem.W.kitOne K (.ref C3) (.ref C4) = some false)
    (kk3_5 : PySem.W.kitOne K (.ref C3) (.ref C5) = some false)
    (kk4_0 : PySem.W.kitOne K (.ref C4) (.ref C0) = some true)
    (kk4_1 : PySem.W.kitOne K (.ref C4) (.ref C1) = some false)
    (kk4_2 : PySem.W.kitOne K (.ref C4) (.ref C2) = some false)
    (kk4_3 : PySem.W.kitOne K (.ref C4) (.ref C3) = some false)
    (kk4_4 : PySem.W.kitOne K (.ref C4) (.ref C4) = some true)
    (kk4_5 : PySem.W.kitOne K (.ref C4) (.ref C5) = some false)
    (kk5_0 : PySem.W.kitOne K (.ref C5) (.ref C0) = some false)
    (kk5_1 : PySem.W.kitOne K (.ref C5) (.ref C1) = some false)
    (kk5_2 : PySem.W.kitOne K (.ref C5) (.ref C2) = some false)
    (kk5_3 : PySem.W.kitOne K (.ref C5) (.ref C3) = some false)
    (kk5_4 : PySem.W.kitOne K (.ref C5) (.ref C4) = some false)
    (kk5_5 : PySem.W.kitOne K (.ref C5) (.ref C5) = some true)
    (sp : PySem.W.specialIn K (.builtin "object.__class__") "__get__" = some (some (.builtin "getset_descriptor.__get__")))
    (tk : PySem.W.takesIn K (.builtin "object.__class__") = some true)
    (n0 : PySem.W.nsIn K mainGlobals "MOST_LETTERS" = some (some (.int 40 t0)))
    (n1 : PySem.W.nsIn K mainGlobals "MOST_HEIRS" = some (some (.int 3 t1)))
    (n2 : PySem.W.nsIn K mainGlobals "MOST_PERSON" = some (some (.int 9 t2)))
    (n3 : PySem.W.nsIn K mainGlobals "MOST_TERMS" = some (some (.int 4 t3)))
    (n4 : PySem.W.nsIn K mainGlobals "HAPPENINGS" = some (some (.int 6 t4)))
    (n5 : PySem.W.nsIn K mainGlobals "MOST_DAY" = some (some (.int 60 t5)))
    (n6 : PySem.W.nsIn K mainGlobals "MOST_DELAY" = some (some (.int 20 t6)))
    (z_len : PySem.W.nsIn K mainGlobals "len" = some none)
    (z_max : PySem.W.nsIn K mainGlobals "max" = some none)
    (z_min : PySem.W.nsIn K mainGlobals "min" = some none)
    (z_abs : PySem.W.nsIn K mainGlobals "abs" = some none)
    (z_sum : PySem.W.nsIn K mainGlobals "sum" = some none)
    (z_all : PySem.W.nsIn K mainGlobals "all" = some none)
    (z_any : PySem.W.nsIn K mainGlobals "any" = some none)
    (z_sorted : PySem.W.nsIn K mainGlobals "sorted" = some none)
    (z_list : PySem.W.nsIn K mainGlobals "list" = some none)
    (z_tuple : PySem.W.nsIn K mainGlobals "tuple" = some none)
    (z_int : PySem.W.nsIn K mainGlobals "int" = some none)
    (z_isinstance : PySem.W.nsIn K mainGlobals "isinstance" = some none)
    (z_range : PySem.W.nsIn K mainGlobals "range" = some none)
    (z_enumerate : PySem.W.nsIn K mainGlobals "enumerate" = some none)
    (z_zip : PySem.W.nsIn K mainGlobals "zip" = some none)
    (z_set : PySem.W.nsIn K mainGlobals "set" = some none)
    (z_bool : PySem.W.nsIn K mainGlobals "bool" = some none)
    (z_str : PySem.W.nsIn K mainGlobals "str" = some none)
    (xg0 : PySem.W.findIn K (.ref E0) "__getattribute__" = some (some (.builtin "BaseException.__getattribute__")))
    (xk0 : PySem.W.findIn K (.ref E0) "__getattr__" = some none)
    (xd0 : PySem.W.hasDictIn K E0 = true)
    (xa0 : PySem.W.findIn K (.ref E0) "__class__" = some (some (.builtin "object.__class__")))
    (xm0 : PySem.W.mroIn K E0 (.type "object") = some true)
    (xx0_11 : PySem.W.kitOne K (.ref E0) (.ref E11) = some false)
    (xx0_3 : PySem.W.kitOne K (.ref E0) (.ref E3) = some false)
    (xx0_6 : PySem.W.kitOne K (.ref E0) (.ref E6) = some false)
    (xg1 : PySem.W.findIn K (.ref E1) "__getattribute__" = some (some (.builtin "BaseException.__getattribute__")))
    (xk1 : PySem.W.findIn K (.ref E1) "__getattr__" = some none)
    (xd1 : PySem.W.hasDictIn K E1 = true)
    (xa1 : PySem.W.findIn K (.ref E1) "__class__" = some (some (.builtin "object.__class__")))
    (xm1 : PySem.W.mroIn K E1 (.type "object") = some true)
    (xx1_11 : PySem.W.kitOne K (.ref E1) (.ref E11) = some false)
    (xx1_3 : PySem.W.kitOne K (.ref E1) (.ref E3) = some false)
    (xx1_6 : PySem.W.kitOne K (.ref E1) (.ref E6) = some false)
    (xg2 : PySem.W.findIn K (.ref E2) "__getattribute__" = some (some (.builtin "BaseException.__getattribute__")))
    (xk2 : PySem.W.findIn K (.ref E2) "__getattr__" = some none)
    (xd2 : PySem.W.hasDictIn K E2 = true)
    (xa2 : PySem.W.findIn K (.ref E2) "__class__" = some (some (.builtin "object.__class__")))
    (xm2 : PySem.W.mroIn K E2 (.type "object") = some true)
    (xx2_11 : PySem.W.kitOne K (.ref E2) (.ref E11) = some false)
    (xx2_3 : PySem.W.kitOne K (.ref E2) (.ref E3) = some false)
    (xx2_6 : PySem.W.kitOne K (.ref E2) (.ref E6) = some false)
    (xg3 : PySem.W.findIn K (.ref E3) "__getattribute__" = some (some (.builtin "BaseException.__getattribute__")))
    (xk3 : PySem.W.findIn K (.ref E3) "__getattr__" = some none)
    (xd3 : PySem.W.hasDictIn K E3 = true)
    (xa3 : PySem.W.findIn K (.ref E3) "__class__" = some (some (.builtin "object.__class__")))
    (xm3 : PySem.W.mroIn K E3 (.type "object") = some true)
    (xx3_11 : PySem.W.kitOne K (.ref E3) (.ref E11) = some false)
    (xx3_3 : PySem.W.kitOne K (.ref E3) (.ref E3) = some true)
    (xx3_6 : PySem.W.kitOne K (.ref E3) (.ref E6) = some false)
    (xg4 : PySem.W.findIn K (.ref E4) "__getattribute__" = some (some (.builtin "BaseException.__getattribute__")))
    (xk4 : PySem.W.findIn K (.ref E4) "__getattr__" = some none)
    (xd4 : PySem.W.hasDictIn K E4 = true)
    (xa4 : PySem.W.findIn K (.ref E4) "__class__" = some (some (.builtin "object.__class__")))
    (xm4 : PySem.W.mroIn K E4 (.type "object") = some true)
    (xx4_11 : PySem.W.kitOne K (.ref E4) (.ref E11) = some false)
    (xx4_3 : PySem.W.kitOne K (.ref E4) (.ref E3) = some false)
    (xx4_6 : PySem.W.kitOne K (.ref E4) (.ref E6) = some false)
    (xg5 : PySem.W.findIn K (.ref E5) "__getattribute__" = some (some (.builtin "BaseException.__getattribute__")))
    (xk5 : PySem.W.findIn K (.ref E5) "__getattr__" = some none)
    (xd5 : PySem.W.hasDictIn K E5 = true)
    (xa5 : PySem.W.findIn K (.ref E5) "__class__" = some (some (.builtin "object.__class__")))
    (xm5 : PySem.W.mroIn K E5 (.type "object") = some true)
    (xx5_11 : PySem.W.kitOne K (.ref E5) (.ref E11) = some false)
    (xx5_3 : PySem.W.kitOne K (.ref E5) (.ref E3) = some false)
    (xx5_6 : PySem.W.kitOne K (.ref E5) (.ref E6) = some false)
    (xg6 : PySem.W.findIn K (.ref E6) "__getattribute__" = some (some (.builtin "BaseException.__getattribute__")))
    (xk6 : PySem.W.findIn K (.ref E6) "__getattr__" = some none)
    (xd6 : PySem.W.hasDictIn K E6 = true)
    (xa6 : PySem.W.findIn K (.ref E6) "__class__" = some (some (.builtin "object.__class__")))
    (xm6 : PySem.W.mroIn K E6 (.type "object") = some true)
    (xx6_11 : PySem.W.kitOne K (.ref E6) (.ref E11) = some false)
    (xx6_3 : PySem.W.kitOne K (.ref E6) (.ref E3) = some false)
    (xx6_6 : PySem.W.kitOne K (.ref E6) (.ref E6) = some true)
    (xg7 : PySem.W.findIn K (.ref E7) "__getattribute__" = some (some (.builtin "BaseException.__getattribute__")))
    (xk7 : PySem.W.findIn K (.ref E7) "__getattr__" = some none)
    (xd7 : PySem.W.hasDictIn K E7 = true)
    (xa7 : PySem.W.findIn K (.ref E7) "__class__" = some (some (.builtin "object.__class__")))
    (xm7 : PySem.W.mroIn K E7 (.type "object") = some true)
    (xx7_11 : PySem.W.kitOne K (.ref E7) (.ref E11) = some false)
    (xx7_3 : PySem.W.kitOne K (.ref E7) (.ref E3) = some false)
    (xx7_6 : PySem.W.kitOne K (.ref E7) (.ref E6) = some false)
    (xg8 : PySem.W.findIn K (.ref E8) "__getattribute__" = some (some (.builtin "BaseException.__getattribute__")))
    (xk8 : PySem.W.findIn K (.ref E8) "__getattr__" = some none)
    (xd8 : PySem.W.hasDictIn K E8 = true)
    (xa8 : PySem.W.findIn K (.ref E8) "__class__" = some (some (.builtin "object.__class__")))
    (xm8 : PySem.W.mroIn K E8 (.type "object") = some true)
    (xx8_11 : PySem.W.kitOne K (.ref E8) (.ref E11) = some false)
    (xx8_3 : PySem.W.kitOne K (.ref E8) (.ref E3) = some false)
    (xx8_6 : PySem.W.kitOne K (.ref E8) (.ref E6) = some false)
    (xg9 : PySem.W.findIn K (.ref E9) "__getattribute__" = some (some (.builtin "BaseException.__getattribute__")))
    (xk9 : PySem.W.findIn K (.ref E9) "__getattr__" = some none)
    (xd9 : PySem.W.hasDictIn K E9 = true)
    (xa9 : PySem.W.findIn K (.ref E9) "__class__" = some (some (.builtin "object.__class__")))
    (xm9 : PySem.W.mroIn K E9 (.type "object") = some true)
    (xx9_11 : PySem.W.kitOne K (.ref E9) (.ref E11) = some false)
    (xx9_3 : PySem.W.kitOne K (.ref E9) (.ref E3) = some false)
    (xx9_6 : PySem.W.kitOne K (.ref E9) (.ref E6) = some false)
    (xg10 : PySem.W.findIn K (.ref E10) "__getattribute__" = some (some (.builtin "BaseException.__getattribute__")))
    (xk10 : PySem.W.findIn K (.ref E10) "__getattr__" = some none)
    (xd10 : PySem.W.hasDictIn K E10 = true)
    (xa10 : PySem.W.findIn K (.ref E10) "__class__" = some (some (.builtin "object.__class__")))
    (xm10 : PySem.W.mroIn K E10 (.type "object") = some true)
    (xx10_11 : PySem.W.kitOne K (.ref E10) (.ref E11) = some false)
    (xx10_3 : PySem.W.kitOne K (.ref E10) (.ref E3) = some false)
    (xx10_6 : PySem.W.kitOne K (.ref E10) (.ref E6) = some false)
    (xg11 : PySem.W.findIn K (.ref E11) "__getattribute__" = some (some (.builtin "BaseException.__getattribute__")))
    (xk11 : PySem.W.findIn K (.ref E11) "__getattr__" = some none)
    (xd11 : PySem.W.hasDictIn K E11 = true)
    (xa11 : PySem.W.findIn K (.ref E11) "__class__" = some (some (.builtin "object.__class__")))
    (xm11 : PySem.W.mroIn K E11 (.type "object") = some true)
    (xx11_11 : PySem.W.kitOne K (.ref E11) (.ref E11) = some true)
    (xx11_3 : PySem.W.kitOne K (.ref E11) (.ref E3) = some false)
    (xx11_6 : PySem.W.kitOne K (.ref E11) (.ref E6) = some false)
    (xg12 : PySem.W.findIn K (.ref E12) "__getattribute__" = some (some (.builtin "BaseException.__getattribute__")))
    (xk12 : PySem.W.findIn K (.ref E12) "__getattr__" = some none)
    (xd12 : PySem.W.hasDictIn K E12 = true)
    (xa12 : PySem.W.findIn K (.ref E12) "__class__" = some (some (.builtin "object.__class__")))
    (xm12 : PySem.W.mroIn K E12 (.type "object") = some true)
    (xx12_11 : PySem.W.kitOne K (.ref E12) (.ref E11) = some false)
    (xx12_3 : PySem.W.kitOne K (.ref E12) (.ref E3) = some false)
    (xx12_6 : PySem.W.kitOne K (.ref E12) (.ref E6) = some false)
    (xy0_0 : PySem.W.exmOne K (.ref E0) (.ref E0) = some true)
    (xy0_10 : PySem.W.exmOne K (.ref E0) (.ref E10) = some false)
    (xy1_0 : PySem.W.exmOne K (.ref E1) (.ref E0) = some true)
    (xy1_10 : PySem.W.exmOne K (.ref E1) (.ref E10) = some false)
    (xy2_0 : PySem.W.exmOne K (.ref E2) (.ref E0) = some true)
    (xy2_10 : PySem.W.exmOne K (.ref E2) (.ref E10) = some false)
    (xy3_0 : PySem.W.exmOne K (.ref E3) (.ref E0) = some true)
    (xy3_10 : PySem.W.exmOne K (.ref E3) (.ref E10) = some false)
    (xy4_0 : PySem.W.exmOne K (.ref E4) (.ref E0) = some true)
    (xy4_10 : PySem.W.exmOne K (.ref E4) (.ref E10) = some false)
    (xy5_0 : PySem.W.exmOne K (.ref E5) (.ref E0) = some true)
    (xy5_10 : PySem.W.exmOne K (.ref E5) (.ref E10) = some false)
    (xy6_0 : PySem.W.exmOne K (.ref E6) (.ref E0) = some true)
    (xy6_10 : PySem.W.exmOne K (.ref E6) (.ref E10) = some false)
    (xy7_0 : PySem.W.exmOne K (.ref E7) (.ref E0) = some true)
    (xy7_10 : PySem.W.exmOne K (.ref E7) (.ref E10) = some false)
    (xy8_0 : PySem.W.exmOne K (.ref E8) (.ref E0) = some true)
    (xy8_10 : PySem.W.exmOne K (.ref E8) (.ref E10) = some false)
    (xy9_0 : PySem.W.exmOne K (.ref E9) (.ref E0) = some true)
    (xy9_10 : PySem.W.exmOne K (.ref E9) (.ref E10) = some false)
    (xy10_0 : PySem.W.exmOne K (.ref E10) (.ref E0) = some true)
    (xy10_10 : PySem.W.exmOne K (.ref E10) (.ref E10) = some true)
    (xy11_0 : PySem.W.exmOne K (.ref E11) (.ref E0) = some true)
    (xy11_10 : PySem.W.exmOne K (.ref E11) (.ref E10) = some false)
    (xy12_0 : PySem.W.exmOne K (.ref E12) (.ref E0) = some true)
    (xy12_10 : PySem.W.exmOne K (.ref E12) (.ref E10) = some false)
    (mc149 : cd149 = .ref cc149)
    (mo149_ : K.lookup cc149 = some co149)
    (mt149_ : codeTab co149 = some pp149)
    (mw149 : codeOne K d149.qual cc149 = true)
    (mh149 : PySem.W.codeHdIn K cc149 pp149 = true)
    (mn149 : K.lookup pp149 = none)
    (mT149 : h.get? pp149 = some { cls := .none, data := .fields #[] })
    (mc150 : cd150 = .ref cc150)
    (mo150_ : K.lookup cc150 = some co150)
    (mt150_ : codeTab co150 = some pp150)
    (mw150 : codeOne K d150.qual cc150 = true)
    (mh150 : PySem.W.codeHdIn K cc150 pp150 = true)
    (mn150 : K.lookup pp150 = none)
    (mT150 : h.get? pp150 = some { cls := .none, data := .fields #[] })
    (mu149_150 : pp149 ≠ pp150)
    (mu150_149 : pp150 ≠ pp149)
    : LamX.LawAtS l w K (L2.CX l.prog w) (lvl n) 63 "_law_script" mg fa h := by
  have e := hfa.symm.trans (PySem.W.mg_of X G a151)
  have e2 : f151 = fa := by cases e; rfl
  subst e2
  have F0 : FunL D K 0 f0 := ⟨d0, _, rfl, fun_mk (st := d0.st) l0 c0 k0⟩
  have F1 : FunL D K 1 f1 := ⟨d1, _, rfl, fun_mk (st := d1.st) l1 c1 k1⟩
  have F2 : FunL D K 2 f2 := ⟨d2, _, rfl, fun_mk (st := d2.st) l2 c2 k2⟩
  have F3 : FunL D K 3 f3 := ⟨d3, _, rfl, fun_mk (st := d3.st) l3 c3 k3⟩
  have F4 : FunL D K 4 f4 := ⟨d4, _, rfl, fun_mk (st := d4.st) l4 c4 k4⟩
  have F5 : FunL D K 5 f5 := ⟨d5, _, rfl, fun_mk (st := d5.st) l5 c5 k5⟩
  have F6 : FunL D K 6 f6 := ⟨d6, _, rfl, fun_mk (st := d6.st) l6 c6 k6⟩
  have F7 : FunL D K 7 f7 := ⟨d7, _, rfl, fun_mk (st := d7.st) l7 c7 k7⟩
  have F8 : FunL D K 8 f8 := ⟨d8, _, rfl, fun_mk (st := d8.st) l8 c8 k8⟩
  have F9 : FunL D K 9 f9 := ⟨d9, _, rfl, fun_mk (st := d9.st) l9 c9 k9⟩
  have F10 : FunL D K 10 f10 := ⟨d10, _, rfl, fun_mk (st := d10.st) l10 c10 k10⟩
  have F11 : FunL D K 11 f11 := ⟨d11, _, rfl, fun_mk (st := d11.st) l11 c11 k11⟩
  have F12 : FunL D K 12 f12 := ⟨d12, _, rfl, fun_mk (st := d12.st) l12 c12 k12⟩
  have F13 : FunL D K 13 f13 := ⟨d13, _, rfl, fun_mk (st := d13.st) l13 c13 k13⟩
  have F14 : FunL D K 14 f14 := ⟨d14, _, rfl, fun_mk (st := d14.st) l14 c14 k14⟩
  have F15 : FunL D K 15 f15 := ⟨d15, _, rfl, fun_mk (st := d15.st) l15 c15 k15⟩
  have F16 : FunL D K 16 f16 := ⟨d16, _, rfl, fun_mk (st := d16.st) l16 c16 k16⟩
  have F17 : FunL D K 17 f17 := ⟨d17, _, rfl, fun_mk (st := d17.st) l17 c17 k17⟩
  have F18 : FunL D K 18 f18 := ⟨d18, _, rfl, fun_mk (st := d18.st) l18 c18 k18⟩
  have F19 : FunL D K 19 f19 := ⟨d19, _, rfl, fun_mk (st := d19.st) l19 c19 k19⟩
  have F20 : FunL D K 20 f20 := ⟨d20, _, rfl, fun_mk (st := d20.st) l20 c20 k20⟩
  have F21 : FunL D K 21 f21 := ⟨d21, _, rfl, fun_mk (st := d21.st) l21 c21 k21⟩
  have F22 : FunL D K 22 f22 := ⟨d22, _, rfl, fun_mk (st := d22.st) l22 c22 k22⟩
  have F23 : FunL D K 23 f23 := ⟨d23, _, rfl, fun_mk (st := d23.st) l23 c23 k23⟩
  have F24 : FunL D K 24 f24 := ⟨d24, _, rfl, fun_mk (st := d24.st) l24 c24 k24⟩
  have F25 : FunL D K 25 f25 := ⟨d25, _, rfl, fun_mk (st := d25.st) l25 c25 k25⟩
  have F26 : FunL D K 26 f26 := ⟨d26, _, rfl, fun_mk (st := d26.st) l26 c26 k26⟩
  have F27 : FunL D K 27 f27 := ⟨d27, _, rfl, fun_mk (st := d27.st) l27 c27 k27⟩
  have F28 : FunL D K 28 f28 := ⟨d28, _, rfl, fun_mk (st := d28.st) l28 c28 k28⟩
  have F29 : FunL D K 29 f29 := ⟨d29, _, rfl, fun_mk (st := d29.st) l29 c29 k29⟩
  have F30 : FunL D K 30 f30 := ⟨d30, _, rfl, fun_mk (st := d30.st) l30 c30 k30⟩
  have F31 : FunL D K 31 f31 := ⟨d31, _, rfl, fun_mk (st := d31.st) l31 c31 k31⟩
  have F32 : FunL D K 32 f32 := ⟨d32, _, rfl, fun_mk (st := d32.st) l32 c32 k32⟩
  have F33 : FunL D K 33 f33 := ⟨d33, _, rfl, fun_mk (st := d33.st) l33 c33 k33⟩
  have F34 : FunL D K 34 f34 := ⟨d34, _, rfl, fun_mk (st := d34.st) l34 c34 k34⟩
  have F35 : FunL D K 35 f35 := ⟨d35, _, rfl, fun_mk (st := d35.st) l35 c35 k35⟩
  have F36 : FunL D K 36 f36 := ⟨d36, _, rfl, fun_mk (st := d36.st) l36 c36 k36⟩
  have F37 : FunL D K 37 f37 := ⟨d37, _, rfl, fun_mk (st := d37.st) l37 c37 k37⟩
  have F38 : FunL D K 38 f38 := ⟨d38, _, rfl, fun_mk (st := d38.st) l38 c38 k38⟩
  have F39 : FunL D K 39 f39 := ⟨d39, _, rfl, fun_mk (st := d39.st) l39 c39 k39⟩
  have F40 : FunL D K 40 f40 := ⟨d40, _, rfl, fun_mk (st := d40.st) l40 c40 k40⟩
  have F41 : FunL D K 41 f41 := ⟨d41, _, rfl, fun_mk (st := d41.st) l41 c41 k41⟩
  have F42 : FunL D K 42 f42 := ⟨d42, _, rfl, fun_mk (st := d42.st) l42 c42 k42⟩
  have F43 : FunL D K 43 f43 := ⟨d43, _, rfl, fun_mk (st := d43.st) l43 c43 k43⟩
  have F44 : FunL D K 44 f44 := ⟨d44, _, rfl, fun_mk (st := d44.st) l44 c44 k44⟩
  have F144 : FunL D K 144 f144 := ⟨d144, _, rfl, fun_mk (st := d144.st) l144 c144 k144⟩
  have F145 : FunL D K 145 f145 := ⟨d145, _, rfl, fun_mk (st := d145.st) l145 c145 k145⟩
  have F146 : FunL D K 146 f146 := ⟨d146, _, rfl, fun_mk (st := d146.st) l146 c146 k146⟩
  have F147 : FunL D K 147 f147 := ⟨d147, _, rfl, fun_mk (st := d147.st) l147 c147 k147⟩
  have F148 : FunL D K 148 f148 := ⟨d148, _, rfl, fun_mk (st := d148.st) l148 c148 k148⟩
  have F149 : FunL D K 149 f149 := ⟨d149, _, rfl, fun_mk (st := d149.st) l149 c149 k149⟩
  have F150 : FunL D K 150 f150 := ⟨d150, _, rfl, fun_mk (st := d150.st) l150 c150 k150⟩
  have F151 : FunL D K 151 f151 := ⟨d151, _, rfl, fun_mk (st := d151.st) l151 c151 k151⟩
  letI : Tabs := ⟨[(pp149, lamName d149.qual), (pp150, lamName d150.qual)]⟩
  have b : Base pg TL D (sg K C0 C1 C2 C3 C4 C5 E0 E1 E2 E3 E4 E5 E6 E7 E8 E9 E10 E11 E12) K mg := by
    refine ⟨rfl, ⟨(by show pg.txts.Nodup; decide +kernel), (by show ∀ z ∈ pg.txts, PyData.strOk z = true; decide +kernel), (by show pg.flds.Nodup; decide +kernel)⟩, rfl, rfl, by decide +kernel, ?blt, ?con, ?fn, ?cls, ?exn, ?ins, ?mkc, ?mt, ?kin, ?kit, fun l params body scope q z => z, fun l I z => ?hl, ?wh, ?exm, ?xk, ?xc, ?exc⟩
    case blt =>
      intro x hx
      simp only [blts, List.mem_cons, List.not_mem_nil, or_false] at hx
      rcases hx with rfl | rfl | rfl | rfl | rfl | rfl | rfl | rfl | rfl | rfl | rfl | rfl | rfl | rfl | rfl | rfl | rfl | rfl
      · exact PySem.W.mg_none_of X G z_len
      · exact PySem.W.mg_none_of X G z_max
      · exact PySem.W.mg_none_of X G z_min
      · exact PySem.W.mg_none_of X G z_abs
      · exact PySem.W.mg_none_of X G z_sum
      · exact PySem.W.mg_none_of X G z_all
      · exact PySem.W.mg_none_of X G z_any
      · exact PySem.W.mg_none_of X G z_sorted
      · exact PySem.W.mg_none_of X G z_list
      · exact PySem.W.mg_none_of X G z_tuple
      · exact PySem.W.mg_none_of X G z_int
      · exact PySem.W.mg_none_of X G z_isinstance
      · exact PySem.W.mg_none_of X G z_range
      · exact PySem.W.mg_none_of X G z_enumerate
      · exact PySem.W.mg_none_of X G z_zip
      · exact PySem.W.mg_none_of X G z_set
      · exact PySem.W.mg_none_of X G z_bool
      · exact PySem.W.mg_none_of X G z_str
    case con =>
      intro p hp
      simp only [pg, P0, List.mem_cons, List.not_mem_nil, or_false] at hp
      rcases hp with rfl | rfl | rfl | rfl | rfl | rfl | rfl
      · exact ⟨t0, PySem.W.mg_of X G n0⟩
      · exact ⟨t1, PySem.W.mg_of X G n1⟩
      · exact ⟨t2, PySem.W.mg_of X G n2⟩
      · exact ⟨t3, PySem.W.mg_of X G n3⟩
      · exact ⟨t4, PySem.W.mg_of X G n4⟩
      · exact ⟨t5, PySem.W.mg_of X G n5⟩
      · exact ⟨t6, PySem.W.mg_of X G n6⟩
    case fn =>
      intro i x e
      match i, e with
      | 0, e => cases e; exact ⟨f0, PySem.W.mg_of X G a0, F0⟩
      | 1, e => cases e; exact ⟨f1, PySem.W.mg_of X G a1, F1⟩
      | 2, e => cases e; exact ⟨f2, PySem.W.mg_of X G a2, F2⟩
      | 3, e => cases e; exact ⟨f3, PySem.W.mg_of X G a3, F3⟩
      | 4, e => cases e; exact ⟨f4, PySem.W.mg_of X G a4, F4⟩
      | 5, e => cases e; exact ⟨f5, PySem.W.mg_of X G a5, F5⟩
      | 6, e => cases e; exact ⟨f6, PySem.W.mg_of X G a6, F6⟩
      | 7, e => cases e; exact ⟨f7, PySem.W.mg_of X G a7, F7⟩
      | 8, e => cases e; exact ⟨f8, PySem.W.mg_of X G a8, F8⟩
      | 9, e => cases e; exact ⟨f9, PySem.W.mg_of X G a9, F9⟩
      | 10, e => cases e; exact ⟨f10, PySem.W.mg_of X G a10, F10⟩
      | 11, e => cases e; exact ⟨f11, PySem.W.mg_of X G a11, F11⟩
      | 12, e => cases e; exact ⟨f12, PySem.W.mg_of X G a12, F12⟩
      | 13, e => cases e; exact ⟨f13, PySem.W.mg_of X G a13, F13⟩
      | 14, e => cases e; exact ⟨f14, PySem.W.mg_of X G a14, F14⟩
      | 15, e => cases e; exact ⟨f15, PySem.W.mg_of X G a15, F15⟩
      | 16, e => cases e; exact ⟨f16, PySem.W.mg_of X G a16, F16⟩
      | 17, e => cases e
      | 18, e => cases e
      | 19, e => cases e
      | 20, e => cases e
      | 21, e => cases e
      | 22, e => cases e
      | 23, e => cases e
      | 24, e => cases e; exact ⟨f24, PySem.W.mg_of X G a24, F24⟩
      | 25, e => cases e; exact ⟨f25, PySem.W.mg_of X G a25, F25⟩
      | 26, e => cases e; exact ⟨f26, PySem.W.mg_of X G a26, F26⟩
      | 27, e => cases e; exact ⟨f27, PySem.W.mg_of X G a27, F27⟩
      | 28, e => cases e; exact ⟨f28, PySem.W.mg_of X G a28, F28⟩
      | 29, e => cases e; exact ⟨f29, PySem.W.mg_of X G a29, F29⟩
      | 30, e => cases e; exact ⟨f30, PySem.W.mg_of X G a30, F30⟩
      | 31, e => cases e
      | 32, e => cases e
      | 33, e => cases e
      | 34, e => cases e
      | 35, e => cases e
      | 36, e => cases e
      | 37, e => cases e
      | 38, e => cases e
      | 39, e => cases e
      | 40, e => cases e
      | 41, e => cases e
      | 42, e => cases e
      | 43, e => cases e
      | 44, e => cases e
      | 45, e => cases e
      | 46, e => cases e
      | 47, e => cases e
      | 48, e => cases e
      | 49, e => cases e
      | 50, e => cases e
      | 51, e => cases e
      | 52, e => cases e
      | 53, e => cases e
      | 54, e => cases e
      | 55, e => cases e
      | 56, e => cases e
      | 57, e => cases e
      | 58, e => cases e
      | 59, e => cases e
      | 60, e => cases e
      | 61, e => cases e
      | 62, e => cases e
      | 63, e => cases e
      | 64, e => cases e
      | 65, e => cases e
      | 66, e => cases e
      | 67, e => cases e
      | 68, e => cases e
      | 69, e => cases e
      | 70, e => cases e
      | 71, e => cases e
      | 72, e => cases e
      | 73, e => cases e
      | 74, e => cases e
      | 75, e => cases e
      | 76, e => cases e
      | 77, e => cases e
      | 78, e => cases e
      | 79, e => cases e
      | 80, e => cases e
      | 81, e => cases e
      | 82, e => cases e
      | 83, e => cases e
      | 84, e => cases e
      | 85, e => cases e
      | 86, e => cases e
      | 87, e => cases e
      | 88, e => cases e
      | 89, e => cases e
      | 90, e => cases e
      | 91, e => cases e
      | 92, e => cases e
      | 93, e => cases e
      | 94, e => cases e
      | 95, e => cases e
      | 96, e => cases e
      | 97, e => cases e
      | 98, e => cases e
      | 99, e => cases e
      | 100, e => cases e
      | 101, e => cases e
      | 102, e => cases e
      | 103, e => cases e
      | 104, e => cases e
      | 105, e => cases e
      | 106, e => cases e
      | 107, e => cases e
      | 108, e => cases e
      | 109, e => cases e
      | 110, e => cases e
      | 111, e => cases e
      | 112, e => cases e
      | 113, e => cases e
      | 114, e => cases e
      | 115, e => cases e
      | 116, e => cases e
      | 117, e => cases e
      | 118, e => cases e
      | 119, e => cases e
      | 120, e => cases e
      | 121, e => cases e
      | 122, e => cases e
      | 123, e => cases e
      | 124, e => cases e
      | 125, e => cases e
      | 126, e => cases e
      | 127, e => cases e
      | 128, e => cases e
      | 129, e => cases e
      | 130, e => cases e
      | 131, e => cases e
      | 132, e => cases e
      | 133, e => cases e
      | 134, e => cases e
      | 135, e => cases e
      | 136, e => cases e
      | 137, e => cases e
      | 138, e => cases e
      | 139, e => cases e
      | 140, e => cases e
      | 141, e => cases e
      | 142, e => cases e
      | 143, e => cases e
      | 144, e => cases e; exact ⟨f144, PySem.W.mg_of X G a144, F144⟩
      | 145, e => cases e; exact ⟨f145, PySem.W.mg_of X G a145, F145⟩
      | 146, e => cases e; exact ⟨f146, PySem.W.mg_of X G a146, F146⟩
      | 147, e => cases e; exact ⟨f147, PySem.W.mg_of X G a147, F147⟩
      | 148, e => cases e; exact ⟨f148, PySem.W.mg_of X G a148, F148⟩
      | 149, e => cases e; exact ⟨f149, PySem.W.mg_of X G a149, F149⟩
      | 150, e => cases e; exact ⟨f150, PySem.W.mg_of X G a150, F150⟩
      | 151, e => cases e; exact ⟨f151, PySem.W.mg_of X G a151, F151⟩
      | i + 152, e => cases e
    case cls =>
      intro i x e
      match i, e with
      | 0, e => cases e; exact ⟨C0, rfl, PySem.W.mg_of X G ac0⟩
      | 1, e => cases e; exact ⟨C1, rfl, PySem.W.mg_of X G ac1⟩
      | 2, e => cases e; exact ⟨C2, rfl, PySem.W.mg_of X G ac2⟩
      | 3, e => cases e; exact ⟨C3, rfl, PySem.W.mg_of X G ac3⟩
      | 4, e => cases e; exact ⟨C4, rfl, PySem.W.mg_of X G ac4⟩
      | 5, e => cases e; exact ⟨C5, rfl, PySem.W.mg_of X G ac5⟩
      | i + 6, e => cases e
    case exn =>
      intro i x e
      match i, e with
      | 0, e => cases e; exact ⟨E0, rfl, PySem.W.mg_of X G e0⟩
      | 1, e => cases e; exact ⟨E1, rfl, PySem.W.mg_of X G e1⟩
      | 2, e => cases e; exact ⟨E2, rfl, PySem.W.mg_of X G e2⟩
      | 3, e => cases e; exact ⟨E3, rfl, PySem.W.mg_of X G e3⟩
      | 4, e => cases e; exact ⟨E4, rfl, PySem.W.mg_of X G e4⟩
      | 5, e => cases e; exact ⟨E5, rfl, PySem.W.mg_of X G e5⟩
      | 6, e => cases e; exact ⟨E6, rfl, PySem.W.mg_of X G e6⟩
      | 7, e => cases e; exact ⟨E7, rfl, PySem.W.mg_of X G e7⟩
      | 8, e => cases e; exact ⟨E8, rfl, PySem.W.mg_of X G e8⟩
      | 9, e => cases e; exact ⟨E9, rfl, PySem.W.mg_of X G e9⟩
      | 10, e => cases e; exact ⟨E10, rfl, PySem.W.mg_of X G e10⟩
      | 11, e => cases e; exact ⟨E11, rfl, PySem.W.mg_of X G e11⟩
      | 12, e => cases e; exact ⟨E12, rfl, PySem.W.mg_of X G e12⟩
      | i + 13, e => cases e
    case ins =>
      intro k C e
      match k, e with
      | 0, e => cases e; exact ⟨⟨pg0, hd0, po0, sa0⟩, fun n hn => by
          simp only [pg, P0, List.mem_cons, List.not_mem_nil, or_false] at hn
          rcases hn with rfl | rfl | rfl | rfl | rfl | rfl
          · exact n0_0
          · exact n0_1
          · exact n0_2
          · exact n0_3
          · exact n0_4
          · exact n0_5⟩
      | 1, e => cases e; exact ⟨⟨pg1, hd1, po1, sa1⟩, fun n hn => by
          simp only [pg, P0, List.mem_cons, List.not_mem_nil, or_false] at hn
          rcases hn with rfl | rfl | rfl | rfl | rfl | rfl
          · exact n1_0
          · exact n1_1
          · exact n1_2
          · exact n1_3
          · exact n1_4
          · exact n1_5⟩
      | 2, e => cases e; exact ⟨⟨pg2, hd2, po2, sa2⟩, fun n hn => by
          simp only [pg, P0, List.mem_cons, List.not_mem_nil, or_false] at hn
          rcases hn with rfl | rfl | rfl | rfl | rfl | rfl
          · exact n2_0
          · exact n2_1
          · exact n2_2
          · exact n2_3
          · exact n2_4
          · exact n2_5⟩
      | 3, e => cases e; exact ⟨⟨pg3, hd3, po3, sa3⟩, fun n hn => by
          simp only [pg, P0, List.mem_cons, List.not_mem_nil, or_false] at hn
          rcases hn with rfl | rfl | rfl | rfl | rfl | rfl
          · exact n3_0
          · exact n3_1
          · exact n3_2
          · exact n3_3
          · exact n3_4
          · exact n3_5⟩
      | 4, e => cases e; exact ⟨⟨pg4, hd4, po4, sa4⟩, fun n hn => by
          simp only [pg, P0, List.mem_cons, List.not_mem_nil, or_false] at hn
          rcases hn with rfl | rfl | rfl | rfl | rfl | rfl
          · exact n4_0
          · exact n4_1
          · exact n4_2
          · exact n4_3
          · exact n4_4
          · exact n4_5⟩
      | 5, e => cases e; exact ⟨⟨pg5, hd5, po5, sa5⟩, fun n hn => by
          simp only [pg, P0, List.mem_cons, List.not_mem_nil, or_false] at hn
          rcases hn with rfl | rfl | rfl | rfl | rfl | rfl
          · exact n5_0
          · exact n5_1
          · exact n5_2
          · exact n5_3
          · exact n5_4
          · exact n5_5⟩
      | k + 6, e => cases e
    case mkc =>
      intro k C e
      match k, e with
      | 0, e => cases e; exact ⟨kc0, mk0, in0⟩
      | 1, e => cases e; exact ⟨kc1, mk1, f17, in1, if1, F17⟩
      | 2, e => cases e; exact ⟨kc2, mk2, f19, in2, if2, F19⟩
      | 3, e => cases e; exact ⟨kc3, mk3, in3⟩
      | 4, e => cases e; exact ⟨kc4, mk4, f22, in4, if4, F22⟩
      | 5, e => cases e; exact ⟨kc5, mk5, f31, in5, if5, F31⟩
      | k + 6, e => cases e
    case mt =>
      intro k C m n i e1 e2 e3
      match k, e1 with
      | 0, e1 =>
        cases e1
        match m, e2, e3 with
        | 0, e2, e3 => cases e3
        | 1, e2, e3 => cases e3
        | 2, e2, e3 => cases e3
        | 3, e2, e3 => cases e3
        | 4, e2, e3 => cases e3
        | 5, e2, e3 => cases e3
        | 6, e2, e3 => cases e3
        | 7, e2, e3 => cases e3
        | 8, e2, e3 => cases e3
        | 9, e2, e3 => cases e3
        | 10, e2, e3 => cases e3
        | 11, e2, e3 => cases e3
        | 12, e2, e3 => cases e3
        | 13, e2, e3 => cases e3
        | m + 14, e2, e3 => cases e2
      | 1, e1 =>
        cases e1
        match m, e2, e3 with
        | 0, e2, e3 => cases e2; cases e3; exact ⟨f18, ⟨m1_0, mf1_0, k18⟩, F18⟩
        | 1, e2, e3 => cases e3
        | 2, e2, e3 => cases e3
        | 3, e2, e3 => cases e3
        | 4, e2, e3 => cases e3
        | 5, e2, e3 => cases e3
        | 6, e2, e3 => cases e3
        | 7, e2, e3 => cases e3
        | 8, e2, e3 => cases e3
        | 9, e2, e3 => cases e3
        | 10, e2, e3 => cases e3
        | 11, e2, e3 => cases e3
        | 12, e2, e3 => cases e3
        | 13, e2, e3 => cases e3
        | m + 14, e2, e3 => cases e2
      | 2, e1 =>
        cases e1
        match m, e2, e3 with
        | 0, e2, e3 => cases e2; cases e3; exact ⟨f20, ⟨m2_0, mf2_0, k20⟩, F20⟩
        | 1, e2, e3 => cases e3
        | 2, e2, e3 => cases e3
        | 3, e2, e3 => cases e3
        | 4, e2, e3 => cases e3
        | 5, e2, e3 => cases e3
        | 6, e2, e3 => cases e3
        | 7, e2, e3 => cases e3
        | 8, e2, e3 => cases e3
        | 9, e2, e3 => cases e3
        | 10, e2, e3 => cases e3
        | 11, e2, e3 => cases e3
        | 12, e2, e3 => cases e3
        | 13, e2, e3 => cases e3
        | m + 14, e2, e3 => cases e2
      | 3, e1 =>
        cases e1
        match m, e2, e3 with
        | 0, e2, e3 => cases e2; cases e3; exact ⟨f21, ⟨m3_0, mf3_0, k21⟩, F21⟩
        | 1, e2, e3 => cases e3
        | 2, e2, e3 => cases e3
        | 3, e2, e3 => cases e3
        | 4, e2, e3 => cases e3
        | 5, e2, e3 => cases e3
        | 6, e2, e3 => cases e3
        | 7, e2, e3 => cases e3
        | 8, e2, e3 => cases e3
        | 9, e2, e3 => cases e3
        | 10, e2, e3 => cases e3
        | 11, e2, e3 => cases e3
        | 12, e2, e3 => cases e3
        | 13, e2, e3 => cases e3
        | m + 14, e2, e3 => cases e2
      | 4, e1 =>
        cases e1
        match m, e2, e3 with
        | 0, e2, e3 => cases e2; cases e3; exact ⟨f23, ⟨m4_0, mf4_0, k23⟩, F23⟩
        | 1, e2, e3 => cases e3
        | 2, e2, e3 => cases e3
        | 3, e2, e3 => cases e3
        | 4, e2, e3 => cases e3
        | 5, e2, e3 => cases e3
        | 6, e2, e3 => cases e3
        | 7, e2, e3 => cases e3
        | 8, e2, e3 => cases e3
        | 9, e2, e3 => cases e3
        | 10, e2, e3 => cases e3
        | 11, e2, e3 => cases e3
        | 12, e2, e3 => cases e3
        | 13, e2, e3 => cases e3
        | m + 14, e2, e3 => cases e2
      | 5, e1 =>
        cases e1
        match m, e2, e3 with
        | 0, e2, e3 => cases e3
        | 1, e2, e3 => cases e2; cases e3; exact ⟨f32, ⟨m5_1, mf5_1, k32⟩, F32⟩
        | 2, e2, e3 => cases e2; cases e3; exact ⟨f33, ⟨m5_2, mf5_2, k33⟩, F33⟩
        | 3, e2, e3 => cases e2; cases e3; exact ⟨f34, ⟨m5_3, mf5_3, k34⟩, F34⟩
        | 4, e2, e3 => cases e2; cases e3; exact ⟨f35, ⟨m5_4, mf5_4, k35⟩, F35⟩
        | 5, e2, e3 => cases e2; cases e3; exact ⟨f36, ⟨m5_5, mf5_5, k36⟩, F36⟩
        | 6, e2, e3 => cases e2; cases e3; exact ⟨f37, ⟨m5_6, mf5_6, k37⟩, F37⟩
        | 7, e2, e3 => cases e2; cases e3; exact ⟨f38, ⟨m5_7, mf5_7, k38⟩, F38⟩
        | 8, e2, e3 => cases e2; cases e3; exact ⟨f39, ⟨m5_8, mf5_8, k39⟩, F39⟩
        | 9, e2, e3 => cases e2; cases e3; exact ⟨f40, ⟨m5_9, mf5_9, k40⟩, F40⟩
        | 10, e2, e3 => cases e2; cases e3; exact ⟨f41, ⟨m5_10, mf5_10, k41⟩, F41⟩
        | 11, e2, e3 => cases e2; cases e3; exact ⟨f42, ⟨m5_11, mf5_11, k42⟩, F42⟩
        | 12, e2, e3 => cases e2; cases e3; exact ⟨f43, ⟨m5_12, mf5_12, k43⟩, F43⟩
        | 13, e2, e3 => cases e2; cases e3; exact ⟨f44, ⟨m5_13, mf5_13, k44⟩, F44⟩
        | m + 14, e2, e3 => cases e2
      | k + 6, e1 => cases e1
    case kin =>
      intro k C e
      match k, e with
      | 0, e => cases e; exact ⟨cl0, sp, tk, mo0⟩
      | 1, e => cases e; exact ⟨cl1, sp, tk, mo1⟩
      | 2, e => cases e; exact ⟨cl2, sp, tk, mo2⟩
      | 3, e => cases e; exact ⟨cl3, sp, tk, mo3⟩
      | 4, e => cases e; exact ⟨cl4, sp, tk, mo4⟩
      | 5, e => cases e; exact ⟨cl5, sp, tk, mo5⟩
      | k + 6, e => cases e
    case kit =>
      intro d t a b e1 e2
      cases d with
      | non =>
        cases e1
        cases t with
        | int => cases e2; exact kit_ty (by rfl)
        | bool => cases e2; exact kit_ty (by rfl)
        | str => cases e2; exact kit_ty (by rfl)
        | list => cases e2; exact kit_ty (by rfl)
        | tuple => cases e2; exact kit_ty (by rfl)
        | exn j => cases e2
        | ve => cases e2
        | cls j =>
          match j, e2 with
          | 0, e2 => cases e2; exact kj0_NoneType
          | 1, e2 => cases e2; exact kj1_NoneType
          | 2, e2 => cases e2; exact kj2_NoneType
          | 3, e2 => cases e2; exact kj3_NoneType
          | 4, e2 => cases e2; exact kj4_NoneType
          | 5, e2 => cases e2; exact kj5_NoneType
          | j + 6, e2 => cases e2
      | bool =>
        cases e1
        cases t with
        | int => cases e2; exact kit_ty (by rfl)
        | bool => cases e2; exact kit_ty (by rfl)
        | str => cases e2; exact kit_ty (by rfl)
        | list => cases e2; exact kit_ty (by rfl)
        | tuple => cases e2; exact kit_ty (by rfl)
        | exn j => cases e2
        | ve => cases e2
        | cls j =>
          match j, e2 with
          | 0, e2 => cases e2; exact kj0_bool
          | 1, e2 => cases e2; exact kj1_bool
          | 2, e2 => cases e2; exact kj2_bool
          | 3, e2 => cases e2; exact kj3_bool
          | 4, e2 => cases e2; exact kj4_bool
          | 5, e2 => cases e2; exact kj5_bool
          | j + 6, e2 => cases e2
      | int =>
        cases e1
        cases t with
        | int => cases e2; exact kit_ty (by rfl)
        | bool => cases e2; exact kit_ty (by rfl)
        | str => cases e2; exact kit_ty (by rfl)
        | list => cases e2; exact kit_ty (by rfl)
        | tuple => cases e2; exact kit_ty (by rfl)
        | exn j => cases e2
        | ve => cases e2
        | cls j =>
          match j, e2 with
          | 0, e2 => cases e2; exact kj0_int
          | 1, e2 => cases e2; exact kj1_int
          | 2, e2 => cases e2; exact kj2_int
          | 3, e2 => cases e2; exact kj3_int
          | 4, e2 => cases e2; exact kj4_int
          | 5, e2 => cases e2; exact kj5_int
          | j + 6, e2 => cases e2
      | str =>
        cases e1
        cases t with
        | int => cases e2; exact kit_ty (by rfl)
        | bool => cases e2; exact kit_ty (by rfl)
        | str => cases e2; exact kit_ty (by rfl)
        | list => cases e2; exact kit_ty (by rfl)
        | tuple => cases e2; exact kit_ty (by rfl)
        | exn j => cases e2
        | ve => cases e2
        | cls j =>
          match j, e2 with
          | 0, e2 => cases e2; exact kj0_str
          | 1, e2 => cases e2; exact kj1_str
          | 2, e2 => cases e2; exact kj2_str
          | 3, e2 => cases e2; exact kj3_str
          | 4, e2 => cases e2; exact kj4_str
          | 5, e2 => cases e2; exact kj5_str
          | j + 6, e2 => cases e2
      | list =>
        cases e1
        cases t with
        | int => cases e2; exact kit_ty (by rfl)
        | bool => cases e2; exact kit_ty (by rfl)
        | str => cases e2; exact kit_ty (by rfl)
        | list => cases e2; exact kit_ty (by rfl)
        | tuple => cases e2; exact kit_ty (by rfl)
        | exn j => cases e2
        | ve => cases e2
        | cls j =>
          match j, e2 with
          | 0, e2 => cases e2; exact kj0_list
          | 1, e2 => cases e2; exact kj1_list
          | 2, e2 => cases e2; exact kj2_list
          | 3, e2 => cases e2; exact kj3_list
          | 4, e2 => cases e2; exact kj4_list
          | 5, e2 => cases e2; exact kj5_list
          | j + 6, e2 => cases e2
      | tuple =>
        cases e1
        cases t with
        | int => cases e2; exact kit_ty (by rfl)
        | bool => cases e2; exact kit_ty (by rfl)
        | str => cases e2; exact kit_ty (by rfl)
        | list => cases e2; exact kit_ty (by rfl)
        | tuple => cases e2; exact kit_ty (by rfl)
        | exn j => cases e2
        | ve => cases e2
        | cls j =>
          match j, e2 with
          | 0, e2 => cases e2; exact kj0_tuple
          | 1, e2 => cases e2; exact kj1_tuple
          | 2, e2 => cases e2; exact kj2_tuple
          | 3, e2 => cases e2; exact kj3_tuple
          | 4, e2 => cases e2; exact kj4_tuple
          | 5, e2 => cases e2; exact kj5_tuple
          | j + 6, e2 => cases e2
      | dict =>
        cases e1
        cases t with
        | int => cases e2; exact kit_ty (by rfl)
        | bool => cases e2; exact kit_ty (by rfl)
        | str => cases e2; exact kit_ty (by rfl)
        | list => cases e2; exact kit_ty (by rfl)
        | tuple => cases e2; exact kit_ty (by rfl)
        | exn j => cases e2
        | ve => cases e2
        | cls j =>
          match j, e2 with
          | 0, e2 => cases e2; exact kj0_dict
          | 1, e2 => cases e2; exact kj1_dict
          | 2, e2 => cases e2; exact kj2_dict
          | 3, e2 => cases e2; exact kj3_dict
          | 4, e2 => cases e2; exact kj4_dict
          | 5, e2 => cases e2; exact kj5_dict
          | j + 6, e2 => cases e2
      | ins k =>
        match k, e1 with
        | 0, e1 =>
          cases e1
          cases t with
          | int => cases e2; exact ki0_int
          | bool => cases e2; exact ki0_bool
          | str => cases e2; exact ki0_str
          | list => cases e2; exact ki0_list
          | tuple => cases e2; exact ki0_tuple
          | exn j => cases e2
          | ve => cases e2
          | cls j =>
            match j, e2 with
            | 0, e2 => cases e2; exact kk0_0
            | 1, e2 => cases e2; exact kk0_1
            | 2, e2 => cases e2; exact kk0_2
            | 3, e2 => cases e2; exact kk0_3
            | 4, e2 => cases e2; exact kk0_4
            | 5, e2 => cases e2; exact kk0_5
            | j + 6, e2 => cases e2
        | 1, e1 =>
          cases e1
          cases t with
          | int => cases e2; exact ki1_int
          | bool => cases e2; exact ki1_bool
          | str => cases e2; exact ki1_str
          | list => cases e2; exact ki1_list
          | tuple => cases e2; exact ki1_tuple
          | exn j => cases e2
          | ve => cases e2
          | cls j =>
            match j, e2 with
            | 0, e2 => cases e2; exact kk1_0
            | 1, e2 => cases e2; exact kk1_1
            | 2, e2 => cases e2; exact kk1_2
            | 3, e2 => cases e2; exact kk1_3
            | 4, e2 => cases e2; exact kk1_4
            | 5, e2 => cases e2; exact kk1_5
            | j + 6, e2 => cases e2
        | 2, e1 =>
          cases e1
          cases t with
          | int => cases e2; exact ki2_int
          | bool => cases e2; exact ki2_bool
          | str => cases e2; exact ki2_str
          | list => cases e2; exact ki2_list
          | tuple => cases e2; exact ki2_tuple
          | exn j => cases e2
          | ve => cases e2
          | cls j =>
            match j, e2 with
            | 0, e2 => cases e2; exact kk2_0
            | 1, e2 => cases e2; exact kk2_1
            | 2, e2 => cases e2; exact kk2_2
            | 3, e2 => cases e2; exact kk2_3
            | 4, e2 => cases e2; exact kk2_4
            | 5, e2 => cases e2; exact kk2_5
            | j + 6, e2 => cases e2
        | 3, e1 =>
          cases e1
          cases t with
          | int => cases e2; exact ki3_int
          | bool => cases e2; exact ki3_bool
          | str => cases e2; exact ki3_str
          | list => cases e2; exact ki3_list
          | tuple => cases e2; exact ki3_tuple
          | exn j => cases e2
          | ve => cases e2
          | cls j =>
            match j, e2 with
            | 0, e2 => cases e2; exact kk3_0
            | 1, e2 => cases e2; exact kk3_1
            | 2, e2 => cases e2; exact kk3_2
            | 3, e2 => cases e2; exact kk3_3
            | 4, e2 => cases e2; exact kk3_4
            | 5, e2 => cases e2; exact kk3_5
            | j + 6, e2 => cases e2
        | 4, e1 =>
          cases e1
          cases t with
          | int => cases e2; exact ki4_int
          | bool => cases e2; exact ki4_bool
          | str => cases e2; exact ki4_str
          | list => cases e2; exact ki4_list
          | tuple => cases e2; exact ki4_tuple
          | exn j => cases e2
          | ve => cases e2
          | cls j =>
            match j, e2 with
            | 0, e2 => cases e2; exact kk4_0
            | 1, e2 => cases e2; exact kk4_1
            | 2, e2 => cases e2; exact kk4_2
            | 3, e2 => cases e2; exact kk4_3
            | 4, e2 => cases e2; exact kk4_4
            | 5, e2 => cases e2; exact kk4_5
            | j + 6, e2 => cases e2
        | 5, e1 =>
          cases e1
          cases t with
          | int => cases e2; exact ki5_int
          | bool => cases e2; exact ki5_bool
          | str => cases e2; exact ki5_str
          | list => cases e2; exact ki5_list
          | tuple => cases e2; exact ki5_tuple
          | exn j => cases e2
          | ve => cases e2
          | cls j =>
            match j, e2 with
            | 0, e2 => cases e2; exact kk5_0
            | 1, e2 => cases e2; exact kk5_1
            | 2, e2 => cases e2; exact kk5_2
            | 3, e2 => cases e2; exact kk5_3
            | 4, e2 => cases e2; exact kk5_4
            | 5, e2 => cases e2; exact kk5_5
            | j + 6, e2 => cases e2
        | k + 6, e1 => cases e1
    case hl =>
      have z : lamBof P0 TL l I.params I.body I.scope = true := z
      unfold lamBof at z
      split at z
      · rename_i d hd
        exact ⟨d, hd, z⟩
      · cases z
    case wh => intro x e; cases e
    case exm =>
      intro k j C L m e1 e2
      simp only [pg, P0, List.mem_cons, List.not_mem_nil, or_false] at m
      rcases m with rfl | rfl
      · cases e2
        match k, e1 with
        | 0, e1 => cases e1; exact xy0_0
        | 1, e1 => cases e1; exact xy1_0
        | 2, e1 => cases e1; exact xy2_0
        | 3, e1 => cases e1; exact xy3_0
        | 4, e1 => cases e1; exact xy4_0
        | 5, e1 => cases e1; exact xy5_0
        | 6, e1 => cases e1; exact xy6_0
        | 7, e1 => cases e1; exact xy7_0
        | 8, e1 => cases e1; exact xy8_0
        | 9, e1 => cases e1; exact xy9_0
        | 10, e1 => cases e1; exact xy10_0
        | 11, e1 => cases e1; exact xy11_0
        | 12, e1 => cases e1; exact xy12_0
        | k + 13, e1 => cases e1
      · cases e2
        match k, e1 with
        | 0, e1 => cases e1; exact xy0_10
        | 1, e1 => cases e1; exact xy1_10
        | 2, e1 => cases e1; exact xy2_10
        | 3, e1 => cases e1; exact xy3_10
        | 4, e1 => cases e1; exact xy4_10
        | 5, e1 => cases e1; exact xy5_10
        | 6, e1 => cases e1; exact xy6_10
        | 7, e1 => cases e1; exact xy7_10
        | 8, e1 => cases e1; exact xy8_10
        | 9, e1 => cases e1; exact xy9_10
        | 10, e1 => cases e1; exact xy10_10
        | 11, e1 => cases e1; exact xy11_10
        | 12, e1 => cases e1; exact xy12_10
        | k + 13, e1 => cases e1
    case xk =>
      intro k j t C L m e1 e2
      simp only [pg, P0, tb, List.mem_cons, List.not_mem_nil, or_false, Prod.mk.injEq] at m
      rcases m with ⟨rfl, rfl⟩ | ⟨rfl, rfl⟩ | ⟨rfl, rfl⟩
      · cases e2
        match k, e1 with
        | 0, e1 => cases e1; exact xx0_11
        | 1, e1 => cases e1; exact xx1_11
        | 2, e1 => cases e1; exact xx2_11
        | 3, e1 => cases e1; exact xx3_11
        | 4, e1 => cases e1; exact xx4_11
        | 5, e1 => cases e1; exact xx5_11
        | 6, e1 => cases e1; exact xx6_11
        | 7, e1 => cases e1; exact xx7_11
        | 8, e1 => cases e1; exact xx8_11
        | 9, e1 => cases e1; exact xx9_11
        | 10, e1 => cases e1; exact xx10_11
        | 11, e1 => cases e1; exact xx11_11
        | 12, e1 => cases e1; exact xx12_11
        | k + 13, e1 => cases e1
      · cases e2
        match k, e1 with
        | 0, e1 => cases e1; exact xx0_3
        | 1, e1 => cases e1; exact xx1_3
        | 2, e1 => cases e1; exact xx2_3
        | 3, e1 => cases e1; exact xx3_3
        | 4, e1 => cases e1; exact xx4_3
        | 5, e1 => cases e1; exact xx5_3
        | 6, e1 => cases e1; exact xx6_3
        | 7, e1 => cases e1; exact xx7_3
        | 8, e1 => cases e1; exact xx8_3
        | 9, e1 => cases e1; exact xx9_3
        | 10, e1 => cases e1; exact xx10_3
        | 11, e1 => cases e1; exact xx11_3
        | 12, e1 => cases e1; exact xx12_3
        | k + 13, e1 => cases e1
      · cases e2
        match k, e1 with
        | 0, e1 => cases e1; exact xx0_6
        | 1, e1 => cases e1; exact xx1_6
        | 2, e1 => cases e1; exact xx2_6
        | 3, e1 => cases e1; exact xx3_6
        | 4, e1 => cases e1; exact xx4_6
        | 5, e1 => cases e1; exact xx5_6
        | 6, e1 => cases e1; exact xx6_6
        | 7, e1 => cases e1; exact xx7_6
        | 8, e1 => cases e1; exact xx8_6
        | 9, e1 => cases e1; exact xx9_6
        | 10, e1 => cases e1; exact xx10_6
        | 11, e1 => cases e1; exact xx11_6
        | 12, e1 => cases e1; exact xx12_6
        | k + 13, e1 => cases e1
    case xc =>
      intro _ k C e
      match k, e with
      | 0, e => cases e; exact ⟨xg0, xk0, be0, xd0, xa0, sp, tk, xm0⟩
      | 1, e => cases e; exact ⟨xg1, xk1, be1, xd1, xa1, sp, tk, xm1⟩
      | 2, e => cases e; exact ⟨xg2, xk2, be2, xd2, xa2, sp, tk, xm2⟩
      | 3, e => cases e; exact ⟨xg3, xk3, be3, xd3, xa3, sp, tk, xm3⟩
      | 4, e => cases e; exact ⟨xg4, xk4, be4, xd4, xa4, sp, tk, xm4⟩
      | 5, e => cases e; exact ⟨xg5, xk5, be5, xd5, xa5, sp, tk, xm5⟩
      | 6, e => cases e; exact ⟨xg6, xk6, be6, xd6, xa6, sp, tk, xm6⟩
      | 7, e => cases e; exact ⟨xg7, xk7, be7, xd7, xa7, sp, tk, xm7⟩
      | 8, e => cases e; exact ⟨xg8, xk8, be8, xd8, xa8, sp, tk, xm8⟩
      | 9, e => cases e; exact ⟨xg9, xk9, be9, xd9, xa9, sp, tk, xm9⟩
      | 10, e => cases e; exact ⟨xg10, xk10, be10, xd10, xa10, sp, tk, xm10⟩
      | 11, e => cases e; exact ⟨xg11, xk11, be11, xd11, xa11, sp, tk, xm11⟩
      | 12, e => cases e; exact ⟨xg12, xk12, be12, xd12, xa12, sp, tk, xm12⟩
      | k + 13, e => cases e
    case exc =>
      intro k C e
      match k, e with
      | 0, e => cases e; exact ⟨_, _, _, _, PySem.F.excBase_ValueError, xe0, ke0, be0, te0⟩
      | 1, e => cases e; exact ⟨_, _, _, _, PySem.F.excBase_ValueError, xe1, ke1, be1, te1⟩
      | 2, e => cases e; exact ⟨_, _, _, _, PySem.F.excBase_ValueError, xe2, ke2, be2, te2⟩
      | 3, e => cases e; exact ⟨_, _, _, _, PySem.F.excBase_ValueError, xe3, ke3, be3, te3⟩
      | 4, e => cases e; exact ⟨_, _, _, _, PySem.F.excBase_ValueError, xe4, ke4, be4, te4⟩
      | 5, e => cases e; exact ⟨_, _, _, _, PySem.F.excBase_ValueError, xe5, ke5, be5, te5⟩
      | 6, e => cases e; exact ⟨_, _, _, _, PySem.F.excBase_ValueError, xe6, ke6, be6, te6⟩
      | 7, e => cases e; exact ⟨_, _, _, _, PySem.F.excBase_ValueError, xe7, ke7, be7, te7⟩
      | 8, e => cases e; exact ⟨_, _, _, _, PySem.F.excBase_ValueError, xe8, ke8, be8, te8⟩
      | 9, e => cases e; exact ⟨_, _, _, _, PySem.F.excBase_ValueError, xe9, ke9, be9, te9⟩
      | 10, e => cases e; exact ⟨_, _, _, _, PySem.F.excBase_ValueError, xe10, ke10, be10, te10⟩
      | 11, e => cases e; exact ⟨_, _, _, _, PySem.F.excBase_ValueError, xe11, ke11, be11, te11⟩
      | 12, e => cases e; exact ⟨_, _, _, _, PySem.F.excBase_ValueError, xe12, ke12, be12, te12⟩
      | k + 13, e => cases e
  subst mc149
  subst mc150
  refine ⟨_, [(cc149, pp149), (cc150, pp150)], spLaw [(cc149, pp149), (cc150, pp150)] K, List.forall_mem_cons.mpr ⟨mT149, List.forall_mem_cons.mpr ⟨mT150, fun _ z => nomatch z⟩⟩, List.forall_mem_cons.mpr ⟨mn149, List.forall_mem_cons.mpr ⟨mn150, fun _ z => nomatch z⟩⟩, List.forall_mem_cons.mpr ⟨PySem.W.codeHd_of_K X mh149, List.forall_mem_cons.mpr ⟨PySem.W.codeHd_of_K X mh150, fun _ z => nomatch z⟩⟩, fun s v => .of_eq rfl, fun H a ns hl hz hT hS => ⟨a, ns, rfl, hl, hz, hT, hS, fun _ => rfl⟩, fun base _ _ TB => law_fn b ok_all ?mk ?ht (fun _ _ => rfl) rfl (d := d151) rfl (fun_mk (st := d151.st) l151 c151 k151) rfl sy⟩
  case ht => exact List.forall_mem_cons.mpr ⟨⟨(cc149, pp149), List.Mem.head _, rfl⟩, List.forall_mem_cons.mpr ⟨⟨(cc150, pp150), List.Mem.tail _ (List.Mem.head _), rfl⟩, fun _ z => nomatch z⟩⟩
  case mk =>
    intro i d f fd ed F hl
    rcases lam_at i d ed hl with rfl | rfl
    · exact mk_one mw149 F (TB (cc149, pp149) (List.Mem.head _)) (List.Mem.head _) (List.forall_mem_cons.mpr ⟨fun _ => rfl, List.forall_mem_cons.mpr ⟨fun z => absurd z mu150_149, fun _ z => nomatch z⟩⟩)
    · exact mk_one mw150 F (TB (cc150, pp150) (List.Mem.tail _ (List.Mem.head _))) (List.Mem.tail _ (List.Mem.head _)) (List.forall_mem_cons.mpr ⟨fun z => absurd z mu149_150, List.forall_mem_cons.mpr ⟨fun _ => rfl, fun _ z => nomatch z⟩⟩)
end MP.K18
set_option Elab.async false
set_option linter.all false
set_option maxRecDepth 100000
set_option autoImplicit false
namespace MP.K18
open PySem L2
/-- a run that ends with True -/
def okT : R Val → Bool
  | .ok (.bl true) _ => true
  | _ => false
theorem pf_okT {cl : CallF} {f : Nat} {vs : List Val} (r : okT (cl f vs [] []) = true) : Pf cl f vs (.bl true) := by
  cases e : cl f vs [] [] with
  | ok v h' =>
    rw [e] at r
    cases v with
    | bl b =>
      cases b with
      | true => exact .of_ok e rfl
      | false => simp [okT] at r
    | _ => simp [okT] at r
  | exc k h' => rw [e] at r; simp [okT] at r
  | bad => rw [e] at r; simp [okT] at r
theorem chains : okT (run pg.T (tab D) 10 145 [] [] []) = true := by kernel_rfl
theorem handed : okT (run pg.T (tab D) 10 146 [] [] []) = true := by kernel_rfl
theorem spans : okT (run pg.T (tab D) 10 147 [] [] []) = true := by kernel_rfl
theorem kp3 : okT (run pg.T (tab D) 10 149 [.int 3] [] []) = true := by kernel_rfl
theorem kp4 : okT (run pg.T (tab D) 10 149 [.int 4] [] []) = true := by kernel_rfl
theorem kp5 : okT (run pg.T (tab D) 10 149 [.int 5] [] []) = true := by kernel_rfl
theorem kp6 : okT (run pg.T (tab D) 10 149 [.int 6] [] []) = true := by kernel_rfl
theorem kp7 : okT (run pg.T (tab D) 10 149 [.int 7] [] []) = true := by kernel_rfl
theorem kp8 : okT (run pg.T (tab D) 10 149 [.int 8] [] []) = true := by kernel_rfl
theorem kp9 : okT (run pg.T (tab D) 10 149 [.int 9] [] []) = true := by kernel_rfl
theorem keeper (k : Int) (a : 3 ≤ k) (b : k ≤ 9) : Pf (run pg.T (tab D) 10) 149 [.int k] (.bl true) := by
  have c : k = 3 ∨ k = 4 ∨ k = 5 ∨ k = 6 ∨ k = 7 ∨ k = 8 ∨ k = 9 := by omega
  rcases c with rfl | rfl | rfl | rfl | rfl | rfl | rfl
  · exact pf_okT kp3
  · exact pf_okT kp4
  · exact pf_okT kp5
  · exact pf_okT kp6
  · exact pf_okT kp7
  · exact pf_okT kp8
  · exact pf_okT kp9
end MP.K18
set_option Elab.async false
set_option linter.all false
set_option maxRecDepth 100000
set_option autoImplicit false
namespace MP.K18
open PySem L2
/-- the first two -/
theorem firsts (ns : List Int) : ∃ cs : List Int, slcM true (.lst .scr (ns.map .int)) none (some 2) [] = .ok (.lst .own (cs.map .int)) [] := by
  have c2 : ∃ cs : List Int, cutM (ns.map Val.int) none (some 2) = cs.map Val.int := by
    refine ⟨(ns.drop (HT.sIx (ns.map Val.int).length 0 none)).take (HT.sIx (ns.map Val.int).length (ns.map Val.int).length (some 2) - HT.sIx (ns.map Val.int).length 0 none), ?_⟩
    unfold cutM
    rw [List.map_take, List.map_drop]
  obtain ⟨cs, ec⟩ := c2
  exact ⟨cs, by simp only [slcM, lstOf, mkL, if_true, ec]⟩
theorem law_E {T : Tab} {F : Nat → Option Fn} {n : Nat} (e : F 151 = some cl151) (h1 : Pf (run T F n) 145 [] (.bl true)) (h2 : Pf (run T F n) 146 [] (.bl true)) (h3 : Pf (run T F n) 147 [] (.bl true))
    (h4 : ∀ k : Int, 3 ≤ k → k ≤ 9 → Pf (run T F n) 149 [.int k] (.bl true)) {ns : List Int} :
    E (run T F (n + 1) 151 [.lst .scr (ns.map .int)] [] []) (fun v _ => v = .bl true) nox := by
  refine e_run e rfl (by decide) ?_
  obtain ⟨cs, ec⟩ := firsts ns
  unfold cl151
  simp only [↓e_var, ↓e_cst, ↓e_bin, ↓e_neg, ↓e_cmp, ↓e_cmp2, ↓e_cmp3, ↓e_notb, ↓asB_bl, ↓e_andp, ↓e_or, ↓e_itp, ↓pick_t, ↓pick_f, ↓e_idx, ↓e_slc, ↓e_rev, ↓e_fld, ↓e_tup, ↓e_lst, ↓e_dct, ↓e_call, ↓e_bi, ↓e_meth, ↓e_ocall, ↓e_new, ↓e_isi, ↓a_nil, ↓a_cons, ↓p_omit, ↓p_part, ↓i_seq, ↓i_rng, ↓i_enum, ↓i_zip, ↓s_nil, ↓s_pass, ↓s_seq, ↓s_asg, ↓s_par, ↓s_setI, ↓s_setF, ↓s_aug, ↓s_augF, ↓s_ex, ↓s_ite, ↓s_ret, ↓s_retN, ↓s_rais, b_add, b_sub, i_add, i_sub, c_lt, c_le, c_gt, c_ge, c_eq, c_ne, c_eqs, c_nes, c_is, c_isn, is_non, is_int, is_tup, is_lst, is_ref, is_bl, map_not, oe_some, oe_none, lk_some, br_t, br_f, asI_int, E_ok', x_int, so_tup, so_lst, lo_lst, src_tup, src_lst, mk_t, mk_f, at0, at1, at2, at3, atm1, atm2, atm3, f_len, f_max1, f_max2, f_min2, f_abs, f_sum, f_all, f_any, f_sorted, f_list, f_tuple, f_toIntb, f_toInti, f_sortedSet, f_lenSet, bp_nm, bp_tp, bp_nil, bp_cons, sa_nil, sa_cons, wm_nil, wm_cons, List.map_cons, List.map_nil, List.cons_append, List.nil_append, List.getElem?_cons_zero, List.getElem?_cons_succ, List.set_cons_zero, List.set_cons_succ, List.length_cons, List.length_nil, List.replicate]
  refine e_pc h1 rfl ?_
  simp only [↓e_var, ↓e_cst, ↓e_bin, ↓e_neg, ↓e_cmp, ↓e_cmp2, ↓e_cmp3, ↓e_notb, ↓asB_bl, ↓e_andp, ↓e_or, ↓e_itp, ↓pick_t, ↓pick_f, ↓e_idx, ↓e_slc, ↓e_rev, ↓e_fld, ↓e_tup, ↓e_lst, ↓e_dct, ↓e_call, ↓e_bi, ↓e_meth, ↓e_ocall, ↓e_new, ↓e_isi, ↓a_nil, ↓a_cons, ↓p_omit, ↓p_part, ↓i_seq, ↓i_rng, ↓i_enum, ↓i_zip, ↓s_nil, ↓s_pass, ↓s_seq, ↓s_asg, ↓s_par, ↓s_setI, ↓s_setF, ↓s_aug, ↓s_augF, ↓s_ex, ↓s_ite, ↓s_ret, ↓s_retN, ↓s_rais, b_add, b_sub, i_add, i_sub, c_lt, c_le, c_gt, c_ge, c_eq, c_ne, c_eqs, c_nes, c_is, c_isn, is_non, is_int, is_tup, is_lst, is_ref, is_bl, map_not, oe_some, oe_none, lk_some, br_t, br_f, asI_int, E_ok', x_int, so_tup, so_lst, lo_lst, src_tup, src_lst, mk_t, mk_f, at0, at1, at2, at3, atm1, atm2, atm3, f_len, f_max1, f_max2, f_min2, f_abs, f_sum, f_all, f_any, f_sorted, f_list, f_tuple, f_toIntb, f_toInti, f_sortedSet, f_lenSet, bp_nm, bp_tp, bp_nil, bp_cons, sa_nil, sa_cons, wm_nil, wm_cons, List.map_cons, List.map_nil, List.cons_append, List.nil_append, List.getElem?_cons_zero, List.getElem?_cons_succ, List.set_cons_zero, List.set_cons_succ, List.length_cons, List.length_nil, Bool.not_true]
  refine e_pc h2 rfl ?_
  simp only [↓e_var, ↓e_cst, ↓e_bin, ↓e_neg, ↓e_cmp, ↓e_cmp2, ↓e_cmp3, ↓e_notb, ↓asB_bl, ↓e_andp, ↓e_or, ↓e_itp, ↓pick_t, ↓pick_f, ↓e_idx, ↓e_slc, ↓e_rev, ↓e_fld, ↓e_tup, ↓e_lst, ↓e_dct, ↓e_call, ↓e_bi, ↓e_meth, ↓e_ocall, ↓e_new, ↓e_isi, ↓a_nil, ↓a_cons, ↓p_omit, ↓p_part, ↓i_seq, ↓i_rng, ↓i_enum, ↓i_zip, ↓s_nil, ↓s_pass, ↓s_seq, ↓s_asg, ↓s_par, ↓s_setI, ↓s_setF, ↓s_aug, ↓s_augF, ↓s_ex, ↓s_ite, ↓s_ret, ↓s_retN, ↓s_rais, b_add, b_sub, i_add, i_sub, c_lt, c_le, c_gt, c_ge, c_eq, c_ne, c_eqs, c_nes, c_is, c_isn, is_non, is_int, is_tup, is_lst, is_ref, is_bl, map_not, oe_some, oe_none, lk_some, br_t, br_f, asI_int, E_ok', x_int, so_tup, so_lst, lo_lst, src_tup, src_lst, mk_t, mk_f, at0, at1, at2, at3, atm1, atm2, atm3, f_len, f_max1, f_max2, f_min2, f_abs, f_sum, f_all, f_any, f_sorted, f_list, f_tuple, f_toIntb, f_toInti, f_sortedSet, f_lenSet, bp_nm, bp_tp, bp_nil, bp_cons, sa_nil, sa_cons, wm_nil, wm_cons, List.map_cons, List.map_nil, List.cons_append, List.nil_append, List.getElem?_cons_zero, List.getElem?_cons_succ, List.set_cons_zero, List.set_cons_succ, List.length_cons, List.length_nil, Bool.not_true]
  refine e_pc h3 rfl ?_
  simp only [↓e_var, ↓e_cst, ↓e_bin, ↓e_neg, ↓e_cmp, ↓e_cmp2, ↓e_cmp3, ↓e_notb, ↓asB_bl, ↓e_andp, ↓e_or, ↓e_itp, ↓pick_t, ↓pick_f, ↓e_idx, ↓e_slc, ↓e_rev, ↓e_fld, ↓e_tup, ↓e_lst, ↓e_dct, ↓e_call, ↓e_bi, ↓e_meth, ↓e_ocall, ↓e_new, ↓e_isi, ↓a_nil, ↓a_cons, ↓p_omit, ↓p_part, ↓i_seq, ↓i_rng, ↓i_enum, ↓i_zip, ↓s_nil, ↓s_pass, ↓s_seq, ↓s_asg, ↓s_par, ↓s_setI, ↓s_setF, ↓s_aug, ↓s_augF, ↓s_ex, ↓s_ite, ↓s_ret, ↓s_retN, ↓s_rais, b_add, b_sub, i_add, i_sub, c_lt, c_le, c_gt, c_ge, c_eq, c_ne, c_eqs, c_nes, c_is, c_isn, is_non, is_int, is_tup, is_lst, is_ref, is_bl, map_not, oe_some, oe_none, lk_some, br_t, br_f, asI_int, E_ok', x_int, so_tup, so_lst, lo_lst, src_tup, src_lst, mk_t, mk_f, at0, at1, at2, at3, atm1, atm2, atm3, f_len, f_max1, f_max2, f_min2, f_abs, f_sum, f_all, f_any, f_sorted, f_list, f_tuple, f_toIntb, f_toInti, f_sortedSet, f_lenSet, bp_nm, bp_tp, bp_nil, bp_cons, sa_nil, sa_cons, wm_nil, wm_cons, List.map_cons, List.map_nil, List.cons_append, List.nil_append, List.getElem?_cons_zero, List.getElem?_cons_succ, List.set_cons_zero, List.set_cons_succ, List.length_cons, List.length_nil, Bool.not_true]
  rw [ec]
  show OE (intsOf (cs.map Val.int)) _
  rw [intsOf_map]
  generalize hi : (if cs.sum < 0 then -cs.sum else cs.sum) = i
  have a := Int.emod_nonneg i (b := 7) (by decide)
  have b := Int.emod_lt_of_pos i (b := 7) (by decide)
  show E (callM (run T F n) .pur 149 [.int (3 + (if cs.sum < 0 then -cs.sum else cs.sum) % 7)] [] _) _ _
  rw [hi]
  exact e_pc (h4 _ (by omega) (by omega)) rfl rfl
theorem law_ok {T : Tab} {F : Nat → Option Fn} {n m : Nat} (em : m = n + 1) (e : F 151 = some cl151) (h1 : Pf (run T F n) 145 [] (.bl true)) (h2 : Pf (run T F n) 146 [] (.bl true)) (h3 : Pf (run T F n) 147 [] (.bl true))
    (h4 : ∀ k : Int, 3 ≤ k → k ≤ 9 → Pf (run T F n) 149 [.int k] (.bl true)) (ns : List Int) : ∃ h, run T F m 151 [.lst .scr (ns.map .int)] [] [] = .ok (.bl true) h := by
  subst em
  obtain ⟨v, h, e, q⟩ := ex_of_E (law_E e h1 h2 h3 h4 (ns := ns))
  exact ⟨h, by rw [e]; exact congrArg (fun v => R.ok v h) q⟩
end MP.K18
set_option Elab.async false
set_option linter.all false
set_option autoImplicit false
set_option maxRecDepth 100000
namespace MP.K18
open PySem L2
theorem e151 : tab D 151 = some cl151 := rfl
theorem pf145 : Pf (run pg.T (tab D) 10) 145 [] (.bl true) := pf_okT chains
theorem pf146 : Pf (run pg.T (tab D) 10) 146 [] (.bl true) := pf_okT handed
theorem pf147 : Pf (run pg.T (tab D) 10) 147 [] (.bl true) := pf_okT spans
theorem says' : Says pg D 11 151 := says_of fun ns K l h1 h2 b => law_ok (T := pg.T) (F := tab D) (n := 10) (m := 11) rfl e151 pf145 pf146 pf147 keeper ns
end MP.K18
open PySem PySem.W PyProof.Rows
set_option maxRecDepth 100000 in
set_option maxHeartbeats 0 in
theorem PySem.Challenge.cw_laterletters_k18_promises_by_hand_holds : PySem.Challenge.rw_laterletters_k18_promises_by_hand.Holds := by
  w_on; o_law; k_head; (case hw => w_witness2)
  k_fill
  refine MP.law_end (l := PySem.Challenge.rw_laterletters_k18_promises_by_hand) (n := 11) rfl rfl ⟨rfl, by decide, by decide⟩ (fun w h Y => PySem.W.km_in_of Y) ?F
  case F =>
    intro w mg fa h Y KX G hmg
    have hT := PySem.W.km_tabs_of Y
    refine' MP.K18.all_mk 11 MP.K18.says' KX G hmg ?a0 ?l0 ?c0 ?k0 ?a1 ?l1 ?c1 ?k1 ?a2 ?l2 ?c2 ?k2 ?a3 ?l3 ?c3 ?k3 ?a4 ?l4 ?c4 ?k4 ?a5 ?l5 ?c5 ?k5 ?a6 ?l6 ?c6 ?k6 ?a7 ?l7 ?c7 ?k7 ?a8 ?l8 ?c8 ?k8 ?a9 ?l9 ?c9 ?k9 ?a10 ?l10 ?c10 ?k10 ?a11 ?l11 ?c11 ?k11 ?a12 ?l12 ?c12 ?k12 ?a13 ?l13 ?c13 ?k13 ?a14 ?l14 ?c14 ?k14 ?a15 ?l15 ?c15 ?k15 ?a16 ?l16 ?c16 ?k16 ?l17 ?c17 ?k17 ?l18 ?c18 ?k18 ?l19 ?c19 ?k19 ?l20 ?c20 ?k20 ?l21 ?c21 ?k21 ?l22 ?c22 ?k22 ?l23 ?c23 ?k23 ?a24 ?l24 ?c24 ?k24 ?a25 ?l25 ?c25 ?k25 ?a26 ?l26 ?c26 ?k26 ?a27 ?l27 ?c27 ?k27 ?a28 ?l28 ?c28 ?k28 ?a29 ?l29 ?c29 ?k29 ?a30 ?l30 ?c30 ?k30 ?l31 ?c31 ?k31 ?l32 ?c32 ?k32 ?l33 ?c33 ?k33 ?l34 ?c34 ?k34 ?l35 ?c35 ?k35 ?l36 ?c36 ?k36 ?l37 ?c37 ?k37 ?l38 ?c38 ?k38 ?l39 ?c39 ?k39 ?l40 ?c40 ?k40 ?l41 ?c41 ?k41 ?l42 ?c42 ?k42 ?l43 ?c43 ?k43 ?l44 ?c44 ?k44 ?a144 ?l144 ?c144 ?k144 ?a145 ?l145 ?c145 ?k145 ?a146 ?l146 ?c146 ?k146 ?a147 ?l147 ?c147 ?k147 ?a148 ?l148 ?c148 ?k148 ?a149 ?l149 ?c149 ?k149 ?a150 ?l150 ?c150 ?k150 ?a151 ?l151 ?c151 ?k151 ?e0 ?xe0 ?ke0 ?be0 ?te0 ?e1 ?xe1 ?ke1 ?be1 ?te1 ?e2 ?xe2 ?ke2 ?be2 ?te2 ?e3 ?xe3 ?ke3 ?be3 ?te3 ?e4 ?xe4 ?ke4 ?be4 ?te4 ?e5 ?xe5 ?ke5 ?be5 ?te5 ?e6 ?xe6 ?ke6 ?be6 ?te6 ?e7 ?xe7 ?ke7 ?be7 ?te7 ?e8 ?xe8 ?ke8 ?be8 ?te8 ?e9 ?xe9 ?ke9 ?be9 ?te9 ?e10 ?xe10 ?ke10 ?be10 ?te10 ?e11 ?xe11 ?ke11 ?be11 ?te11 ?e12 ?xe12 ?ke12 ?be12 ?te12 ?ac0 ?pg0 ?hd0 ?po0 ?sa0 ?n0_0 ?n0_1 ?n0_2 ?n0_3 ?n0_4 ?n0_5 ?kc0 ?mk0 ?in0 ?cl0 ?mo0 ?ki0_int ?ki0_bool ?ki0_str ?ki0_list ?ki0_tuple ?kj0_NoneType ?kj0_bool ?kj0_int ?kj0_str ?kj0_list ?kj0_tuple ?kj0_dict ?ac1 ?pg1 ?hd1 ?po1 ?sa1 ?n1_0 ?n1_1 ?n1_2 ?n1_3 ?n1_4 ?n1_5 ?kc1 ?mk1 ?in1 ?if1 ?m1_0 ?mf1_0 ?cl1 ?mo1 ?ki1_int ?ki1_bool ?ki1_str ?ki1_list ?ki1_tuple ?kj1_NoneType ?kj1_bool ?kj1_int ?kj1_str ?kj1_list ?kj1_tuple ?kj1_dict ?ac2 ?pg2 ?hd2 ?po2 ?sa2 ?n2_0 ?n2_1 ?n2_2 ?n2_3 ?n2_4 ?n2_5 ?kc2 ?mk2 ?in2 ?if2 ?m2_0 ?mf2_0 ?cl2 ?mo2 ?ki2_int ?ki2_bool ?ki2_str ?ki2_list ?ki2_tuple ?kj2_NoneType ?kj2_bool ?kj2_int ?kj2_str ?kj2_list ?kj2_tuple ?kj2_dict ?ac3 ?pg3 ?hd3 ?po3 ?sa3 ?n3_0 ?n3_1 ?n3_2 ?n3_3 ?n3_4 ?n3_5 ?kc3 ?mk3 ?in3 ?m3_0 ?mf3_0 ?cl3 ?mo3 ?ki3_int ?ki3_bool ?ki3_str ?ki3_list ?ki3_tuple ?kj3_NoneType ?kj3_bool ?kj3_int ?kj3_str ?kj3_list ?kj3_tuple ?kj3_dict ?ac4 ?pg4 ?hd4 ?po4 ?sa4 ?n4_0 ?n4_1 ?n4_2 ?n4_3 ?n4_4 ?n4_5 ?kc4 ?mk4 ?in4 ?if4 ?m4_0 ?mf4_0 ?cl4 ?mo4 ?ki4_int ?ki4_bool ?ki4_str ?ki4_list ?ki4_tuple ?kj4_NoneType ?kj4_bool ?kj4_int ?kj4_str ?kj4_list ?kj4_tuple ?kj4_dict ?ac5 ?pg5 ?hd5 ?po5 ?sa5 ?n5_0 ?n5_1 ?n5_2 ?n5_3 ?n5_4 ?n5_5 ?kc5 ?mk5 ?in5 ?if5 ?m5_1 ?mf5_1 ?m5_2 ?mf5_2 ?m5_3 ?mf5_3 ?m5_4 ?mf5_4 ?m5_5 ?mf5_5 ?m5_6 ?mf5_6 ?m5_7 ?mf5_7 ?m5_8 ?mf5_8 ?m5_9 ?mf5_9 ?m5_10 ?mf5_10 ?m5_11 ?mf5_11 ?m5_12 ?mf5_12 ?m5_13 ?mf5_13 ?cl5 ?mo5 ?ki5_int ?ki5_bool ?ki5_str ?ki5_list ?ki5_tuple ?kj5_NoneType ?kj5_bool ?kj5_int ?kj5_str ?kj5_list ?kj5_tuple ?kj5_dict ?kk0_0 ?kk0_1 ?kk0_2 ?kk0_3 ?kk0_4 ?kk0_5 ?kk1_0 ?kk1_1 ?kk1_2 ?kk1_3 ?kk1_4 ?kk1_5 ?kk2_0 ?kk2_1 ?kk2_2 ?kk2_3 ?kk2_4 ?kk2_5 ?kk3_0 ?kk3_1 ?kk3_2 ?kk3_3 ?kk3_4 ?kk3_5 ?kk4_0 ?kk4_1 ?kk4_2 ?kk4_3 ?kk4_4 ?kk4_5 ?kk5_0 ?kk5_1 ?kk5_2 ?kk5_3 ?kk5_4 ?kk5_5 ?sp ?tk ?n0 ?n1 ?n2 ?n3 ?n4 ?n5 ?n6 ?z_len ?z_max ?z_min ?z_abs ?z_sum ?z_all ?z_any ?z_sorted ?z_list ?z_tuple ?z_int ?z_isinstance ?z_range ?z_enumerate ?z_zip ?z_set ?z_bool ?z_str ?xg0 ?xk0 ?xd0 ?xa0 ?xm0 ?xx0_11 ?xx0_3 ?xx0_6 ?xg1 ?xk1 ?xd1 ?xa1 ?xm1 ?xx1_11 ?xx1_3 ?xx1_6 ?xg2 ?xk2 ?xd2 ?xa2 ?xm2 ?xx2_11 ?xx2_3 ?xx2_6 ?xg3 ?xk3 ?xd3 ?xa3 ?xm3 ?xx3_11 ?xx3_3 ?xx3_6 ?xg4 ?xk4 ?xd4 ?xa4 ?xm4 ?xx4_11 ?xx4_3 ?xx4_6 ?xg5 ?xk5 ?xd5 ?xa5 ?xm5 ?xx5_11 ?xx5_3 ?xx5_6 ?xg6 ?xk6 ?xd6 ?xa6 ?xm6 ?xx6_11 ?xx6_3 ?xx6_6 ?xg7 ?xk7 ?xd7 ?xa7 ?xm7 ?xx7_11 ?xx7_3 ?xx7_6 ?xg8 ?xk8 ?xd8 ?xa8 ?xm8 ?xx8_11 ?xx8_3 ?xx8_6 ?xg9 ?xk9 ?xd9 ?xa9 ?xm9 ?xx9_11 ?xx9_3 ?xx9_6 ?xg10 ?xk10 ?xd10 ?xa10 ?xm10 ?xx10_11 ?xx10_3 ?xx10_6 ?xg11 ?xk11 ?xd11 ?xa11 ?xm11 ?xx11_11 ?xx11_3 ?xx11_6 ?xg12 ?xk12 ?xd12 ?xa12 ?xm12 ?xx12_11 ?xx12_3 ?xx12_6 ?xy0_0 ?xy0_10 ?xy1_0 ?xy1_10 ?xy2_0 ?xy2_10 ?xy3_0 ?xy3_10 ?xy4_0 ?xy4_10 ?xy5_0 ?xy5_10 ?xy6_0 ?xy6_10 ?xy7_0 ?xy7_10 ?xy8_0 ?xy8_10 ?xy9_0 ?xy9_10 ?xy10_0 ?xy10_10 ?xy11_0 ?xy11_10 ?xy12_0 ?xy12_10 ?mc149 ?mo149_ ?mt149_ ?mw149 ?mh149 ?mn149 ?mT149 ?mc150 ?mo150_ ?mt150_ ?mw150 ?mh150 ?mn150 ?mT150 ?mu149_150 ?mu150_149
    (case a0 => k_is)
    (case l0 => k_is)
    (case c0 => k_is)
    (case k0 => k_is)
    (case a1 => k_is)
    (case l1 => k_is)
    (case c1 => k_is)
    (case k1 => k_is)
    (case a2 => k_is)
    (case l2 => k_is)
    (case c2 => k_is)
    (case k2 => k_is)
    (case a3 => k_is)
    (case l3 => k_is)
    (case c3 => k_is)
    (case k3 => k_is)
    (case a4 => k_is)
    (case l4 => k_is)
    (case c4 => k_is)
    (case k4 => k_is)
    (case a5 => k_is)
    (case l5 => k_is)
    (case c5 => k_is)
    (case k5 => k_is)
    (case a6 => k_is)
    (case l6 => k_is)
    (case c6 => k_is)
    (case k6 => k_is)
    (case a7 => k_is)
    (case l7 => k_is)
    (case c7 => k_is)
    (case k7 => k_is)
    (case a8 => k_is)
    (case l8 => k_is)
    (case c8 => k_is)
    (case k8 => k_is)
    (case a9 => k_is)
    (case l9 => k_is)
    (case c9 => k_is)
    (case k9 => k_is)
    (case a10 => k_is)
    (case l10 => k_is)
    (case c10 => k_is)
    (case k10 => k_is)
    (case a11 => k_is)
    (case l11 => k_is)
    (case c11 => k_is)
    (case k11 => k_is)
    (case a12 => k_is)
    (case l12 => k_is)
    (case c12 => k_is)
    (case k12 => k_is)
    (case a13 => k_is)
    (case l13 => k_is)
    (case c13 => k_is)
    (case k13 => k_is)
    (case a14 => k_is)
    (case l14 => k_is)
    (case c14 => k_is)
    (case k14 => k_is)
    (case a15 => k_is)
    (case l15 => k_is)
    (case c15 => k_is)
    (case k15 => k_is)
    (case a16 => k_is)
    (case l16 => k_is)
    (case c16 => k_is)
    (case k16 => k_is)
    (case a24 => k_is)
    (case l24 => k_is)
    (case c24 => k_is)
    (case k24 => k_is)
    (case a25 => k_is)
    (case l25 => k_is)
    (case c25 => k_is)
    (case k25 => k_is)
    (case a26 => k_is)
    (case l26 => k_is)
    (case c26 => k_is)
    (case k26 => k_is)
    (case a27 => k_is)
    (case l27 => k_is)
    (case c27 => k_is)
    (case k27 => k_is)
    (case a28 => k_is)
    (case l28 => k_is)
    (case c28 => k_is)
    (case k28 => k_is)
    (case a29 => k_is)
    (case l29 => k_is)
    (case c29 => k_is)
    (case k29 => k_is)
    (case a30 => k_is)
    (case l30 => k_is)
    (case c30 => k_is)
    (case k30 => k_is)
    (case a144 => k_is)
    (case l144 => k_is)
    (case c144 => k_is)
    (case k144 => k_is)
    (case a145 => k_is)
    (case l145 => k_is)
    (case c145 => k_is)
    (case k145 => k_is)
    (case a146 => k_is)
    (case l146 => k_is)
    (case c146 => k_is)
    (case k146 => k_is)
    (case a147 => k_is)
    (case l147 => k_is)
    (case c147 => k_is)
    (case k147 => k_is)
    (case a148 => k_is)
    (case l148 => k_is)
    (case c148 => k_is)
    (case k148 => k_is)
    (case a149 => k_is)
    (case l149 => k_is)
    (case c149 => k_is)
    (case k149 => k_is)
    (case a150 => k_is)
    (case l150 => k_is)
    (case c150 => k_is)
    (case k150 => k_is)
    (case a151 => k_is)
    (case l151 => k_is)
    (case c151 => k_is)
    (case k151 => k_is)
    (case e0 => k_is)
    (case xe0 => k_exc)
    (case ke0 => k_is)
    (case be0 => k_is)
    (case te0 => k_is)
    (case e1 => k_is)
    (case xe1 => k_exc)
    (case ke1 => k_is)
    (case be1 => k_is)
    (case te1 => k_is)
    (case e2 => k_is)
    (case xe2 => k_exc)
    (case ke2 => k_is)
    (case be2 => k_is)
    (case te2 => k_is)
    (case e3 => k_is)
    (case xe3 => k_exc)
    (case ke3 => k_is)
    (case be3 => k_is)
    (case te3 => k_is)
    (case e4 => k_is)
    (case xe4 => k_exc)
    (case ke4 => k_is)
    (case be4 => k_is)
    (case te4 => k_is)
    (case e5 => k_is)
    (case xe5 => k_exc)
    (case ke5 => k_is)
    (case be5 => k_is)
    (case te5 => k_is)
    (case e6 => k_is)
    (case xe6 => k_exc)
    (case ke6 => k_is)
    (case be6 => k_is)
    (case te6 => k_is)
    (case e7 => k_is)
    (case xe7 => k_exc)
    (case ke7 => k_is)
    (case be7 => k_is)
    (case te7 => k_is)
    (case e8 => k_is)
    (case xe8 => k_exc)
    (case ke8 => k_is)
    (case be8 => k_is)
    (case te8 => k_is)
    (case e9 => k_is)
    (case xe9 => k_exc)
    (case ke9 => k_is)
    (case be9 => k_is)
    (case te9 => k_is)
    (case e10 => k_is)
    (case xe10 => k_exc)
    (case ke10 => k_is)
    (case be10 => k_is)
    (case te10 => k_is)
    (case e11 => k_is)
    (case xe11 => k_exc)
    (case ke11 => k_is)
    (case be11 => k_is)
    (case te11 => k_is)
    (case e12 => k_is)
    (case xe12 => k_exc)
    (case ke12 => k_is)
    (case be12 => k_is)
    (case te12 => k_is)
    (case ac0 => k_is)
    (case pg0 => k_is)
    (case hd0 => k_is)
    (case po0 => k_is)
    (case sa0 => k_is)
    (case n0_0 => k_is)
    (case n0_1 => k_is)
    (case n0_2 => k_is)
    (case n0_3 => k_is)
    (case n0_4 => k_is)
    (case n0_5 => k_is)
    (case kc0 => k_is)
    (case mk0 => k_is)
    (case in0 => k_is)
    (case cl0 => k_is)
    (case mo0 => k_is)
    (case ki0_int => first | rfl | k_is)
    (case ki0_bool => first | rfl | k_is)
    (case ki0_str => first | rfl | k_is)
    (case ki0_list => first | rfl | k_is)
    (case ki0_tuple => first | rfl | k_is)
    (case kj0_NoneType => first | rfl | k_is)
    (case kj0_bool => first | rfl | k_is)
    (case kj0_int => first | rfl | k_is)
    (case kj0_str => first | rfl | k_is)
    (case kj0_list => first | rfl | k_is)
    (case kj0_tuple => first | rfl | k_is)
    (case kj0_dict => first | rfl | k_is)
    (case ac1 => k_is)
    (case pg1 => k_is)
    (case hd1 => k_is)
    (case po1 => k_is)
    (case sa1 => k_is)
    (case n1_0 => k_is)
    (case n1_1 => k_is)
    (case n1_2 => k_is)
    (case n1_3 => k_is)
    (case n1_4 => k_is)
    (case n1_5 => k_is)
    (case kc1 => k_is)
    (case mk1 => k_is)
    (case in1 => k_is)
    (case if1 => k_is)
    (case m1_0 => k_is)
    (case mf1_0 => k_is)
    (case cl1 => k_is)
    (case mo1 => k_is)
    (case ki1_int => first | rfl | k_is)
    (case ki1_bool => first | rfl | k_is)
    (case ki1_str => first | rfl | k_is)
    (case ki1_list => first | rfl | k_is)
    (case ki1_tuple => first | rfl | k_is)
    (case kj1_NoneType => first | rfl | k_is)
    (case kj1_bool => first | rfl | k_is)
    (case kj1_int => first | rfl | k_is)
    (case kj1_str => first | rfl | k_is)
    (case kj1_list => first | rfl | k_is)
    (case kj1_tuple => first | rfl | k_is)
    (case kj1_dict => first | rfl | k_is)
    (case ac2 => k_is)
    (case pg2 => k_is)
    (case hd2 => k_is)
    (case po2 => k_is)
    (case sa2 => k_is)
    (case n2_0 => k_is)
    (case n2_1 => k_is)
    (case n2_2 => k_is)
    (case n2_3 => k_is)
    (case n2_4 => k_is)
    (case n2_5 => k_is)
    (case kc2 => k_is)
    (case mk2 => k_is)
    (case in2 => k_is)
    (case if2 => k_is)
    (case m2_0 => k_is)
    (case mf2_0 => k_is)
    (case cl2 => k_is)
    (case mo2 => k_is)
    (case ki2_int => first | rfl | k_is)
    (case ki2_bool => first | rfl | k_is)
    (case ki2_str => first | rfl | k_is)
    (case ki2_list => first | rfl | k_is)
    (case ki2_tuple => first | rfl | k_is)
    (case kj2_NoneType => first | rfl | k_is)
    (case kj2_bool => first | rfl | k_is)
    (case kj2_int => first | rfl | k_is)
    (case kj2_str => first | rfl | k_is)
    (case kj2_list => first | rfl | k_is)
    (case kj2_tuple => first | rfl | k_is)
    (case kj2_dict => first | rfl | k_is)
    (case ac3 => k_is)
    (case pg3 => k_is)
    (case hd3 => k_is)
    (case po3 => k_is)
    (case sa3 => k_is)
    (case n3_0 => k_is)
    (case n3_1 => k_is)
    (case n3_2 => k_is)
    (case n3_3 => k_is)
    (case n3_4 => k_is)
    (case n3_5 => k_is)
    (case kc3 => k_is)
    (case mk3 => k_is)
    (case in3 => k_is)
    (case m3_0 => k_is)
    (case mf3_0 => k_is)
    (case cl3 => k_is)
    (case mo3 => k_is)
    (case ki3_int => first | rfl | k_is)
    (case ki3_bool => first | rfl | k_is)
    (case ki3_str => first | rfl | k_is)
    (case ki3_list => first | rfl | k_is)
    (case ki3_tuple => first | rfl | k_is)
    (case kj3_NoneType => first | rfl | k_is)
    (case kj3_bool => first | rfl | k_is)
    (case kj3_int => first | rfl | k_is)
    (case kj3_str => first | rfl | k_is)
    (case kj3_list => first | rfl | k_is)
    (case kj3_tuple => first | rfl | k_is)
    (case kj3_dict => first | rfl | k_is)
    (case ac4 => k_is)
    (case pg4 => k_is)
    (case hd4 => k_is)
    (case po4 => k_is)
    (case sa4 => k_is)
    (case n4_0 => k_is)
    (case n4_1 => k_is)
    (case n4_2 => k_is)
    (case n4_3 => k_is)
    (case n4_4 => k_is)
    (case n4_5 => k_is)
    (case kc4 => k_is)
    (case mk4 => k_is)
    (case in4 => k_is)
    (case if4 => k_is)
    (case m4_0 => k_is)
    (case mf4_0 => k_is)
    (case cl4 => k_is)
    (case mo4 => k_is)
    (case ki4_int => first | rfl | k_is)
    (case ki4_bool => first | rfl | k_is)
    (case ki4_str => first | rfl | k_is)
    (case ki4_list => first | rfl | k_is)
    (case ki4_tuple => first | rfl | k_is)
    (case kj4_NoneType => first | rfl | k_is)
    (case kj4_bool => first | rfl | k_is)
    (case kj4_int => first | rfl | k_is)
    (case kj4_str => first | rfl | k_is)
    (case kj4_list => first | rfl | k_is)
    (case kj4_tuple => first | rfl | k_is)
    (case kj4_dict => first | rfl | k_is)
    (case ac5 => k_is)
    (case pg5 => k_is)
    (case hd5 => k_is)
    (case po5 => k_is)
    (case sa5 => k_is)
    (case n5_0 => k_is)
    (case n5_1 => k_is)
    (case n5_2 => k_is)
    (case n5_3 => k_is)
    (case n5_4 => k_is)
    (case n5_5 => k_is)
    (case kc5 => k_is)
    (case mk5 => k_is)
    (case in5 => k_is)
    (case if5 => k_is)
    (case m5_1 => k_is)
    (case mf5_1 => k_is)
    (case m5_2 => k_is)
    (case mf5_2 => k_is)
    (case m5_3 => k_is)
    (case mf5_3 => k_is)
    (case m5_4 => k_is)
    (case mf5_4 => k_is)
    (case m5_5 => k_is)
    (case mf5_5 => k_is)
    (case m5_6 => k_is)
    (case mf5_6 => k_is)
    (case m5_7 => k_is)
    (case mf5_7 => k_is)
    (case m5_8 => k_is)
    (case mf5_8 => k_is)
    (case m5_9 => k_is)
    (case mf5_9 => k_is)
    (case m5_10 => k_is)
    (case mf5_10 => k_is)
    (case m5_11 => k_is)
    (case mf5_11 => k_is)
    (case m5_12 => k_is)
    (case mf5_12 => k_is)
    (case m5_13 => k_is)
    (case mf5_13 => k_is)
    (case cl5 => k_is)
    (case mo5 => k_is)
    (case ki5_int => first | rfl | k_is)
    (case ki5_bool => first | rfl | k_is)
    (case ki5_str => first | rfl | k_is)
    (case ki5_list => first | rfl | k_is)
    (case ki5_tuple => first | rfl | k_is)
    (case kj5_NoneType => first | rfl | k_is)
    (case kj5_bool => first | rfl | k_is)
    (case kj5_int => first | rfl | k_is)
    (case kj5_str => first | rfl | k_is)
    (case kj5_list => first | rfl | k_is)
    (case kj5_tuple => first | rfl | k_is)
    (case kj5_dict => first | rfl | k_is)
    (case kk0_0 => first | rfl | k_is)
    (case kk0_1 => first | rfl | k_is)
    (case kk0_2 => first | rfl | k_is)
    (case kk0_3 => first | rfl | k_is)
    (case kk0_4 => first | rfl | k_is)
    (case kk0_5 => first | rfl | k_is)
    (case kk1_0 => first | rfl | k_is)
    (case kk1_1 => first | rfl | k_is)
    (case kk1_2 => first | rfl | k_is)
    (case kk1_3 => first | rfl | k_is)
    (case kk1_4 => first | rfl | k_is)
    (case kk1_5 => first | rfl | k_is)
    (case kk2_0 => first | rfl | k_is)
    (case kk2_1 => first | rfl | k_is)
    (case kk2_2 => first | rfl | k_is)
    (case kk2_3 => first | rfl | k_is)
    (case kk2_4 => first | rfl | k_is)
    (case kk2_5 => first | rfl | k_is)
    (case kk3_0 => first | rfl | k_is)
    (case kk3_1 => first | rfl | k_is)
    (case kk3_2 => first | rfl | k_is)
    (case kk3_3 => first | rfl | k_is)
    (case kk3_4 => first | rfl | k_is)
    (case kk3_5 => first | rfl | k_is)
    (case kk4_0 => first | rfl | k_is)
    (case kk4_1 => first | rfl | k_is)
    (case kk4_2 => first | rfl | k_is)
    (case kk4_3 => first | rfl | k_is)
    (case kk4_4 => first | rfl | k_is)
    (case kk4_5 => first | rfl | k_is)
    (case kk5_0 => first | rfl | k_is)
    (case kk5_1 => first | rfl | k_is)
    (case kk5_2 => first | rfl | k_is)
    (case kk5_3 => first | rfl | k_is)
    (case kk5_4 => first | rfl | k_is)
    (case kk5_5 => first | rfl | k_is)
    (case sp => k_is)
    (case tk => k_is)
    (case n0 => k_is)
    (case n1 => k_is)
    (case n2 => k_is)
    (case n3 => k_is)
    (case n4 => k_is)
    (case n5 => k_is)
    (case n6 => k_is)
    (case z_len => k_is)
    (case z_max => k_is)
    (case z_min => k_is)
    (case z_abs => k_is)
    (case z_sum => k_is)
    (case z_all => k_is)
    (case z_any => k_is)
    (case z_sorted => k_is)
    (case z_list => k_is)
    (case z_tuple => k_is)
    (case z_int => k_is)
    (case z_isinstance => k_is)
    (case z_range => k_is)
    (case z_enumerate => k_is)
    (case z_zip => k_is)
    (case z_set => k_is)
    (case z_bool => k_is)
    (case z_str => k_is)
    (case xg0 => first | k_is | rfl | kernel_rfl)
    (case xk0 => first | k_is | rfl | kernel_rfl)
    (case xd0 => first | k_is | rfl | kernel_rfl)
    (case xa0 => first | k_is | rfl | kernel_rfl)
    (case xm0 => first | k_is | rfl | kernel_rfl)
    (case xx0_11 => first | rfl | k_is | kernel_rfl)
    (case xx0_3 => first | rfl | k_is | kernel_rfl)
    (case xx0_6 => first | rfl | k_is | kernel_rfl)
    (case xg1 => first | k_is | rfl | kernel_rfl)
    (case xk1 => first | k_is | rfl | kernel_rfl)
    (case xd1 => first | k_is | rfl | kernel_rfl)
    (case xa1 => first | k_is | rfl | kernel_rfl)
    (case xm1 => first | k_is | rfl | kernel_rfl)
    (case xx1_11 => first | rfl | k_is | kernel_rfl)
    (case xx1_3 => first | rfl | k_is | kernel_rfl)
    (case xx1_6 => first | rfl | k_is | kernel_rfl)
    (case xg2 => first | k_is | rfl | kernel_rfl)
    (case xk2 => first | k_is | rfl | kernel_rfl)
    (case xd2 => first | k_is | rfl | kernel_rfl)
    (case xa2 => first | k_is | rfl | kernel_rfl)
    (case xm2 => first | k_is | rfl | kernel_rfl)
    (case xx2_11 => first | rfl | k_is | kernel_rfl)
    (case xx2_3 => first | rfl | k_is | kernel_rfl)
    (case xx2_6 => first | rfl | k_is | kernel_rfl)
    (case xg3 => first | k_is | rfl | kernel_rfl)
    (case xk3 => first | k_is | rfl | kernel_rfl)
    (case xd3 => first | k_is | rfl | kernel_rfl)
    (case xa3 => first | k_is | rfl | kernel_rfl)
    (case xm3 => first | k_is | rfl | kernel_rfl)
    (case xx3_11 => first | rfl | k_is | kernel_rfl)
    (case xx3_3 => first | rfl | k_is | kernel_rfl)
    (case xx3_6 => first | rfl | k_is | kernel_rfl)
    (case xg4 => first | k_is | rfl | kernel_rfl)
    (case xk4 => first | k_is | rfl | kernel_rfl)
    (case xd4 => first | k_is | rfl | kernel_rfl)
    (case xa4 => first | k_is | rfl | kernel_rfl)
    (case xm4 => first | k_is | rfl | kernel_rfl)
    (case xx4_11 => first | rfl | k_is | kernel_rfl)
    (case xx4_3 => first | rfl | k_is | kernel_rfl)
    (case xx4_6 => first | rfl | k_is | kernel_rfl)
    (case xg5 => first | k_is | rfl | kernel_rfl)
    (case xk5 => first | k_is | rfl | kernel_rfl)
    (case xd5 => first | k_is | rfl | kernel_rfl)
    (case xa5 => first | k_is | rfl | kernel_rfl)
    (case xm5 => first | k_is | rfl | kernel_rfl)
    (case xx5_11 => first | rfl | k_is | kernel_rfl)
    (case xx5_3 => first | rfl | k_is | kernel_rfl)
    (case xx5_6 => first | rfl | k_is | kernel_rfl)
    (case xg6 => first | k_is | rfl | kernel_rfl)
    (case xk6 => first | k_is | rfl | kernel_rfl)
    (case xd6 => first | k_is | rfl | kernel_rfl)
    (case xa6 => first | k_is | rfl | kernel_rfl)
    (case xm6 => first | k_is | rfl | kernel_rfl)
    (case xx6_11 => first | rfl | k_is | kernel_rfl)
    (case xx6_3 => first | rfl | k_is | kernel_rfl)
    (case xx6_6 => first | rfl | k_is | kernel_rfl)
    (case xg7 => first | k_is | rfl | kernel_rfl)
    (case xk7 => first | k_is | rfl | kernel_rfl)
    (case xd7 => first | k_is | rfl | kernel_rfl)
    (case xa7 => first | k_is | rfl | kernel_rfl)
    (case xm7 => first | k_is | rfl | kernel_rfl)
    (case xx7_11 => first | rfl | k_is | kernel_rfl)
    (case xx7_3 => first | rfl | k_is | kernel_rfl)
    (case xx7_6 => first | rfl | k_is | kernel_rfl)
    (case xg8 => first | k_is | rfl | kernel_rfl)
    (case xk8 => first | k_is | rfl | kernel_rfl)
    (case xd8 => first | k_is | rfl | kernel_rfl)
    (case xa8 => first | k_is | rfl | kernel_rfl)
    (case xm8 => first | k_is | rfl | kernel_rfl)
    (case xx8_11 => first | rfl | k_is | kernel_rfl)
    (case xx8_3 => first | rfl | k_is | kernel_rfl)
    (case xx8_6 => first | rfl | k_is | kernel_rfl)
    (case xg9 => first | k_is | rfl | kernel_rfl)
    (case xk9 => first | k_is | rfl | kernel_rfl)
    (case xd9 => first | k_is | rfl | kernel_rfl)
    (case xa9 => first | k_is | rfl | kernel_rfl)
    (case xm9 => first | k_is | rfl | kernel_rfl)
    (case xx9_11 => first | rfl | k_is | kernel_rfl)
    (case xx9_3 => first | rfl | k_is | kernel_rfl)
    (case xx9_6 => first | rfl | k_is | kernel_rfl)
    (case xg10 => first | k_is | rfl | kernel_rfl)
    (case xk10 => first | k_is | rfl | kernel_rfl)
    (case xd10 => first | k_is | rfl | kernel_rfl)
    (case xa10 => first | k_is | rfl | kernel_rfl)
    (case xm10 => first | k_is | rfl | kernel_rfl)
    (case xx10_11 => first | rfl | k_is | kernel_rfl)
    (case xx10_3 => first | rfl | k_is | kernel_rfl)
    (case xx10_6 => first | rfl | k_is | kernel_rfl)
    (case xg11 => first | k_is | rfl | kernel_rfl)
    (case xk11 => first | k_is | rfl | kernel_rfl)
    (case xd11 => first | k_is | rfl | kernel_rfl)
    (case xa11 => first | k_is | rfl | kernel_rfl)
    (case xm11 => first | k_is | rfl | kernel_rfl)
    (case xx11_11 => first | rfl | k_is | kernel_rfl)
    (case xx11_3 => first | rfl | k_is | kernel_rfl)
    (case xx11_6 => first | rfl | k_is | kernel_rfl)
    (case xg12 => first | k_is | rfl | kernel_rfl)
    (case xk12 => first | k_is | rfl | kernel_rfl)
    (case xd12 => first | k_is | rfl | kernel_rfl)
    (case xa12 => first | k_is | rfl | kernel_rfl)
    (case xm12 => first | k_is | rfl | kernel_rfl)
    (case xx12_11 => first | rfl | k_is | kernel_rfl)
    (case xx12_3 => first | rfl | k_is | kernel_rfl)
    (case xx12_6 => first | rfl | k_is | kernel_rfl)
    (case xy0_0 => first | rfl | k_is | kernel_rfl)
    (case xy0_10 => first | rfl | k_is | kernel_rfl)
    (case xy1_0 => first | rfl | k_is | kernel_rfl)
    (case xy1_10 => first | rfl | k_is | kernel_rfl)
    (case xy2_0 => first | rfl | k_is | kernel_rfl)
    (case xy2_10 => first | rfl | k_is | kernel_rfl)
    (case xy3_0 => first | rfl | k_is | kernel_rfl)
    (case xy3_10 => first | rfl | k_is | kernel_rfl)
    (case xy4_0 => first | rfl | k_is | kernel_rfl)
    (case xy4_10 => first | rfl | k_is | kernel_rfl)
    (case xy5_0 => first | rfl | k_is | kernel_rfl)
    (case xy5_10 => first | rfl | k_is | kernel_rfl)
    (case xy6_0 => first | rfl | k_is | kernel_rfl)
    (case xy6_10 => first | rfl | k_is | kernel_rfl)
    (case xy7_0 => first | rfl | k_is | kernel_rfl)
    (case xy7_10 => first | rfl | k_is | kernel_rfl)
    (case xy8_0 => first | rfl | k_is | kernel_rfl)
    (case xy8_10 => first | rfl | k_is | kernel_rfl)
    (case xy9_0 => first | rfl | k_is | kernel_rfl)
    (case xy9_10 => first | rfl | k_is | kernel_rfl)
    (case xy10_0 => first | rfl | k_is | kernel_rfl)
    (case xy10_10 => first | rfl | k_is | kernel_rfl)
    (case xy11_0 => first | rfl | k_is | kernel_rfl)
    (case xy11_10 => first | rfl | k_is | kernel_rfl)
    (case xy12_0 => first | rfl | k_is | kernel_rfl)
    (case xy12_10 => first | rfl | k_is | kernel_rfl)
    (case mc149 => rfl)
    (case mo149_ => k_is)
    (case mt149_ => rfl)
    (case mw149 => kernel_rfl)
    (case mh149 => kernel_rfl)
    (case mn149 => kernel_rfl)
    (case mT149 => exact hT _ (by k_mem))
    (case mc150 => rfl)
    (case mo150_ => k_is)
    (case mt150_ => rfl)
    (case mw150 => kernel_rfl)
    (case mh150 => kernel_rfl)
    (case mn150 => kernel_rfl)
    (case mT150 => exact hT _ (by k_mem))
    (case mu149_150 => decide)
    (case mu150_149 => decide)
    (case l17 => k_is)
    (case c17 => k_is)
    (case k17 => k_is)
    (case l18 => k_is)
    (case c18 => k_is)
    (case k18 => k_is)
    (case l19 => k_is)
    (case c19 => k_is)
    (case k19 => k_is)
    (case l20 => k_is)
    (case c20 => k_is)
    (case k20 => k_is)
    (case l21 => k_is)
    (case c21 => k_is)
    (case k21 => k_is)
    (case l22 => k_is)
    (case c22 => k_is)
    (case k22 => k_is)
    (case l23 => k_is)
    (case c23 => k_is)
    (case k23 => k_is)
    (case l31 => k_is)
    (case c31 => k_is)
    (case k31 => k_is)
    (case l32 => k_is)
    (case c32 => k_is)
    (case k32 => k_is)
    (case l33 => k_is)
    (case c33 => k_is)
    (case k33 => k_is)
    (case l34 => k_is)
    (case c34 => k_is)
    (case k34 => k_is)
    (case l35 => k_is)
    (case c35 => k_is)
    (case k35 => k_is)
    (case l36 => k_is)
    (case c36 => k_is)
    (case k36 => k_is)
    (case l37 => k_is)
    (case c37 => k_is)
    (case k37 => k_is)
    (case l38 => k_is)
    (case c38 => k_is)
    (case k38 => k_is)
    (case l39 => k_is)
    (case c39 => k_is)
    (case k39 => k_is)
    (case l40 => k_is)
    (case c40 => k_is)
    (case k40 => k_is)
    (case l41 => k_is)
    (case c41 => k_is)
    (case k41 => k_is)
    (case l42 => k_is)
    (case c42 => k_is)
    (case k42 => k_is)
    (case l43 => k_is)
    (case c43 => k_is)
    (case k43 => k_is)
    (case l44 => k_is)
    (case c44 => k_is)
    (case k44 => k_is)
