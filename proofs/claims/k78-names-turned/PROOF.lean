import PyProof.Rows.All
import Wide.All
import OpenK.AllK
import Wide.FinOn
import HandS.ForMost
import HandS.Text
import HandS.TupAny
import HandS.Wide
import HandS.Deep
import KE.SortData
import KE.KEqNest
import HandS.More
import HandS.RaiseMore
import HandS.Conv
import HandS.IsInst
import KE.DataMinMax
import KE.KDictPairs
import HandS.SortKw
import HandS.Records
import PyProof.ReprRoads
import HandS.Codes
import HandS.Ends
import HandS.Comp
import HandS.Walk
import HandS.Zip
import KE.GoesMore
import KE.KDictZip
import HandS.Small
import PyProof.ReprLen
import PySem.Challenge.RW_logdrive_k78_names_turned
set_option Elab.async false
set_option linter.all false
set_option maxRecDepth 100000
/-! LD0: plain data, a small store, a compact language and its interpreter. -/
namespace LD

/-- a key of a dict -/
abbrev Ky := Int ⊕ List Nat
/-- plain data: no mutable thing within; a text is its codes -/
inductive D where
  | non | bl (b : Bool) | int (i : Int) | str (s : List Nat) | tup (l : List D) | lst (l : List D) | dct (ks : List Ky) (vs : List D) | fn (i : Nat) | scr (ns : List Int)
/-- a value: data, or a cell of the store -/
inductive W where
  | d (x : D) | ref (n : Nat)
/-- a cell -/
inductive O where
  | lst (l : List W) | tup (l : List W) | dct (l : List (Ky × W)) | ins (c : Nat) (fs : List (List Nat × W)) | exc (c : Nat) (fs : List (List Nat × W)) | dead
abbrev Sto := List O
abbrev Rho := List (Option W)
/-- what a computation comes to: a value, an error of a class with its fields, or out of what is served -/
inductive R (α : Type) where
  | ok (a : α) (S : Sto) | exc (c : Nat) (fs : List (List Nat × W)) (S : Sto) | bad
def R.bind {α β : Type} (r : R α) (f : α → Sto → R β) : R β := match r with
  | .ok a S => f a S
  | .exc c fs S => .exc c fs S
  | .bad => .bad
abbrev FnS := List W → Sto → R W

/-! ### looks at data -/
mutual
/-- as the library's data (a dict, a def: not so) -/
def D.pd : D → PySem.PyData
  | .non => .none
  | .bl b => .bool b
  | .int i => .int i
  | .str s => .str ⟨s.toArray⟩
  | .tup l => .tuple (D.pds l)
  | .lst l => .list (D.pds l)
  | .dct _ _ => .dict []
  | .fn _ => .dict []
  | .scr _ => .dict []
def D.pds : List D → List PySem.PyData
  | [] => []
  | x :: l => D.pd x :: D.pds l
end
/-- the signs of what repr tells -/
def D.shown (x : D) : List Nat := x.pd.shown.cps.toList
mutual
def D.eqv : D → D → Bool
  | .non, .non => true
  | .bl a, .bl b => a == b
  | .int a, .int b => a == b
  | .bl a, .int b => (if a = true then (1 : Int) else 0) == b
  | .int a, .bl b => a == (if b = true then (1 : Int) else 0)
  | .str a, .str b => a == b
  | .tup a, .tup b => D.eqvs a b
  | .lst a, .lst b => D.eqvs a b
  | _, _ => false
def D.eqvs : List D → List D → Bool
  | [], [] => true
  | a :: as, b :: bs => D.eqv a b && D.eqvs as bs
  | _, _ => false
end
/-- is the first text the lesser one -/
def strLt : List Nat → List Nat → Bool
  | [], [] => false
  | [], _ :: _ => true
  | _ :: _, [] => false
  | a :: as, b :: bs => if a = b then strLt as bs else decide (a < b)
mutual
/-- less, where the two can be compared -/
def D.lt? : D → D → Option Bool
  | .int a, .int b => some (decide (a < b))
  | .str a, .str b => some (strLt a b)
  | .tup a, .tup b => D.lts? a b
  | _, _ => none
def D.lts? : List D → List D → Option Bool
  | [], [] => some false
  | [], _ :: _ => some true
  | _ :: _, [] => some false
  | a :: as, b :: bs => if D.eqv a b = true then D.lts? as bs else D.lt? a b
end
/-- no dict, no def within, at most so deep -/
def D.ok : Nat → D → Bool
  | _, .non | _, .bl _ | _, .int _ => true
  | _, .str s => s.all fun c => decide (c < 1114112)
  | n + 1, .tup l | n + 1, .lst l => l.all (D.ok n)
  | _, _ => false
/-- ints that are shown are below it -/
@[irreducible] def BIG : Nat := 10 ^ 500
def D.intsOk : Nat → D → Bool
  | _, .int i => decide (i.natAbs < BIG)
  | n + 1, .tup l | n + 1, .lst l => l.all (D.intsOk n)
  | _, _ => true
def okD (x : D) : Bool := x.ok 30
def isSq : D → Bool
  | .tup _ => true
  | .lst _ => true
  | _ => false
def leD (x y : D) : Bool := !((D.lt? y x).getD false)
def cmpAll (l : List D) : Bool := l.all fun x => l.all fun y => (D.lt? x y).isSome
def isI : D → Bool
  | .int _ => true
  | _ => false
def isS : D → Bool
  | .str _ => true
  | _ => false
def headI : D → Bool
  | .tup (.int _ :: _) => true
  | _ => false
def headS : D → Bool
  | .tup (.str _ :: _) => true
  | _ => false
/-- all ints, all texts, all tuples that begin with an int, or with a text -/
def oneKind (l : List D) : Bool := l.all isI || l.all isS || l.all headI || l.all headS
/-- sorted, where all can be compared -/
def sortD (l : List D) : Option (List D) := if l.all okD && oneKind l && cmpAll l && decide (l.length ≤ 1000000) then some (l.mergeSort leD) else none
def W.data? : W → Option D
  | .d x => some x
  | .ref _ => none
def datas : List W → Option (List D)
  | [] => some []
  | .d x :: l => (datas l).map (x :: ·)
  | .ref _ :: _ => none
def keyOf : D → Option Ky
  | .int i => some (.inl i)
  | .str s => some (.inr s)
  | _ => none
def keyD : Ky → D
  | .inl i => .int i
  | .inr s => .str s
def lookK {α : Type} (l : List (Ky × α)) (k : Ky) : Option α := match l with
  | [] => none
  | (k', v) :: r => if k' = k then some v else lookK r k
def putK {α : Type} (l : List (Ky × α)) (k : Ky) (v : α) : List (Ky × α) :=
  if l.any (fun p => decide (p.1 = k)) = true then l.map (fun p => if p.1 = k then (p.1, v) else p) else l ++ [(k, v)]
def putAll {α : Type} (l : List (Ky × α)) : List (Ky × α) → List (Ky × α)
  | [] => l
  | (k, v) :: r => putAll (putK l k v) r
/-- the most items that a list may have -/
def LIM : Nat := 1000000

/-! ### the language -/
inductive BOp where | add | sub | mul | fdiv | mod | pow
inductive COp where | eq | ne | lt | le | gt | ge | isin | notin | isn | notn
inductive BF where
  | len | all | any | abs | max1 | max2 | min1 | min2 | min1d | sum | sorted | sortedSet | tuple | list | dict | str | int | repr | tupZip | lstEnum | lstRange | tupRange1 | tupRange2
  | isInt | isBool | isStr | isTup | isLst | isExc (c : Nat)
inductive MF where
  | append | extend | insert | pop0 | pop1 | remove | count | index | join | split | partition | get1 | get2 | values | update
/-- what a for walks: a sequence (list, tuple, text, dict's keys), range, zip, enumerate -/
inductive IK where | seq | range1 | range2 | range3 | zip | enum
inductive P where
  | name (i : Nat) | tup (l : List P)
inductive E where
  | var (i : Nat) | int (i : Int) | bl (b : Bool) | non | str (s : List Nat) | glob (k : Nat) | fnv (i : Nat)
  | bin (op : BOp) (fz : Bool) (a b : E) | neg (a : E)
  | cmp (op : COp) (a b : E) | chain (op op' : COp) (a b c : E) | and (l : List E) | or (l : List E) | not (a : E) | ite (t a b : E)
  | tup (l : List E) | lst (fz : Bool) (l : List E) | dict (fz : Bool) (ks vs : List E)
  | ix (a i : E) | slFrom (fz : Bool) (a lo : E) | slTo (fz : Bool) (a hi : E) | slMid (fz : Bool) (a lo hi : E) | slRev (fz : Bool) (a : E)
  | bc (f : BF) (fz : Bool) (l : List E) | mt (m : MF) (fz : Bool) (o : E) (l : List E)
  | call (loc : Bool) (i : Nat) (l : List E) | callv (i : Nat) (l : List E)
  | comp (fz : Bool) (p : P) (k : IK) (its : List E) (cs : List E) (e : E)
  | attr (o : E) (f : List Nat) | make (c i : Nat) (l : List E) | mcall (c i : Nat) (o : E) (l : List E) | err (c : Nat) (l : List E)
  | frz (e : E)
inductive G where
  | pat (p : P) | sub (o i : E) | attr (o : E) (f : List Nat) | tup (l : List G)
inductive T where
  | asg (g : G) (e : E) | par (is : List Nat) (es : List E) | ex (e : E) | ret (e : E) | retN
  | ite (t : E) (a b : List T) | for (p : P) (k : IK) (its : List E) (b : List T) | whl (n : Nat) (t : E) (b : List T)
  | brk | cnt | pass | raise (c : Nat) (l : List E) | try (b : List T) (c : Nat) (v : Option Nat) (h : List T)

/-! ### operations on values -/
/-- the items of a sequence -/
def seqOf (w : W) (S : Sto) : Option (List W) := match w with
  | .d (.tup l) => some (l.map .d)
  | .d (.scr l) => some (l.map fun i => .d (.int i))
  | .d (.lst l) => some (l.map .d)
  | .ref n => match S[n]? with
    | some (.lst l) => some l
    | some (.tup l) => some l
    | _ => none
  | _ => none
/-- the items of a sequence that can't change -/
def fixOf (w : W) (S : Sto) : Option (List W) := match w with
  | .d (.tup l) => some (l.map .d)
  | .d (.lst l) => some (l.map .d)
  | .ref n => match S[n]? with
    | some (.tup l) => some l
    | _ => none
  | _ => none
/-- a tuple's items -/
def seqTup (w : W) (S : Sto) : Option (List W) := match w with
  | .d (.tup l) => some (l.map .d)
  | .ref n => match S[n]? with
    | some (.tup l) => some l
    | _ => none
  | _ => none
/-- a list's items, the script's -/
def lsOf (w : W) (S : Sto) : Option (List W) := match w with
  | .d (.scr l) => some (l.map fun i => .d (.int i))
  | .d (.lst l) => some (l.map .d)
  | .ref n => match S[n]? with
    | some (.lst l) => some l
    | _ => none
  | _ => none
/-- a dict's entries -/
def dictOf (w : W) (S : Sto) : Option (List (Ky × W)) := match w with
  | .d (.dct ks vs) => some (ks.zip (vs.map .d))
  | .ref n => match S[n]? with
    | some (.dct l) => some l
    | _ => none
  | _ => none
def mkL (fz : Bool) (ws : List W) (S : Sto) : R W := if fz = true then (match datas ws with
    | some ds => .ok (.d (.lst ds)) S
    | none => .bad) else .ok (.ref S.length) (S ++ [.lst ws])
def mkT (ws : List W) (S : Sto) : R W := match datas ws with
  | some ds => .ok (.d (.tup ds)) S
  | none => .ok (.ref S.length) (S ++ [.tup ws])
def mkD (fz : Bool) (l : List (Ky × W)) (S : Sto) : R W := if fz = true then (match datas (l.map (·.2)) with
    | some ds => .ok (.d (.dct (l.map (·.1)) ds)) S
    | none => .bad) else .ok (.ref S.length) (S ++ [.dct l])
/-- a list's items as data (a tuple's are not: == tells them apart) -/
def W.flat (w : W) (S : Sto) : Option D := match w with
  | .d x => some x
  | .ref n => match S[n]? with
    | some (.lst l) => (datas l).map .lst
    | some (.tup l) => (datas l).map .tup
    | _ => none
def ixN (n : Nat) (i : Int) : Option Nat := if 0 ≤ i then (if i < n then some i.toNat else none) else (if 0 ≤ i + n then some (i + n).toNat else none)
/-- a bound of a slice, brought into 0 .. n -/
def clip (n : Nat) (i : Int) : Nat := if 0 ≤ i then min n i.toNat else (i + n).toNat
def cut {α : Type} (l : List α) (lo hi : Nat) : List α := (l.take hi).drop lo
def bigOk (i : Int) : Bool := decide (i.natAbs < 2 ^ 64)

def binop (op : BOp) (fz : Bool) (x y : W) (S : Sto) : R W := match op, x, y with
  | .add, .d (.int i), .d (.int j) => .ok (.d (.int (i + j))) S
  | .sub, .d (.int i), .d (.int j) => .ok (.d (.int (i - j))) S
  | .mul, .d (.int i), .d (.int j) => if bigOk i || bigOk j || (decide (i.natAbs < 2 ^ 4000) && decide (j.natAbs < 2 ^ 4000)) then .ok (.d (.int (i * j))) S else .bad
  | .fdiv, .d (.int i), .d (.int j) => if decide (0 < j) && decide (j.natAbs < 2 ^ 4000) then .ok (.d (.int (i / j))) S else .bad
  | .mod, .d (.int i), .d (.int j) => if 0 < j then .ok (.d (.int (i % j))) S else .bad
  | .pow, .d (.int i), .d (.int j) => if bigOk i && decide (0 ≤ j) && decide (j ≤ 1000) then .ok (.d (.int (i ^ j.toNat))) S else .bad
  | .add, .d (.str a), .d (.str b) => if a.length + b.length ≤ LIM then .ok (.d (.str (a ++ b))) S else .bad
  | .add, .d (.tup a), .d (.tup b) => if a.length + b.length ≤ LIM then .ok (.d (.tup (a ++ b))) S else .bad
  | .add, x, y => match lstOf x S, lstOf y S with
    | some a, some b => if a.length + b.length ≤ LIM then mkL fz (a ++ b) S else .bad
    | _, _ => .bad
  | .mul, x, .d (.int k) => match lstOf x S with
    | some a => if -1000 ≤ k ∧ k ≤ 1000 ∧ a.length ≤ 1000 then mkL fz (List.replicate k.toNat a).flatten S else .bad
    | none => .bad
  | _, _, _ => .bad
where
  lstOf (w : W) (S : Sto) : Option (List W) := match w with
    | .d (.lst l) => some (l.map .d)
    | .ref n => match S[n]? with
      | some (.lst l) => some l
      | _ => none
    | _ => none
def okRes (b : Bool) (S : Sto) : R W := .ok (.d (.bl b)) S
/-- == of data (a dict against the empty one alone) -/
def eqR (x y : W) (S : Sto) : Option Bool := match x, y with
  | .d (.str a), .d (.str b) => some (a == b)
  | x, y => match dictOf x S, dictOf y S with
    | some a, some [] => some a.isEmpty
    | _, _ => match x.flat S, y.flat S with
      | some a, some b => if okD a && okD b then some (D.eqv a b) else none
      | _, _ => none
def subText (a b : List Nat) : Bool := match a with
  | [c] => b.contains c
  | _ => false
def isinR (x y : W) (S : Sto) : Option Bool := match x with
  | .d a => match y with
    | .d (.str b) => match a with
      | .str [c] => some (b.contains c)
      | _ => none
    | _ => match dictOf y S with
      | some l => (keyOf a).map fun k => (lookK l k).isSome
      | none => match y.flat S with
        | some (.lst l) => if okD a && l.all okD then some (l.any fun z => D.eqv z a) else none
        | some (.tup l) => if okD a && l.all okD then some (l.any fun z => D.eqv z a) else none
        | _ => none
  | _ => none
def ltR (x y : W) : Option Bool := match x, y with
  | .d a, .d b => if okD a && okD b then D.lt? a b else none
  | _, _ => none
def ofB (o : Option Bool) (S : Sto) : R W := match o with
  | some b => .ok (.d (.bl b)) S
  | none => .bad
def isNonW : W → Bool
  | .d .non => true
  | _ => false
def cmpop (op : COp) (x y : W) (S : Sto) : R W := match op with
  | .eq => ofB (eqR x y S) S
  | .ne => ofB ((eqR x y S).map (!·)) S
  | .lt => ofB (ltR x y) S
  | .gt => match x, y with
    | .d (.int i), .d (.int j) => okRes (decide (j < i)) S
    | _, _ => .bad
  | .le => match x, y with
    | .d (.int i), .d (.int j) => okRes (decide (i ≤ j)) S
    | _, _ => .bad
  | .ge => match x, y with
    | .d (.int i), .d (.int j) => okRes (decide (j ≤ i)) S
    | _, _ => .bad
  | .isin => ofB (isinR x y S) S
  | .notin => ofB ((isinR x y S).map (!·)) S
  | .isn => match y with
    | .d .non => okRes (isNonW x) S
    | _ => .bad
  | .notn => match y with
    | .d .non => okRes (!isNonW x) S
    | _ => .bad
def index (x y : W) (S : Sto) : R W := match x, y with
  | .d (.str a), .d (.int i) => match ixN a.length i with
    | some n => match a[n]? with
      | some c => .ok (.d (.str [c])) S
      | none => .bad
    | none => .bad
  | x, y => match dictOf x S, y with
    | some l, .d k => match keyOf k with
      | some k => match lookK l k with
        | some w => .ok w S
        | none => .bad
      | none => .bad
    | some _, _ => .bad
    | none, .d (.int i) => match seqOf x S with
      | some l => match ixN l.length i with
        | some n => match l[n]? with
          | some w => .ok w S
          | none => .bad
        | none => .bad
      | none => .bad
    | none, _ => .bad
def slice (fz : Bool) (x : W) (lo hi : Option Int) (S : Sto) : R W := match x with
  | .d (.str a) => .ok (.d (.str (cut a ((lo.map (clip a.length)).getD 0) ((hi.map (clip a.length)).getD a.length)))) S
  | .d (.tup a) => .ok (.d (.tup (cut a ((lo.map (clip a.length)).getD 0) ((hi.map (clip a.length)).getD a.length)))) S
  | x => match (match x with
      | .d (.scr l) => some (l.map fun i => W.d (.int i))
      | x => binop.lstOf x S) with
    | some a => mkL fz (cut a ((lo.map (clip a.length)).getD 0) ((hi.map (clip a.length)).getD a.length)) S
    | none => .bad
def intsOf : List W → Option (List Int)
  | [] => some []
  | .d (.int i) :: l => (intsOf l).map (i :: ·)
  | _ => none
def bools : List W → Option (List Bool)
  | [] => some []
  | .d (.bl b) :: l => (bools l).map (b :: ·)
  | _ => none
def texts : List W → Option (List (List Nat))
  | [] => some []
  | .d (.str s) :: l => (texts l).map (s :: ·)
  | _ => none
/-- the greatest, the least of ints (the first one given) -/
def maxI : Int → List Int → Int
  | m, [] => m
  | m, i :: l => maxI (if m < i then i else m) l
def minI : Int → List Int → Int
  | m, [] => m
  | m, i :: l => minI (if i < m then i else m) l
def sumI (l : List Int) : Int := l.foldl (· + ·) 0
/-- each once, the first of like ones -/
def dedupA (seen : List D) : List D → List D
  | [] => []
  | x :: l => if seen.any (fun y => D.eqv y x) = true then dedupA seen l else x :: dedupA (x :: seen) l
def dedup (l : List D) : List D := dedupA [] l
/-- the signs of a written number -/
def intText (i : Int) : List Nat := (toString i).toList.map Char.toNat
/-- the number that a text writes -/
def textInt (s : List Nat) : Option Int := PySem.intText? ⟨s.toArray⟩
/-- what dict(..) takes: a list, or a tuple known to have no dict -/
def dctSrc (w : W) (S : Sto) : Option (List W) := match w with
  | .d (.tup l) => some (l.map .d)
  | w => lsOf w S
def pairsOf : List W → Sto → Option (List (Ky × W))
  | [], _ => some []
  | w :: l, S => match seqTup w S with
    | some [.d k, v] => match keyOf k with
      | some k => (pairsOf l S).map ((k, v) :: ·)
      | none => none
    | _ => none
def rangeI (lo : Int) (n : Nat) : List W := (List.range n).map fun (k : Nat) => W.d (D.int (lo + ((k : Nat) : Int)))
def smallI (i : Int) : Bool := decide (-(2 ^ 60) ≤ i) && decide (i < 2 ^ 60)
def pairDs : List W → List W → Option (List D)
  | .d x :: l, .d y :: m => (pairDs l m).map (.tup [x, y] :: ·)
  | [], [] => some []
  | _, _ => none
/-- what zip takes in tuple(zip(..)): a list, a tuple, a text -/
def zipSrc (w : W) (S : Sto) : Option (List W) := match w with
  | .d (.str s) => some (s.map fun c => .d (.str [c]))
  | w => seqOf w S
def enumDs : Nat → List W → Option (List D)
  | _, [] => some []
  | k, .d x :: l => (enumDs (k + 1) l).map (.tup [.int k, x] :: ·)
  | _, _ => none
/-- its class: 0 None, 1 bool, 2 int, 3 str, 4 tuple, 5 list, 6 dict -/
def classOf (w : W) (S : Sto) : Option Nat := match w with
  | .d .non => some 0
  | .d (.bl _) => some 1
  | .d (.int _) => some 2
  | .d (.str _) => some 3
  | .d (.tup _) => some 4
  | .d (.lst _) => some 5
  | .d (.dct _ _) => some 6
  | .d _ => none
  | .ref n => match S[n]? with
    | some (.lst _) => some 5
    | some (.tup _) => some 4
    | some (.dct _) => some 6
    | _ => none
def isKind (f : BF) (c : Nat) : Option Bool := match f with
  | .isInt => some (c == 2 || c == 1)
  | .isBool => some (c == 1)
  | .isStr => some (c == 3)
  | .isTup => some (c == 4)
  | .isLst => some (c == 5)
  | _ => none
def isRes (f : BF) (w : W) (S : Sto) : R W := match (classOf w S).bind (isKind f) with
  | some b => okRes b S
  | none => .bad
def builtin (f : BF) (fz : Bool) (l : List W) (S : Sto) : R W := match f, l with
  | .len, [.d (.str s)] => .ok (.d (.int s.length)) S
  | .len, [w] => match seqOf w S with
    | some l => .ok (.d (.int l.length)) S
    | none => match dictOf w S with
      | some l => .ok (.d (.int l.length)) S
      | none => .bad
  | .all, [w] => match binop.lstOf w S with
    | some l => match bools l with
      | some bs => okRes (bs.all id) S
      | none => .bad
    | none => .bad
  | .any, [w] => match binop.lstOf w S with
    | some l => match bools l with
      | some bs => okRes (bs.any id) S
      | none => .bad
    | none => .bad
  | .abs, [.d (.int i)] => .ok (.d (.int (if i < 0 then -i else i))) S
  | .max2, [.d (.int i), .d (.int j)] => .ok (.d (.int (if j > i then j else i))) S
  | .min2, [.d (.int i), .d (.int j)] => .ok (.d (.int (if j < i then j else i))) S
  | .max1, [w] => match (binop.lstOf w S).bind intsOf with
    | some (i :: l) => .ok (.d (.int (maxI i l))) S
    | _ => .bad
  | .min1, [w] => match (binop.lstOf w S).bind intsOf with
    | some (i :: l) => .ok (.d (.int (minI i l))) S
    | _ => .bad
  | .min1d, [w, .d (.int z)] => match (binop.lstOf w S).bind intsOf with
    | some (i :: l) => .ok (.d (.int (minI i l))) S
    | some [] => .ok (.d (.int z)) S
    | _ => .bad
  | .sum, [w] => match (binop.lstOf w S).bind intsOf with
    | some l => .ok (.d (.int (sumI l))) S
    | none => .bad
  | .sorted, [w] => match (match seqOf w S with
      | some l => datas l
      | none => (dictOf w S).map fun l => l.map fun kv => keyD kv.1) with
    | some ds => match sortD ds with
      | some es => mkL fz (es.map .d) S
      | none => .bad
    | none => .bad
  | .sortedSet, [w] => match (seqOf w S).bind datas with
    | some ds => match sortD (dedup ds) with
      | some es => mkL fz (es.map .d) S
      | none => .bad
    | none => .bad
  | .tuple, [w] => match seqTup w S with
    | some _ => .ok w S
    | none => match lsOf w S with
      | some l => mkT l S
      | none => .bad
  | .list, [.d (.str s)] => mkL fz (s.map fun c => .d (.str [c])) S
  | .list, [w] => match seqOf w S with
    | some l => mkL fz l S
    | none => match dictOf w S with
      | some l => mkL fz (l.map fun kv => .d (keyD kv.1)) S
      | none => .bad
  | .dict, [w] => match dictOf w S with
    | some l => mkD fz l S
    | none => match (dctSrc w S).bind fun l => pairsOf l S with
      | some l => mkD fz (putAll [] l) S
      | none => .bad
  | .str, [.d (.int i)] => if i.natAbs < BIG ∧ (intText i).length ≤ LIM then .ok (.d (.str (intText i))) S else .bad
  | .str, [.d (.str s)] => .ok (.d (.str s)) S
  | .int, [.d (.bl b)] => .ok (.d (.int (if b = true then 1 else 0))) S
  | .int, [.d (.str s)] => match textInt s with
    | some n => if s.length ≤ 600 then .ok (.d (.int n)) S else .bad
    | none => .bad
  | .repr, [w] => match w.flat S with
    | some x => if okD x && x.intsOk 30 && isSq x && decide (x.shown.length ≤ LIM) then .ok (.d (.str x.shown)) S else .bad
    | none => .bad
  | .tupZip, [a, b] => match (zipSrc a S), (zipSrc b S) with
    | some l, some m => match pairDs l m with
      | some ds => .ok (.d (.tup ds)) S
      | none => .bad
    | _, _ => .bad
  | .lstEnum, [a] => match (seqOf a S).bind (enumDs 0) with
    | some ds => mkL fz (ds.map .d) S
    | none => .bad
  | .lstRange, [.d (.int n)] => if n ≤ LIM then mkL fz (rangeI 0 n.toNat) S else .bad
  | .tupRange2, [.d (.int lo), .d (.int hi)] => if smallI lo && smallI hi && decide (hi - lo ≤ LIM) then mkT (rangeI lo (hi - lo).toNat) S else .bad
  | .isInt, [w] => isRes .isInt w S
  | .isBool, [w] => isRes .isBool w S
  | .isStr, [w] => isRes .isStr w S
  | .isTup, [w] => isRes .isTup w S
  | .isLst, [w] => isRes .isLst w S
  | _, _ => .bad
def textAt (w : W) : Option (List Nat) := match w with
  | .d (.str s) => some s
  | _ => none
/-- the place of the first like one -/
def findAt (x : D) : Nat → List D → Option Nat
  | _, [] => none
  | k, y :: l => if D.eqv y x = true then some k else findAt x (k + 1) l
def countOf (x : D) (l : List D) : Nat := (l.filter fun y => D.eqv y x).length
def cellL (w : W) (S : Sto) : Option (Nat × List W) := match w with
  | .ref n => match S[n]? with
    | some (.lst l) => some (n, l)
    | _ => none
  | _ => none
def cellD (w : W) (S : Sto) : Option (Nat × List (Ky × W)) := match w with
  | .ref n => match S[n]? with
    | some (.dct l) => some (n, l)
    | _ => none
  | _ => none
def nonR (S : Sto) : R W := .ok (.d .non) S
def method (m : MF) (fz : Bool) (o : W) (l : List W) (S : Sto) : R W := match m, l with
  | .append, [x] => match cellL o S with
    | some (n, l) => if l.length < LIM then nonR (S.set n (.lst (l ++ [x]))) else .bad
    | none => .bad
  | .extend, [x] => match cellL o S, cellL x S with
    | some (n, l), some (_, m) => if l.length + m.length ≤ LIM then nonR (S.set n (.lst (l ++ m))) else .bad
    | _, _ => .bad
  | .insert, [.d (.int i), x] => match cellL o S with
    | some (n, l) => if l.length < LIM ∧ 0 ≤ i ∧ i ≤ 1000000 then nonR (S.set n (.lst (l.take i.toNat ++ [x] ++ l.drop i.toNat))) else .bad
    | none => .bad
  | .pop0, [] => match cellL o S with
    | some (n, l) => match l.getLast? with
      | some w => .ok w (S.set n (.lst l.dropLast))
      | none => .bad
    | none => .bad
  | .pop1, [.d (.int i)] => match cellL o S with
    | some (n, l) => match ixN l.length i with
      | some k => match l[k]? with
        | some w => .ok w (S.set n (.lst (l.eraseIdx k)))
        | none => .bad
      | none => .bad
    | none => .bad
  | .remove, [.d x] => match cellL o S with
    | some (n, l) => match datas l with
      | some ds => if okD x && ds.all okD then (match findAt x 0 ds with
        | some k => nonR (S.set n (.lst (l.eraseIdx k)))
        | none => .bad) else .bad
      | none => .bad
    | none => .bad
  | .count, [.d x] => match (seqOf o S).bind datas with
    | some ds => if okD x && ds.all okD then .ok (.d (.int (countOf x ds))) S else .bad
    | none => .bad
  | .index, [.d x] => match (seqOf o S).bind datas with
    | some ds => if okD x && ds.all okD then (match findAt x 0 ds with
        | some k => .ok (.d (.int k)) S
        | none => .bad) else .bad
    | none => .bad
  | .join, [x] => match o, (seqOf x S).bind texts with
    | .d (.str sep), some ts => if (ts.map List.length).sum + ts.length * sep.length ≤ LIM then .ok (.d (.str (TL.joinL sep ts))) S else .bad
    | _, _ => .bad
  | .split, [.d (.str sep)] => match o with
    | .d (.str a) => if sep ≠ [] ∧ sep.all (· < 256) = true then mkL fz ((TL.spl sep 0 [] a).map fun t => .d (.str t)) S else .bad
    | _ => .bad
  | .partition, [.d (.str sep)] => match o with
    | .d (.str a) => if sep ≠ [] then (match TL.par sep [] a with
      | some (p, q) => .ok (.ref S.length) (S ++ [.tup [.d (.str p), .d (.str sep), .d (.str q)]])
      | none => .ok (.ref S.length) (S ++ [.tup [.d (.str a), .d (.str []), .d (.str [])]])) else .bad
    | _ => .bad
  | .get1, [.d k] => match dictOf o S, keyOf k with
    | some l, some k => .ok ((lookK l k).getD (.d .non)) S
    | _, _ => .bad
  | .get2, [.d k, x] => match dictOf o S, keyOf k with
    | some l, some k => .ok ((lookK l k).getD x) S
    | _, _ => .bad
  | .update, [x] => match cellD o S, dictOf x S with
    | some (n, l), some m => if l.length + m.length ≤ LIM then nonR (S.set n (.dct (putAll l m))) else .bad
    | _, _ => .bad
  | _, _ => .bad
def isStrW : W → Bool
  | .d (.str _) => true
  | _ => false
/-- is the thing of the kind that the method is of -/
def kindOk (m : MF) (w : W) (S : Sto) : Bool := match m with
  | .append | .extend | .insert | .pop0 | .pop1 | .remove | .count | .index => (lsOf w S).isSome
  | .join | .split | .partition => isStrW w
  | .get1 | .get2 | .values | .update => (dictOf w S).isSome
/-- o[i] = v -/
def setAt (o i v : W) (S : Sto) : Option Sto := match cellL o S with
  | some (n, l) => match i with
    | .d (.int i) => (ixN l.length i).map fun k => S.set n (.lst (l.set k v))
    | _ => none
  | none => match cellD o S, i with
    | some (n, l), .d k => (keyOf k).bind fun k => if l.length < LIM then some (S.set n (.dct (putK l k v))) else none
    | _, _ => none
def putF (f : List Nat) (w : W) : List (List Nat × W) → List (List Nat × W)
  | [] => [(f, w)]
  | (g, x) :: r => if g = f then (g, w) :: r else (g, x) :: putF f w r
def setF (o : W) (f : List Nat) (v : W) (S : Sto) : Option Sto := match o with
  | .ref n => match S[n]? with
    | some (.ins c fs) => if fs.length < 900 then some (S.set n (.ins c (putF f v fs))) else none
    | _ => none
  | _ => none
/-- the thing frozen: its cell is given up -/
def frzW (w : W) (S : Sto) : R W := match w with
  | .d x => .ok (.d x) S
  | .ref n => match S[n]? with
    | some (.lst l) => match datas l with
      | some ds => .ok (.d (.lst ds)) (S.set n .dead)
      | none => .bad
    | some (.dct l) => match datas (l.map (·.2)) with
      | some ds => .ok (.d (.dct (l.map (·.1)) ds)) (S.set n .dead)
      | none => .bad
    | _ => .bad

/-! ### targets of names -/
mutual
def patSet : P → W → Sto → Rho → Option Rho
  | .name i, w, _, ρ => some (ρ.set i (some w))
  | .tup ps, w, S, ρ => match seqTup w S with
    | some ws => patSets ps ws S ρ
    | none => none
def patSets : List P → List W → Sto → Rho → Option Rho
  | [], [], _, ρ => some ρ
  | p :: ps, w :: ws, S, ρ => match patSet p w S ρ with
    | some ρ' => patSets ps ws S ρ'
    | none => none
  | _, _, _, _ => none
end
mutual
def patIx : P → List Nat
  | .name i => [i]
  | .tup ps => patIxs ps
def patIxs : List P → List Nat
  | [] => []
  | p :: ps => patIx p ++ patIxs ps
end
/-- an item of what a for walks: one thing, a pair that is taken apart, or the i-th of a list that must keep its length -/
inductive Item where
  | one (w : W) | two (a b : W) | live (n i len : Nat)
def itemSet (p : P) (it : Item) (S : Sto) (ρ : Rho) : Option Rho := match it, p with
  | .one w, p => patSet p w S ρ
  | .two a b, .tup [p, q] => (patSet p a S ρ).bind fun ρ' => patSet q b S ρ'
  | .two _ _, _ => none
  | .live n i len, p => match S[n]? with
    | some (.lst l) => if l.length = len then (match l[i]? with
      | some w => patSet p w S ρ
      | none => none) else none
    | _ => none
/-- behind the last item -/
def finOk (f : Option (Nat × Nat)) (S : Sto) : Bool := match f with
  | none => true
  | some (n, len) => match S[n]? with
    | some (.lst l) => l.length == len
    | _ => false
def zipI : List W → List W → List Item
  | a :: l, b :: m => .two a b :: zipI l m
  | _, _ => []
def enumI : Nat → List W → List Item
  | _, [] => []
  | k, a :: l => .two (.d (.int k)) a :: enumI (k + 1) l
/-- lo, lo + c, .. (n of them) -/
def stepI (lo c : Int) (n : Nat) : List Item := (List.range n).map fun (k : Nat) => .one (.d (.int (lo + ((k : Nat) : Int) * c)))
def liveI (n len : Nat) : List Item := (List.range len).map fun i => .live n i len
def itemsOf (k : IK) (l : List W) (S : Sto) : Option (List Item × Option (Nat × Nat)) := match k, l with
  | .seq, [.d (.str s)] => some (s.map fun c => .one (.d (.str [c])), none)
  | .seq, [.d (.dct ks _)] => some (ks.map fun k => .one (.d (keyD k)), none)
  | .seq, [w] => match cellL w S with
    | some (n, l) => some (liveI n l.length, some (n, l.length))
    | none => (fixOf w S).map fun l => (l.map .one, none)
  | .range1, [.d (.int n)] => if smallI n = true then some ((rangeI 0 n.toNat).map .one, none) else none
  | .range2, [.d (.int lo), .d (.int hi)] => if smallI lo && smallI hi then some ((rangeI lo (hi - lo).toNat).map .one, none) else none
  | .range3, [.d (.int lo), .d (.int hi), .d (.int c)] => if smallI lo && smallI hi && (c == -1) then some (stepI lo c (lo - hi).toNat, none) else none
  | .zip, [a, b] => match fixOf a S, fixOf b S with
    | some l, some m => some (zipI l m, none)
    | _, _ => none
  | .enum, [a] => (fixOf a S).map fun l => (enumI 0 l, none)
  | _, _ => none

/-! ### calls -/
def refsOf : List W → List Nat
  | [] => []
  | .ref n :: l => n :: refsOf l
  | .d _ :: l => refsOf l
/-- the arguments, the cells among them numbered anew -/
def renum : Nat → List W → List W
  | _, [] => []
  | k, .ref _ :: l => .ref k :: renum (k + 1) l
  | k, .d x :: l => .d x :: renum k l
def flatO : O → Bool
  | .lst l => (datas l).isSome
  | .dct l => (datas (l.map (·.2))).isSome
  | _ => false
def getAll (S : Sto) : List Nat → Option Sto
  | [] => some []
  | n :: l => match S[n]? with
    | some o => if flatO o = true then (getAll S l).map (o :: ·) else none
    | none => none
def putBack (S : Sto) : List Nat → Sto → Sto
  | n :: l, o :: T => putBack (S.set n o) l T
  | _, _ => S
/-- a call that sees no cells but those handed in, and hands back data alone -/
def callLoc (f : FnS) (ws : List W) (S : Sto) : R W := match getAll S (refsOf ws) with
  | some T => if decide (refsOf ws).Nodup then (match f (renum 0 ws) T with
    | .ok (.d x) T' => if (T'.take (refsOf ws).length).all flatO && decide ((refsOf ws).length ≤ T'.length) then .ok (.d x) (putBack S (refsOf ws) T') else .bad
    | .ok _ _ => .bad
    | .exc c fs T' => if (T'.take (refsOf ws).length).all flatO && decide ((refsOf ws).length ≤ T'.length) && (datas (fs.map (·.2))).isSome then .exc c fs (putBack S (refsOf ws) T') else .bad
    | .bad => .bad) else .bad
  | none => .bad

/-! ### expressions -/
structure Tab where
  fns : Nat → FnS
  glb : Nat → Option D
def truth (w : W) (S : Sto) : R Bool := match w with
  | .d (.bl b) => .ok b S
  | _ => .bad
def wipeE (ρ : Rho) : List Nat → Rho
  | [] => ρ
  | v :: vs => (wipeE ρ vs).set v none
/-- a comprehension's turns -/
def compL (step : Item → Sto → R (Option W)) (f : Option (Nat × Nat)) : List Item → List W → Sto → R (List W)
  | [], acc, S => if finOk f S = true then .ok acc S else .bad
  | it :: l, acc, S => (step it S).bind fun r S' => match r with
    | some w => if acc.length < LIM then compL step f l (acc ++ [w]) S' else .bad
    | none => compL step f l acc S'
/-- no error is served here -/
def R.noX {α : Type} (r : R α) : R α := match r with
  | .ok a S => .ok a S
  | _ => .bad
mutual
def ev (t : Tab) : E → Rho → Sto → R W
  | .var i, ρ, S => match ρ[i]? with
    | some (some w) => .ok w S
    | _ => .bad
  | .int i, _, S => .ok (.d (.int i)) S
  | .bl b, _, S => .ok (.d (.bl b)) S
  | .non, _, S => .ok (.d .non) S
  | .str s, _, S => .ok (.d (.str s)) S
  | .glob k, _, S => match t.glb k with
    | some x => .ok (.d x) S
    | none => .bad
  | .fnv i, _, S => .ok (.d (.fn i)) S
  | .bin op fz a b, ρ, S => (ev t a ρ S).bind fun x S => (ev t b ρ S).bind fun y S => binop op fz x y S
  | .neg a, ρ, S => (ev t a ρ S).bind fun x S => match x with
    | .d (.int i) => .ok (.d (.int (-i))) S
    | _ => .bad
  | .cmp op a b, ρ, S => (ev t a ρ S).bind fun x S => (ev t b ρ S).bind fun y S => cmpop op x y S
  | .chain op op' a b c, ρ, S => (ev t a ρ S).bind fun x S => (ev t b ρ S).bind fun y S => (cmpop op x y S).bind fun r S => (truth r S).bind fun k S =>
      if k = true then (ev t c ρ S).bind fun z S => cmpop op' y z S else .ok (.d (.bl false)) S
  | .and l, ρ, S => evAnd t l ρ S
  | .or l, ρ, S => evOr t l ρ S
  | .not a, ρ, S => (ev t a ρ S).bind fun x S => (truth x S).bind fun k S => .ok (.d (.bl (!k))) S
  | .ite c a b, ρ, S => (ev t c ρ S).bind fun x S => (truth x S).bind fun k S => if k = true then ev t a ρ S else ev t b ρ S
  | .tup l, ρ, S => (evs t l ρ S).bind fun ws S => mkT ws S
  | .lst fz l, ρ, S => (evs t l ρ S).bind fun ws S => mkL fz ws S
  | .dict fz ks vs, ρ, S => (evs t ks ρ S).bind fun ks S => (evs t vs ρ S).bind fun vs S => match (datas ks).bind fun ds => ds.mapM keyOf with
    | some kk => mkD fz (putAll [] (kk.zip vs)) S
    | none => .bad
  | .ix a i, ρ, S => (ev t a ρ S).bind fun x S => (ev t i ρ S).bind fun y S => index x y S
  | .slFrom fz a lo, ρ, S => (ev t a ρ S).bind fun x S => (ev t lo ρ S).bind fun y S => match y with
    | .d (.int i) => slice fz x (some i) none S
    | _ => .bad
  | .slTo fz a hi, ρ, S => (ev t a ρ S).bind fun x S => (ev t hi ρ S).bind fun y S => match y with
    | .d (.int i) => slice fz x none (some i) S
    | _ => .bad
  | .slMid fz a lo hi, ρ, S => (ev t a ρ S).bind fun x S => (ev t lo ρ S).bind fun y S => match y with
    | .d (.int i) => (ev t hi ρ S).bind fun z S => match z with
      | .d (.int j) => slice fz x (some i) (some j) S
      | _ => .bad
    | _ => .bad
  | .slRev fz a, ρ, S => (ev t a ρ S).bind fun x S => match binop.lstOf x S with
    | some l => mkL fz l.reverse S
    | none => .bad
  | .bc f fz l, ρ, S => (evs t l ρ S).bind fun ws S => builtin f fz ws S
  | .mt m fz o l, ρ, S => (ev t o ρ S).bind fun x S => if kindOk m x S = true then (evs t l ρ S).bind fun ws S => method m fz x ws S else .bad
  | .call loc i l, ρ, S => (evs t l ρ S).bind fun ws S => if loc = true then callLoc (t.fns i) ws S else t.fns i ws S
  | .callv i l, ρ, S => match ρ[i]? with
    | some (some (.d (.fn j))) => (evs t l ρ S).bind fun ws S => callLoc (t.fns j) ws S
    | _ => .bad
  | .comp fz p k its cs e, ρ, S => (evs t its ρ S).bind fun ws S => match itemsOf k ws S with
    | some items => (compL (fun it S => match itemSet p it S (wipeE ρ (patIx p)) with
        | some ρ' => (evConds t cs ρ' S).bind fun b S => if b = true then (ev t e ρ' S).bind fun w S => .ok (some w) S else .ok none S
        | none => .bad) items.2 items.1 [] S).noX.bind fun r S => mkL fz r S
    | none => .bad
  | .attr o f, ρ, S => (ev t o ρ S).bind fun x S => match x with
    | .ref n => match S[n]? with
      | some (.ins _ fs) | some (.exc _ fs) => match fs.lookup f with
        | some w => .ok w S
        | none => .bad
      | _ => .bad
    | _ => .bad
  | .make c i l, ρ, S => (evs t l ρ S).bind fun ws S => match t.fns i (.ref S.length :: ws) (S ++ [.ins c []]) with
    | .ok (.d .non) S' => .ok (.ref S.length) S'
    | .exc c fs S' => .exc c fs S'
    | _ => .bad
  | .mcall c i o l, ρ, S => (ev t o ρ S).bind fun x S => match x with
    | .ref n => match S[n]? with
      | some (.ins c' _) => if c = c' then (evs t l ρ S).bind fun ws S => t.fns i (.ref n :: ws) S else .bad
      | _ => .bad
    | _ => .bad
  | .err _ _, _, _ => .bad
  | .frz a, ρ, S => (ev t a ρ S).bind fun x S => frzW x S
def evs (t : Tab) : List E → Rho → Sto → R (List W)
  | [], _, S => .ok [] S
  | e :: l, ρ, S => (ev t e ρ S).bind fun w S => (evs t l ρ S).bind fun ws S => .ok (w :: ws) S
def evAnd (t : Tab) : List E → Rho → Sto → R W
  | [], _, _ => .bad
  | [e], ρ, S => ev t e ρ S
  | e :: e' :: l, ρ, S => (ev t e ρ S).bind fun x S => (truth x S).bind fun k S => if k = true then evAnd t (e' :: l) ρ S else .ok (.d (.bl false)) S
def evOr (t : Tab) : List E → Rho → Sto → R W
  | [], _, _ => .bad
  | [e], ρ, S => ev t e ρ S
  | e :: e' :: l, ρ, S => (ev t e ρ S).bind fun x S => (truth x S).bind fun k S => if k = true then .ok (.d (.bl true)) S else evOr t (e' :: l) ρ S
def evConds (t : Tab) : List E → Rho → Sto → R Bool
  | [], _, S => .ok true S
  | e :: l, ρ, S => (ev t e ρ S).bind fun x S => (truth x S).bind fun k S => if k = true then evConds t l ρ S else .ok false S
end

/-! ### statements -/
inductive RS where
  | nx (ρ : Rho) (S : Sto) | rt (w : W) (S : Sto) | br (ρ : Rho) (S : Sto) | ct (ρ : Rho) (S : Sto) | exc (c : Nat) (fs : List (List Nat × W)) (ρ : Rho) (S : Sto) | bad
def RS.seq (r : RS) (f : Rho → Sto → RS) : RS := match r with
  | .nx ρ S => f ρ S
  | r => r
/-- from a value on -/
def R.go {α : Type} (r : R α) (ρ : Rho) (f : α → Sto → RS) : RS := match r with
  | .ok a S => f a S
  | .exc c fs S => .exc c fs ρ S
  | .bad => .bad
def RS.ofO (o : Option Rho) (S : Sto) : RS := match o with
  | some ρ => .nx ρ S
  | none => .bad
/-- a for's turns -/
def forL (turn : Item → Rho → Sto → RS) (f : Option (Nat × Nat)) : List Item → Rho → Sto → RS
  | [], ρ, S => if finOk f S = true then .nx ρ S else .bad
  | it :: l, ρ, S => match turn it ρ S with
    | .nx ρ S => forL turn f l ρ S
    | .ct ρ S => forL turn f l ρ S
    | .br ρ S => .nx ρ S
    | r => r
/-- a while's turns, so many at most -/
def whileL (test : Rho → Sto → R Bool) (body : Rho → Sto → RS) : Nat → Rho → Sto → RS
  | 0, _, _ => .bad
  | n + 1, ρ, S => (test ρ S).go ρ fun k S => if k = true then (match body ρ S with
    | .nx ρ S => whileL test body n ρ S
    | .ct ρ S => whileL test body n ρ S
    | .br ρ S => .nx ρ S
    | r => r) else .nx ρ S
def evT (t : Tab) (e : E) (ρ : Rho) (S : Sto) : R Bool := (ev t e ρ S).bind fun w S => truth w S
mutual
def asgG (t : Tab) : G → W → Rho → Sto → RS
  | .pat p, w, ρ, S => RS.ofO (patSet p w S ρ) S
  | .sub o i, w, ρ, S => (ev t o ρ S).go ρ fun x S => (ev t i ρ S).go ρ fun y S => match setAt x y w S with
    | some S => .nx ρ S
    | none => .bad
  | .attr o f, w, ρ, S => (ev t o ρ S).go ρ fun x S => match setF x f w S with
    | some S => .nx ρ S
    | none => .bad
  | .tup gs, w, ρ, S => match seqTup w S with
    | some ws => asgGs t gs ws ρ S
    | none => .bad
def asgGs (t : Tab) : List G → List W → Rho → Sto → RS
  | [], [], ρ, S => .nx ρ S
  | g :: gs, w :: ws, ρ, S => (asgG t g w ρ S).seq fun ρ S => asgGs t gs ws ρ S
  | _, _, _, _ => .bad
end
def setMany : List Nat → List W → Rho → Option Rho
  | [], [], ρ => some ρ
  | i :: is, w :: ws, ρ => setMany is ws (ρ.set i (some w))
  | _, _, _ => none
mutual
def ex (t : Tab) : T → Rho → Sto → RS
  | .asg g e, ρ, S => (ev t e ρ S).go ρ fun w S => asgG t g w ρ S
  | .par is es, ρ, S => (evs t es ρ S).go ρ fun ws S => RS.ofO (setMany is ws ρ) S
  | .ex e, ρ, S => (ev t e ρ S).go ρ fun _ S => .nx ρ S
  | .ret e, ρ, S => (ev t e ρ S).go ρ fun w S => .rt w S
  | .retN, _, S => .rt (.d .non) S
  | .ite c a b, ρ, S => (evT t c ρ S).go ρ fun k S => if k = true then exs t a ρ S else exs t b ρ S
  | .for p k its b, ρ, S => (evs t its ρ S).go ρ fun ws S => match itemsOf k ws S with
    | some items => forL (fun it ρ S => (RS.ofO (itemSet p it S ρ) S).seq fun ρ S => exs t b ρ S) items.2 items.1 ρ S
    | none => .bad
  | .whl n c b, ρ, S => whileL (evT t c) (exs t b) n ρ S
  | .brk, ρ, S => .br ρ S
  | .cnt, ρ, S => .ct ρ S
  | .pass, ρ, S => .nx ρ S
  | .raise c l, ρ, S => (evs t l ρ S).go ρ fun _ _ => .bad
  | .try _ _ _ _, _, _ => .bad
def exs (t : Tab) : List T → Rho → Sto → RS
  | [], ρ, S => .nx ρ S
  | s :: l, ρ, S => (ex t s ρ S).seq fun ρ S => exs t l ρ S
end
/-- a def: so many parameters, so many names in all -/
structure Fd where
  np : Nat
  nl : Nat
  body : List T
def runFd (t : Tab) (f : Fd) : FnS := fun ws S => if ws.length = f.np then (match exs t f.body (ws.map some ++ List.replicate (f.nl - f.np) none) S with
  | .rt w S => .ok w S
  | .nx _ S => .ok (.d .non) S
  | .exc c fs _ S => .exc c fs S
  | _ => .bad) else .bad
end LD
/-! LD1: what a value of the interpreter stands for in the layer's heap, and how the two go on together. -/
namespace LD
open PySem L2

/-- what is written: the module's objects, where the defs and the classes stand -/
structure Cn where
  K : PySem.W.Frag
  fa : Nat → Addr
  ca : Nat → Addr
def sT (s : List Nat) : Str := ⟨s.toArray⟩
def ky : Ky → Key
  | .inl i => .inl i
  | .inr s => .inr (sT s)
theorem sT_inj {a b : List Nat} (h : sT a = sT b) : a = b := by
  have h1 := congrArg (fun s : Str => s.cps.toList) h
  exact h1
theorem ky_inj {a b : Ky} (h : ky a = ky b) : a = b := by
  cases a with
  | inl i => cases b with
    | inl j => injection h with h; rw [h]
    | inr j => cases h
  | inr i => cases b with
    | inl j => cases h
    | inr j => injection h with h; rw [sT_inj h]
/-- a key that is no longer text than texts are -/
def kyOk : Ky → Prop
  | .inl _ => True
  | .inr s => s.length ≤ LIM
/-- a list of the written part -/
def KL (K : PySem.W.Frag) (a : Addr) (xs : List V) : Prop := ∀ H : Hp, SqL K H a xs
/-- a list that never changes -/
def FzL (H : Hp) (a : Addr) (xs : List V) : Prop := ∃ o, H a = some (.frz o (.lst xs))
/-- the script -/
def ScL (K : PySem.W.Frag) (H : Hp) (a : Addr) (xs : List V) : Prop := FzL H a xs ∨ KL K a xs
/-- a tuple that never changes, known to have no dict -/
def NdT (K : PySem.W.Frag) (H : Hp) (a : Addr) (xs : List V) : Prop := (∃ o : Obj, H a = some (.frz o (.tup xs)) ∧ o.dict = none) ∨
  ∃ (o : Obj) (its : Array Value) (n : Nat), K.lookup a = some o ∧ o.cls = .type "tuple" ∧ o.dict = none ∧ o.data = .seq its n ∧ its.size ≤ sizeLine ∧ Vals xs its.toList
theorem NdT.sqt {K : PySem.W.Frag} {H : Hp} {a : Addr} {xs : List V} (h : NdT K H a xs) : SqT K H a xs := by
  rcases h with ⟨o, h, _⟩ | ⟨o, its, n, h1, h2, _, h3, h4, h5⟩
  · exact .inl (.inr ⟨o, h⟩)
  · exact .inr ⟨o, its, n, h1, h2, h3, h4, h5⟩
def FzD (H : Hp) (a : Addr) (kvs : List (Key × V)) : Prop := ∃ o, H a = some (.frz o (.dK kvs))
theorem FzL.sql {K : PySem.W.Frag} {H : Hp} {a : Addr} {xs : List V} (h : FzL H a xs) : SqL K H a xs := by
  obtain ⟨o, h⟩ := h
  exact .inl (.inr ⟨o, h⟩)
theorem ScL.sql {K : PySem.W.Frag} {H : Hp} {a : Addr} {xs : List V} (h : ScL K H a xs) : SqL K H a xs := by
  rcases h with h | h
  · exact h.sql
  · exact h H
mutual
def RpD (C : Cn) (H : Hp) : D → V → Prop
  | .non, v => v = .non
  | .bl b, v => v = .bl b
  | .int i, v => v = .int i
  | .str s, v => v = .str (sT s) ∧ s.length ≤ LIM
  | .tup l, v => ∃ a xs, v = .ref a ∧ NdT C.K H a xs ∧ RpDs C H l xs
  | .lst l, v => ∃ a xs, v = .ref a ∧ FzL H a xs ∧ RpDs C H l xs
  | .dct ks vs, v => ∃ a kvs, v = .ref a ∧ FzD H a kvs ∧ kvs.map (·.1) = ks.map ky ∧ (∀ k ∈ ks, kyOk k) ∧ RpDs C H vs (kvs.map (·.2))
  | .fn i, v => v = .ref (C.fa i)
  | .scr ns, v => ∃ a, v = .ref a ∧ ScL C.K H a (ns.map V.int)
def RpDs (C : Cn) (H : Hp) : List D → List V → Prop
  | [], xs => xs = []
  | x :: l, xs => ∃ y ys, xs = y :: ys ∧ RpD C H x y ∧ RpDs C H l ys
end
/-- objects that never change -/
def Stab : HO → Prop
  | .tup _ => True
  | .frz _ _ => True
  | _ => False
def Keeps (H H' : Hp) : Prop := ∀ a o, H a = some o → Stab o → H' a = some o
theorem Keeps.refl {H : Hp} : Keeps H H := fun _ _ h _ => h
theorem Keeps.trans {H H1 H2 : Hp} (a : Keeps H H1) (b : Keeps H1 H2) : Keeps H H2 := fun c o h s => b c o (a c o h s) s
theorem Keeps.sqt {K : PySem.W.Frag} {H H' : Hp} {a : Addr} {xs : List V} (k : Keeps H H') (h : SqT K H a xs) : SqT K H' a xs := by
  rcases h with (h | ⟨o, h⟩) | h
  · exact .inl (.inl (k _ _ h trivial))
  · exact .inl (.inr ⟨o, k _ _ h trivial⟩)
  · exact .inr h
theorem Keeps.ndt {K : PySem.W.Frag} {H H' : Hp} {a : Addr} {xs : List V} (k : Keeps H H') (h : NdT K H a xs) : NdT K H' a xs := by
  rcases h with ⟨o, h, d⟩ | h
  · exact .inl ⟨o, k _ _ h trivial, d⟩
  · exact .inr h
theorem Keeps.fzl {H H' : Hp} {a : Addr} {xs : List V} (k : Keeps H H') (h : FzL H a xs) : FzL H' a xs := by
  obtain ⟨o, h⟩ := h
  exact ⟨o, k _ _ h trivial⟩
theorem Keeps.scl {K : PySem.W.Frag} {H H' : Hp} {a : Addr} {xs : List V} (k : Keeps H H') (h : ScL K H a xs) : ScL K H' a xs := by
  rcases h with h | h
  · exact .inl (k.fzl h)
  · exact .inr h
theorem Keeps.fzd {H H' : Hp} {a : Addr} {xs : List (Key × V)} (k : Keeps H H') (h : FzD H a xs) : FzD H' a xs := by
  obtain ⟨o, h⟩ := h
  exact ⟨o, k _ _ h trivial⟩
mutual
theorem RpD.mono {C : Cn} {H H' : Hp} (k : Keeps H H') : ∀ {x : D} {v : V}, RpD C H x v → RpD C H' x v
  | .non, _, h => by simp only [RpD] at h ⊢; exact h
  | .bl _, _, h => by simp only [RpD] at h ⊢; exact h
  | .int _, _, h => by simp only [RpD] at h ⊢; exact h
  | .str _, _, h => by simp only [RpD] at h ⊢; exact h
  | .tup l, _, h => by
    simp only [RpD] at h ⊢
    obtain ⟨a, xs, e, h1, h2⟩ := h
    exact ⟨a, xs, e, k.ndt h1, RpDs.mono k h2⟩
  | .lst l, _, h => by
    simp only [RpD] at h ⊢
    obtain ⟨a, xs, e, h1, h2⟩ := h
    exact ⟨a, xs, e, k.fzl h1, RpDs.mono k h2⟩
  | .dct ks vs, _, h => by
    simp only [RpD] at h ⊢
    obtain ⟨a, xs, e, h1, h2, h4, h3⟩ := h
    exact ⟨a, xs, e, k.fzd h1, h2, h4, RpDs.mono k h3⟩
  | .fn _, _, h => by simp only [RpD] at h ⊢; exact h
  | .scr _, _, h => by
    simp only [RpD] at h ⊢
    obtain ⟨a, e, h1⟩ := h
    exact ⟨a, e, k.scl h1⟩
theorem RpDs.mono {C : Cn} {H H' : Hp} (k : Keeps H H') : ∀ {l : List D} {xs : List V}, RpDs C H l xs → RpDs C H' l xs
  | [], _, h => by simp only [RpDs] at h ⊢; exact h
  | x :: l, _, h => by
    simp only [RpDs] at h ⊢
    obtain ⟨y, ys, e, h1, h2⟩ := h
    exact ⟨y, ys, e, RpD.mono k h1, RpDs.mono k h2⟩
end
theorem rpDs_iff {C : Cn} {H : Hp} : ∀ {l : List D} {xs : List V}, RpDs C H l xs ↔ Paired (RpD C H) l xs
  | [], xs => by
    simp only [RpDs]
    constructor
    · rintro rfl; exact .nil
    · intro h; cases h; rfl
  | x :: l, xs => by
    simp only [RpDs]
    constructor
    · rintro ⟨y, ys, rfl, h1, h2⟩; exact .cons h1 (rpDs_iff.mp h2)
    · intro h
      cases h with
      | cons h1 h2 => exact ⟨_, _, rfl, h1, rpDs_iff.mpr h2⟩

/-- a value: data, or the cell's address -/
def WRp (C : Cn) (H : Hp) (ι : Nat → Addr) (L : Nat) : W → V → Prop
  | .d x, v => RpD C H x v
  | .ref n, v => n < L ∧ v = .ref (ι n)
abbrev WRs (C : Cn) (H : Hp) (ι : Nat → Addr) (L : Nat) : List W → List V → Prop := Paired (WRp C H ι L)
def KRs (C : Cn) (H : Hp) (ι : Nat → Addr) (L : Nat) : List (Ky × W) → List (Key × V) → Prop := Paired fun p q => (q.1 = ky p.1 ∧ kyOk p.1) ∧ WRp C H ι L p.2 q.2
def FRs (C : Cn) (H : Hp) (ι : Nat → Addr) (L : Nat) : List (List Nat × W) → List (Str × V) → Prop := Paired fun p q => q.1 = sT p.1 ∧ WRp C H ι L p.2 q.2
/-- a cell's object -/
def ORp (C : Cn) (H : Hp) (ι : Nat → Addr) (L : Nat) : O → Addr → Prop
  | .lst ws, a => ∃ xs, H a = some (.lst xs) ∧ WRs C H ι L ws xs
  | .tup ws, a => ∃ xs, H a = some (.tup xs) ∧ WRs C H ι L ws xs
  | .dct l, a => ∃ kvs, H a = some (.dK kvs) ∧ KRs C H ι L l kvs
  | .ins c fs, a => ∃ dx kvs, H a = some (.ins (C.ca c) dx kvs) ∧ FRs C H ι L fs kvs
  | .exc _ _, _ => False
  | .dead, a => ∃ o u, H a = some (.frz o u)
structure Sim (C : Cn) (H : Hp) (ι : Nat → Addr) (S : Sto) : Prop where
  at' : ∀ n o, S[n]? = some o → ORp C H ι S.length o (ι n)
  inj : ∀ m n, m < S.length → n < S.length → ι m = ι n → m = n
/-- the names' values -/
structure SimE (C : Cn) (H : Hp) (ι : Nat → Addr) (L : Nat) (ρ : Rho) (σ : St) : Prop where
  len : ρ.length = σ.length
  get : ∀ (i : Nat) (w : W), ρ[i]? = some (some w) → ∃ v, σ[i]? = some (some v) ∧ WRp C H ι L w v
/-- from one state on to another one -/
structure Nx (C : Cn) (H : Hp) (ι : Nat → Addr) (S : Sto) (H' : Hp) (ι' : Nat → Addr) (S' : Sto) : Prop where
  len : S.length ≤ S'.length
  ext : ∀ n, n < S.length → ι' n = ι n
  new : ∀ n, S.length ≤ n → n < S'.length → H (ι' n) = none
  sta : Keeps H H'
  fr : ∀ a o, H a = some o → (∀ n, n < S.length → ι n ≠ a) → H' a = some o
  sim : Sim C H' ι' S'

theorem Paired.imp {α β : Type} {F G : α → β → Prop} : ∀ {l : List α} {m : List β}, Paired F l m → (∀ a b, F a b → G a b) → Paired G l m
  | _, _, .nil, _ => .nil
  | _, _, .cons h t, f => .cons (f _ _ h) (Paired.imp t f)
section
variable {C : Cn} {H H' H1 H2 : Hp} {ι ι' ι1 ι2 : Nat → Addr} {S S' S1 S2 : Sto} {L L' : Nat} {w : W} {v : V} {ws : List W} {vs : List V}
theorem WRp.mono (k : Keeps H H') (hl : L ≤ L') (he : ∀ n, n < L → ι' n = ι n) (h : WRp C H ι L w v) : WRp C H' ι' L' w v := by
  cases w with
  | d x => exact RpD.mono k h
  | ref n => obtain ⟨h1, h2⟩ := h; exact ⟨Nat.lt_of_lt_of_le h1 hl, by rw [he n h1]; exact h2⟩
theorem WRs.mono (k : Keeps H H') (hl : L ≤ L') (he : ∀ n, n < L → ι' n = ι n) (h : WRs C H ι L ws vs) : WRs C H' ι' L' ws vs := Paired.imp h fun _ _ q => q.mono k hl he
theorem KRs.mono (k : Keeps H H') (hl : L ≤ L') (he : ∀ n, n < L → ι' n = ι n) {l : List (Ky × W)} {kvs : List (Key × V)} (h : KRs C H ι L l kvs) : KRs C H' ι' L' l kvs := Paired.imp h fun _ _ q => ⟨q.1, q.2.mono k hl he⟩
theorem FRs.mono (k : Keeps H H') (hl : L ≤ L') (he : ∀ n, n < L → ι' n = ι n) {l : List (List Nat × W)} {kvs : List (Str × V)} (h : FRs C H ι L l kvs) : FRs C H' ι' L' l kvs := Paired.imp h fun _ _ q => ⟨q.1, q.2.mono k hl he⟩
theorem ORp.mono (k : Keeps H H') (hl : L ≤ L') (he : ∀ n, n < L → ι' n = ι n) {o : O} {a : Addr} (ha : ∀ u, H a = some u → H' a = some u) (h : ORp C H ι L o a) : ORp C H' ι' L' o a := by
  cases o with
  | lst ws => obtain ⟨xs, h1, h2⟩ := h; exact ⟨xs, ha _ h1, h2.mono k hl he⟩
  | tup ws => obtain ⟨xs, h1, h2⟩ := h; exact ⟨xs, ha _ h1, h2.mono k hl he⟩
  | dct l => obtain ⟨xs, h1, h2⟩ := h; exact ⟨xs, ha _ h1, h2.mono k hl he⟩
  | ins c fs => obtain ⟨dx, xs, h1, h2⟩ := h; exact ⟨dx, xs, ha _ h1, h2.mono k hl he⟩
  | exc c fs => exact h.elim
  | dead => obtain ⟨q, u, h1⟩ := h; exact ⟨q, u, ha _ h1⟩
theorem ORp.there {o : O} {a : Addr} (h : ORp C H ι L o a) : ∃ u, H a = some u := by
  cases o with
  | lst ws => obtain ⟨xs, h1, h2⟩ := h; exact ⟨_, h1⟩
  | tup ws => obtain ⟨xs, h1, h2⟩ := h; exact ⟨_, h1⟩
  | dct l => obtain ⟨xs, h1, h2⟩ := h; exact ⟨_, h1⟩
  | ins c fs => obtain ⟨dx, xs, h1, h2⟩ := h; exact ⟨_, h1⟩
  | exc c fs => exact h.elim
  | dead => obtain ⟨q, u, h1⟩ := h; exact ⟨_, h1⟩
theorem Sim.there (s : Sim C H ι S) {n : Nat} (h : n < S.length) : ∃ u, H (ι n) = some u := (s.at' n _ (List.getElem?_eq_getElem h)).there
theorem Sim.ne (s : Sim C H ι S) {p : Addr} (hp : H p = none) {n : Nat} (h : n < S.length) : ι n ≠ p := by
  obtain ⟨u, e⟩ := s.there h
  intro q
  rw [q, hp] at e
  cases e
theorem Nx.val (x : Nx C H ι S H' ι' S') (h : WRp C H ι S.length w v) : WRp C H' ι' S'.length w v := h.mono x.sta x.len x.ext
theorem Nx.vals (x : Nx C H ι S H' ι' S') (h : WRs C H ι S.length ws vs) : WRs C H' ι' S'.length ws vs := WRs.mono x.sta x.len x.ext h
theorem Nx.env (x : Nx C H ι S H' ι' S') {ρ : Rho} {σ : St} (h : SimE C H ι S.length ρ σ) : SimE C H' ι' S'.length ρ σ :=
  ⟨h.len, fun i w e => let ⟨v, h1, h2⟩ := h.get i w e; ⟨v, h1, x.val h2⟩⟩
theorem Nx.refl (s : Sim C H ι S) : Nx C H ι S H ι S :=
  ⟨Nat.le_refl _, fun _ _ => rfl, fun _ a b => absurd (Nat.lt_of_lt_of_le b a) (Nat.lt_irrefl _), Keeps.refl, fun _ _ h _ => h, s⟩
theorem Nx.trans (s : Sim C H ι S) (a : Nx C H ι S H1 ι1 S1) (b : Nx C H1 ι1 S1 H2 ι2 S2) : Nx C H ι S H2 ι2 S2 := by
  refine ⟨Nat.le_trans a.len b.len, fun n h => by rw [b.ext n (Nat.lt_of_lt_of_le h a.len), a.ext n h], fun n h1 h2 => ?_, a.sta.trans b.sta, fun c o h hn => ?_, b.sim⟩
  · by_cases hl : n < S1.length
    · rw [b.ext n hl]; exact a.new n h1 hl
    · have q := b.new n (Nat.le_of_not_lt hl) h2
      cases e : H (ι2 n) with
      | none => rfl
      | some o =>
        exfalso
        by_cases hm : ∀ m, m < S.length → ι m ≠ ι2 n
        · rw [a.fr _ o e hm] at q; cases q
        · have hm : ∃ m, m < S.length ∧ ι m = ι2 n := Classical.byContradiction fun z => hm fun m hm e => z ⟨m, hm, e⟩
          obtain ⟨m, hm, em⟩ := hm
          obtain ⟨u, hu⟩ := a.sim.there (Nat.lt_of_lt_of_le hm a.len)
          rw [a.ext m hm, em, q] at hu
          cases hu
  · refine b.fr c o (a.fr c o h hn) fun n hl e => ?_
    by_cases hs : n < S.length
    · rw [a.ext n hs] at e; exact hn n hs e
    · have q := a.new n (Nat.le_of_not_lt hs) hl
      rw [e, h] at q; cases q
/-- a new object that is no cell -/
theorem Nx.tmp (s : Sim C H ι S) {p : Addr} (hp : H p = none) (u : HO) : Nx C H ι S (upd H p u) ι S := by
  have k : Keeps H (upd H p u) := fun a o h _ => by rw [upd_ne (ne_of_none h hp)]; exact h
  refine ⟨Nat.le_refl _, fun _ _ => rfl, fun _ a b => absurd (Nat.lt_of_lt_of_le b a) (Nat.lt_irrefl _), k, fun a o h _ => by rw [upd_ne (ne_of_none h hp)]; exact h, ⟨fun n o h => ?_, s.inj⟩⟩
  exact (s.at' n o h).mono k (Nat.le_refl _) (fun _ _ => rfl) fun u' h' => by rw [upd_ne (ne_of_none h' hp)]; exact h'
/-- a new cell -/
def push (ι : Nat → Addr) (L : Nat) (p : Addr) : Nat → Addr := fun n => if n = L then p else ι n
theorem push_lt {p : Addr} {n : Nat} (h : n < L) : push ι L p n = ι n := if_neg (Nat.ne_of_lt h)
theorem push_at {p : Addr} : push ι L p L = p := if_pos rfl
theorem Nx.cell (s : Sim C H ι S) {p : Addr} (hp : H p = none) {u : HO} {o' : O} (hu : ∀ ι', (∀ n, n < S.length → ι' n = ι n) → ORp C (upd H p u) ι' (S.length + 1) o' p) : Nx C H ι S (upd H p u) (push ι S.length p) (S ++ [o']) := by
  have k : Keeps H (upd H p u) := fun a o h _ => by rw [upd_ne (ne_of_none h hp)]; exact h
  have ex : ∀ n, n < S.length → push ι S.length p n = ι n := fun n h => push_lt h
  have hl : (S ++ [o']).length = S.length + 1 := by simp
  refine ⟨by omega, ex, fun n h1 h2 => ?_, k, fun a o h _ => by rw [upd_ne (ne_of_none h hp)]; exact h, ⟨fun n o h => ?_, fun m n hm hn e => ?_⟩⟩
  · have : n = S.length := by omega
    subst this
    rw [push_at]; exact hp
  · rw [hl]
    by_cases hn : n < S.length
    · rw [List.getElem?_append_left hn] at h
      rw [ex n hn]
      exact (s.at' n o h).mono k (Nat.le_succ _) ex fun u' h' => by rw [upd_ne (ne_of_none h' hp)]; exact h'
    · have h2 : n < (S ++ [o']).length := (List.getElem?_eq_some_iff.mp h).1
      have : n = S.length := by omega
      subst this
      have e : o' = o := by simpa using h
      subst e
      rw [push_at]
      exact hu _ ex
  · by_cases h1 : m < S.length
    · by_cases h2 : n < S.length
      · rw [ex m h1, ex n h2] at e; exact s.inj m n h1 h2 e
      · have : n = S.length := by omega
        subst this
        rw [ex m h1, push_at] at e
        exact absurd e (s.ne hp h1)
    · have : m = S.length := by omega
      subst this
      by_cases h2 : n < S.length
      · rw [ex n h2, push_at] at e
        exact absurd e.symm (s.ne hp h2)
      · omega
/-- a cell written (or frozen) -/
theorem Nx.write (s : Sim C H ι S) {n : Nat} (hn : n < S.length) (hs : ∀ o, H (ι n) = some o → ¬ Stab o) {u : HO} {o' : O} (hu : ORp C (upd H (ι n) u) ι S.length o' (ι n)) : Nx C H ι S (upd H (ι n) u) ι (S.set n o') := by
  have k : Keeps H (upd H (ι n) u) := fun a o h st => by
    by_cases e : a = ι n
    · subst e; exact absurd st (hs o h)
    · rw [upd_ne e]; exact h
  refine ⟨by simp, fun _ _ => rfl, fun m h1 h2 => ?_, k, fun a o h q => by rw [upd_ne (fun e => q n hn e.symm)]; exact h, ⟨fun m o h => ?_, fun a b ha hb e => ?_⟩⟩
  · rw [List.length_set] at h2; omega
  · rw [List.length_set]
    by_cases e : m = n
    · subst e
      rw [List.getElem?_set_self hn] at h
      cases h
      exact hu
    · rw [List.getElem?_set_ne (Ne.symm e)] at h
      have hm : m < S.length := (List.getElem?_eq_some_iff.mp h).1
      have ne : ι m ≠ ι n := fun q => e (s.inj m n hm hn q)
      exact (s.at' m o h).mono k (Nat.le_refl _) (fun _ _ => rfl) fun u' h' => by rw [upd_ne ne]; exact h'
  · rw [List.length_set] at ha hb
    exact s.inj a b ha hb e
end

/-! ### what is wanted behind a computation -/
def Aft (C : Cn) (E : XK) {α β : Type} (rel : Hp → (Nat → Addr) → Nat → α → β → Prop) (r : R α) (H : Hp) (ι : Nat → Addr) (S : Sto) (Q : β → Hp → Prop) : Prop := match r with
  | .ok a S' => ∀ b H' ι', Nx C H ι S H' ι' S' → rel H' ι' S'.length a b → Q b H'
  | .exc c fs S' => ∀ d xs H' ι', Nx C H ι S H' ι' S' → H' d = some (.xd xs) → FRs C H' ι' S'.length fs xs → E (.ref (C.ca c)) (some d) H'
  | .bad => False
section
variable {C : Cn} {E : XK} {α β γ δ : Type} {rel : Hp → (Nat → Addr) → Nat → α → β → Prop} {rel2 : Hp → (Nat → Addr) → Nat → γ → δ → Prop} {H H' H1 : Hp} {ι ι' ι1 : Nat → Addr} {S S' S1 : Sto}
theorem Aft.start {r : R α} {Q : β → Hp → Prop} (s : Sim C H ι S) (x : Nx C H ι S H1 ι1 S1) (h : Aft C E rel r H ι S Q) : Aft C E rel r H1 ι1 S1 Q := by
  cases r with
  | ok a S' => exact fun b H' ι' y hr => h b H' ι' (Nx.trans s x y) hr
  | exc c fs S' => exact fun d xs H' ι' y h1 h2 => h d xs H' ι' (Nx.trans s x y) h1 h2
  | bad => exact h
theorem Aft.imp {r : R α} {Q Q' : β → Hp → Prop} (h : Aft C E rel r H ι S Q) (hq : ∀ b H', Q b H' → Q' b H') : Aft C E rel r H ι S Q' := by
  cases r with
  | ok a S' => exact fun b H' ι' y hr => hq _ _ (h b H' ι' y hr)
  | exc c fs S' => exact h
  | bad => exact h
theorem Aft.bind {r : R α} {f : α → Sto → R γ} {Q : δ → Hp → Prop} (s : Sim C H ι S) (h : Aft C E rel2 (r.bind f) H ι S Q) :
    Aft C E rel r H ι S fun b H1 => ∃ a ι1 S1, Nx C H ι S H1 ι1 S1 ∧ rel H1 ι1 S1.length a b ∧ Aft C E rel2 (f a S1) H1 ι1 S1 Q := by
  cases r with
  | ok a S' =>
    intro b H1 ι1 x hr
    exact ⟨a, ι1, S', x, hr, Aft.start s x h⟩
  | exc c fs S' => exact h
  | bad => exact h
theorem Aft.ok {a : α} {b : β} {Q : β → Hp → Prop} (s : Sim C H ι S) (hr : rel H ι S.length a b) (h : Aft C E rel (.ok a S) H ι S Q) : Q b H := h b H ι (Nx.refl s) hr
end
end LD
/-! LD2: operators, comparisons, displays, subscripts: each keeps what the interpreter says. -/
namespace LD
open PySem L2

section
variable {X : Cx} {C : Cn} {E : XK}
theorem peImp {e : Expr} {t u : TE} (h : PE X e t) (i : ∀ σ H Q, u σ H Q → t σ H Q) : PE X e u := ⟨fun pins s σ H Q I q => h.run pins s σ H Q I (i σ H Q q)⟩
theorem ptImp {e : Expr} {t u : TT} (h : PT X e t) (i : ∀ σ H Q, u σ H Q → t σ H Q) : PT X e u := ⟨fun pins s σ H Q I q => h.run pins s σ H Q I (i σ H Q q)⟩
theorem paImp {es : List Expr} {t u : TA} (h : PA X es t) (i : ∀ σ H Q, u σ H Q → t σ H Q) : PA X es u := ⟨fun pos pins s σ H Q I q => h.run pos pins s σ H Q I (i σ H Q q)⟩
theorem psImp {st : Stmt} {t u : TS} (h : PS X st t) (i : ∀ D σ H, u D σ H → t D σ H) : PS X st u := ⟨fun pins s σ H D I q => h.run pins s σ H D I (i D σ H q)⟩
theorem pssImp {st : List Stmt} {t u : TS} (h : PSs X st t) (i : ∀ D σ H, u D σ H → t D σ H) : PSs X st u := ⟨fun pins s σ H D I q => h.run pins s σ H D I (i D σ H q)⟩
end

/-- an expression's reading by the interpreter -/
def tM (C : Cn) (E : XK) (f : Rho → Sto → R W) : TE := fun σ H Q => ∃ ρ ι S, Sim C H ι S ∧ SimE C H ι S.length ρ σ ∧ Aft C E (WRp C) (f ρ S) H ι S Q
def tMs (C : Cn) (E : XK) (f : Rho → Sto → R (List W)) : TA := fun σ H Q => ∃ ρ ι S, Sim C H ι S ∧ SimE C H ι S.length ρ σ ∧ Aft C E (WRs C) (f ρ S) H ι S Q
def BRp (_ : Hp) (_ : Nat → Addr) (_ : Nat) (a b : Bool) : Prop := a = b
def tMt (C : Cn) (E : XK) (f : Rho → Sto → R Bool) : TT := fun σ H Q => ∃ ρ ι S, Sim C H ι S ∧ SimE C H ι S.length ρ σ ∧ Aft C E BRp (f ρ S) H ι S Q
/-- an operation by values -/
def rM (C : Cn) (E : XK) (g : W → W → Sto → R W) : V → V → Hp → VK → Prop := fun x y H Q => ∃ ι S w1 w2, Sim C H ι S ∧ WRp C H ι S.length w1 x ∧ WRp C H ι S.length w2 y ∧ Aft C E (WRp C) (g w1 w2 S) H ι S Q
def rM1 (C : Cn) (E : XK) (g : W → Sto → R W) : V → Hp → VK → Prop := fun x H Q => ∃ ι S w, Sim C H ι S ∧ WRp C H ι S.length w x ∧ Aft C E (WRp C) (g w S) H ι S Q
def rMs (C : Cn) (E : XK) (g : List W → Sto → R W) : List V → Hp → VK → Prop := fun xs H Q => ∃ ι S ws, Sim C H ι S ∧ WRs C H ι S.length ws xs ∧ Aft C E (WRp C) (g ws S) H ι S Q
def rMm (C : Cn) (E : XK) (g : W → List W → Sto → R W) : V → List V → Hp → VK → Prop := fun x xs H Q => ∃ ι S w ws, Sim C H ι S ∧ WRp C H ι S.length w x ∧ WRs C H ι S.length ws xs ∧ Aft C E (WRp C) (g w ws S) H ι S Q
section
variable {C : Cn} {E : XK} {σ : St} {H : Hp} {Q : VK} {fa fb : Rho → Sto → R W} {fs : Rho → Sto → R (List W)} {g : W → W → Sto → R W}
/-- one after another one -/
theorem tM_bind {f : Rho → Sto → R W} {k : W → Rho → Sto → R W} (e : ∀ ρ S, f ρ S = (fa ρ S).bind fun x S => k x ρ S) (h : tM C E f σ H Q) :
    tM C E fa σ H fun x H1 => ∃ ρ ι S w, Sim C H1 ι S ∧ SimE C H1 ι S.length ρ σ ∧ WRp C H1 ι S.length w x ∧ Aft C E (WRp C) (k w ρ S) H1 ι S Q := by
  obtain ⟨ρ, ι, S, s, se, a⟩ := h
  rw [e] at a
  refine ⟨ρ, ι, S, s, se, (Aft.bind s a).imp ?_⟩
  rintro x H1 ⟨w, ι1, S1, nx, r, q⟩
  exact ⟨ρ, ι1, S1, w, nx.sim, nx.env se, r, q⟩
theorem tM_op {f : Rho → Sto → R W} (e : ∀ ρ S, f ρ S = (fa ρ S).bind fun x S => (fb ρ S).bind fun y S => g x y S) (h : tM C E f σ H Q) : tOp (rM C E g) (tM C E fa) (tM C E fb) σ H Q := by
  obtain ⟨ρ, ι, S, s, se, a⟩ := tM_bind (k := fun x ρ S => (fb ρ S).bind fun y S => g x y S) e h
  refine ⟨ρ, ι, S, s, se, a.imp ?_⟩
  rintro x H1 ⟨ρ1, ι1, S1, w1, s1, se1, r1, q1⟩
  refine ⟨ρ1, ι1, S1, s1, se1, (Aft.bind s1 q1).imp ?_⟩
  rintro y H2 ⟨w2, ι2, S2, nx, r2, q2⟩
  exact ⟨ι2, S2, w1, w2, nx.sim, nx.val r1, r2, q2⟩
theorem tM_un {f : Rho → Sto → R W} {k : W → Sto → R W} (e : ∀ ρ S, f ρ S = (fa ρ S).bind k) (h : tM C E f σ H Q) : tUn (rM1 C E k) (tM C E fa) σ H Q := by
  obtain ⟨ρ, ι, S, s, se, a⟩ := tM_bind (k := fun x _ S => k x S) e h
  refine ⟨ρ, ι, S, s, se, a.imp ?_⟩
  rintro x H1 ⟨ρ1, ι1, S1, w1, s1, se1, r1, q1⟩
  exact ⟨ι1, S1, w1, s1, r1, q1⟩
theorem tM_args {f : Rho → Sto → R W} {k : List W → Sto → R W} (e : ∀ ρ S, f ρ S = (fs ρ S).bind k) (h : tM C E f σ H Q) : tMs C E fs σ H fun xs H1 => rMs C E k xs H1 Q := by
  obtain ⟨ρ, ι, S, s, se, a⟩ := h
  rw [e] at a
  refine ⟨ρ, ι, S, s, se, (Aft.bind s a).imp ?_⟩
  rintro xs H1 ⟨ws, ι1, S1, nx, r, q⟩
  exact ⟨ι1, S1, ws, nx.sim, r, q⟩
end

/-! ### what new things come to -/
section
variable {C : Cn} {E : XK} {H : Hp} {ι : Nat → Addr} {S : Sto} {Q : VK}
theorem datas_rel {L : Nat} : ∀ {ws : List W} {ds : List D} {xs : List V}, datas ws = some ds → WRs C H ι L ws xs → RpDs C H ds xs
  | [], ds, xs, h, r => by
    cases r
    simp only [datas, Option.some.injEq] at h
    subst h
    simp only [RpDs]
  | .d x :: ws, ds, xs, h, r => by
    cases r with
    | cons r1 r2 =>
      simp only [datas, Option.map_eq_some_iff] at h
      obtain ⟨l, h, rfl⟩ := h
      simp only [RpDs]
      exact ⟨_, _, rfl, r1, datas_rel h r2⟩
  | .ref n :: ws, ds, xs, h, r => by simp [datas] at h
theorem rel_datas {L : Nat} : ∀ {ds : List D} {xs : List V}, RpDs C H ds xs → WRs C H ι L (ds.map .d) xs
  | [], xs, h => by
    simp only [RpDs] at h
    subst h
    exact .nil
  | x :: ds, xs, h => by
    simp only [RpDs] at h
    obtain ⟨y, ys, rfl, h1, h2⟩ := h
    exact .cons h1 (rel_datas h2)
/-- a new tuple at p: known to have no dict, or a cell -/
def Tz (Q : VK) (p : Addr) (H : Hp) (xs : List V) : Prop := (∀ o : Obj, o.dict = none → Q (.ref p) (upd H p (.frz o (.tup xs)))) ∨ Q (.ref p) (upd H p (.tup xs))
theorem aft_mkT {ws : List W} {xs : List V} (s : Sim C H ι S) (r : WRs C H ι S.length ws xs) (a : Aft C E (WRp C) (mkT ws S) H ι S Q) : ∀ p, H p = none → Tz Q p H xs := by
  intro p hp
  unfold mkT at a
  cases hd : datas ws with
  | some ds =>
    rw [hd] at a
    refine .inl fun o ho => ?_
    have nx := Nx.tmp s hp (.frz o (.tup xs))
    refine a _ _ ι nx ?_
    show RpD C _ (.tup ds) _
    simp only [RpD]
    exact ⟨p, xs, rfl, .inl ⟨o, upd_same, ho⟩, (datas_rel hd r).mono nx.sta⟩
  | none =>
    rw [hd] at a
    refine .inr ?_
    have k : Keeps H (upd H p (.tup xs)) := fun a o h _ => by rw [upd_ne (ne_of_none h hp)]; exact h
    have nx : Nx C H ι S (upd H p (.tup xs)) (push ι S.length p) (S ++ [.tup ws]) := Nx.cell s hp fun ι' he => ⟨xs, upd_same, WRs.mono k (Nat.le_succ _) he r⟩
    refine a _ _ _ nx ?_
    exact ⟨by simp, by rw [push_at]⟩
/-- a tuple is laid -/
theorem ep_tup {X : Cx} {pins : List (Addr × Obj)} {σ : St} {s : Shared} {us : List Value} {xs : List V} {t' : Nat} (I : Inv X pins σ H s) (r : Vals xs us) (z : xs.length ≤ sizeLine) (q : Tz Q s.heap.objs.size H xs) :
    EP X pins σ Q (.ref s.heap.objs.size) { s with heap := s.heap.push { cls := .type "tuple", data := .seq us.toArray }, toks := t' } := by
  have ob : ObjOk X.prog X.w H (s.heap.push { cls := .type "tuple", data := .seq us.toArray }) s.heap.objs.size (.tup xs) := ⟨z, us, r, ⟨_, Heap.get?_push_size _ rfl, rfl, _, rfl⟩⟩
  rcases q with q | q
  · refine ⟨.ref s.heap.objs.size, upd H s.heap.objs.size (.frz { cls := .type "tuple", data := .seq us.toArray } (.tup xs)), I.laid (t' := t') (fun b u e => Heap.get?_push_of_some _ e) (Nat.le_refl _) ?_, rfl, q _ rfl⟩
    exact ⟨Heap.get?_push_size _ rfl, z, us, r, ⟨_, Heap.get?_push_size _ rfl, rfl, _, rfl⟩⟩
  · refine ⟨.ref s.heap.objs.size, upd H s.heap.objs.size (.tup xs), I.laid (t' := t') (fun b u e => Heap.get?_push_of_some _ e) (Nat.le_refl _) ?_, rfl, q⟩
    exact ⟨z, us, r, ⟨_, Heap.get?_push_size _ rfl, rfl, _, rfl⟩⟩
/-- a tuple's display -/
def tTupZ (t : TA) : TE := fun σ H Q => t σ H fun xs H1 => xs.length ≤ sizeLine ∧ ∀ p, H1 p = none → Tz Q p H1 xs
theorem pe_tupZ {X : Cx} {es : List Expr} {t : TA} {x1} {pos : Pos} (h : PA X es t) : PE X (.Tuple es x1 pos) (tTupZ t) := by
  refine ⟨fun pins s σ H Q I hq => ?_⟩
  refine wpAny_Tuple_spliced (thn (h.run pos pins s σ H _ I hq) fun us s1 ⟨xs, H1, I1, r, z, q⟩ => ⟨by rw [← r.length]; exact z, ?_⟩)
  exact ep_tup (t' := s1.toks) I1 r z (q _ (I1.hok.fresh (Nat.le_refl _)))
/-- a new list; od: whatever object stands there -/
theorem aft_mkL {fz : Bool} {ws : List W} {xs : List V} (s : Sim C H ι S) (r : WRs C H ι S.length ws xs) (a : Aft C E (WRp C) (mkL fz ws S) H ι S Q) : ∀ p, H p = none →
    if fz = true then ∀ o, Q (.ref p) (upd (upd H p (.lst xs)) p (.frz o (.lst xs))) else Q (.ref p) (upd H p (.lst xs)) := by
  intro p hp
  unfold mkL at a
  cases fz with
  | true =>
    rw [if_pos rfl] at a ⊢
    intro o
    rw [upd_upd]
    cases hd : datas ws with
    | some ds =>
      rw [hd] at a
      have nx := Nx.tmp s hp (.frz o (.lst xs))
      refine a _ _ ι nx ?_
      show RpD C _ (.lst ds) _
      simp only [RpD]
      exact ⟨p, xs, rfl, ⟨o, upd_same⟩, (datas_rel hd r).mono nx.sta⟩
    | none => rw [hd] at a; exact a.elim
  | false =>
    rw [if_neg Bool.false_ne_true] at a ⊢
    have k : Keeps H (upd H p (.lst xs)) := fun a o h _ => by rw [upd_ne (ne_of_none h hp)]; exact h
    have nx : Nx C H ι S (upd H p (.lst xs)) (push ι S.length p) (S ++ [.lst ws]) := Nx.cell s hp fun ι' he => ⟨xs, upd_same, WRs.mono k (Nat.le_succ _) he r⟩
    refine a _ _ _ nx ?_
    exact ⟨by simp, by rw [push_at]⟩
end
/-- a value comes; its object may be frozen -/
def Fz (Q : VK) : VK := fun v H => (∃ a u, v = .ref a ∧ H a = some u ∧ Mut (some u) ∧ ∀ o, Q v (upd H a (.frz o u))) ∨ Q v H
section
variable {X : Cx}
theorem peFz {e : Expr} {t : TE} (h : PE X e t) : PE X e fun σ H Q => t σ H (Fz Q) := by
  refine ⟨fun pins s σ H Q I q => thn (h.run pins s σ H _ I q) ?_⟩
  rintro v s1 ⟨x, H1, I1, r, q1⟩
  rcases q1 with ⟨a, u, rfl, hu, mu, q1⟩ | q1
  · obtain ⟨od, I2⟩ := I1.lock hu mu
    exact ⟨.ref a, _, I2, r, q1 od⟩
  · exact ⟨x, H1, I1, r, q1⟩
end
section
variable {C : Cn} {E : XK} {H : Hp} {ι : Nat → Addr} {S : Sto} {Q : VK}
theorem aft_mkLF {fz : Bool} {ws : List W} {xs : List V} (s : Sim C H ι S) (r : WRs C H ι S.length ws xs) (a : Aft C E (WRp C) (mkL fz ws S) H ι S Q) : ∀ p, H p = none → Fz Q (.ref p) (upd H p (.lst xs)) := by
  intro p hp
  have h := aft_mkL s r a p hp
  cases fz with
  | true => exact .inl ⟨p, _, rfl, upd_same, trivial, h⟩
  | false => exact .inr h
/-! ### what stands behind a value -/
theorem fixOf_rel {C : Cn} {w : W} {l : List W} {v : V} (s : Sim C H ι S) (h : fixOf w S = some l) (r : WRp C H ι S.length w v) :
    ∃ a xs, v = .ref a ∧ WRs C H ι S.length l xs ∧ (SqT C.K H a xs ∨ FzL H a xs) := by
  unfold fixOf at h
  split at h
  · cases h
    have r : RpD C H (.tup _) v := r
    simp only [RpD] at r
    obtain ⟨a, xs, e, h1, h2⟩ := r
    exact ⟨a, xs, e, rel_datas h2, .inl h1.sqt⟩
  · cases h
    have r : RpD C H (.lst _) v := r
    simp only [RpD] at r
    obtain ⟨a, xs, e, h1, h2⟩ := r
    exact ⟨a, xs, e, rel_datas h2, .inr h1⟩
  · split at h
    · rename_i n l' e
      cases h
      obtain ⟨xs, h1, h2⟩ := s.at' _ _ e
      exact ⟨_, xs, r.2, h2, .inl (SqT.of h1)⟩
    · cases h
  · cases h
theorem scr_rel {C : Cn} {L : Nat} : ∀ l : List Int, WRs C H ι L (l.map fun i => W.d (.int i)) (l.map V.int)
  | [] => .nil
  | i :: l => .cons (show RpD C H (.int i) _ by simp only [RpD]) (scr_rel l)
theorem seqOf_rel {C : Cn} {w : W} {l : List W} {v : V} (s : Sim C H ι S) (h : seqOf w S = some l) (r : WRp C H ι S.length w v) :
    ∃ a xs, v = .ref a ∧ WRs C H ι S.length l xs ∧ (SqL C.K H a xs ∨ SqT C.K H a xs) := by
  unfold seqOf at h
  split at h
  · cases h
    have r : RpD C H (.tup _) v := r
    simp only [RpD] at r
    obtain ⟨a, xs, e, h1, h2⟩ := r
    exact ⟨a, xs, e, rel_datas h2, .inr h1.sqt⟩
  · rename_i l'
    cases h
    have r : RpD C H (.scr _) v := r
    simp only [RpD] at r
    obtain ⟨a, e, h1⟩ := r
    exact ⟨a, _, e, scr_rel l', .inl h1.sql⟩
  · cases h
    have r : RpD C H (.lst _) v := r
    simp only [RpD] at r
    obtain ⟨a, xs, e, h1, h2⟩ := r
    exact ⟨a, xs, e, rel_datas h2, .inl h1.sql⟩
  · split at h
    · rename_i n l' e
      cases h
      obtain ⟨xs, h1, h2⟩ := s.at' _ _ e
      exact ⟨_, xs, r.2, h2, .inl (SqL.of h1)⟩
    · rename_i n l' e
      cases h
      obtain ⟨xs, h1, h2⟩ := s.at' _ _ e
      exact ⟨_, xs, r.2, h2, .inr (SqT.of h1)⟩
    · cases h
  · cases h
theorem lstOf_rel {C : Cn} {w : W} {l : List W} {v : V} (s : Sim C H ι S) (h : binop.lstOf w S = some l) (r : WRp C H ι S.length w v) :
    ∃ a xs, v = .ref a ∧ WRs C H ι S.length l xs ∧ Rd H a (.lst xs) := by
  unfold binop.lstOf at h
  split at h
  · cases h
    have r : RpD C H (.lst _) v := r
    simp only [RpD] at r
    obtain ⟨a, xs, e, h1, h2⟩ := r
    exact ⟨a, xs, e, rel_datas h2, .inr h1⟩
  · split at h
    · rename_i n l' e
      cases h
      obtain ⟨xs, h1, h2⟩ := s.at' _ _ e
      exact ⟨_, xs, r.2, h2, .inl h1⟩
    · cases h
  · cases h
theorem pair_map {α β γ δ : Type} {R : γ → δ → Prop} {f : α → γ} {g : β → δ} : ∀ {l : List α} {m : List β}, Paired (fun a b => R (f a) (g b)) l m → Paired R (l.map f) (m.map g)
  | _, _, .nil => .nil
  | _, _, .cons h t => .cons h (pair_map t)
/-- a frozen dict's entries as pairs of keys and values -/
theorem dct_rel {L : Nat} : ∀ {ks : List Ky} {vs : List D} {kvs : List (Key × V)}, kvs.map (·.1) = ks.map ky → (∀ k ∈ ks, kyOk k) → RpDs C H vs (kvs.map (·.2)) → KRs C H ι L (ks.zip (vs.map .d)) kvs
  | [], vs, kvs, h, _, r => by
    cases kvs with
    | nil => cases vs <;> exact .nil
    | cons p q => simp at h
  | k :: ks, vs, kvs, h, hk, r => by
    cases kvs with
    | nil => simp at h
    | cons p q =>
      simp only [List.map_cons, List.cons.injEq] at h
      cases vs with
      | nil => simp [RpDs] at r
      | cons x vs =>
        simp only [RpDs, List.map_cons] at r
        obtain ⟨y, ys, e, r1, r2⟩ := r
        injection e with e1 e2
        subst e1 e2
        exact .cons ⟨⟨h.1, hk k (by simp)⟩, r1⟩ (dct_rel h.2 (fun k' hk' => hk k' (by simp [hk'])) r2)
theorem dictOf_rel {C : Cn} {w : W} {l : List (Ky × W)} {v : V} (s : Sim C H ι S) (h : dictOf w S = some l) (r : WRp C H ι S.length w v) :
    ∃ a kvs, v = .ref a ∧ KRs C H ι S.length l kvs ∧ Rd H a (.dK kvs) := by
  unfold dictOf at h
  split at h
  · cases h
    have r : RpD C H (.dct _ _) v := r
    simp only [RpD] at r
    obtain ⟨a, kvs, e, ⟨o, h1⟩, h2, h4, h3⟩ := r
    exact ⟨a, kvs, e, dct_rel h2 h4 h3, .inr ⟨o, h1⟩⟩
  · split at h
    · rename_i n l' e
      cases h
      obtain ⟨xs, h1, h2⟩ := s.at' _ _ e
      exact ⟨_, xs, r.2, h2, .inl h1⟩
    · cases h
  · cases h
end
end LD
/-! LD3: operators on values. -/
namespace LD
open PySem L2

section
variable {C : Cn} {E : XK} {H : Hp} {ι : Nat → Addr} {S : Sto} {Q : VK} {L : Nat}
theorem rp_int {i : Int} {v : V} (h : WRp C H ι L (.d (.int i)) v) : v = .int i := by
  have h : RpD C H (.int i) v := h
  simp only [RpD] at h; exact h
theorem rp_bl {i : Bool} {v : V} (h : WRp C H ι L (.d (.bl i)) v) : v = .bl i := by
  have h : RpD C H (.bl i) v := h
  simp only [RpD] at h; exact h
theorem rp_non {v : V} (h : WRp C H ι L (.d .non) v) : v = .non := by
  have h : RpD C H .non v := h
  simp only [RpD] at h; exact h
theorem rp_str {i : List Nat} {v : V} (h : WRp C H ι L (.d (.str i)) v) : v = .str (sT i) := by
  have h : RpD C H (.str i) v := h
  simp only [RpD] at h; exact h.1
theorem rp_strL {i : List Nat} {v : V} (h : WRp C H ι L (.d (.str i)) v) : i.length ≤ LIM := by
  have h : RpD C H (.str i) v := h
  simp only [RpD] at h; exact h.2
theorem mk_int (i : Int) : WRp C H ι L (.d (.int i)) (.int i) := by
  show RpD C H (.int i) _; simp only [RpD]
theorem mk_bl (i : Bool) : WRp C H ι L (.d (.bl i)) (.bl i) := by
  show RpD C H (.bl i) _; simp only [RpD]
theorem mk_non : WRp C H ι L (.d .non) .non := by
  show RpD C H .non _; simp only [RpD]
theorem mk_str {i : List Nat} (h : i.length ≤ LIM) : WRp C H ι L (.d (.str i)) (.str (sT i)) := by
  show RpD C H (.str i) _; simp only [RpD]; exact ⟨trivial, h⟩
theorem rp_tup {l : List D} {v : V} (h : WRp C H ι L (.d (.tup l)) v) : ∃ a xs, v = .ref a ∧ NdT C.K H a xs ∧ RpDs C H l xs := by
  have h : RpD C H (.tup l) v := h
  simp only [RpD] at h; exact h
theorem rp_lst {l : List D} {v : V} (h : WRp C H ι L (.d (.lst l)) v) : ∃ a xs, v = .ref a ∧ FzL H a xs ∧ RpDs C H l xs := by
  have h : RpD C H (.lst l) v := h
  simp only [RpD] at h; exact h
theorem pairLen {α β : Type} {F : α → β → Prop} : ∀ {l : List α} {m : List β}, Paired F l m → l.length = m.length
  | _, _, .nil => rfl
  | _, _, .cons _ t => by rw [List.length_cons, List.length_cons, pairLen t]
theorem pairApp {α β : Type} {F : α → β → Prop} : ∀ {l l' : List α} {m m' : List β}, Paired F l m → Paired F l' m' → Paired F (l ++ l') (m ++ m')
  | _, _, _, _, .nil, h => h
  | _, _, _, _, .cons r t, h => .cons r (pairApp t h)
theorem pairDrop {α β : Type} {F : α → β → Prop} : ∀ (n : Nat) {l : List α} {m : List β}, Paired F l m → Paired F (l.drop n) (m.drop n)
  | 0, _, _, h => h
  | n + 1, _, _, .nil => .nil
  | n + 1, _, _, .cons _ t => pairDrop n t
theorem pairTake {α β : Type} {F : α → β → Prop} : ∀ (n : Nat) {l : List α} {m : List β}, Paired F l m → Paired F (l.take n) (m.take n)
  | 0, _, _, _ => .nil
  | n + 1, _, _, .nil => .nil
  | n + 1, _, _, .cons r t => .cons r (pairTake n t)
theorem pairGet {α β : Type} {F : α → β → Prop} : ∀ {n : Nat} {l : List α} {m : List β} {a : α}, Paired F l m → l[n]? = some a → ∃ b, m[n]? = some b ∧ F a b
  | _, _, _, _, .nil, h => by simp at h
  | 0, _, _, _, .cons r t, h => by simp at h; subst h; exact ⟨_, rfl, r⟩
  | n + 1, _, _, _, .cons r t, h => by
    obtain ⟨b, h1, h2⟩ := pairGet (n := n) t (by simpa using h)
    exact ⟨b, by simpa using h1, h2⟩
theorem pairSet {α β : Type} {F : α → β → Prop} {a : α} {b : β} (h : F a b) : ∀ (n : Nat) {l : List α} {m : List β}, Paired F l m → Paired F (l.set n a) (m.set n b)
  | _, _, _, .nil => .nil
  | 0, _, _, .cons _ t => .cons h t
  | n + 1, _, _, .cons r t => .cons r (pairSet h n t)
theorem pairErase {α β : Type} {F : α → β → Prop} : ∀ (n : Nat) {l : List α} {m : List β}, Paired F l m → Paired F (l.eraseIdx n) (m.eraseIdx n)
  | _, _, _, .nil => .nil
  | 0, _, _, .cons _ t => t
  | n + 1, _, _, .cons r t => .cons r (pairErase n t)
theorem pairRev {α β : Type} {F : α → β → Prop} : ∀ {l : List α} {m : List β}, Paired F l m → Paired F l.reverse m.reverse
  | _, _, .nil => .nil
  | _, _, .cons r t => by
    rw [List.reverse_cons, List.reverse_cons]
    exact pairApp (pairRev t) (.cons r .nil)
theorem pairFlat {α β : Type} {F : α → β → Prop} {l : List α} {m : List β} (h : Paired F l m) : ∀ n : Nat, Paired F (List.replicate n l).flatten (List.replicate n m).flatten
  | 0 => .nil
  | n + 1 => by
    rw [List.replicate_succ, List.replicate_succ, List.flatten_cons, List.flatten_cons]
    exact pairApp h (pairFlat h n)
theorem sT_len (s : List Nat) : (sT s).length = s.length := by simp [sT, Str.length]
theorem sT_app (a b : List Nat) : sT a ++ sT b = sT (a ++ b) := by
  refine TL.ext_tl ?_
  rw [TL.tl_append]
  rfl
theorem lim_line {n : Nat} (h : n ≤ LIM) : n ≤ sizeLine := Nat.le_trans h (by decide)
theorem lim_lt {n : Nat} (h : n < LIM) : n < sizeLine := Nat.lt_of_lt_of_le h (by decide)
theorem big_lt {i : Int} (h : bigOk i = true) : -(2 ^ 64) < i ∧ i < 2 ^ 64 := by
  unfold bigOk at h
  have h := of_decide_eq_true h
  omega
theorem log_lt {n k : Nat} (hk : 0 < k) (h : n < 2 ^ k) : n.log2 < k := by
  by_cases e : n = 0
  · subst e; simpa using hk
  · exact (Nat.log2_lt e).mpr h
end
section
variable {X : Cx} {C : Cn} {E : XK}
/-- two lists that may be read -/
theorem catList {pins : List (Addr × Obj)} {s : Shared} {σ : St} {H : Hp} {a b : Addr} {xs zs : List V} {Q : VK} (I : Inv X pins σ H s) (hx : Rd H a (.lst xs)) (hz : Rd H b (.lst zs)) (hl : xs.length + zs.length ≤ sizeLine)
    (q : ∀ p, H p = none → Q (.ref p) (upd H p (.lst (xs ++ zs)))) : wpAny (model X.prog X.w) X.A (binaryOp .Add (.ref a) (.ref b)) (EP X pins σ Q) X.xe s := by
  obtain ⟨z1, i1, n1, r1, e1⟩ := hx.ok I.hok
  obtain ⟨z2, i2, n2, r2, e2⟩ := hz.ok I.hok
  have l1 := r1.length
  have l2 := r2.length
  refine PySem.P.add_list e1 e2 ?_ (by simp only [List.size_toArray]; omega)
  rw [show i1.toArray ++ i2.toArray = (i1 ++ i2).toArray by simp]
  exact ⟨.ref _, _, I.lnew (t' := s.toks) (r1.append r2) (by rw [List.length_append]; exact hl), rfl, q _ I.fresh⟩
/-- a list that may be read, so many times -/
theorem repList {pins : List (Addr × Obj)} {s : Shared} {σ : St} {H : Hp} {a : Addr} {xs : List V} {k : Int} {t : Tok} {Q : VK} (I : Inv X pins σ H s) (hx : Rd H a (.lst xs)) (hk : k ≤ 1000) (hk2 : -1000 ≤ k) (hl : xs.length ≤ 1000)
    (q : ∀ p, H p = none → Q (.ref p) (upd H p (.lst (List.replicate k.toNat xs).flatten))) : wpAny (model X.prog X.w) X.A (binaryOp .Mult (.ref a) (.int k t)) (EP X pins σ Q) X.xe s := by
  obtain ⟨z1, i1, n1, r1, e1⟩ := hx.ok I.hok
  have l1 := r1.length
  have hk3 : k.toNat ≤ 1000 := by omega
  have hm : i1.length * k.toNat ≤ 1000 * 1000 := Nat.mul_le_mul (by omega) hk3
  have hs : i1.toArray.size * k.toNat ≤ sizeLine := by rw [List.size_toArray]; exact Nat.le_trans hm (by decide)
  have c1 : ¬ i1.toArray.size * k.toNat > (2 ^ 63 - 1) / 8 := by
    have z : (sizeLine : Nat) ≤ (2 ^ 63 - 1) / 8 := by decide
    omega
  have c2 : ¬ (!Builtin.List.listFitsIndex k) = true := by
    rw [fitsIndex_both (by omega) (by omega)]
    decide
  have c3 : ¬ Builtin.List.listTooLong (i1.toArray.size * k.toNat) = true := by
    rw [notLongL hs]
    decide
  have hf : ∀ m : Nat, List.foldl (fun x1 x2 => x1 ++ x2) #[] (List.replicate m i1.toArray) = (List.replicate m i1).flatten.toArray := fun m => by
    have z := foldl_rep i1 m []
    simpa using z
  have hn : List.foldl (fun x1 x2 => x1 ++ x2) #[] (List.replicate (if i1.toArray.isEmpty = true then 0 else k.toNat) i1.toArray) = (List.replicate k.toNat i1).flatten.toArray := by
    rw [hf]
    cases i1 with
    | nil => simp
    | cons _ _ => simp
  refine wpAny_binaryOp_repeat_ref (T := "list") (U := "int") (by decide) ⟨_, e1, rfl⟩ (fun s' => typeIs_int s' k t) noFill_list_mul F.fills_int_mul F.slot_int_rmul repeat_list F.slot_int_index.lookup
    (call_meets F.slot_int_rmul (typeIs_int s k t) F.entry_int_rmul (F.args_int_rmul_2 _ _) (int___rmul___int_list k t a i1.toArray n1)
      ⟨e1, rfl, ⟨_, e1, rfl⟩, call_meets F.slot_list_mul ⟨_, e1, rfl⟩ F.entry_list_mul (F.args_list_mul_2 _ _) (AutoListH.list___mul___list_int_3 a i1.toArray n1 k t c2 c1 c3) ⟨e1, ?_⟩⟩)
  rw [hn]
  have hz : (List.replicate k.toNat xs).flatten.length ≤ sizeLine := by
    rw [PyProof.Rows.lm_len_rep_flat, Nat.mul_comm, l1]
    rw [List.size_toArray] at hs
    exact hs
  exact ⟨.ref _, _, I.lnew (t' := s.toks) (r1.rep k.toNat) hz, rfl, q _ I.fresh⟩
variable {op : BOp} {fz : Bool}
/-- what the interpreter's operator asks of the layer's -/
def bopPy : BOp → Operator
  | .add => .Add
  | .sub => .Sub
  | .mul => .Mult
  | .fdiv => .FloorDiv
  | .mod => .Mod
  | .pow => .Pow
def rF (C : Cn) (E : XK) (g : W → W → Sto → R W) : V → V → Hp → VK → Prop := fun x y H Q' => ∃ Q, Q' = Fz Q ∧ rM C E g x y H Q
theorem epFz {pins : List (Addr × Obj)} {σ : St} {Q : VK} {u : Value} {s : Shared} (h : EP X pins σ Q u s) : EP X pins σ (Fz Q) u s := by
  obtain ⟨v, H', I, r, q⟩ := h
  exact ⟨v, H', I, r, .inr q⟩
theorem wpFz {pins : List (Addr × Obj)} {σ : St} {Q : VK} {s : Shared} {t : Sem Value} {xe : Value → Shared → Prop} (h : wpAny (model X.prog X.w) X.A t (EP X pins σ Q) xe s) : wpAny (model X.prog X.w) X.A t (EP X pins σ (Fz Q)) xe s := thn h fun _ _ q => epFz q
theorem catTup {pins : List (Addr × Obj)} {s : Shared} {σ : St} {H : Hp} {a b : Addr} {xs ys : List V} {v u : Value} {Q : VK} (ha : SqT X.K H a xs) (hb : SqT X.K H b ys) (I : Inv X pins σ H s) (rx : RelV (.ref a) v) (ry : RelV (.ref b) u) (hz : xs.length + ys.length ≤ sizeLine)
    (q0 : xs = [] → Q (.ref b) H) (q1 : ys = [] → Q (.ref a) H) (q2 : ∀ p, H p = none → ∀ o : Obj, o.dict = none → Q (.ref p) (upd H p (.frz o (.tup (xs ++ ys))))) : wpAny (model X.prog X.w) X.A (binaryOp .Add v u) (EP X pins σ Q) X.xe s := by
  cases rx
  cases ry
  obtain ⟨its, r1, p1, _⟩ := I.tuple ha
  obtain ⟨its2, r2, p2, _⟩ := I.tuple hb
  by_cases hx : xs = []
  · subst hx
    cases r1
    exact cat_tup0 p1 p2 ⟨.ref b, H, I, rfl, q0 rfl⟩
  · refine HT.cat_tup p1 p2 (fun z => hx (r1.nil_iff.mp z)) (fun z => ⟨.ref a, H, I, rfl, q1 (r2.nil_iff.mp z)⟩) (fun z => ?_) (by rw [← r1.length, ← r2.length]; exact hz)
    exact ep_tup (t' := s.toks) I (r1.append r2) (by rw [List.length_append]; exact hz) (.inl (q2 _ (I.hok.fresh (Nat.le_refl _))))
theorem op_binM (hC : C.K = X.K) : OpR X (binaryOp (bopPy op)) (rF C E (binop op fz)) := by
  rintro pins s σ H x y v u _ I rx ry ⟨Q, rfl, ι, S, w1, w2, sm, h1, h2, a⟩
  unfold binop at a
  split at a
  · rw [rp_int h1] at rx
    rw [rp_int h2] at ry
    exact wpFz (op_add pins s σ H _ _ v u Q I rx ry ⟨_, _, rfl, rfl, Aft.ok sm (mk_int _) a⟩)
  · rw [rp_int h1] at rx
    rw [rp_int h2] at ry
    exact wpFz (op_sub pins s σ H _ _ v u Q I rx ry ⟨_, _, rfl, rfl, Aft.ok sm (mk_int _) a⟩)
  · rw [rp_int h1] at rx
    rw [rp_int h2] at ry
    split at a
    · rename_i hc
      simp only [Bool.or_eq_true, Bool.and_eq_true, decide_eq_true_eq] at hc
      rcases hc with (hc | hc) | hc
      · exact wpFz (op_mul pins s σ H _ _ v u Q I rx ry ⟨_, _, rfl, rfl, .inl (big_lt hc), Aft.ok sm (mk_int _) a⟩)
      · exact wpFz (op_mul pins s σ H _ _ v u Q I rx ry ⟨_, _, rfl, rfl, .inr (big_lt hc), Aft.ok sm (mk_int _) a⟩)
      · refine wpFz (op_mulW pins s σ H _ _ v u Q I rx ry ⟨_, _, rfl, rfl, ?_, Aft.ok sm (mk_int _) a⟩)
        have e1 := log_lt (by decide) hc.1
        have e2 := log_lt (by decide) hc.2
        show _ + _ < 1000000
        omega
    · exact a.elim
  · rw [rp_int h1] at rx
    rw [rp_int h2] at ry
    split at a
    · rename_i hc
      simp only [Bool.and_eq_true, decide_eq_true_eq] at hc
      refine wpFz (op_fdivW pins s σ H _ _ v u Q I rx ry ⟨_, _, rfl, rfl, ⟨hc.1, ?_⟩, Aft.ok sm (mk_int _) a⟩)
      have e1 := log_lt (by decide) hc.2
      omega
    · exact a.elim
  · rw [rp_int h1] at rx
    rw [rp_int h2] at ry
    split at a
    · rename_i hc
      exact wpFz (op_mod pins s σ H _ _ v u Q I rx ry ⟨_, _, rfl, rfl, hc, Aft.ok sm (mk_int _) a⟩)
    · exact a.elim
  · rw [rp_int h1] at rx
    rw [rp_int h2] at ry
    split at a
    · rename_i hc
      simp only [Bool.and_eq_true, decide_eq_true_eq] at hc
      have e1 := big_lt hc.1.1
      refine wpFz (op_pow pins s σ H _ _ v u Q I rx ry ⟨_, _, rfl, rfl, ⟨hc.1.2, ?_, ?_⟩, Aft.ok sm (mk_int _) a⟩)
      · have := hc.2; omega
      · omega
    · exact a.elim
  · rw [rp_str h1] at rx
    rw [rp_str h2] at ry
    split at a
    · rename_i hc
      refine wpFz (op_add_str pins s σ H _ _ v u Q I rx ry ⟨_, _, rfl, rfl, ?_, ?_⟩)
      · rw [sT_len, sT_len]; exact lim_line hc
      · rw [sT_app]; exact Aft.ok sm (mk_str (by rw [List.length_append]; exact hc)) a
    · exact a.elim
  · obtain ⟨p1, xs, rfl, hx, r1⟩ := rp_tup h1
    obtain ⟨p2, ys, rfl, hy, r2⟩ := rp_tup h2
    split at a
    · rename_i hc
      have l1 := pairLen (rpDs_iff.mp r1)
      have l2 := pairLen (rpDs_iff.mp r2)
      have mk : ∀ {H' : Hp} {p : Addr} {zs : List V}, Nx C H ι S H' ι S → NdT C.K H' p zs → zs = xs ++ ys → Q (.ref p) H' := fun {H' p zs} nx hp e => by
        subst e
        refine a _ _ _ nx ?_
        show RpD C H' (.tup _) _
        simp only [RpD]
        exact ⟨p, _, rfl, hp, rpDs_iff.mpr (pairApp (rpDs_iff.mp (r1.mono nx.sta)) (rpDs_iff.mp (r2.mono nx.sta)))⟩
      refine wpFz (catTup (hC ▸ hx.sqt) (hC ▸ hy.sqt) I rx ry ?_ (fun e => ?_) (fun e2 => ?_) fun p hp o ho => ?_)
      · rw [← l1, ← l2]; exact lim_line hc
      · exact mk (Nx.refl sm) hy (by rw [e]; rfl)
      · exact mk (Nx.refl sm) hx (by rw [e2, List.append_nil])
      · exact mk (Nx.tmp sm hp _) (.inl ⟨o, upd_same, ho⟩) rfl
    · exact a.elim
  · split at a
    · rename_i l1 l2 e1 e2
      split at a
      · rename_i hc
        obtain ⟨p1, xs, rfl, q1, hx⟩ := lstOf_rel sm e1 h1
        obtain ⟨p2, ys, rfl, q2, hy⟩ := lstOf_rel sm e2 h2
        cases rx
        cases ry
        have l1 := pairLen q1
        have l2 := pairLen q2
        exact catList I hx hy (by rw [← l1, ← l2]; exact lim_line hc) fun p hp => aft_mkLF sm (pairApp q1 q2) a p hp
      · exact a.elim
    · exact a.elim
  · rw [rp_int h2] at ry
    obtain ⟨t, rfl⟩ := ry
    split at a
    · rename_i l1 e1
      split at a
      · rename_i hc
        obtain ⟨p1, xs, rfl, q1, hx⟩ := lstOf_rel sm e1 h1
        cases rx
        have l1 := pairLen q1
        exact repList I hx hc.2.1 hc.1 (by rw [← l1]; exact hc.2.2) fun p hp => aft_mkLF sm (pairFlat q1 _) a p hp
      · exact a.elim
    · exact a.elim
  · exact a.elim
end
end LD
/-! LD4: comparisons. -/
namespace LD
open PySem L2

mutual
theorem eqv_pd : ∀ {n m : Nat} {a b : D}, a.ok n = true → b.ok m = true → D.eqv a b = PyData.eqv a.pd b.pd
  | n, m, .non, b, ha, hb => by cases b <;> first | (simp [D.ok] at hb; done) | (cases m <;> simp [D.ok] at hb; done) | simp [D.eqv, D.pd, PyData.eqv]
  | n, m, .bl x, b, ha, hb => by cases b <;> first | (simp [D.ok] at hb; done) | (cases m <;> simp [D.ok] at hb; done) | simp [D.eqv, D.pd, PyData.eqv]
  | n, m, .int x, b, ha, hb => by cases b <;> first | (simp [D.ok] at hb; done) | (cases m <;> simp [D.ok] at hb; done) | simp [D.eqv, D.pd, PyData.eqv]
  | n, m, .str x, b, ha, hb => by
    cases b with
    | str y =>
      simp only [D.eqv, D.pd, PyData.eqv]
      by_cases e : x = y
      · subst e; simp
      · have e2 : ¬ (⟨x.toArray⟩ : Str) = ⟨y.toArray⟩ := fun q => e (sT_inj q)
        rw [beq_eq_false_iff_ne.mpr e, beq_eq_false_iff_ne.mpr e2]
    | _ => first | (simp [D.ok] at hb; done) | (cases m <;> simp [D.ok] at hb; done) | simp [D.eqv, D.pd, PyData.eqv]
  | n, m, .tup x, b, ha, hb => by
    cases b with
    | tup y =>
      cases n with
      | zero => simp [D.ok] at ha
      | succ n => cases m with
        | zero => simp [D.ok] at hb
        | succ m =>
          simp only [D.ok] at ha hb
          simp only [D.eqv, D.pd, PyData.eqv]
          exact eqvs_pd ha hb
    | _ => first | (simp [D.ok] at hb; done) | (cases m <;> simp [D.ok] at hb; done) | simp [D.eqv, D.pd, PyData.eqv]
  | n, m, .lst x, b, ha, hb => by
    cases b with
    | lst y =>
      cases n with
      | zero => simp [D.ok] at ha
      | succ n => cases m with
        | zero => simp [D.ok] at hb
        | succ m =>
          simp only [D.ok] at ha hb
          simp only [D.eqv, D.pd, PyData.eqv]
          exact eqvs_pd ha hb
    | _ => first | (simp [D.ok] at hb; done) | (cases m <;> simp [D.ok] at hb; done) | simp [D.eqv, D.pd, PyData.eqv]
  | n, m, .dct _ _, b, ha, hb => by cases n <;> simp [D.ok] at ha
  | n, m, .fn _, b, ha, hb => by cases n <;> simp [D.ok] at ha
  | n, m, .scr _, b, ha, hb => by cases n <;> simp [D.ok] at ha
theorem eqvs_pd : ∀ {n m : Nat} {a b : List D}, a.all (D.ok n) = true → b.all (D.ok m) = true → D.eqvs a b = PyData.eqvAll (D.pds a) (D.pds b)
  | n, m, [], b, ha, hb => by cases b <;> simp [D.eqvs, D.pds, PyData.eqvAll]
  | n, m, x :: a, [], ha, hb => by simp [D.eqvs, D.pds, PyData.eqvAll]
  | n, m, x :: a, y :: b, ha, hb => by
    simp only [List.all_cons, Bool.and_eq_true] at ha hb
    simp only [D.eqvs, D.pds, PyData.eqvAll]
    rw [eqv_pd ha.1 hb.1, eqvs_pd ha.2 hb.2]
end
mutual
theorem ok_lay : ∀ {n : Nat} {a : D}, a.ok n = true → a.pd.canLay0 = true ∧ a.pd.depth ≤ n
  | n, .non, h => by simp [D.pd, PyData.canLay0, PyData.depth]
  | n, .bl _, h => by simp [D.pd, PyData.canLay0, PyData.depth]
  | n, .int _, h => by simp [D.pd, PyData.canLay0, PyData.depth]
  | n, .str s, h => by
    simp only [D.ok] at h
    simp only [D.pd, PyData.canLay0, PyData.depth, Nat.zero_le, and_true]
    unfold PyData.strOk
    rw [← Array.all_toList]
    exact h
  | 0, .tup l, h => by simp [D.ok] at h
  | n + 1, .tup l, h => by
    simp only [D.ok] at h
    have := oks_lay h
    simp only [D.pd, PyData.canLay0, PyData.depth]
    exact ⟨this.1, by omega⟩
  | 0, .lst l, h => by simp [D.ok] at h
  | n + 1, .lst l, h => by
    simp only [D.ok] at h
    have := oks_lay h
    simp only [D.pd, PyData.canLay0, PyData.depth]
    exact ⟨this.1, by omega⟩
  | n, .dct _ _, h => by cases n <;> simp [D.ok] at h
  | n, .fn _, h => by cases n <;> simp [D.ok] at h
  | n, .scr _, h => by cases n <;> simp [D.ok] at h
theorem oks_lay : ∀ {n : Nat} {a : List D}, a.all (D.ok n) = true → PyData.canLayAll0 (D.pds a) = true ∧ PyData.depthAll (D.pds a) ≤ n
  | n, [], h => by simp [D.pds, PyData.canLayAll0, PyData.depthAll]
  | n, x :: l, h => by
    simp only [List.all_cons, Bool.and_eq_true] at h
    have h1 := ok_lay h.1
    have h2 := oks_lay h.2
    simp only [D.pds, PyData.canLayAll0, PyData.depthAll, Bool.and_eq_true]
    exact ⟨⟨h1.1, h2.1⟩, by omega⟩
end
theorem ok_shaped {n : Nat} {a : D} (h : a.ok n = true) (hn : n ≤ 60) : SeqAt.shaped a.pd = true := by
  have := ok_lay h
  unfold SeqAt.shaped
  rw [this.1, Bool.true_and]
  exact decide_eq_true (by omega)
mutual
theorem rp_dp {C : Cn} {H : Hp} : ∀ {n : Nat} {a : D} {v : V}, a.ok n = true → RpD C H a v → Dp C.K H v a.pd
  | n, .non, v, h, r => by simp only [RpD] at r; subst r; simp only [D.pd]; exact .non
  | n, .bl _, v, h, r => by simp only [RpD] at r; subst r; simp only [D.pd]; exact .bl _
  | n, .int _, v, h, r => by simp only [RpD] at r; subst r; simp only [D.pd]; exact .int _
  | n, .str s, v, h, r => by simp only [RpD] at r; obtain ⟨rfl, _⟩ := r; simp only [D.pd]; exact .str _
  | 0, .tup l, v, h, r => by simp [D.ok] at h
  | n + 1, .tup l, v, h, r => by
    simp only [D.ok] at h
    simp only [RpD] at r
    obtain ⟨a, xs, rfl, h1, h2⟩ := r
    simp only [D.pd]
    exact .tup h1.sqt (rps_dp h h2)
  | 0, .lst l, v, h, r => by simp [D.ok] at h
  | n + 1, .lst l, v, h, r => by
    simp only [D.ok] at h
    simp only [RpD] at r
    obtain ⟨a, xs, rfl, h1, h2⟩ := r
    simp only [D.pd]
    exact .lst h1.sql (rps_dp h h2)
  | n, .dct _ _, v, h, r => by cases n <;> simp [D.ok] at h
  | n, .fn _, v, h, r => by cases n <;> simp [D.ok] at h
  | n, .scr _, v, h, r => by cases n <;> simp [D.ok] at h
theorem rps_dp {C : Cn} {H : Hp} : ∀ {n : Nat} {a : List D} {vs : List V}, a.all (D.ok n) = true → RpDs C H a vs → DpAll C.K H vs (D.pds a)
  | n, [], vs, h, r => by simp only [RpDs] at r; subst r; simp only [D.pds]; exact .nil
  | n, x :: l, vs, h, r => by
    simp only [RpDs] at r
    obtain ⟨y, ys, rfl, h1, h2⟩ := r
    simp only [List.all_cons, Bool.and_eq_true] at h
    simp only [D.pds]
    exact .cons (rp_dp h.1 h1) (rps_dp h.2 h2)
end
section
variable {X : Cx} {C : Cn} {E : XK} {H : Hp} {ι : Nat → Addr} {S : Sto} {Q : VK}
/-- a value that is data, or a list or a tuple of data -/
theorem flat_dp {w : W} {x : D} {v : V} (s : Sim C H ι S) (h : w.flat S = some x) (hx : okD x = true) (r : WRp C H ι S.length w v) : Dp C.K H v x.pd := by
  unfold W.flat at h
  split at h
  · cases h
    exact rp_dp hx r
  · split at h
    · rename_i n _ l e
      obtain ⟨xs, h1, h2⟩ := s.at' _ _ e
      obtain ⟨ds, hd, rfl⟩ := Option.map_eq_some_iff.mp h
      have hx : D.ok 30 (.lst ds) = true := hx
      simp only [D.ok] at hx
      rw [r.2]
      simp only [D.pd]
      exact .lst (SqL.of h1) (rps_dp hx (datas_rel hd h2))
    · rename_i n _ l e
      obtain ⟨xs, h1, h2⟩ := s.at' _ _ e
      obtain ⟨ds, hd, rfl⟩ := Option.map_eq_some_iff.mp h
      have hx : D.ok 30 (.tup ds) = true := hx
      simp only [D.ok] at hx
      rw [r.2]
      simp only [D.pd]
      exact .tup (SqT.of h1) (rps_dp hx (datas_rel hd h2))
    · cases h
end
end LD
/-! LD5: less of data whose kinds may part behind the first place that differs; sorting them. -/
namespace LD
open PySem L2 PySem.W PySem.SeqAt PyProof.Rows

section
open AutoSeq1 (wpAny_loadPart')
open MeetsSeq MeetsSeq2 MeetsSeq3 SeqRoads2
/-- a < b of two tuples: what is known of < at the first place alone that differs -/
theorem ltTup (l b : Addr) (xs ys : Array Value) (n m : Nat) (dx dy : Option Addr) (sx sy : Array (Option Value)) (e r : Nat → Bool) :
    Meets (Builtin.«tuple.__lt__» ⟨[.ref l, .ref b], []⟩)
      (fun A R s => s.heap.get? l = some { cls := .type "tuple", dict := dx, data := .seq xs n, slots := sx } ∧ s.heap.get? b = some { cls := .type "tuple", dict := dy, data := .seq ys m, slots := sy } ∧
        (∀ j (h1 : j < xs.size) (h2 : j < ys.size), EqAt A.in1 s xs[j] ys[j] (e j)) ∧ (∀ j (h1 : j < xs.size) (h2 : j < ys.size), (∀ i, i < j → e i = true) → e j = false → RcLt A.in1 s xs[j] ys[j] (r j)) ∧
        R (.ok (.ret (.bool (firstLt e r (decide (xs.size < ys.size)) (List.range (min xs.size ys.size)))))) s) :=
  .of_wp fun prog w A R s h => by
    obtain ⟨hp, g, d, tk, os⟩ := s
    obtain ⟨hl, hb, he, hr, h⟩ := h
    have f2 := AutoSeq1.sub_tuple_tuple
    have hZ : (xs.toList.zip ys.toList).length = min xs.size ys.size := by simp
    wp_walk using wpAny_loadPart' hl, wpAny_loadPart' hb, wpAny_forIn_list _ (fun rest q s' => q.1 = none ∧ s' = ⟨hp, g, d, tk, os⟩ ∧ ∃ i, rest = (xs.toList.zip ys.toList).drop i ∧ (∀ j, j < i → e j = true) ∧
      R (.ok (.ret (.bool (firstLt e r (decide (xs.size < ys.size)) ((List.range (min xs.size ys.size)).drop i))))) ⟨hp, g, d, tk, os⟩) _
    case turn =>
      rintro ⟨y, x⟩ rest q s' ⟨hq, rfl, i, hz, hy, hR⟩
      have hlt : i < (xs.toList.zip ys.toList).length := Nat.lt_of_not_le fun z => by
        rw [List.drop_of_length_le z] at hz
        cases hz
      have hm : i < min xs.size ys.size := hZ ▸ hlt
      have h1 : i < xs.size := by omega
      have h2 : i < ys.size := by omega
      rw [List.drop_eq_getElem_cons hlt] at hz
      injection hz with hyx hrest
      have ey : y = xs[i] := by have := congrArg Prod.fst hyx; simpa using this
      have ex : x = ys[i] := by have := congrArg Prod.snd hyx; simpa using this
      subst ey ex
      have hd : (List.range (min xs.size ys.size)).drop i = i :: (List.range (min xs.size ys.size)).drop (i + 1) := by simp [List.drop_eq_getElem_cons, hm]
      rw [hd] at hR
      refine wpAny_bind (he i h1 h2 prog w _ _ ?_)
      cases hei : e i with
      | true =>
        rw [firstLt_yes hei] at hR
        wp_walk
        exact ⟨rfl, rfl, i + 1, hrest, fun j hj => (Nat.lt_or_eq_of_le (Nat.le_of_lt_succ hj)).elim (hy j) fun z => by rw [z]; exact hei, hR⟩
      | false =>
        rw [firstLt_no hei] at hR
        rw [if_pos (show (!false) = true from rfl)]
        show wpAny (model prog w) A.in1 (do rule "tuple.compare.by-the-first-pair-that-differs"; let v ← richCompare CmpOp.Lt xs[i] ys[i]; let u ← ret v; pure (ForInStep.done (some u, ()))) _ _ _
        refine wpAny_bind (wpAny_rule (wpAny_bind ?_))
        refine hr i h1 h2 hy hei prog w _ _ ?_
        wp_walk
        exact ⟨_, rfl, hR⟩
    case fin =>
      rintro ⟨b1, b2⟩ s' ⟨hq, rfl, i, hz, hy, hR⟩
      simp only at hq
      subst hq
      have hge : min xs.size ys.size ≤ i := Nat.le_of_not_lt fun z => by
        rw [List.drop_eq_getElem_cons (hZ ▸ z)] at hz
        cases hz
      rw [List.drop_of_length_le (by simpa using hge)] at hR
      wp_walk
      exact ⟨_, rfl, by simpa [Builtin.Tuple.tupleCompareSizes, firstLt] using hR⟩
    case h => exact ⟨rfl, rfl, 0, rfl, fun j hj => absurd hj (Nat.not_lt_zero _), by simpa using h⟩
end
theorem rcLtTup {A : Around} {s : Shared} {l b : Addr} {xs ys : Array Value} {e r : Nat → Bool} (hl : s.heap.IsTuple l xs) (hb : s.heap.IsTuple b ys) (hu : A.units < cLine)
    (he : ∀ j (h1 : j < xs.size) (h2 : j < ys.size), EqAt A.in1 s xs[j] ys[j] (e j)) (hr : ∀ j (h1 : j < xs.size) (h2 : j < ys.size), (∀ i, i < j → e i = true) → e j = false → RcLt A.in1 s xs[j] ys[j] (r j)) :
    RcLt A s (.ref l) (.ref b) (firstLt e r (decide (xs.size < ys.size)) (List.range (min xs.size ys.size))) := fun prog w E Q h => by
  obtain ⟨⟨c1, d1, t1, s1⟩, ho, hc, n, hd⟩ := id hl
  obtain ⟨⟨c2, d2, t2, s2⟩, ho2, hc2, n2, hd2⟩ := id hb
  simp only at hc hd hc2 hd2
  subst hc hd hc2 hd2
  exact richCompare_meets_room (op := .Lt) ⟨_, ho, rfl⟩ ⟨_, ho2, rfl⟩ F.slot_tuple_lt F.entry_tuple_lt (F.args_tuple_lt_2 _ _) (ltTup l b xs ys n n2 d1 d2 s1 s2 e r)
    ⟨ho, ho2, he, hr, ⟨(fun x => nomatch x), h⟩⟩ hu

/-! ### rows of signs -/
abbrev tk (x : D) : List (Int ⊕ List Nat) := keyToks x.pd
abbrev tks (l : List D) : List (Int ⊕ List Nat) := keyToksAll (D.pds l)
theorem tks_cons (x : D) (l : List D) : tks (x :: l) = .inl 1 :: (tk x ++ tks l) := by
  show keyToksAll (D.pds (x :: l)) = _
  simp only [D.pds]
  rw [toks_all_cons]
theorem tks_nil : tks [] = [.inl 0] := by
  show keyToksAll (D.pds []) = _
  simp only [D.pds, keyToksAll]
theorem strLt_eq : ∀ a b : List Nat, strLt a b = decide (a < b)
  | [], [] => by simp [strLt]
  | [], _ :: _ => by simp [strLt]
  | _ :: _, [] => by simp [strLt]
  | a :: as, b :: bs => by
    unfold strLt
    by_cases e : a = b
    · subst e
      rw [if_pos rfl, strLt_eq as bs]
      simp
    · rw [if_neg e]
      refine decide_eq_decide.mpr ?_
      rw [List.cons_lt_cons_iff]
      constructor
      · intro h; exact .inl h
      · rintro (h | ⟨h, _⟩)
        · exact h
        · exact absurd h e
mutual
theorem tk_eqv : ∀ {a b : D}, D.eqv a b = true → tk a = tk b
  | .non, b, h => by cases b <;> simp [D.eqv] at h ⊢
  | .bl x, b, h => by cases b <;> simp [D.eqv] at h ⊢ <;> (try subst h) <;> simp [tk, D.pd, keyToks]
  | .int x, b, h => by cases b <;> simp [D.eqv] at h ⊢ <;> (try subst h) <;> simp [tk, D.pd, keyToks]
  | .str x, b, h => by cases b <;> simp [D.eqv] at h ⊢ <;> (try subst h) <;> simp [tk, D.pd, keyToks]
  | .tup x, b, h => by
    cases b with
    | tup y =>
      simp only [D.eqv] at h
      show keyToks (D.pd (.tup x)) = keyToks (D.pd (.tup y))
      simp only [D.pd, keyToks]
      exact tks_eqv h
    | _ => simp [D.eqv] at h
  | .lst x, b, h => by
    cases b with
    | lst y =>
      simp only [D.eqv] at h
      show keyToks (D.pd (.lst x)) = keyToks (D.pd (.lst y))
      simp only [D.pd, keyToks]
      exact tks_eqv h
    | _ => simp [D.eqv] at h
  | .dct _ _, b, h => by cases b <;> simp [D.eqv] at h
  | .fn _, b, h => by cases b <;> simp [D.eqv] at h
  | .scr _, b, h => by cases b <;> simp [D.eqv] at h
theorem tks_eqv : ∀ {a b : List D}, D.eqvs a b = true → tks a = tks b
  | [], [], _ => rfl
  | [], _ :: _, h => by simp [D.eqvs] at h
  | _ :: _, [], h => by simp [D.eqvs] at h
  | x :: a, y :: b, h => by
    simp only [D.eqvs, Bool.and_eq_true] at h
    rw [tks_cons, tks_cons, tk_eqv h.1, tks_eqv h.2]
end
mutual
theorem tk_lt : ∀ {a b : D} {k : Bool}, D.eqv a b = false → D.lt? a b = some k → ∀ l m, PyProof.Rows.lexLt itemOrd (tk a ++ l) (tk b ++ m) = k
  | .int x, b, k, h, h2, l, m => by
    cases b with
    | int y =>
      simp only [D.eqv, beq_eq_false_iff_ne, D.lt?, Option.some.injEq] at h h2
      show PyProof.Rows.lexLt itemOrd (Sum.inl x :: l) (Sum.inl y :: m) = k
      rw [lex_diff (O := itemOrd) (fun q => h (Sum.inl.inj q)), ← h2]
      rfl
    | _ => simp [D.lt?] at h2
  | .str x, b, k, h, h2, l, m => by
    cases b with
    | str y =>
      simp only [D.eqv, beq_eq_false_iff_ne, D.lt?, Option.some.injEq] at h h2
      show PyProof.Rows.lexLt itemOrd (Sum.inr x :: l) (Sum.inr y :: m) = k
      rw [lex_diff (O := itemOrd) (fun q => h (Sum.inr.inj q)), ← h2, strLt_eq]
      rfl
    | _ => simp [D.lt?] at h2
  | .tup x, b, k, h, h2, l, m => by
    cases b with
    | tup y =>
      simp only [D.eqv, D.lt?] at h h2
      show PyProof.Rows.lexLt itemOrd (keyToks (D.pd (.tup x)) ++ l) (keyToks (D.pd (.tup y)) ++ m) = k
      simp only [D.pd, keyToks]
      exact tks_lt h h2 l m
    | _ => simp [D.lt?] at h2
  | .non, b, k, h, h2, l, m => by simp [D.lt?] at h2
  | .bl _, b, k, h, h2, l, m => by simp [D.lt?] at h2
  | .lst _, b, k, h, h2, l, m => by simp [D.lt?] at h2
  | .dct _ _, b, k, h, h2, l, m => by simp [D.lt?] at h2
  | .fn _, b, k, h, h2, l, m => by simp [D.lt?] at h2
  | .scr _, b, k, h, h2, l, m => by simp [D.lt?] at h2
theorem tks_lt : ∀ {a b : List D} {k : Bool}, D.eqvs a b = false → D.lts? a b = some k → ∀ l m, PyProof.Rows.lexLt itemOrd (tks a ++ l) (tks b ++ m) = k
  | [], [], k, h, _, l, m => by simp [D.eqvs] at h
  | [], y :: b, k, h, h2, l, m => by
    simp only [D.lts?, Option.some.injEq] at h2
    rw [tks_nil, tks_cons]
    show PyProof.Rows.lexLt itemOrd (Sum.inl 0 :: l) (Sum.inl 1 :: _) = k
    rw [lex_diff (O := itemOrd) (by simp), ← h2]
    rfl
  | x :: a, [], k, h, h2, l, m => by
    simp only [D.lts?, Option.some.injEq] at h2
    rw [tks_nil, tks_cons]
    show PyProof.Rows.lexLt itemOrd (Sum.inl 1 :: _) (Sum.inl 0 :: m) = k
    rw [lex_diff (O := itemOrd) (by simp), ← h2]
    rfl
  | x :: a, y :: b, k, h, h2, l, m => by
    simp only [D.eqvs] at h
    simp only [D.lts?] at h2
    rw [tks_cons, tks_cons]
    show PyProof.Rows.lexLt itemOrd (Sum.inl 1 :: ((tk x ++ tks a) ++ l)) (Sum.inl 1 :: ((tk y ++ tks b) ++ m)) = k
    rw [lex_self, List.append_assoc, List.append_assoc]
    cases e : D.eqv x y with
    | true =>
      rw [e, Bool.true_and] at h
      rw [if_pos e] at h2
      rw [tk_eqv e, lex_pre]
      exact tks_lt h h2 l m
    | false =>
      rw [if_neg (by rw [e]; exact Bool.false_ne_true)] at h2
      exact tk_lt e h2 _ _
end
mutual
theorem eqv_lt : ∀ {a b : D} {k : Bool}, D.eqv a b = true → D.lt? a b = some k → k = false
  | .int x, b, k, h, h2 => by
    cases b with
    | int y =>
      simp only [D.eqv, beq_iff_eq, D.lt?, Option.some.injEq] at h h2
      subst h
      rw [← h2]
      simp
    | _ => simp [D.lt?] at h2
  | .str x, b, k, h, h2 => by
    cases b with
    | str y =>
      simp only [D.eqv, beq_iff_eq, D.lt?, Option.some.injEq] at h h2
      subst h
      rw [← h2, strLt_eq]
      simp
    | _ => simp [D.lt?] at h2
  | .tup x, b, k, h, h2 => by
    cases b with
    | tup y => simp only [D.eqv, D.lt?] at h h2; exact eqvs_lt h h2
    | _ => simp [D.lt?] at h2
  | .non, b, k, h, h2 => by simp [D.lt?] at h2
  | .bl _, b, k, h, h2 => by simp [D.lt?] at h2
  | .lst _, b, k, h, h2 => by simp [D.lt?] at h2
  | .dct _ _, b, k, h, h2 => by simp [D.lt?] at h2
  | .fn _, b, k, h, h2 => by simp [D.lt?] at h2
  | .scr _, b, k, h, h2 => by simp [D.lt?] at h2
theorem eqvs_lt : ∀ {a b : List D} {k : Bool}, D.eqvs a b = true → D.lts? a b = some k → k = false
  | [], [], k, _, h2 => by simp only [D.lts?, Option.some.injEq] at h2; exact h2.symm
  | [], _ :: _, k, h, _ => by simp [D.eqvs] at h
  | _ :: _, [], k, h, _ => by simp [D.eqvs] at h
  | x :: a, y :: b, k, h, h2 => by
    simp only [D.eqvs, Bool.and_eq_true] at h
    simp only [D.lts?] at h2
    rw [if_pos h.1] at h2
    exact eqvs_lt h.2 h2
end
/-- less, by the rows of signs -/
theorem lt_tk {a b : D} {k : Bool} (h : D.lt? a b = some k) : PyProof.Rows.lexLt itemOrd (tk a) (tk b) = k := by
  cases e : D.eqv a b with
  | true => rw [tk_eqv e, lex_irrefl, eqv_lt e h]
  | false =>
    have := tk_lt e h [] []
    rwa [List.append_nil, List.append_nil] at this

/-! ### what the model's < says -/
theorem pds_len : ∀ l : List D, (D.pds l).length = l.length
  | [] => by simp [D.pds]
  | x :: l => by simp [D.pds, pds_len l]
theorem pds_map : ∀ l : List D, D.pds l = l.map D.pd
  | [] => by simp [D.pds]
  | x :: l => by simp [D.pds, pds_map l]
/-- the first place that differs decides -/
theorem lts_first : ∀ {xs ys : List D} {n m : Nat} {k : Bool}, xs.all (D.ok n) = true → ys.all (D.ok m) = true → D.lts? xs ys = some k →
    firstLt (pairEq (D.pds xs) (D.pds ys)) (fun j => ((D.lt? (xs.getD j .non) (ys.getD j .non)).getD false)) (decide (xs.length < ys.length)) (List.range (min xs.length ys.length)) = k
  | [], [], n, m, k, _, _, h => by simp only [D.lts?, Option.some.injEq] at h; simp [firstLt, h]
  | [], _ :: _, n, m, k, _, _, h => by simp only [D.lts?, Option.some.injEq] at h; simp [firstLt, h]
  | _ :: _, [], n, m, k, _, _, h => by simp only [D.lts?, Option.some.injEq] at h; simp [firstLt, h]
  | x :: xs, y :: ys, n, m, k, hx, hy, h => by
    simp only [List.all_cons, Bool.and_eq_true] at hx hy
    have em : min (x :: xs).length (y :: ys).length = min xs.length ys.length + 1 := by simp only [List.length_cons]; omega
    have ed : decide ((x :: xs).length < (y :: ys).length) = decide (xs.length < ys.length) := by simp
    rw [em, ed, List.range_succ_eq_map]
    have e0 : pairEq (D.pds (x :: xs)) (D.pds (y :: ys)) 0 = D.eqv x y := by
      rw [eqv_pd hx.1 hy.1]
      simp [D.pds, pairEq]
    simp only [D.lts?] at h
    cases e : D.eqv x y with
    | true =>
      rw [if_pos e] at h
      rw [firstLt_yes (by rw [e0, e]), firstLt_map]
      have ih := lts_first hx.2 hy.2 h
      rw [← ih]
      simp only [D.pds]
      rfl
    | false =>
      rw [if_neg (by rw [e]; exact Bool.false_ne_true)] at h
      rw [firstLt_no (by rw [e0, e])]
      simp [h]
/-- at the first place that differs the two can be compared -/
theorem lts_at : ∀ {xs ys : List D} {n m : Nat} {k : Bool} {j : Nat}, xs.all (D.ok n) = true → ys.all (D.ok m) = true → D.lts? xs ys = some k → j < xs.length → j < ys.length →
    (∀ i, i < j → pairEq (D.pds xs) (D.pds ys) i = true) → pairEq (D.pds xs) (D.pds ys) j = false → ∃ r, D.lt? (xs.getD j .non) (ys.getD j .non) = some r
  | [], _, n, m, k, j, _, _, _, h1, _, _, _ => by simp at h1
  | _ :: _, [], n, m, k, j, _, _, _, _, h2, _, _ => by simp at h2
  | x :: xs, y :: ys, n, m, k, j, hx, hy, h, h1, h2, ha, hj => by
    simp only [List.all_cons, Bool.and_eq_true] at hx hy
    have e0 : pairEq (D.pds (x :: xs)) (D.pds (y :: ys)) 0 = D.eqv x y := by
      rw [eqv_pd hx.1 hy.1]
      simp [D.pds, pairEq]
    simp only [D.lts?] at h
    cases j with
    | zero =>
      rw [e0] at hj
      rw [if_neg (by rw [hj]; exact Bool.false_ne_true)] at h
      exact ⟨k, by simpa using h⟩
    | succ j =>
      have e := ha 0 (Nat.succ_pos _)
      rw [e0] at e
      rw [if_pos e] at h
      have hs : ∀ i, pairEq (D.pds (x :: xs)) (D.pds (y :: ys)) (i + 1) = pairEq (D.pds xs) (D.pds ys) i := fun i => by simp [D.pds, pairEq]
      obtain ⟨r, hr⟩ := lts_at (j := j) hx.2 hy.2 h (Nat.lt_of_succ_lt_succ h1) (Nat.lt_of_succ_lt_succ h2) (fun i hi => by rw [← hs]; exact ha _ (Nat.succ_lt_succ hi)) (by rw [← hs]; exact hj)
      exact ⟨r, by simpa using hr⟩
theorem readsAll_at {h : Heap} : ∀ {xs : List D} {vs : List Value} {as : List Addr} {j : Nat} (hj : j < vs.length), ReadsAll h vs (D.pds xs) as → ∃ bs, Reads h vs[j] (xs.getD j .non).pd bs
  | [], _, _, j, hj, r => by simp only [D.pds] at r; cases r; simp at hj
  | x :: xs, _, _, j, hj, r => by
    simp only [D.pds] at r
    cases r with
    | cons r1 r2 =>
      cases j with
      | zero => exact ⟨_, r1⟩
      | succ j =>
        obtain ⟨bs, h⟩ := readsAll_at (j := j) (Nat.lt_of_succ_lt_succ hj) r2
        exact ⟨bs, by simpa using h⟩
theorem all_getD {n j : Nat} : ∀ {l : List D}, l.all (D.ok n) = true → D.ok n (l.getD j .non) = true := fun {l} h => by
  rcases Nat.lt_or_ge j l.length with hj | hj
  · have e : l.getD j .non = l[j] := by simp [List.getD, hj]
    rw [e]
    exact List.all_eq_true.mp h _ (List.getElem_mem hj)
  · have e : l.getD j .non = .non := by simp [List.getD, hj]
    rw [e]
    cases n <;> rfl
theorem rcLtD : ∀ {n : Nat} {a b : D} {m : Nat} {A : Around} {s : Shared} {u v : Value} {as bs : List Addr} {k : Bool}, a.ok n = true → b.ok m = true → Reads s.heap u a.pd as → Reads s.heap v b.pd bs → D.lt? a b = some k → A.units + n < cLine → RcLt A s u v k := by
  intro n
  induction n with
  | zero =>
    intro a b m A s u v as bs k ha hb ra rb h hu
    cases a with
    | int x => cases b with
      | int y =>
        simp only [D.pd] at ra rb
        cases ra
        cases rb
        simp only [D.lt?, Option.some.injEq] at h
        subst h
        intro prog w E Q hq
        exact P.lt_int hq
      | _ => simp [D.lt?] at h
    | str x => cases b with
      | str y =>
        simp only [D.pd] at ra rb
        cases ra
        cases rb
        simp only [D.lt?, Option.some.injEq] at h
        subst h
        intro prog w E Q hq
        rw [strLt_eq] at hq
        exact lt_str hq
      | _ => simp [D.lt?] at h
    | tup x => simp [D.ok] at ha
    | _ => simp [D.lt?] at h
  | succ n ih =>
    intro a b m A s u v as bs k ha hb ra rb h hu
    cases a with
    | int x => cases b with
      | int y =>
        simp only [D.pd] at ra rb
        cases ra
        cases rb
        simp only [D.lt?, Option.some.injEq] at h
        subst h
        intro prog w E Q hq
        exact P.lt_int hq
      | _ => simp [D.lt?] at h
    | str x => cases b with
      | str y =>
        simp only [D.pd] at ra rb
        cases ra
        cases rb
        simp only [D.lt?, Option.some.injEq] at h
        subst h
        intro prog w E Q hq
        rw [strLt_eq] at hq
        exact lt_str hq
      | _ => simp [D.lt?] at h
    | tup xs => cases b with
      | tup ys =>
        have lb := ok_lay hb
        have la := ok_lay ha
        cases m with
        | zero => simp [D.ok] at hb
        | succ m =>
          simp only [D.ok] at ha hb
          simp only [D.pd] at ra rb la lb
          simp only [D.lt?] at h
          simp only [PyData.canLay0, PyData.depth] at la lb
          cases ra with
          | @tuple l o vs _ _ as₁ h1 h2 h3 h4 =>
            cases rb with
            | @tuple l' o' vs' _ _ bs₁ k1 k2 k3 k4 =>
              have n1 : vs.size = xs.length := by rw [← pds_len xs]; simpa using ReadsAll.length _ _ _ h4
              have n2 : vs'.size = ys.length := by rw [← pds_len ys]; simpa using ReadsAll.length _ _ _ k4
              have hd : min (PyData.depthAll (D.pds xs)) (PyData.depthAll (D.pds ys)) ≤ n := by have := la.2; omega
              rw [← lts_first ha hb h, ← n1, ← n2]
              refine rcLtTup ⟨_, h1, h2, _, h3⟩ ⟨_, k1, k2, _, k3⟩ (by omega) (fun j j1 j2 => ?_) fun j j1 j2 he hj => ?_
              · have := eqAt_readsAll _ _ A.in1 s vs.toList vs'.toList _ _ h4 k4 la.1 lb.1 (by show A.units + 1 + _ < _; omega) j (by simpa using j1) (by simpa using j2)
                simpa using this
              · obtain ⟨r, hr⟩ := lts_at ha hb h (by rw [← n1]; exact j1) (by rw [← n2]; exact j2) he hj
                obtain ⟨as2, ra2⟩ := readsAll_at (j := j) (by simpa using j1) h4
                obtain ⟨bs2, rb2⟩ := readsAll_at (j := j) (by simpa using j2) k4
                have := ih (A := A.in1) (all_getD ha) (all_getD hb) (by simpa using ra2) (by simpa using rb2) hr (by show A.units + 1 + n < _; omega)
                rw [hr]
                exact this
      | _ => simp [D.lt?] at h
    | _ => simp [D.lt?] at h
end LD
/-! LD6: sorted(list), sorted(tuple), sorted(dict) of data. -/
namespace LD
open PySem L2 PySem.W PySem.SeqAt PyProof.Rows PySem.Calls

/-! ### the kind of keys -/
theorem kind_at {h : Heap} {l : List D} (ho : l.all okD = true) {v : Value} {d : D} {as : List Addr} (hd : d ∈ l) (r : Reads h v d.pd as) : (dataKind h (l.map D.pd)).keyOf v = some (tk d) := by
  have q : ∃ d, d ∈ l.map D.pd ∧ ∃ as, Reads h v d as := ⟨_, List.mem_map.mpr ⟨d, hd, rfl⟩, as, r⟩
  obtain ⟨h1, as', h2⟩ := q.choose_spec
  obtain ⟨d', hd', e⟩ := List.mem_map.mp h1
  have c : ∀ {x : D}, x ∈ l → x.pd.canLay0 = true := fun {x} hx => (ok_lay (List.all_eq_true.mp ho x hx)).1
  have e1 := readOf_eq (by rw [← e]; exact c hd') h2
  have e2 := readOf_eq (c hd) r
  have e3 : (dataKind h (l.map D.pd)).keyOf v = some (keyToks q.choose) := by
    show (open Classical in if q : ∃ d, d ∈ l.map D.pd ∧ ∃ as, Reads h v d as then some (keyToks q.choose) else none) = _
    rw [dif_pos q]
  rw [e3, ← e1, e2]
theorem katD {prog : Program} {w : World} {A : Around} {s : Shared} {fin : Bool} {Q : Bool → Shared → Prop} : ∀ {xs ys : List D} {n m : Nat} {k : Bool} {i : Nat} {vs ws : List Value} {as bs : List Addr}, ReadsAll s.heap vs (D.pds xs) as → ReadsAll s.heap ws (D.pds ys) bs →
    xs.all (D.ok n) = true → ys.all (D.ok m) = true → D.lts? xs ys = some k → (i = 0 → headI (.tup xs) = true ∧ headI (.tup ys) = true ∨ headS (.tup xs) = true ∧ headS (.tup ys) = true) →
    A.units + n + 1 < cLine → fin = decide (xs.length < ys.length) → Q k s → KatLex prog w A true fin Q (vs.zip ws) i s
  | [], ys, n, m, k, i, _, _, _, _, ra, rb, _, _, h, _, _, hf, hq => by
    simp only [D.pds] at ra
    cases ra
    rw [List.zip_nil_left]
    refine kat_nil ?_
    cases ys <;> simp only [D.lts?, Option.some.injEq] at h <;> subst h <;> rw [hf] <;> simpa using hq
  | x :: xs, [], n, m, k, i, _, _, _, _, ra, rb, _, _, h, _, _, hf, hq => by
    simp only [D.pds] at rb
    cases rb
    rw [List.zip_nil_right]
    refine kat_nil ?_
    simp only [D.lts?, Option.some.injEq] at h
    subst h
    rw [hf]
    simpa using hq
  | x :: xs, y :: ys, n, m, k, i, _, _, _, _, ra, rb, hx, hy, h, hh, hu, hf, hq => by
    simp only [List.all_cons, Bool.and_eq_true] at hx hy
    simp only [D.pds] at ra rb
    have lx := ok_lay hx.1
    have ly := ok_lay hy.1
    cases ra with
    | cons r rs =>
      cases rb with
      | cons r' rs' =>
        rw [List.zip_cons_cons]
        refine kat_cons (eqAt_reads _ _ A s _ _ _ _ r r' lx.1 ly.1 (by have := lx.2; omega) prog w _ _ ?_)
        rw [← eqv_pd hx.1 hy.1]
        simp only [D.lts?] at h
        cases e : D.eqv x y with
        | true =>
          rw [if_pos e] at h
          exact kat_yes (katD rs rs' hx.2 hy.2 h (fun z => absurd z (Nat.succ_ne_zero i)) hu (by rw [hf]; simp) hq)
        | false =>
          rw [if_neg (by rw [e]; exact Bool.false_ne_true)] at h
          refine kat_no ?_
          by_cases hi : i = 0
          · subst hi
            rcases hh rfl with ⟨h1, h2⟩ | ⟨h1, h2⟩
            · cases x <;> simp [headI] at h1
              cases y <;> simp [headI] at h2
              simp only [D.pd] at r r'
              cases r
              cases r'
              simp only [D.lt?, Option.some.injEq] at h
              subst h
              exact oneLt_int hq
            · cases x <;> simp [headS] at h1
              cases y <;> simp [headS] at h2
              simp only [D.pd] at r r'
              cases r
              cases r'
              simp only [D.lt?, Option.some.injEq] at h
              subst h
              rw [strLt_eq] at hq
              exact oneLt_str hq
          · have hb : (true && (i == 0)) = false := by simp [hi]
            rw [hb, oneLt'_eq]
            simp only [Bool.false_eq_true, if_false]
            exact wpAny_bind (rcLtD hx.1 hy.1 r r' h (by omega) prog w _ _ (wpAny_truthy_bool hq))
theorem cmp_at {l : List D} (h : cmpAll l = true) {x y : D} (hx : x ∈ l) (hy : y ∈ l) : ∃ k, D.lt? x y = some k := by
  have := List.all_eq_true.mp (List.all_eq_true.mp h x hx) y hy
  exact Option.isSome_iff_exists.mp this
theorem sortsD {prog : Program} {w : World} {A : Around} {s : Shared} {vs : List Value} {l : List D} (e : EachIs (fun v (d : D) => ∃ as, Reads s.heap v d.pd as) vs l) (ho : l.all okD = true) (hk : oneKind l = true) (hc : cmpAll l = true) (hu : A.units + 40 < cLine) :
    SortsAt prog w A s (dataKind s.heap (l.map D.pd)) vs := by
  have e' : EachIs (fun v d => ∃ as, Reads s.heap v d as) vs (l.map D.pd) := each_map D.pd e
  have flat : (∀ d ∈ l, (∃ i, d = .int i)) ∨ (∀ d ∈ l, (∃ i, d = .str i)) → SortsAt prog w A s (dataKind s.heap (l.map D.pd)) vs := fun hh => by
    refine SortsAt.data e' ?_ (.inr fun d hd => ?_) fun d hd => ?_
    · intro d hd d' hd'
      obtain ⟨x, hx, rfl⟩ := List.mem_map.mp hd
      obtain ⟨y, hy, rfl⟩ := List.mem_map.mp hd'
      rcases hh with hh | hh
      · obtain ⟨i, rfl⟩ := hh x hx
        obtain ⟨j, rfl⟩ := hh y hy
        simp [D.pd, alike]
      · obtain ⟨i, rfl⟩ := hh x hx
        obtain ⟨j, rfl⟩ := hh y hy
        simp [D.pd, alike]
    · obtain ⟨x, hx, rfl⟩ := List.mem_map.mp hd
      rcases hh with hh | hh
      · obtain ⟨i, rfl⟩ := hh x hx
        simp [D.pd]
      · obtain ⟨i, rfl⟩ := hh x hx
        simp [D.pd]
    · obtain ⟨x, hx, rfl⟩ := List.mem_map.mp hd
      rcases hh with hh | hh
      · obtain ⟨i, rfl⟩ := hh x hx
        simp only [D.pd, PyData.depth]
        omega
      · obtain ⟨i, rfl⟩ := hh x hx
        simp only [D.pd, PyData.depth]
        omega
  have tups : (T : String) → (T ≠ "tuple") → (∀ d ∈ l, ∃ x r, d = .tup (x :: r) ∧ dataType x.pd = .type T) → ((∀ d ∈ l, headI d = true) ∨ (∀ d ∈ l, headS d = true)) → SortsAt prog w A s (dataKind s.heap (l.map D.pd)) vs := fun T hT ht hd => by
    refine ⟨fun v hv => ?_, tuples' true, ?_, fun h2 E Q hq => ?_⟩
    · obtain ⟨d, hm, as, r⟩ := e.left v hv
      exact ⟨_, kind_at ho hm r⟩
    · intro E x y a b Q ha hb hq
      obtain ⟨p, as, hp, ra, rfl⟩ := dataKind_inv ha
      obtain ⟨q, bs, hp', rb, rfl⟩ := dataKind_inv hb
      obtain ⟨d, hd1, rfl⟩ := List.mem_map.mp hp
      obtain ⟨d', hd2, rfl⟩ := List.mem_map.mp hp'
      obtain ⟨k, hlt⟩ := cmp_at hc hd1 hd2
      have hq' : Q k s := by
        have : Q (PyProof.Rows.lexLt itemOrd (tk d) (tk d')) s := hq
        rwa [lt_tk hlt] at this
      have hh : headI d = true ∧ headI d' = true ∨ headS d = true ∧ headS d' = true := hd.elim (fun z => .inl ⟨z d hd1, z d' hd2⟩) fun z => .inr ⟨z d hd1, z d' hd2⟩
      have o1 : D.ok 30 d = true := List.all_eq_true.mp ho d hd1
      have o2 : D.ok 30 d' = true := List.all_eq_true.mp ho d' hd2
      obtain ⟨x1, r1, rfl, _⟩ := ht d hd1
      obtain ⟨x2, r2, rfl, _⟩ := ht d' hd2
      simp only [D.ok] at o1 o2
      simp only [D.lt?] at hlt
      simp only [D.pd] at ra rb
      cases ra with
      | @tuple l1 ob xs n _ _ h1 h2 h3 h4 =>
        cases rb with
        | @tuple l2 ob' xs' n' _ _ k1 k2 k3 k4 =>
          have n1 : xs.size = (x1 :: r1).length := by rw [← pds_len]; simpa using ReadsAll.length _ _ _ h4
          have n2 : xs'.size = (x2 :: r2).length := by rw [← pds_len]; simpa using ReadsAll.length _ _ _ k4
          exact kat_lt h1 h3 k1 k3 (katD h4 k4 o1 o2 hlt (fun _ => hh) (by omega) (by rw [n1, n2]) hq')
    · have ht' : ∀ d, d ∈ l.map D.pd → ∃ x r, d = .tuple (x :: r) := fun d hd => by
        obtain ⟨x, hx, rfl⟩ := List.mem_map.mp hd
        obtain ⟨y, r, rfl, _⟩ := ht x hx
        exact ⟨y.pd, D.pds r, by simp [D.pd, D.pds]⟩
      obtain ⟨fs, t1, t2, t3⟩ := each_katTups e' ht'
      have hne : (Value.type T != Value.type "tuple") = true := by simp [hT]
      have := kat_kind (M := model prog w) (A := A) (E := E) (Q := Q) (T := .type T) t1 (by omega) (fun f hf => ?_) (beq_self_eq_true _) (by rw [hne]; exact hq)
      · exact this
      · obtain ⟨x, r, as, m1, m2⟩ := t3 f hf
        obtain ⟨d, hd, ed⟩ := List.mem_map.mp m1
        obtain ⟨y, r', rfl, hy⟩ := ht d hd
        simp only [D.pd, D.pds] at ed
        injection ed with ed
        injection ed with ed1 ed2
        subst ed1
        rw [← hy]
        exact looks_reads m2
  unfold oneKind at hk
  simp only [Bool.or_eq_true, List.all_eq_true] at hk
  rcases hk with ((hk | hk) | hk) | hk
  · exact flat (.inl fun d hd => by have := hk d hd; cases d <;> simp [isI] at this; exact ⟨_, rfl⟩)
  · exact flat (.inr fun d hd => by have := hk d hd; cases d <;> simp [isS] at this; exact ⟨_, rfl⟩)
  · refine tups "int" (by decide) (fun d hd => ?_) (.inl hk)
    have := hk d hd
    match d, this with
    | .tup (.int i :: r), _ => exact ⟨_, _, rfl, by simp [D.pd, dataType]⟩
  · refine tups "str" (by decide) (fun d hd => ?_) (.inr hk)
    have := hk d hd
    match d, this with
    | .tup (.str i :: r), _ => exact ⟨_, _, rfl, by simp [D.pd, dataType]⟩
/-- what sorting gives -/
theorem sortVals_D {h : Heap} {Rl : Value → D → Prop} {vs : List Value} {l : List D} (e : EachIs Rl vs l) (er : EachIs (fun v (d : D) => ∃ as, Reads h v d.pd as) vs l) (ho : l.all okD = true) (hc : cmpAll l = true) :
    EachIs Rl (sortVals (dataKind h (l.map D.pd)) false vs vs) (l.mergeSort leD) := by
  have hk : EachIs (fun v (d : D) => (dataKind h (l.map D.pd)).keyOf v = some (tk d)) vs l := (each_mem er).mono fun v d ⟨⟨as, r⟩, hd⟩ => kind_at ho hd r
  have := sortVals_each (κ := dataKind h (l.map D.pd)) (rev := false) (fun d : D => tk d) e hk
  rw [sort_congr (s := leD) fun a ha b hb => ?_] at this
  · exact this
  · obtain ⟨k, hlt⟩ := cmp_at hc hb ha
    show (!PyProof.Rows.lexLt itemOrd (tk b) (tk a)) = leD a b
    unfold leD
    rw [lt_tk hlt, hlt]
    rfl

/-! ### the calls -/
section
variable {prog : Program} {w : World} {A : Around} {E : Value → Shared → Prop} {s : Shared}
/-- the heap behind the collecting: a new list of the items -/
def collHeap (h : Heap) (vs : List Value) : Heap := (h.push (seqObj "list" #[] 0)).update h.objs.size (Obj.mapSeq (· ++ vs.toArray))
theorem collTup {l : Addr} {vs : List Value} {Q : List Value → Shared → Prop} (hl : s.heap.IsTuple l vs.toArray) (hsz : vs.length ≤ sizeLine) (h : Q vs { s with heap := collHeap s.heap vs }) : wpAny (model prog w) A (collect (.ref l)) Q E s := by
  obtain ⟨o, ho, hc, n, hd⟩ := id hl
  unfold collect
  refine wpAny_bind (wpAny_runValue (codeAny_builtin entry_proto_collect' ?_))
  show wpAny _ _ (do again (.builtin "list.__iadd__" ⟨[← newList [], .ref l], []⟩)) _ _ s
  refine wpAny_bind (wpAny_newList (wpAny_pure ⟨Code.quiet_builtin _ (by decide +kernel), codeAny_builtin entry_list_iadd' ?_⟩))
  show wpAny _ _ (Builtin.List.listExtendWith (.ref s.heap.objs.size) (.ref l) (.ref s.heap.objs.size)) _ _ { s with heap := s.heap.push (seqObj "list" #[] 0) }
  unfold Builtin.List.listExtendWith
  have ho' : (s.heap.push (seqObj "list" #[] 0)).get? l = some o := Heap.get?_push_of_some _ ho
  refine wpAny_bind (wpAny_typeOf (T := "tuple") ⟨o, ho', hc⟩ ?_)
  rw [if_pos (by simp)]
  refine wpAny_bind (listItems_at ho' hd ?_)
  refine wpAny_bind (listItems_at (xs := #[]) (n := 0) (Heap.get?_push_size _ rfl) rfl ?_)
  rw [if_neg (by simp)]
  refine wpAny_bind (listUpdate_at (xs := #[]) (n := 0) (Heap.get?_push_size _ rfl) rfl ?_ (Nat.zero_le _) (by show (#[] ++ vs.toArray).size ≤ sizeLine + 1; simp only [Array.size_append, List.size_toArray, List.length_nil]; omega))
  refine wpAny_pure ?_
  show wpAny (model prog w) A (do
      let o ← load s.heap.objs.size
      match o.data with
      | .seq xs _ => pure xs.toList
      | _ => unsupported "internal:collect") Q E { s with heap := collHeap s.heap vs }
  refine wpAny_bind (wpAny_load (get?_update_seq (Heap.get?_push_size _ rfl) _) ?_)
  show wpAny _ _ (pure ((#[] : Array Value) ++ vs.toArray).toList) Q E _
  rw [show ((#[] : Array Value) ++ vs.toArray).toList = vs by simp]
  exact wpAny_pure h
/-- sorted(x), from what x's items are collected to -/
theorem sortedBy {l : Addr} {Q : Value → Shared → Prop}
    (hc : wpAny (model prog w) A.in1 (collect (.ref l)) (fun vs s1 => ∃ h' tk, s1 = { s with heap := h', toks := tk } ∧ (∀ b o, s.heap.get? b = some o → h'.get? b = some o) ∧ vs.length ≤ sizeLine ∧
      ∃ ds : List D, EachIs (fun v (d : D) => ∃ as, Reads h' v d.pd as) vs ds ∧ ds.all okD = true ∧ oneKind ds = true ∧ cmpAll ds = true ∧ A.units + 44 < cLine ∧
        ∀ out h2, out.length = vs.length → EachIs (fun v (d : D) => d ∈ ds ∧ ∀ R : Value → D → Prop, EachIs R vs ds → R v d) out (ds.mergeSort leD) → (∀ b o, h'.get? b = some o → h2.get? b = some o) → (∃ e, h2.get? h'.objs.size = some (seqObj "list" out.toArray e)) →
          Q (.ref h'.objs.size) { s with heap := h2, toks := tk }) E s) :
    wpAny (model prog w) A (call (.builtin "sorted") [.ref l]) Q E s := by
  refine Calls.call_function_entry kind_sorted plain_sorted entry_sorted (args_sorted1 _) ?_
  unfold Builtin.«sorted»
  refine wpAny_bind (m := checkCount "sorted" 1 1 _) (wpAny_pure ?_)
  refine wpAny_bind (wpAny_mono hc (fun vs s1 q => ?_) fun _ _ z => z)
  obtain ⟨h', tk, rfl, hk, hL, ds, e, ho, hk1, hc1, hu, fin⟩ := q
  refine wpAny_bind (wpAny_newList ?_ hL)
  have hoL : (h'.push (seqObj "list" vs.toArray 0)).get? h'.objs.size = some (seqObj "list" vs.toArray 0) := Heap.get?_push_size _ rfl
  show wpAny _ _ _ _ _ { s with heap := h'.push (seqObj "list" vs.toArray 0), toks := tk }
  have kp : ∀ b o, h'.get? b = some o → (sortingHeap (h'.push (seqObj "list" vs.toArray 0)) h'.objs.size vs).get? b = some o := fun b o q => sortingHeap_old (Nat.ne_of_lt (Heap.lt_size q)) (Heap.get?_push_of_some _ q)
  have e2 : EachIs (fun v (d : D) => ∃ as, Reads (sortingHeap (h'.push (seqObj "list" vs.toArray 0)) h'.objs.size vs) v d.pd as) vs ds := e.mono fun _ _ ⟨as, r⟩ => ⟨as, PyProof.Rows.Reads.keeps kp r⟩
  refine wpAny_bind (wpAny_holding (wpAny_call_entry slot_list_sort ⟨_, hoL, rfl⟩ entry_list_sort (list_sort_vals (κ := dataKind (sortingHeap (h'.push (seqObj "list" vs.toArray 0)) h'.objs.size vs) (ds.map D.pd)) (s := { s with heap := h'.push (seqObj "list" vs.toArray 0), toks := tk }) hoL
    (sortsD (s := { s with heap := sortingHeap (h'.push (seqObj "list" vs.toArray 0)) h'.objs.size vs, toks := tk }) e2 ho hk1 hc1 (by show A.units + 1 + 1 + 40 < _; omega)) hL ⟨.none, rfl, ?_⟩) (args_list_sort _)))
  refine wpAny_pure ⟨_, rfl, ?_⟩
  obtain ⟨ep, he⟩ := PyProof.Rows.sortedHeap_at (vs := vs) (out := (sortVals (dataKind (sortingHeap (h'.push (seqObj "list" vs.toArray 0)) h'.objs.size vs) (ds.map D.pd)) false vs vs).toArray) hoL
  refine fin _ _ (sortVals_length false rfl) ?_ (fun b o q => ?_) ⟨ep, he⟩
  · have hm : EachIs (fun (v : Value) (d : D) => d ∈ ds ∧ ∀ R : Value → D → Prop, EachIs R vs ds → R v d) vs ds := by
      refine EachIs.of_zip e.length fun p hp => ⟨(List.of_mem_zip hp).2, fun R r => r.zip p hp⟩
    exact sortVals_D hm e2 ho hc1
  · have hb : b < h'.objs.size := Heap.lt_size q
    show (sortedHeap (h'.push (seqObj "list" vs.toArray 0)) h'.objs.size vs _).get? b = some o
    rw [PyProof.Rows.sortedHeap_old (Nat.ne_of_lt hb) (by rw [size_push']; exact Nat.lt_succ_of_lt hb)]
    exact Heap.get?_push_of_some _ q
end

theorem each_pair {C : Cn} {H : Hp} : ∀ {ds : List D} {out : List Value}, EachIs (fun v (d : D) => ∃ x, RelV x v ∧ RpD C H d x) out ds → ∃ zs, Vals zs out ∧ RpDs C H ds zs
  | [], _, .nil => ⟨[], .nil, by simp only [RpDs]⟩
  | d :: ds, _, .cons ⟨x, r, h⟩ t => by
    obtain ⟨zs, h1, h2⟩ := each_pair t
    exact ⟨x :: zs, .cons r h1, by simp only [RpDs]; exact ⟨x, zs, rfl, h, h2⟩⟩
theorem pair_each {C : Cn} {H : Hp} : ∀ {ds : List D} {xs : List V} {vs : List Value}, Vals xs vs → RpDs C H ds xs → EachIs (fun v (d : D) => ∃ x, RelV x v ∧ RpD C H d x) vs ds
  | [], xs, vs, r, h => by
    simp only [RpDs] at h
    subst h
    cases r
    exact .nil
  | d :: ds, xs, vs, r, h => by
    simp only [RpDs] at h
    obtain ⟨y, ys, rfl, h1, h2⟩ := h
    cases r with
    | cons r1 r2 => exact .cons ⟨y, r1, h1⟩ (pair_each r2 h2)
section
variable {X : Cx} {C : Cn}
theorem each_reads {pins : List (Addr × Obj)} {s : Shared} {σ : L2.St} {H : Hp} {h' : Heap} (hC : C.K = X.K) (I : Inv X pins σ H s) (k : ∀ b o, s.heap.get? b = some o → h'.get? b = some o) {ds : List D} (ho : ds.all okD = true) {vs : List Value}
    (e : EachIs (fun v (d : D) => ∃ x, RelV x v ∧ RpD C H d x) vs ds) : EachIs (fun v (d : D) => ∃ as, Reads h' v d.pd as) vs ds :=
  (each_mem e).mono fun v d ⟨⟨x, r, h⟩, hd⟩ => by
    have hk : Dp X.K H x d.pd := by rw [← hC]; exact rp_dp (List.all_eq_true.mp ho d hd) h
    obtain ⟨as, ra⟩ := Dp.reads I d.pd x v hk r
    exact ⟨as, PyProof.Rows.Reads.keeps k ra⟩
/-- what a sorted call wants -/
def rSortD (C : Cn) (K : PySem.W.Frag) : List V → Hp → VK → Prop := fun xs H Q => ∃ a ys ds, xs = [.ref a] ∧ (SqL K H a ys ∨ SqT K H a ys) ∧ RpDs C H ds ys ∧ ds.all okD = true ∧ oneKind ds = true ∧ cmpAll ds = true ∧
  ∀ zs p, RpDs C H (ds.mergeSort leD) zs → H p = none → Q (.ref p) (upd H p (.lst zs))
theorem sortEnd {pins : List (Addr × Obj)} {s : Shared} {σ : L2.St} {H : Hp} {Q : VK} {a : Addr} {vs : List Value} {ds : List D} {h' : Heap} {tk : Nat} (hC : C.K = X.K) (hu : X.A.units + 64 < cLine) (I : Inv X pins σ H s) (k : ∀ b o, s.heap.get? b = some o → h'.get? b = some o) (hz : vs.length ≤ sizeLine)
    (e : EachIs (fun v (d : D) => ∃ x, RelV x v ∧ RpD C H d x) vs ds) (ho : ds.all okD = true) (hk : oneKind ds = true) (hc : cmpAll ds = true)
    (q : ∀ zs p, RpDs C H (ds.mergeSort leD) zs → H p = none → Q (.ref p) (upd H p (.lst zs))) :
    ∃ (h2 : Heap) (tk2 : Nat), ({ s with heap := h', toks := tk } : Shared) = { s with heap := h2, toks := tk2 } ∧ (∀ b o, s.heap.get? b = some o → h2.get? b = some o) ∧ vs.length ≤ sizeLine ∧
      ∃ ds : List D, EachIs (fun v (d : D) => ∃ as, Reads h2 v d.pd as) vs ds ∧ ds.all okD = true ∧ oneKind ds = true ∧ cmpAll ds = true ∧ X.A.units + 44 < cLine ∧
        ∀ out h3, out.length = vs.length → EachIs (fun v (d : D) => d ∈ ds ∧ ∀ R : Value → D → Prop, EachIs R vs ds → R v d) out (ds.mergeSort leD) → (∀ b o, h2.get? b = some o → h3.get? b = some o) → (∃ e, h3.get? h2.objs.size = some (seqObj "list" out.toArray e)) →
          EP X pins σ Q (.ref h2.objs.size) { s with heap := h3, toks := tk2 } := by
  refine ⟨h', tk, rfl, k, hz, ds, each_reads hC I k ho e, ho, hk, hc, by omega, fun out h3 hl r k3 ⟨ep, he⟩ => ?_⟩
  obtain ⟨zs, z1, z2⟩ := each_pair (r.mono fun v d ⟨_, z⟩ => z _ e)
  have I1 : Inv X pins σ H { s with heap := h', toks := tk } := I.kept k
  have fr : H h'.objs.size = none := I1.hok.fresh (Nat.le_refl _)
  have hlen : zs.length ≤ sizeLine := by rw [z1.length, hl]; exact hz
  exact ⟨.ref h'.objs.size, upd H h'.objs.size (.lst zs), I1.laid (t' := tk) k3 (Nat.le_refl _) ⟨hlen, out, ep, z1, he⟩, rfl, q zs _ z2 fr⟩
theorem call_sortD (hC : C.K = X.K) (hu : X.A.units + 64 < cLine) : CallR X (.builtin "sorted") (rSortD C X.K) := by
  intro pins s σ H xs us Q I r h
  obtain ⟨a, ys, ds, rfl, hs, hr, ho, hk, hc, q⟩ := h
  cases r with
  | cons r1 r2 =>
    cases r2
    cases r1
    refine sortedBy ?_
    rcases hs with hs | hs
    · obtain ⟨its, rv, hl, hz⟩ := I.list hs
      refine collect_list hl.isList (sortEnd (a := a) (h' := collHeap s.heap its) (tk := s.toks) hC hu I (fun b o e => ?_) (by rw [← rv.length]; exact hz) (pair_each rv hr) ho hk hc q) (by rw [← rv.length]; exact hz)
      show (collHeap s.heap its).get? b = some o
      unfold collHeap
      rw [Heap.get?_update_ne _ _ _ _ (Nat.ne_of_lt (Heap.lt_size e))]
      exact Heap.get?_push_of_some _ e
    · obtain ⟨its, rv, hl, hz⟩ := I.tuple hs
      refine collTup hl (by rw [← rv.length]; exact hz) (sortEnd (a := a) (h' := collHeap s.heap its) (tk := s.toks) hC hu I (fun b o e => ?_) (by rw [← rv.length]; exact hz) (pair_each rv hr) ho hk hc q)
      show (collHeap s.heap its).get? b = some o
      unfold collHeap
      rw [Heap.get?_update_ne _ _ _ _ (Nat.ne_of_lt (Heap.lt_size e))]
      exact Heap.get?_push_of_some _ e
/-- sorted(d): the keys -/
theorem call_sortDct (hC : C.K = X.K) (hcalm : X.calm = true) (hu : X.A.units + 64 < cLine) : CallR X (.builtin "sorted") fun xs H Q => ∃ a kvs, xs = [.ref a] ∧ Rd H a (.dK kvs) ∧
    ∃ ds : List D, kvs.map (fun kv => kV kv.1) = ds.map (fun d => match d with | .int i => V.int i | .str s => V.str (sT s) | _ => V.non) ∧ ds.all (fun d => isI d || isS d) = true ∧ (∀ d ∈ ds, ∀ s, d = .str s → s.length ≤ LIM) ∧ ds.all okD = true ∧ oneKind ds = true ∧ cmpAll ds = true ∧
      ∀ zs p, RpDs C H (ds.mergeSort leD) zs → H p = none → Q (.ref p) (upd H p (.lst zs)) := by
  intro pins s σ H xs us Q I r h
  obtain ⟨a, kvs, rfl, hd, ds, hds, hflat, hlim, ho, hk, hc, q⟩ := h
  cases r with
  | cons r1 r2 =>
    cases r2
    cases r1
    obtain ⟨z, lo, vs, rel, dd⟩ := dk_rd I.hok hd
    obtain ⟨ep, hat⟩ := dd.dictAt
    have hl : vs.length = kvs.length := by
      have e := congrArg List.length rel.keys
      simpa using e.symm
    refine sortedBy ?_
    refine PySem.W.kdu_collect (A := X.A.in1) (PySem.W.kdl_dict (knd := mixKind X.prog X.w) (kvs := vs) (ep := ep) lo) (I.ok.hd hcalm) hat (by rw [hl]; exact z) fun h' tk acc hkp hacc => ?_
    have hla : acc.toList.length = ds.length := by
      have e := congrArg List.length hds
      simp only [List.length_map] at e
      rw [Array.length_toList, hacc.1, hl, e]
    have key : EachIs (fun v (d : D) => ∃ x, RelV x v ∧ RpD C H d x) acc.toList ds := by
      refine EachIs.of_zip hla fun p hp => ?_
      obtain ⟨j, hj⟩ := List.getElem?_of_mem hp
      rw [List.getElem?_zip_eq_some] at hj
      obtain ⟨j1, j2⟩ := hj
      obtain ⟨k, x, e1, e2⟩ := hacc.2 j p.1 (by rw [← Array.getElem?_toList]; exact j1)
      have e3 : (kvs.map (·.1))[j]? = some k := by
        rw [rel.keys, List.getElem?_map, e1]
        rfl
      rw [List.getElem?_map] at e3
      obtain ⟨kv, e4, e5⟩ := Option.map_eq_some_iff.mp e3
      have e6 : (kvs.map fun kv => kV kv.1)[j]? = some (kV k) := by
        rw [List.getElem?_map, e4, ← e5]
        rfl
      rw [hds, List.getElem?_map, j2] at e6
      have e7 := Option.some.inj e6
      have hf := List.all_eq_true.mp hflat p.2 (List.mem_of_getElem? j2)
      have e2 : keyIs k p.1 = true := e2
      rcases keyIs_shape e2 with ⟨i, t, rfl, ev⟩ | ⟨y, t, rfl, ev⟩
      · cases hp2 : p.2 <;> rw [hp2] at e7 hf <;> simp [isI, isS] at hf
        · simp only [kV] at e7
          refine ⟨.int i, ⟨t, ev⟩, ?_⟩
          simp only [RpD]
          exact e7.symm
        · simp [kV] at e7
      · cases hp2 : p.2 <;> rw [hp2] at e7 hf <;> simp [isI, isS] at hf
        · simp [kV] at e7
        · simp only [kV] at e7
          refine ⟨.str y, ⟨t, ev⟩, ?_⟩
          simp only [RpD]
          exact ⟨e7.symm, hlim p.2 (List.mem_of_getElem? j2) _ hp2⟩
    exact sortEnd (a := a) (tk := tk) hC hu I hkp (by rw [Array.length_toList, hacc.1, hl]; exact z) key ho hk hc q
end
end LD
/-! LD7: comparisons, by values. -/
namespace LD
open PySem L2

def copPy : COp → CmpOp
  | .eq => .Eq
  | .ne => .NotEq
  | .lt => .Lt
  | .le => .LtE
  | .gt => .Gt
  | .ge => .GtE
  | .isin => .In
  | .notin => .NotIn
  | .isn => .Is
  | .notn => .IsNot
section
variable {X : Cx} {C : Cn} {E : XK} {pins : List (Addr × Obj)} {s : Shared} {σ : L2.St} {H : Hp} {Q : VK}
/-- two dicts, the second one empty -/
theorem dictEq0 (hu : X.A.units + 64 < cLine) (I : Inv X pins σ H s) {a b : Addr} {kvs : List (Key × V)} (ha : Rd H a (.dK kvs)) (hb : Rd H b (.dK [])) (q : Q (.bl kvs.isEmpty) H) :
    wpAny (model X.prog X.w) X.A (compareOp .Eq (.ref a) (.ref b)) (EP X pins σ Q) X.xe s := by
  obtain ⟨z1, l1, v1, r1, d1⟩ := dk_rd I.hok ha
  obtain ⟨z2, l2, v2, r2, d2⟩ := dk_rd I.hok hb
  have e2 : v2 = [] := by
    have := congrArg List.length r2.keys
    cases v2 with
    | nil => rfl
    | cons _ _ => simp at this
  subst e2
  refine PySem.W.keq_eqIn (r := true) l1 l2 d1 d2 (by omega) (fun h => ?_) ⟨.bl kvs.isEmpty, H, I, ?_, q⟩
  · cases v1 with
    | nil => exact .nil
    | cons _ _ => simp at h
  · show Value.bool _ = Value.bool _
    have := congrArg List.length r1.keys
    cases kvs with
    | nil => cases v1 with
      | nil => rfl
      | cons _ _ => simp at this
    | cons _ _ => cases v1 with
      | nil => simp at this
      | cons _ _ => rfl
theorem dictNe0 (hu : X.A.units + 64 < cLine) (I : Inv X pins σ H s) {a b : Addr} {kvs : List (Key × V)} (ha : Rd H a (.dK kvs)) (hb : Rd H b (.dK [])) (q : Q (.bl (!kvs.isEmpty)) H) :
    wpAny (model X.prog X.w) X.A (compareOp .NotEq (.ref a) (.ref b)) (EP X pins σ Q) X.xe s := by
  obtain ⟨z1, l1, v1, r1, d1⟩ := dk_rd I.hok ha
  obtain ⟨z2, l2, v2, r2, d2⟩ := dk_rd I.hok hb
  have e2 : v2 = [] := by
    have := congrArg List.length r2.keys
    cases v2 with
    | nil => rfl
    | cons _ _ => simp at this
  subst e2
  refine PySem.W.keq_ne (r := true) l1 l2 d1 d2 (by omega) (fun h => ?_) ⟨.bl (!kvs.isEmpty), H, I, ?_, q⟩
  · cases v1 with
    | nil => exact .nil
    | cons _ _ => simp at h
  · show Value.bool _ = Value.bool _
    have := congrArg List.length r1.keys
    cases kvs with
    | nil => cases v1 with
      | nil => rfl
      | cons _ _ => simp at this
    | cons _ _ => cases v1 with
      | nil => simp at this
      | cons _ _ => rfl
theorem strCmp {a b : List Nat} : decide (V.str (sT a) = V.str (sT b)) = (a == b) := by
  by_cases h : a = b
  · subst h; simp
  · have h2 : ¬ V.str (sT a) = V.str (sT b) := fun q => h (by injection q with q; exact sT_inj q)
    rw [decide_eq_false h2, beq_eq_false_iff_ne.mpr h]
theorem lookK_rel {C : Cn} {ι : Nat → Addr} {L : Nat} {k : Ky} : ∀ {l : List (Ky × W)} {kvs : List (Key × V)}, KRs C H ι L l kvs → (∀ w, lookK l k = some w → ∃ v, valV kvs (ky k) = some v ∧ WRp C H ι L w v) ∧ (lookK l k = none → valV kvs (ky k) = none)
  | _, _, .nil => ⟨fun w h => by simp [lookK] at h, fun _ => rfl⟩
  | (k', w') :: l, (q, v') :: kvs, .cons ⟨⟨h1, _⟩, h2⟩ t => by
    have ih := lookK_rel (k := k) t
    simp only at h1 h2
    subst h1
    unfold lookK valV
    by_cases e : k' = k
    · subst e
      rw [if_pos rfl]
      refine ⟨fun w h => ?_, fun h => by cases h⟩
      cases h
      exact ⟨v', by simp [List.find?], h2⟩
    · rw [if_neg e]
      have ne : ¬ ky k' = ky k := fun z => e (ky_inj z)
      simp only [List.find?, decide_eq_false ne]
      exact ih
theorem keyOf_rel {C : Cn} {x : D} {k : Ky} {v : V} (h : keyOf x = some k) (r : RpD C H x v) : v = kV (ky k) ∧ kyOk k := by
  cases x <;> simp [keyOf] at h
  · subst h
    simp only [RpD] at r
    exact ⟨r, trivial⟩
  · subst h
    simp only [RpD] at r
    exact r
end
section
variable {X : Cx} {C : Cn} {E : XK} {op : COp}
theorem op_eqM (hC : C.K = X.K) (hu : X.A.units + 64 < cLine) : OpR X (compareOp .Eq) (rM C E (cmpop .eq)) ∧ OpR X (compareOp .NotEq) (rM C E (cmpop .ne)) := by
  have main : ∀ (neg : Bool) {pins : List (Addr × Obj)} {s : Shared} {σ : L2.St} {H : Hp} {x y : V} {v u : Value} {Q : VK} {ι : Nat → Addr} {S : Sto} {w1 w2 : W} {r : Bool}, Inv X pins σ H s → RelV x v → RelV y u →
      Sim C H ι S → WRp C H ι S.length w1 x → WRp C H ι S.length w2 y → eqR w1 w2 S = some r → Q (.bl (if neg = true then !r else r)) H →
      wpAny (model X.prog X.w) X.A (compareOp (if neg = true then .NotEq else .Eq) v u) (EP X pins σ Q) X.xe s := by
    intro neg pins s σ H x y v u Q ι S w1 w2 r I rx ry sm h1 h2 hr q
    unfold eqR at hr
    split at hr
    · rename_i a b
      cases hr
      rw [rp_str h1] at rx
      rw [rp_str h2] at ry
      cases neg with
      | false => exact op_eq pins s σ H _ _ v u Q I rx ry ⟨rfl, by rw [strCmp]; exact q⟩
      | true => exact op_ne pins s σ H _ _ v u Q I rx ry ⟨rfl, by rw [strCmp]; exact q⟩
    · split at hr
      · rename_i l e1 e2
        cases hr
        obtain ⟨a, k1, rfl, q1, d1⟩ := dictOf_rel sm e1 h1
        obtain ⟨b, k2, rfl, q2, d2⟩ := dictOf_rel sm e2 h2
        cases rx
        cases ry
        cases q2
        have el : l.isEmpty = k1.isEmpty := by cases q1 <;> rfl
        cases neg with
        | false => exact dictEq0 hu I d1 d2 (by rw [← el]; exact q)
        | true => exact dictNe0 hu I d1 d2 (by rw [← el]; exact q)
      · split at hr
        · rename_i a b e1 e2
          split at hr
          · rename_i hok
            cases hr
            rw [Bool.and_eq_true] at hok
            have p1 := flat_dp sm e1 hok.1 h1
            have p2 := flat_dp sm e2 hok.2 h2
            rw [hC] at p1 p2
            have k1 := ok_shaped (n := 30) hok.1 (by decide)
            have k2 := ok_shaped (n := 30) hok.2 (by decide)
            rw [eqv_pd hok.1 hok.2] at q
            cases neg with
            | false => exact op_eqD hu pins s σ H x y v u Q I rx ry ⟨_, _, p1, p2, k1, k2, q⟩
            | true => exact op_neD hu pins s σ H x y v u Q I rx ry ⟨_, _, p1, p2, k1, k2, q⟩
          · cases hr
        · cases hr
  constructor
  · rintro pins s σ H x y v u Q I rx ry ⟨ι, S, w1, w2, sm, h1, h2, a⟩
    unfold cmpop ofB at a
    cases e : eqR w1 w2 S with
    | none => simp only [e] at a; exact a.elim
    | some r =>
      simp only [e] at a
      exact main false I rx ry sm h1 h2 e (Aft.ok sm (mk_bl _) a)
  · rintro pins s σ H x y v u Q I rx ry ⟨ι, S, w1, w2, sm, h1, h2, a⟩
    unfold cmpop ofB at a
    cases e : eqR w1 w2 S with
    | none => simp only [e, Option.map_none] at a; exact a.elim
    | some r =>
      simp only [e, Option.map_some] at a
      exact main true I rx ry sm h1 h2 e (Aft.ok sm (mk_bl _) a)
theorem any_pd {a : D} {n : Nat} (ha : a.ok n = true) : ∀ {l : List D} {m : Nat}, l.all (D.ok m) = true → (l.any fun z => D.eqv z a) = (D.pds l).any fun z => PyData.eqv z a.pd
  | [], m, _ => by simp [D.pds]
  | x :: l, m, h => by
    simp only [List.all_cons, Bool.and_eq_true] at h
    simp only [D.pds, List.any_cons]
    rw [eqv_pd h.1 ha, any_pd ha h.2]
theorem flat_dp' {H : Hp} {ι : Nat → Addr} {S : Sto} {w : W} {x : D} {v : V} (s : Sim C H ι S) (h : w.flat S = some x) (hx : (match x with | .lst l => l.all okD | .tup l => l.all okD | _ => false) = true) (r : WRp C H ι S.length w v) : Dp C.K H v x.pd := by
  cases w with
  | d y =>
    simp only [W.flat, Option.some.injEq] at h
    subst h
    have : y.ok 31 = true := by
      cases y <;> simp only [D.ok] <;> first | exact hx | simp at hx
    exact rp_dp this r
  | ref n =>
    simp only [W.flat] at h
    cases e : S[n]? with
    | none => rw [e] at h; simp at h
    | some o =>
      rw [e] at h
      cases o with
      | lst l =>
        obtain ⟨xs, h1, h2⟩ := s.at' _ _ e
        obtain ⟨ds, hd, rfl⟩ := Option.map_eq_some_iff.mp h
        rw [r.2]
        simp only [D.pd]
        exact .lst (SqL.of h1) (rps_dp hx (datas_rel hd h2))
      | tup l =>
        obtain ⟨xs, h1, h2⟩ := s.at' _ _ e
        obtain ⟨ds, hd, rfl⟩ := Option.map_eq_some_iff.mp h
        rw [r.2]
        simp only [D.pd]
        exact .tup (SqT.of h1) (rps_dp hx (datas_rel hd h2))
      | _ => simp at h
theorem op_inM (hC : C.K = X.K) (hu : X.A.units + 65 < cLine) : OpR X (compareOp .In) (rM C E (cmpop .isin)) ∧ OpR X (compareOp .NotIn) (rM C E (cmpop .notin)) := by
  have main : ∀ (neg : Bool) {pins : List (Addr × Obj)} {s : Shared} {σ : L2.St} {H : Hp} {x y : V} {v u : Value} {Q : VK} {ι : Nat → Addr} {S : Sto} {w1 w2 : W} {r : Bool}, Inv X pins σ H s → RelV x v → RelV y u →
      Sim C H ι S → WRp C H ι S.length w1 x → WRp C H ι S.length w2 y → isinR w1 w2 S = some r → Q (.bl (if neg = true then !r else r)) H →
      wpAny (model X.prog X.w) X.A (compareOp (if neg = true then .NotIn else .In) v u) (EP X pins σ Q) X.xe s := by
    intro neg pins s σ H x y v u Q ι S w1 w2 r I rx ry sm h1 h2 hr q
    unfold isinR at hr
    split at hr
    · rename_i a
      split at hr
      · rename_i b
        split at hr
        · rename_i c
          cases hr
          rw [rp_str h1] at rx
          rw [rp_str h2] at ry
          have e : b.contains c = decide (c ∈ (sT b).cps.toList) := by
            show b.contains c = decide (c ∈ b)
            exact List.contains_eq_mem c b
          rw [e] at q
          cases neg with
          | false => exact op_in_sign pins s σ H _ _ v u Q I rx ry ⟨c, sT b, rfl, rfl, q⟩
          | true => exact op_notIn_sign pins s σ H _ _ v u Q I rx ry ⟨c, sT b, rfl, rfl, q⟩
        · cases hr
      · split at hr
        · rename_i l e1
          obtain ⟨p, kvs, rfl, q1, d1⟩ := dictOf_rel sm e1 h2
          obtain ⟨k, hk, rfl⟩ := Option.map_eq_some_iff.mp hr
          have ek := (keyOf_rel hk h1).1
          subst ek
          have lk := lookK_rel (k := k) q1
          have es : (valV kvs (ky k)).isSome = (lookK l k).isSome := by
            cases e : lookK l k with
            | some w => obtain ⟨v', z, _⟩ := lk.1 w e; rw [z]; rfl
            | none => rw [lk.2 e]; rfl
          cases ry
          have g : DGet H p (kV (ky k)) (valV kvs (ky k)) := .inl ⟨kvs, ky k, d1, rfl, rfl⟩
          cases neg with
          | false => exact d_in (by omega) I g rx fun s3 I3 => ⟨.bl _, H, I3, rfl, by rw [es]; exact q⟩
          | true => exact d_notIn (by omega) I g rx fun s3 I3 => ⟨.bl _, H, I3, rfl, by rw [es]; exact q⟩
        · split at hr
          · rename_i l e1
            split at hr
            · rename_i hok
              cases hr
              rw [Bool.and_eq_true] at hok
              have o1 : D.ok 30 a = true := hok.1
              have p1 : Dp C.K H x a.pd := rp_dp o1 h1
              have p2 : Dp C.K H y (D.pd (.lst l)) := flat_dp' sm e1 hok.2 h2
              rw [hC] at p1 p2
              obtain ⟨as, r1⟩ := Dp.reads I _ x v p1 rx
              obtain ⟨bs, r2⟩ := Dp.reads I _ y u p2 ry
              have l1 := ok_lay o1
              have l2 := oks_lay hok.2
              simp only [D.pd] at r2
              have room : X.A.units + 1 + min (PyData.depthAll (D.pds l)) a.pd.depth < cLine := by have := l1.2; omega
              rw [any_pd o1 hok.2] at q
              cases neg with
              | false => exact SeqAt.in_list_reads r2 r1 l2.1 l1.1 room ⟨.bl _, H, I, rfl, q⟩
              | true => exact SeqAt.notIn_list_reads r2 r1 l2.1 l1.1 room ⟨.bl _, H, I, rfl, q⟩
            · cases hr
          · rename_i l e1
            split at hr
            · rename_i hok
              cases hr
              rw [Bool.and_eq_true] at hok
              have o1 : D.ok 30 a = true := hok.1
              have p1 : Dp C.K H x a.pd := rp_dp o1 h1
              have p2 : Dp C.K H y (D.pd (.tup l)) := flat_dp' sm e1 hok.2 h2
              rw [hC] at p1 p2
              obtain ⟨as, r1⟩ := Dp.reads I _ x v p1 rx
              obtain ⟨bs, r2⟩ := Dp.reads I _ y u p2 ry
              have l1 := ok_lay o1
              have l2 := oks_lay hok.2
              simp only [D.pd] at r2
              have room : X.A.units + 1 + min (PyData.depthAll (D.pds l)) a.pd.depth < cLine := by have := l1.2; omega
              rw [any_pd o1 hok.2] at q
              cases neg with
              | false => exact SeqAt.in_tuple_reads r2 r1 l2.1 l1.1 room ⟨.bl _, H, I, rfl, q⟩
              | true => exact SeqAt.notIn_tuple_reads r2 r1 l2.1 l1.1 room ⟨.bl _, H, I, rfl, q⟩
            · cases hr
          · cases hr
    · cases hr
  constructor
  · rintro pins s σ H x y v u Q I rx ry ⟨ι, S, w1, w2, sm, h1, h2, a⟩
    unfold cmpop ofB at a
    cases e : isinR w1 w2 S with
    | none => simp only [e] at a; exact a.elim
    | some r =>
      simp only [e] at a
      exact main false I rx ry sm h1 h2 e (Aft.ok sm (mk_bl _) a)
  · rintro pins s σ H x y v u Q I rx ry ⟨ι, S, w1, w2, sm, h1, h2, a⟩
    unfold cmpop ofB at a
    cases e : isinR w1 w2 S with
    | none => simp only [e, Option.map_none] at a; exact a.elim
    | some r =>
      simp only [e, Option.map_some] at a
      exact main true I rx ry sm h1 h2 e (Aft.ok sm (mk_bl _) a)
theorem op_ltM (hC : C.K = X.K) (hu : X.A.units + 64 < cLine) : OpR X (compareOp .Lt) (rM C E (cmpop .lt)) := by
  rintro pins s σ H x y v u Q I rx ry ⟨ι, S, w1, w2, sm, h1, h2, a⟩
  unfold cmpop ofB ltR at a
  cases w1 with
  | ref n => exact a.elim
  | d p => cases w2 with
    | ref n => exact a.elim
    | d q =>
      simp only at a
      split at a
      · rename_i b hb
        split at hb
        · rename_i hok
          rw [Bool.and_eq_true] at hok
          have p1 : Dp C.K H x p.pd := rp_dp hok.1 h1
          have p2 : Dp C.K H y q.pd := rp_dp hok.2 h2
          rw [hC] at p1 p2
          obtain ⟨as, r1⟩ := Dp.reads I _ x v p1 rx
          obtain ⟨bs, r2⟩ := Dp.reads I _ y u p2 ry
          exact rcLtD (n := 30) (A := X.A) hok.1 hok.2 r1 r2 hb (by omega) X.prog X.w _ _ ⟨.bl b, H, I, rfl, Aft.ok sm (mk_bl _) a⟩
        · cases hb
      · exact a.elim
theorem op_ordM : OpR X (compareOp .LtE) (rM C E (cmpop .le)) ∧ OpR X (compareOp .Gt) (rM C E (cmpop .gt)) ∧ OpR X (compareOp .GtE) (rM C E (cmpop .ge)) := by
  refine ⟨?_, ?_, ?_⟩
  · rintro pins s σ H x y v u Q I rx ry ⟨ι, S, w1, w2, sm, h1, h2, a⟩
    unfold cmpop okRes at a
    simp only at a
    split at a
    · rw [rp_int h1] at rx
      rw [rp_int h2] at ry
      exact op_le pins s σ H _ _ v u Q I rx ry ⟨_, _, rfl, rfl, Aft.ok sm (mk_bl _) a⟩
    · exact a.elim
  · rintro pins s σ H x y v u Q I rx ry ⟨ι, S, w1, w2, sm, h1, h2, a⟩
    unfold cmpop okRes at a
    simp only at a
    split at a
    · rw [rp_int h1] at rx
      rw [rp_int h2] at ry
      exact op_gt pins s σ H _ _ v u Q I rx ry ⟨_, _, rfl, rfl, Aft.ok sm (mk_bl _) a⟩
    · exact a.elim
  · rintro pins s σ H x y v u Q I rx ry ⟨ι, S, w1, w2, sm, h1, h2, a⟩
    unfold cmpop okRes at a
    simp only at a
    split at a
    · rw [rp_int h1] at rx
      rw [rp_int h2] at ry
      exact op_ge pins s σ H _ _ v u Q I rx ry ⟨_, _, rfl, rfl, Aft.ok sm (mk_bl _) a⟩
    · exact a.elim
theorem non_iff {H : Hp} {ι : Nat → Addr} {L : Nat} {w : W} {v : V} (r : WRp C H ι L w v) : decide (v = .non) = isNonW w := by
  cases w with
  | ref n => rw [r.2]; rfl
  | d x =>
    have r : RpD C H x v := r
    cases x <;> simp only [RpD] at r
    · subst r; rfl
    · subst r; rfl
    · subst r; rfl
    · obtain ⟨rfl, _⟩ := r; rfl
    · obtain ⟨a, _, e, _⟩ := r; subst e; rfl
    · obtain ⟨a, _, e, _⟩ := r; subst e; rfl
    · obtain ⟨a, _, e, _⟩ := r; subst e; rfl
    · subst r; rfl
    · obtain ⟨a, e, _⟩ := r; subst e; rfl
theorem op_isM : OpR X (compareOp .Is) (rM C E (cmpop .isn)) ∧ OpR X (compareOp .IsNot) (rM C E (cmpop .notn)) := by
  constructor
  · rintro pins s σ H x y v u Q I rx ry ⟨ι, S, w1, w2, sm, h1, h2, a⟩
    unfold cmpop okRes at a
    simp only at a
    split at a
    · rw [rp_non h2] at ry
      exact op_isN pins s σ H _ _ v u Q I rx ry ⟨rfl, by rw [non_iff h1]; exact Aft.ok sm (mk_bl _) a⟩
    · exact a.elim
  · rintro pins s σ H x y v u Q I rx ry ⟨ι, S, w1, w2, sm, h1, h2, a⟩
    unfold cmpop okRes at a
    simp only at a
    split at a
    · rw [rp_non h2] at ry
      exact op_notN pins s σ H _ _ v u Q I rx ry ⟨rfl, by rw [non_iff h1]; exact Aft.ok sm (mk_bl _) a⟩
    · exact a.elim
theorem op_cmpM (hC : C.K = X.K) (hu : X.A.units + 65 < cLine) (op : COp) : OpR X (compareOp (copPy op)) (rM C E (cmpop op)) := by
  cases op
  · exact (op_eqM hC (by omega)).1
  · exact (op_eqM hC (by omega)).2
  · exact op_ltM hC (by omega)
  · exact op_ordM.1
  · exact op_ordM.2.1
  · exact op_ordM.2.2
  · exact (op_inM hC hu).1
  · exact (op_inM hC hu).2
  · exact op_isM.1
  · exact op_isM.2
end
end LD
/-! LD8: subscripts, slices, displays, by values. -/
namespace LD
open PySem L2

theorem ixN_eq (n : Nat) (i : Int) : LD.ixN n i = L2.ixN n i := by
  unfold LD.ixN L2.ixN
  by_cases h : 0 ≤ i
  · rw [if_pos h, if_pos h]
  · rw [if_neg h, if_neg h]
    by_cases h2 : 0 ≤ i + n
    · rw [if_pos h2, if_pos (by omega)]
    · rw [if_neg h2, if_neg (by omega)]
theorem clip_eq (n d : Nat) (o : Option Int) : (o.map (clip n)).getD d = HT.sIx n d o := by
  cases o with
  | none => rfl
  | some i =>
    show clip n i = _
    unfold clip HT.sIx
    by_cases h : 0 ≤ i
    · rw [if_pos h]
      show _ = if i < 0 then _ else _
      rw [if_neg (by omega), Nat.min_comm]
    · rw [if_neg h]
      show _ = if i < 0 then _ else _
      rw [if_pos (by omega)]
theorem cut_eq {α : Type} (l : List α) (lo hi : Nat) : cut l lo hi = (l.drop lo).take (hi - lo) := by
  unfold cut
  rw [List.drop_take]
theorem pairCut {α β : Type} {F : α → β → Prop} {l : List α} {m : List β} (h : Paired F l m) (lo hi : Nat) : Paired F (cut l lo hi) (cut m lo hi) := pairDrop lo (pairTake hi h)
section
variable {X : Cx} {C : Cn} {E : XK}
theorem ix_M (hC : C.K = X.K) (hu : X.A.units + 64 < cLine) : IxR X (rM C E index) := by
  rintro value sl pins s σ H x y v u Q I rx ry ⟨ι, S, w1, w2, sm, h1, h2, a⟩ hs
  unfold index at a
  split at a
  · rename_i t i
    have hl := rp_strL h1
    rw [rp_str h1] at rx
    rw [rp_int h2] at ry
    split at a
    · rename_i n en
      split at a
      · rename_i c ec
        refine ix_str value sl pins s σ H _ _ v u Q I rx ry ⟨_, _, c, rfl, rfl, by rw [sT_len]; exact lim_line hl, ?_, Aft.ok sm (mk_str (by simp [LIM])) a⟩ hs
        show ((L2.ixN t.length i).bind fun j => t[j]?) = some c
        rw [← ixN_eq, en]
        exact ec
      · exact a.elim
    · exact a.elim
  · rename_i x1 y1 hno
    split at a
    · rename_i l k e1
      obtain ⟨p, kvs, rfl, q1, d1⟩ := dictOf_rel sm e1 h1
      split at a
      · rename_i k' hk
        split at a
        · rename_i w hw
          have ek := (keyOf_rel hk h2).1
          subst ek
          obtain ⟨v', hv, rv⟩ := (lookK_rel (k := k') q1).1 w hw
          cases rx
          have g : DGet H p (kV (ky k')) (some v') := .inl ⟨kvs, ky k', d1, rfl, hv.symm⟩
          exact PyProof.Rows.tail_any (dict_typeIs I g) PySem.F.slot_dict_getitem.lookup (d_getItem (by omega) I g ry fun w' s3 I3 rw' => ⟨v', H, I3, rw', Aft.ok sm rv a⟩) hs
        · exact a.elim
      · exact a.elim
    · exact a.elim
    · rename_i i e1
      rw [rp_int h2] at ry
      split at a
      · rename_i l e2
        obtain ⟨p, xs, rfl, q1, d1⟩ := seqOf_rel sm e2 h1
        rw [hC] at d1
        have ll := pairLen q1
        split at a
        · rename_i n en
          split at a
          · rename_i w hw
            obtain ⟨v', hv, rv⟩ := pairGet q1 hw
            have ea : atI xs i = some v' := by
              unfold atI
              rw [← ixN_eq, ← ll, en]
              exact hv
            rcases d1 with d1 | d1
            · exact ix_list value sl pins s σ H _ _ v u Q I rx ry ⟨p, xs, i, v', rfl, rfl, d1, ea, Aft.ok sm rv a⟩ hs
            · exact ix_tup value sl pins s σ H _ _ v u Q I rx ry ⟨p, xs, i, v', rfl, rfl, d1, ea, Aft.ok sm rv a⟩ hs
          · exact a.elim
        · exact a.elim
      · exact a.elim
    · exact a.elim
/-- a slice, by values -/
theorem sl_M (hC : C.K = X.K) (fz : Bool) : SlR X fun x lo hi H Q' => ∃ Q ι S w, Q' = Fz Q ∧ Sim C H ι S ∧ WRp C H ι S.length w x ∧ Aft C E (WRp C) (slice fz w lo hi S) H ι S Q := by
  rintro pins s σ H x v vl vu lo hi sl Q' I rx hs pl pu ⟨Q, ι, S, w, rfl, sm, h1, a⟩
  unfold slice at a
  split at a
  · rename_i t
    have hl := rp_strL h1
    rw [rp_str h1] at rx
    refine sl_str pins s σ H _ v vl vu lo hi sl (Fz Q) I rx hs pl pu ⟨_, rfl, by rw [sT_len]; exact lim_line hl, .inr ?_⟩
    have e : cutS (sT t) lo hi = sT (cut t ((lo.map (clip t.length)).getD 0) ((hi.map (clip t.length)).getD t.length)) := by
      unfold cutS
      rw [cut_eq, clip_eq, clip_eq, sT_len]
      rfl
    rw [e]
    refine Aft.ok sm (mk_str ?_) a
    unfold cut
    rw [List.length_drop, List.length_take]
    omega
  · rename_i l
    obtain ⟨p, xs, rfl, hx, r1⟩ := rp_tup h1
    have ll := pairLen (rpDs_iff.mp r1)
    have ec : cutV xs lo hi = cut xs ((lo.map (clip l.length)).getD 0) ((hi.map (clip l.length)).getD l.length) := by
      unfold cutV
      rw [cut_eq, clip_eq, clip_eq, ll]
    have mk : ∀ {H' : Hp} {p : Addr} {zs : List V}, Nx C H ι S H' ι S → NdT C.K H' p zs → zs = cutV xs lo hi → Q (.ref p) H' := fun {H' p zs} nx hp e => by
      subst e
      refine a _ _ _ nx ?_
      show RpD C H' (.tup _) _
      simp only [RpD]
      refine ⟨p, _, rfl, hp, ?_⟩
      rw [ec]
      exact rpDs_iff.mpr (pairCut (rpDs_iff.mp (r1.mono nx.sta)) _ _)
    cases rx
    obtain ⟨its, r, ht, hz⟩ := I.tuple (hC ▸ hx.sqt)
    have hlen : its.toArray.size = xs.length := by rw [List.size_toArray]; exact r.length.symm
    refine ⟨"tuple", _, PyProof.Rows.slot_tuple_getitem.lookup, ht.typeIs, ?_⟩
    by_cases hw : HT.sIx xs.length 0 lo = 0 ∧ HT.sIx xs.length xs.length hi = xs.length
    · refine getItem_tuple_whole ht hs pl pu (by rw [hlen]; exact hw) ⟨.ref p, H, I, rfl, .inr (mk (Nx.refl sm) hx ?_)⟩
      unfold cutV
      rw [hw.1, hw.2, List.drop_zero, Nat.sub_zero, List.take_length]
    · refine HT.getItem_tuple_cut ht hs pl pu (by rw [hlen]; exact hw) ?_ (by rw [hlen]; exact hz)
      rw [hlen]
      refine epFz (ep_tup (t' := s.toks) I ((r.drop (HT.sIx xs.length 0 lo)).take (HT.sIx xs.length xs.length hi - HT.sIx xs.length 0 lo)) (Nat.le_trans (cutV_length xs lo hi) hz) (.inl fun o ho => ?_))
      exact mk (Nx.tmp sm (I.hok.fresh (Nat.le_refl _)) _) (.inl ⟨o, upd_same, ho⟩) rfl
  · have key : ∀ {l : List W} {p : Addr} {xs : List V}, WRs C H ι S.length l xs → SqL X.K H p xs → x = .ref p → Aft C E (WRp C) (mkL fz (cut l ((lo.map (clip l.length)).getD 0) ((hi.map (clip l.length)).getD l.length)) S) H ι S Q →
        ∃ T id, typeLookup (.type T) "__getitem__" = pure (some (.builtin id)) ∧ s.TypeIs v T ∧ wpAny (model X.prog X.w) X.A (getItem v (.ref sl)) (EP X pins σ (Fz Q)) X.xe s := by
      intro l p xs q1 d1 ex a
      subst ex
      have ll := pairLen q1
      refine sl_list pins s σ H _ v vl vu lo hi sl (Fz Q) I rx hs pl pu ⟨p, xs, rfl, d1, fun q hq => ?_⟩
      have ec : cutV xs lo hi = cut xs ((lo.map (clip l.length)).getD 0) ((hi.map (clip l.length)).getD l.length) := by
        unfold cutV
        rw [cut_eq, clip_eq, clip_eq, ll]
      rw [ec]
      exact aft_mkLF sm (pairCut q1 _ _) a q hq
    split at a
    · rename_i l e1
      split at e1
      · rename_i l' _ _
        cases e1
        have r : RpD C H (.scr _) x := h1
        simp only [RpD] at r
        obtain ⟨p, ex, hp⟩ := r
        exact key (scr_rel l') (by rw [← hC]; exact hp.sql) ex a
      · obtain ⟨p, xs, ex, q1, d1⟩ := lstOf_rel sm e1 h1
        exact key q1 (.inl d1) ex a
    · exact a.elim
end
end LD
/-! LD9: built-in functions, by values. -/
namespace LD
open PySem L2

def rMsF (C : Cn) (E : XK) (g : List W → Sto → R W) : List V → Hp → VK → Prop := fun xs H Q' => ∃ Q, Q' = Fz Q ∧ rMs C E g xs H Q
section
variable {C : Cn} {E : XK} {H : Hp} {ι : Nat → Addr} {S : Sto} {Q : VK} {L : Nat}
theorem ints_rel : ∀ {l : List W} {ns : List Int} {xs : List V}, intsOf l = some ns → WRs C H ι L l xs → xs = ns.map V.int
  | [], ns, xs, h, r => by
    cases r
    simp only [intsOf, Option.some.injEq] at h
    subst h
    rfl
  | .d (.int i) :: l, ns, xs, h, r => by
    cases r with
    | cons r1 r2 =>
      simp only [intsOf, Option.map_eq_some_iff] at h
      obtain ⟨ms, h, rfl⟩ := h
      rw [rp_int r1, ints_rel h r2]
      rfl
  | .d (.bl _) :: l, ns, xs, h, r => by simp [intsOf] at h
  | .d (.str _) :: l, ns, xs, h, r => by simp [intsOf] at h
  | .d (.tup _) :: l, ns, xs, h, r => by simp [intsOf] at h
  | .d (.lst _) :: l, ns, xs, h, r => by simp [intsOf] at h
  | .d (.dct _ _) :: l, ns, xs, h, r => by simp [intsOf] at h
  | .d (.fn _) :: l, ns, xs, h, r => by simp [intsOf] at h
  | .d (.scr _) :: l, ns, xs, h, r => by simp [intsOf] at h
  | .d .non :: l, ns, xs, h, r => by simp [intsOf] at h
  | .ref _ :: l, ns, xs, h, r => by simp [intsOf] at h
theorem bools_rel : ∀ {l : List W} {ns : List Bool} {xs : List V}, bools l = some ns → WRs C H ι L l xs → xs = ns.map V.bl
  | [], ns, xs, h, r => by
    cases r
    simp only [bools, Option.some.injEq] at h
    subst h
    rfl
  | .d (.bl i) :: l, ns, xs, h, r => by
    cases r with
    | cons r1 r2 =>
      simp only [bools, Option.map_eq_some_iff] at h
      obtain ⟨ms, h, rfl⟩ := h
      rw [rp_bl r1, bools_rel h r2]
      rfl
  | .d (.int _) :: l, ns, xs, h, r => by simp [bools] at h
  | .d (.str _) :: l, ns, xs, h, r => by simp [bools] at h
  | .d (.tup _) :: l, ns, xs, h, r => by simp [bools] at h
  | .d (.lst _) :: l, ns, xs, h, r => by simp [bools] at h
  | .d (.dct _ _) :: l, ns, xs, h, r => by simp [bools] at h
  | .d (.fn _) :: l, ns, xs, h, r => by simp [bools] at h
  | .d (.scr _) :: l, ns, xs, h, r => by simp [bools] at h
  | .d .non :: l, ns, xs, h, r => by simp [bools] at h
  | .ref _ :: l, ns, xs, h, r => by simp [bools] at h
theorem texts_rel : ∀ {l : List W} {ns : List (List Nat)} {xs : List V}, texts l = some ns → WRs C H ι L l xs → xs = (ns.map sT).map V.str
  | [], ns, xs, h, r => by
    cases r
    simp only [texts, Option.some.injEq] at h
    subst h
    rfl
  | .d (.str i) :: l, ns, xs, h, r => by
    cases r with
    | cons r1 r2 =>
      simp only [texts, Option.map_eq_some_iff] at h
      obtain ⟨ms, h, rfl⟩ := h
      rw [rp_str r1, texts_rel h r2]
      rfl
  | .d (.int _) :: l, ns, xs, h, r => by simp [texts] at h
  | .d (.bl _) :: l, ns, xs, h, r => by simp [texts] at h
  | .d (.tup _) :: l, ns, xs, h, r => by simp [texts] at h
  | .d (.lst _) :: l, ns, xs, h, r => by simp [texts] at h
  | .d (.dct _ _) :: l, ns, xs, h, r => by simp [texts] at h
  | .d (.fn _) :: l, ns, xs, h, r => by simp [texts] at h
  | .d (.scr _) :: l, ns, xs, h, r => by simp [texts] at h
  | .d .non :: l, ns, xs, h, r => by simp [texts] at h
  | .ref _ :: l, ns, xs, h, r => by simp [texts] at h
theorem one_rel {w : W} {xs : List V} (r : WRs C H ι L [w] xs) : ∃ x, xs = [x] ∧ WRp C H ι L w x := by
  cases r with
  | cons r1 r2 => cases r2; exact ⟨_, rfl, r1⟩
theorem two_rel {w w' : W} {xs : List V} (r : WRs C H ι L [w, w'] xs) : ∃ x y, xs = [x, y] ∧ WRp C H ι L w x ∧ WRp C H ι L w' y := by
  cases r with
  | cons r1 r2 =>
    obtain ⟨y, rfl, h⟩ := one_rel r2
    exact ⟨_, _, rfl, r1, h⟩
theorem len_map {α β : Type} (f : α → β) (l : List α) : (l.map f).length = l.length := List.length_map _
theorem mem_max : ∀ (l : List Int) (m : Int), (maxI m l = m ∨ maxI m l ∈ l) ∧ m ≤ maxI m l ∧ ∀ y ∈ l, y ≤ maxI m l
  | [], m => by simp [maxI]
  | i :: l, m => by
    have ih := mem_max l (if m < i then i else m)
    simp only [maxI]
    refine ⟨?_, ?_, fun y hy => ?_⟩
    · rcases ih.1 with h | h
      · rw [h]
        by_cases c : m < i
        · rw [if_pos c]; exact .inr (by simp)
        · rw [if_neg c]; exact .inl rfl
      · exact .inr (by simp [h])
    · have := ih.2.1
      by_cases c : m < i
      · rw [if_pos c] at this ⊢; omega
      · rw [if_neg c] at this ⊢; exact this
    · rcases List.mem_cons.mp hy with rfl | hy
      · have := ih.2.1
        by_cases c : m < y
        · rw [if_pos c] at this ⊢; exact this
        · rw [if_neg c] at this ⊢; omega
      · exact ih.2.2 y hy
theorem mem_min : ∀ (l : List Int) (m : Int), (minI m l = m ∨ minI m l ∈ l) ∧ minI m l ≤ m ∧ ∀ y ∈ l, minI m l ≤ y
  | [], m => by simp [minI]
  | i :: l, m => by
    have ih := mem_min l (if i < m then i else m)
    simp only [minI]
    refine ⟨?_, ?_, fun y hy => ?_⟩
    · rcases ih.1 with h | h
      · rw [h]
        by_cases c : i < m
        · rw [if_pos c]; exact .inr (by simp)
        · rw [if_neg c]; exact .inl rfl
      · exact .inr (by simp [h])
    · have := ih.2.1
      by_cases c : i < m
      · rw [if_pos c] at this ⊢; omega
      · rw [if_neg c] at this ⊢; exact this
    · rcases List.mem_cons.mp hy with rfl | hy
      · have := ih.2.1
        by_cases c : y < m
        · rw [if_pos c] at this ⊢; exact this
        · rw [if_neg c] at this ⊢; omega
      · exact ih.2.2 y hy
theorem sum_fold : ∀ (l : List Int) (a : Int), l.foldl (· + ·) a = a + l.sum
  | [], a => by simp
  | i :: l, a => by
    rw [List.foldl_cons, sum_fold l, List.sum_cons]
    omega
theorem sumI_eq (l : List Int) : sumI l = l.sum := by
  unfold sumI
  rw [sum_fold]
  omega
end
section
variable {C : Cn} {E : XK} {H : Hp} {ι : Nat → Addr} {S : Sto} {Q : VK}
theorem krs_keys : ∀ {l : List (Ky × W)} {kvs : List (Key × V)} {L : Nat}, KRs C H ι L l kvs → kvs.map (·.1) = (l.map (·.1)).map ky ∧ (∀ k ∈ l.map (·.1), kyOk k) ∧ WRs C H ι L (l.map (·.2)) (kvs.map (·.2))
  | _, _, _, .nil => ⟨rfl, fun _ h => by simp at h, .nil⟩
  | _, _, _, .cons h t => by
    obtain ⟨h1, h2, h3⟩ := krs_keys t
    refine ⟨?_, ?_, .cons h.2 h3⟩
    · rw [List.map_cons, List.map_cons, List.map_cons, h1, h.1.1]
    · intro k hk
      rw [List.map_cons] at hk
      rcases List.mem_cons.mp hk with rfl | hk
      · exact h.1.2
      · exact h2 k hk
theorem aft_mkDF {fz : Bool} {l : List (Ky × W)} {kvs : List (Key × V)} (s : Sim C H ι S) (r : KRs C H ι S.length l kvs) (a : Aft C E (WRp C) (mkD fz l S) H ι S Q) : ∀ p, H p = none → Fz Q (.ref p) (upd H p (.dK kvs)) := by
  intro p hp
  unfold mkD at a
  cases fz with
  | true =>
    rw [if_pos rfl] at a
    refine .inl ⟨p, _, rfl, upd_same, trivial, fun o => ?_⟩
    rw [upd_upd]
    cases hd : datas (l.map (·.2)) with
    | some ds =>
      rw [hd] at a
      have nx := Nx.tmp s hp (.frz o (.dK kvs))
      obtain ⟨k1, k2, k3⟩ := krs_keys r
      refine a _ _ ι nx ?_
      show RpD C _ (.dct _ ds) _
      simp only [RpD]
      exact ⟨p, kvs, rfl, ⟨o, upd_same⟩, k1, k2, (datas_rel hd k3).mono nx.sta⟩
    | none => rw [hd] at a; exact a.elim
  | false =>
    rw [if_neg Bool.false_ne_true] at a
    have k : Keeps H (upd H p (.dK kvs)) := fun a o h _ => by rw [upd_ne (ne_of_none h hp)]; exact h
    have nx : Nx C H ι S (upd H p (.dK kvs)) (push ι S.length p) (S ++ [.dct l]) := Nx.cell s hp fun ι' he => ⟨kvs, upd_same, KRs.mono k (Nat.le_succ _) he r⟩
    refine .inr (a _ _ _ nx ?_)
    exact ⟨by simp, by rw [push_at]⟩
end
section
variable {X : Cx} {C : Cn} {E : XK} {fz : Bool}
theorem sql_of {H : Hp} {a : Addr} {xs : List V} (h : Rd H a (.lst xs)) : SqL X.K H a xs := .inl h
/-- len of a dict that is read -/
theorem len_dK : CallR X (.builtin "len") (fun xs H Q => ∃ p kvs, xs = [.ref p] ∧ Rd H p (.dK kvs) ∧ Q (.int kvs.length) H) := by
  intro pins s σ H xs us Q I r h
  obtain ⟨p, kvs, rfl, hq, q⟩ := h
  obtain ⟨u, rfl, rx⟩ := vals1 r
  cases rx
  obtain ⟨z, hd, vs, rel, dd⟩ := dk_rd I.hok hq
  refine call_len_dict hd dd (by rw [← rel.length]; rw [sizeLine_eq] at z; omega) ?_
  exact ⟨.int kvs.length, H, I.tok _, ⟨_, by rw [rel.length]⟩, q⟩
theorem cr_len (hC : C.K = X.K) : CallR X (.builtin "len") (rMsF C E (builtin .len fz)) := by
  rintro pins s σ H xs us _ I r ⟨Q, rfl, ι, S, ws, sm, h, a⟩
  unfold builtin at a
  split at a <;> try contradiction
  · obtain ⟨x, rfl, h1⟩ := one_rel h
    have hl := rp_strL h1
    have e := rp_str h1
    subst e
    exact call_len_str pins s σ H _ us _ I r ⟨_, rfl, by rw [sT_len]; exact lim_line hl, .inr (by rw [sT_len]; exact Aft.ok sm (mk_int _) a)⟩
  · obtain ⟨x, rfl, h1⟩ := one_rel h
    split at a
    · rename_i l e
      obtain ⟨p, ys, rfl, q1, d1⟩ := seqOf_rel sm e h1
      rw [hC] at d1
      exact call_len_seq pins s σ H _ us _ I r ⟨_, _, rfl, d1, .inr (by rw [← pairLen q1]; exact Aft.ok sm (mk_int _) a)⟩
    · split at a
      · rename_i l e
        obtain ⟨p, ys, rfl, q1, d1⟩ := dictOf_rel sm e h1
        exact len_dK pins s σ H _ us _ I r ⟨_, _, rfl, d1, .inr (by rw [← pairLen q1]; exact Aft.ok sm (mk_int _) a)⟩
      · exact a.elim
theorem cr_allM (hC : C.K = X.K) (hc : X.calm = true) : CallR X (.builtin "all") (rMsF C E (builtin .all fz)) := by
  rintro pins s σ H xs us _ I r ⟨Q, rfl, ι, S, ws, sm, h, a⟩
  unfold builtin at a
  split at a <;> try contradiction
  obtain ⟨x, rfl, h1⟩ := one_rel h
  split at a
  · rename_i l e
    obtain ⟨p, ys, rfl, q1, d1⟩ := lstOf_rel sm e h1
    split at a
    · rename_i bs e2
      have := bools_rel e2 q1
      subst this
      exact cr_all hc pins s σ H _ us _ I r ⟨_, _, rfl, .inl d1, .inr (Aft.ok sm (mk_bl _) a)⟩
    · exact a.elim
  · exact a.elim
theorem cr_anyM (hC : C.K = X.K) (hc : X.calm = true) : CallR X (.builtin "any") (rMsF C E (builtin .any fz)) := by
  rintro pins s σ H xs us _ I r ⟨Q, rfl, ι, S, ws, sm, h, a⟩
  unfold builtin at a
  split at a <;> try contradiction
  obtain ⟨x, rfl, h1⟩ := one_rel h
  split at a
  · rename_i l e
    obtain ⟨p, ys, rfl, q1, d1⟩ := lstOf_rel sm e h1
    split at a
    · rename_i bs e2
      have := bools_rel e2 q1
      subst this
      exact cr_any hc pins s σ H _ us _ I r ⟨_, _, rfl, .inl d1, .inr (Aft.ok sm (mk_bl _) a)⟩
    · exact a.elim
  · exact a.elim
theorem cr_absM : CallR X (.builtin "abs") (rMsF C E (builtin .abs fz)) := by
  rintro pins s σ H xs us _ I r ⟨Q, rfl, ι, S, ws, sm, h, a⟩
  unfold builtin at a
  split at a <;> try contradiction
  obtain ⟨x, rfl, h1⟩ := one_rel h
  have e := rp_int h1
  subst e
  exact call_abs pins s σ H _ us _ I r ⟨_, rfl, .inr (Aft.ok sm (mk_int _) a)⟩
theorem cr_max2M (hc : X.calm = true) : CallR X (.builtin "max") (rMsF C E (builtin .max2 fz)) := by
  rintro pins s σ H xs us _ I r ⟨Q, rfl, ι, S, ws, sm, h, a⟩
  unfold builtin at a
  split at a <;> try contradiction
  obtain ⟨x, y, rfl, h1, h2⟩ := two_rel h
  have e := rp_int h1
  have e2 := rp_int h2
  subst e e2
  exact call_max2 hc pins s σ H _ us _ I r ⟨_, _, rfl, .inr (Aft.ok sm (mk_int _) a)⟩
theorem cr_min2M (hc : X.calm = true) : CallR X (.builtin "min") (rMsF C E (builtin .min2 fz)) := by
  rintro pins s σ H xs us _ I r ⟨Q, rfl, ι, S, ws, sm, h, a⟩
  unfold builtin at a
  split at a <;> try contradiction
  obtain ⟨x, y, rfl, h1, h2⟩ := two_rel h
  have e := rp_int h1
  have e2 := rp_int h2
  subst e e2
  exact call_min2 hc pins s σ H _ us _ I r ⟨_, _, rfl, .inr (Aft.ok sm (mk_int _) a)⟩
theorem ints_lst {H : Hp} {ι : Nat → Addr} {S : Sto} {w : W} {x : V} {ns : List Int} (sm : Sim C H ι S) (e : (binop.lstOf w S).bind intsOf = some ns) (h : WRp C H ι S.length w x) : ∃ p, x = .ref p ∧ Rd H p (.lst (ns.map V.int)) := by
  obtain ⟨l, e1, e2⟩ := Option.bind_eq_some_iff.mp e
  obtain ⟨p, ys, rfl, q1, d1⟩ := lstOf_rel sm e1 h
  rw [ints_rel e2 q1] at d1
  exact ⟨p, rfl, d1⟩
theorem cr_max1M (hc : X.calm = true) : CallR X (.builtin "max") (rMsF C E (builtin .max1 fz)) := by
  rintro pins s σ H xs us _ I r ⟨Q, rfl, ι, S, ws, sm, h, a⟩
  unfold builtin at a
  split at a <;> try contradiction
  obtain ⟨x, rfl, h1⟩ := one_rel h
  split at a
  · rename_i i l e
    obtain ⟨p, rfl, d1⟩ := ints_lst sm e h1
    refine cr_max hc pins s σ H _ us _ I r ⟨_, _, rfl, .inl d1, by simp, fun m hm hb => .inr ?_⟩
    have mm := mem_max l i
    have : m = maxI i l := by
      refine Int.le_antisymm ?_ (hb _ ?_)
      · rcases List.mem_cons.mp hm with rfl | hm
        · exact mm.2.1
        · exact mm.2.2 _ hm
      · rcases mm.1 with e | e
        · rw [e]; simp
        · simp [e]
    subst this
    exact Aft.ok sm (mk_int _) a
  · exact a.elim
theorem cr_min1M (hc : X.calm = true) : CallR X (.builtin "min") (rMsF C E (builtin .min1 fz)) := by
  rintro pins s σ H xs us _ I r ⟨Q, rfl, ι, S, ws, sm, h, a⟩
  unfold builtin at a
  split at a <;> try contradiction
  obtain ⟨x, rfl, h1⟩ := one_rel h
  split at a
  · rename_i i l e
    obtain ⟨p, rfl, d1⟩ := ints_lst sm e h1
    refine cr_min hc pins s σ H _ us _ I r ⟨_, _, rfl, .inl d1, by simp, fun m hm hb => .inr ?_⟩
    have mm := mem_min l i
    have : m = minI i l := by
      refine Int.le_antisymm (hb _ ?_) ?_
      · rcases mm.1 with e | e
        · rw [e]; simp
        · simp [e]
      · rcases List.mem_cons.mp hm with rfl | hm
        · exact mm.2.1
        · exact mm.2.2 _ hm
    subst this
    exact Aft.ok sm (mk_int _) a
  · exact a.elim
theorem cr_sumM (hc : X.calm = true) : CallR X (.builtin "sum") (rMsF C E (builtin .sum fz)) := by
  rintro pins s σ H xs us _ I r ⟨Q, rfl, ι, S, ws, sm, h, a⟩
  unfold builtin at a
  split at a <;> try contradiction
  obtain ⟨x, rfl, h1⟩ := one_rel h
  split at a
  · rename_i l e
    obtain ⟨p, rfl, d1⟩ := ints_lst sm e h1
    refine cr_sum hc pins s σ H _ us _ I r ⟨_, _, rfl, .inl d1, .inr ?_⟩
    rw [sumI_eq] at a
    exact Aft.ok sm (mk_int _) a
  · exact a.elim
theorem sortD_some {l es : List D} (h : sortD l = some es) : l.all okD = true ∧ oneKind l = true ∧ cmpAll l = true ∧ l.length ≤ 1000000 ∧ es = l.mergeSort leD := by
  unfold sortD at h
  split at h
  · rename_i c
    simp only [Bool.and_eq_true, decide_eq_true_eq] at c
    cases h
    exact ⟨c.1.1.1, c.1.1.2, c.1.2, c.2, rfl⟩
  · cases h
theorem keyD_is (k : Ky) : ∃ b, (isI (keyD k) || isS (keyD k)) = b ∧ b = true := by cases k <;> exact ⟨_, rfl, rfl⟩
theorem cr_sortedM (hC : C.K = X.K) (hc : X.calm = true) (hu : X.A.units + 64 < cLine) : CallR X (.builtin "sorted") (rMsF C E (builtin .sorted fz)) := by
  rintro pins s σ H xs us _ I r ⟨Q, rfl, ι, S, ws, sm, h, a⟩
  unfold builtin at a
  split at a <;> try contradiction
  obtain ⟨x, rfl, h1⟩ := one_rel h
  split at a
  · rename_i ds e
    split at a
    · rename_i es e2
      obtain ⟨k1, k2, k3, k4, rfl⟩ := sortD_some e2
      split at e
      · rename_i l e1
        obtain ⟨p, ys, rfl, q1, d1⟩ := seqOf_rel sm e1 h1
        rw [hC] at d1
        exact call_sortD hC hu pins s σ H _ us _ I r ⟨p, ys, ds, rfl, d1, datas_rel e q1, k1, k2, k3, fun zs p hz hp => aft_mkLF sm (rel_datas hz) a p hp⟩
      · obtain ⟨l, e1, rfl⟩ := Option.map_eq_some_iff.mp e
        obtain ⟨p, kvs, rfl, q1, d1⟩ := dictOf_rel sm e1 h1
        obtain ⟨z1, z2, _⟩ := krs_keys q1
        refine call_sortDct hC hc hu pins s σ H _ us _ I r ⟨p, kvs, rfl, d1, _, ?_, ?_, ?_, k1, k2, k3, fun zs p hz hp => aft_mkLF sm (rel_datas hz) a p hp⟩
        · have : kvs.map (fun kv => kV kv.1) = (kvs.map (·.1)).map kV := by rw [List.map_map]; rfl
          rw [this, z1, List.map_map, List.map_map, List.map_map]
          refine List.map_congr_left fun kv _ => ?_
          obtain ⟨k, w⟩ := kv
          cases k <;> rfl
        · rw [List.all_map, List.all_eq_true]
          intro kv _
          obtain ⟨k, w⟩ := kv
          cases k <;> rfl
        · intro d hd t ht
          obtain ⟨kv, hkv, rfl⟩ := List.mem_map.mp hd
          have := z2 kv.1 (List.mem_map_of_mem hkv)
          obtain ⟨k, w⟩ := kv
          cases k with
          | inl i => simp [keyD] at ht
          | inr q =>
            simp only [keyD, D.str.injEq] at ht
            subst ht
            exact this
    · exact a.elim
  · exact a.elim
theorem lsOf_rel {C : Cn} {H : Hp} {ι : Nat → Addr} {S : Sto} {w : W} {l : List W} {v : V} (s : Sim C H ι S) (h : lsOf w S = some l) (r : WRp C H ι S.length w v) :
    ∃ a xs, v = .ref a ∧ WRs C H ι S.length l xs ∧ SqL C.K H a xs := by
  unfold lsOf at h
  split at h
  · rename_i l'
    cases h
    have r : RpD C H (.scr _) v := r
    simp only [RpD] at r
    obtain ⟨a, e, h1⟩ := r
    exact ⟨a, _, e, scr_rel l', h1.sql⟩
  · cases h
    have r : RpD C H (.lst _) v := r
    simp only [RpD] at r
    obtain ⟨a, xs, e, h1, h2⟩ := r
    exact ⟨a, xs, e, rel_datas h2, h1.sql⟩
  · split at h
    · rename_i n l' e
      cases h
      obtain ⟨xs, h1, h2⟩ := s.at' _ _ e
      exact ⟨_, xs, r.2, h2, SqL.of h1⟩
    · cases h
  · cases h
theorem seqTup_rel {C : Cn} {H : Hp} {ι : Nat → Addr} {S : Sto} {w : W} {l : List W} {v : V} (s : Sim C H ι S) (h : seqTup w S = some l) (r : WRp C H ι S.length w v) :
    ∃ a xs, v = .ref a ∧ WRs C H ι S.length l xs ∧ SqT C.K H a xs := by
  unfold seqTup at h
  split at h
  · cases h
    have r : RpD C H (.tup _) v := r
    simp only [RpD] at r
    obtain ⟨a, xs, e, h1, h2⟩ := r
    exact ⟨a, xs, e, rel_datas h2, h1.sqt⟩
  · split at h
    · rename_i n l' e
      cases h
      obtain ⟨xs, h1, h2⟩ := s.at' _ _ e
      exact ⟨_, xs, r.2, h2, SqT.of h1⟩
    · cases h
  · cases h
theorem keys_rel {C : Cn} {H : Hp} {ι : Nat → Addr} {L : Nat} : ∀ {l : List (Ky × W)} {kvs : List (Key × V)}, KRs C H ι L l kvs → WRs C H ι L (l.map fun kv => .d (keyD kv.1)) (kvs.map fun kv => kV kv.1)
  | _, _, .nil => .nil
  | (k, w) :: _, _, .cons h t => by
    refine .cons ?_ (keys_rel t)
    obtain ⟨⟨h1, h2⟩, _⟩ := h
    show WRp C H ι L (.d (keyD k)) (kV _)
    rw [h1]
    cases k with
    | inl i => exact mk_int i
    | inr s => exact mk_str h2
/-- tuple(a list) -/
theorem call_tupL : CallR X (.type "tuple") (fun xs H Q => ∃ p ys, xs = [.ref p] ∧ SqL X.K H p ys ∧ ∀ l, H l = none → Tz Q l H ys) := by
  intro pins s σ H xs us Q I r h
  obtain ⟨p, ys, rfl, hq, q⟩ := h
  obtain ⟨u, rfl, rx⟩ := vals1 r
  cases rx
  obtain ⟨its, r', pl, hz⟩ := I.list hq
  have hlen := r'.length
  refine call_tuple_list pl.isList (fun h' kp => ?_) (by simp only [List.size_toArray] <;> omega)
  have I1 : Inv X pins σ H { s with heap := h' } := I.kept (t' := s.toks) kp
  exact ep_tup (t' := s.toks) I1 r' hz (q _ (I1.hok.fresh (Nat.le_refl _)))
theorem tzFz {Q : VK} {p : Addr} {H : Hp} {xs : List V} (h : Tz Q p H xs) : Tz (Fz Q) p H xs := by
  rcases h with h | h
  · exact .inl fun o ho => .inr (h o ho)
  · exact .inr (.inr h)
theorem cr_tupleM (hC : C.K = X.K) : CallR X (.type "tuple") (rMsF C E (builtin .tuple fz)) := by
  rintro pins s σ H xs us _ I r ⟨Q, rfl, ι, S, ws, sm, h, a⟩
  unfold builtin at a
  split at a <;> try contradiction
  obtain ⟨x, rfl, h1⟩ := one_rel h
  split at a
  · rename_i l e
    obtain ⟨p, ys, rfl, q1, d1⟩ := seqTup_rel sm e h1
    rw [hC] at d1
    exact call_tupleT pins s σ H _ us _ I r ⟨p, ys, rfl, d1, .inr (Aft.ok sm h1 a)⟩
  · split at a
    · rename_i l e
      obtain ⟨p, ys, rfl, q1, d1⟩ := lsOf_rel sm e h1
      rw [hC] at d1
      exact call_tupL pins s σ H _ us _ I r ⟨p, ys, rfl, d1, fun l hl => tzFz (aft_mkT sm q1 a l hl)⟩
    · exact a.elim
theorem chars_rel {C : Cn} {H : Hp} {ι : Nat → Addr} {L : Nat} : ∀ s : List Nat, WRs C H ι L (s.map fun c => W.d (.str [c])) (s.map fun c => V.str (sT [c]))
  | [] => .nil
  | c :: s => .cons (mk_str (by simp [LIM])) (chars_rel s)
/-- list(text): its signs -/
theorem call_listS (hc : X.calm = true) : CallR X (.type "list") (fun xs H Q => ∃ t : List Nat, xs = [.str (sT t)] ∧ t.length ≤ LIM ∧ ∀ p, H p = none → Q (.ref p) (upd H p (.lst (t.map fun c => V.str (sT [c]))))) := by
  intro pins s σ H xs us Q I r h
  obtain ⟨t, rfl, hl, q⟩ := h
  obtain ⟨u, rfl, tk, rfl⟩ := vals1 r
  have hz : (sT t).cps.size ≤ sizeLine := by simp only [sT, List.size_toArray]; exact lim_line hl
  refine call_list_str (I.ok.hd hc) (sT t) tk (hn := hz) fun h' tk' acc c' hk hS hacc => ?_
  refine ⟨.ref s.heap.objs.size, upd H s.heap.objs.size (.lst (t.map fun c => V.str (sT [c]))), I.laid (t' := tk') hk (Nat.le_refl _) (show ObjOk X.prog X.w _ _ _ (.lst _) from ⟨?_, acc.toList, c', ?_, by simpa using hS⟩), rfl, q _ (I.hok.fresh (Nat.le_refl _))⟩
  · rw [List.length_map]; exact lim_line hl
  · have el : acc.toList.length = acc.size := by simp
    refine vals_of_at (by rw [List.length_map, el, hacc.1]; simp [sT]) fun j x w h1 h2 => ?_
    obtain ⟨c, v, hc1, rfl⟩ := hacc.2 j w (by rw [← Array.getElem?_toList]; exact h2)
    have hc2 : t[j]? = some c := by simpa [sT] using hc1
    rw [List.getElem?_map, hc2] at h1
    cases h1
    exact ⟨v, rfl⟩
theorem cr_listM (hC : C.K = X.K) (hc : X.calm = true) : CallR X (.type "list") (rMsF C E (builtin .list fz)) := by
  rintro pins s σ H xs us _ I r ⟨Q, rfl, ι, S, ws, sm, h, a⟩
  unfold builtin at a
  split at a <;> try contradiction
  · obtain ⟨x, rfl, h1⟩ := one_rel h
    have hl := rp_strL h1
    have e := rp_str h1
    subst e
    exact call_listS hc pins s σ H _ us _ I r ⟨_, rfl, hl, fun l hl => aft_mkLF sm (chars_rel _) a l hl⟩
  · obtain ⟨x, rfl, h1⟩ := one_rel h
    split at a
    · rename_i l e
      obtain ⟨p, ys, rfl, q1, d1⟩ := seqOf_rel sm e h1
      rw [hC] at d1
      exact call_list_of pins s σ H _ us _ I r ⟨p, ys, rfl, d1, fun l hl => aft_mkLF sm q1 a l hl⟩
    · split at a
      · rename_i l e
        obtain ⟨p, kvs, rfl, q1, d1⟩ := dictOf_rel sm e h1
        exact call_listD hc pins s σ H _ us _ I r ⟨p, kvs, rfl, d1, fun l hl => aft_mkLF sm (keys_rel q1) a l hl⟩
      · exact a.elim
theorem any_keys {C : Cn} {H : Hp} {ι : Nat → Addr} {L : Nat} {k : Ky} : ∀ {l : List (Ky × W)} {kvs : List (Key × V)}, KRs C H ι L l kvs → (kvs.any fun kv => decide (kv.1 = ky k)) = l.any fun p => decide (p.1 = k)
  | _, _, .nil => rfl
  | p :: l, q :: kvs, .cons h t => by
    rw [List.any_cons, List.any_cons, any_keys t, h.1.1]
    congr 1
    by_cases e : p.1 = k
    · rw [e]; simp
    · have : ¬ ky p.1 = ky k := fun z => e (ky_inj z)
      simp [e, this]
theorem put_map {C : Cn} {H : Hp} {ι : Nat → Addr} {L : Nat} {k : Ky} {w : W} {v : V} (hw : WRp C H ι L w v) : ∀ {l : List (Ky × W)} {kvs : List (Key × V)}, KRs C H ι L l kvs →
    KRs C H ι L (l.map fun p => if p.1 = k then (p.1, w) else p) (kvs.map fun kv => if kv.1 = ky k then (kv.1, v) else kv)
  | _, _, .nil => .nil
  | p :: _, q :: _, .cons h t => by
    rw [List.map_cons, List.map_cons]
    refine .cons ?_ (put_map hw t)
    by_cases e : p.1 = k
    · have e2 : q.1 = ky k := by rw [h.1.1, e]
      rw [if_pos e, if_pos e2]
      exact ⟨h.1, hw⟩
    · have e2 : ¬ q.1 = ky k := fun z => e (ky_inj (h.1.1.symm.trans z))
      rw [if_neg e, if_neg e2]
      exact h
theorem putK_rel {H : Hp} {ι : Nat → Addr} {L : Nat} {k : Ky} {w : W} {v : V} (hk : kyOk k) (hw : WRp C H ι L w v) {l : List (Ky × W)} {kvs : List (Key × V)} (h : KRs C H ι L l kvs) : KRs C H ι L (putK l k w) (L2.putK kvs (ky k) v) := by
  unfold putK L2.putK
  rw [any_keys h]
  split
  · exact put_map hw h
  · exact pairApp h (.cons ⟨⟨rfl, hk⟩, hw⟩ .nil)
theorem putAll_rel {H : Hp} {ι : Nat → Addr} {L : Nat} : ∀ {m : List (Ky × W)} {l : List (Ky × W)} {kvs ms : List (Key × V)}, KRs C H ι L l kvs → KRs C H ι L m ms → KRs C H ι L (putAll l m) (mergeK kvs ms)
  | _, _, _, _, h, .nil => h
  | (k, w) :: m, l, kvs, q :: ms, h, .cons h1 h2 => by
    show KRs C H ι L (putAll (putK l k w) m) (mergeK (L2.putK kvs q.1 q.2) ms)
    refine putAll_rel ?_ h2
    rw [h1.1.1]
    exact putK_rel h1.1.2 h1.2 h
theorem pairs_rel {H : Hp} {ι : Nat → Addr} {S : Sto} (sm : Sim C H ι S) : ∀ {ws : List W} {l : List (Ky × W)} {xs : List V}, pairsOf ws S = some l → WRs C H ι S.length ws xs →
    ∃ (ps : List Addr) (kvs : List (Key × V)), xs = ps.map V.ref ∧ KRs C H ι S.length l kvs ∧ Paired (fun p kv => SqT C.K H p [kV kv.1, kv.2]) ps kvs
  | [], l, xs, h, r => by
    cases r
    simp only [pairsOf, Option.some.injEq] at h
    subst h
    exact ⟨[], [], rfl, .nil, .nil⟩
  | w :: ws, l, xs, h, r => by
    cases r with
    | cons r1 r2 =>
      unfold pairsOf at h
      split at h
      · rename_i k v e
        split at h
        · rename_i k' hk
          obtain ⟨m, hm, rfl⟩ := Option.map_eq_some_iff.mp h
          obtain ⟨ps, kvs, rfl, q1, q2⟩ := pairs_rel sm hm r2
          obtain ⟨a, ys, rfl, q3, q4⟩ := seqTup_rel sm e r1
          obtain ⟨x, y, rfl, x1, y1⟩ := two_rel q3
          obtain ⟨ex, ek⟩ := keyOf_rel hk x1
          subst ex
          exact ⟨a :: ps, (ky k', y) :: kvs, rfl, .cons ⟨⟨rfl, ek⟩, y1⟩ q1, .cons q4 q2⟩
        · cases h
      · cases h
theorem pairs_us {pins : List (Addr × Obj)} {σ : St} {H : Hp} {s : Shared} (I : Inv X pins σ H s) : ∀ {ps : List Addr} {kvs : List (Key × V)}, Paired (fun p kv => SqT X.K H p [kV kv.1, kv.2]) ps kvs →
    ∃ (us : List Value) (prs : List (Key × Value)), KV kvs prs ∧ prs.length = ps.length ∧ us.length = ps.length ∧ ∀ (j : Nat) (q : Key × Value) (u : Value), prs[j]? = some q → us[j]? = some u → ∃ b, ps[j]? = some b ∧ s.heap.IsTuple b #[u, q.2] ∧ keyIs q.1 u = true
  | _, _, .nil => ⟨[], [], .nil, rfl, rfl, fun j q u e => by simp at e⟩
  | _, _, .cons (a := p) (b := kv) h t => by
    obtain ⟨us, prs, r, hl, hl2, hp⟩ := pairs_us I t
    obtain ⟨its, rv, ht, _⟩ := I.tuple h
    obtain ⟨u, y, ei, ru, ry⟩ := vals2 rv
    subst ei
    refine ⟨u :: us, (kv.1, y) :: prs, .cons ⟨rfl, ry⟩ r, by simp [hl], by simp [hl2], fun j q u' e1 e2 => ?_⟩
    cases j with
    | zero =>
      simp only [List.getElem?_cons_zero, Option.some.injEq] at e1 e2
      subst e1 e2
      exact ⟨p, rfl, ht, kV_is (P := X.prog) (w := X.w) ru⟩
    | succ j =>
      obtain ⟨b, g1, g2, g3⟩ := hp j q u' (by simpa using e1) (by simpa using e2)
      exact ⟨b, by simpa using g1, g2, g3⟩
/-- dict(xs) of a tuple of pairs -/
theorem call_dictT (hcalm : X.calm = true) : CallR X (.type "dict") (fun xs H Q => ∃ (a : Addr) (ps : List Addr) (kvs : List (Key × V)), xs = [.ref a] ∧ NdT X.K H a (ps.map V.ref) ∧ Paired (fun p kv => SqT X.K H p [kV kv.1, kv.2]) ps kvs ∧
    ∀ p, H p = none → Q (.ref p) (upd H p (.dK (mergeK [] kvs)))) := by
  intro pins s σ H xs us Q I r q
  obtain ⟨a, ps, kvs, ex, hq, hp, q⟩ := q
  subst ex
  obtain ⟨u, eu, rx⟩ := vals1 r
  subst eu
  cases rx
  obtain ⟨its, rv, hpl, hz⟩ : ∃ its : List Value, Vals (ps.map V.ref) its ∧ PlainSeq "tuple" s.heap a its.toArray ∧ ps.length ≤ sizeLine := by
    rcases hq with ⟨o, h, d⟩ | ⟨o, its, n, h1, h2, d, h3, h4, h5⟩
    · obtain ⟨g, z, its, rv, o', g2, c, n, dat⟩ := (show ObjOk X.prog X.w H s.heap a (.frz o (.tup (ps.map V.ref))) from I.hok a _ h)
      rw [g] at g2
      cases g2
      exact ⟨its, rv, ⟨o, n, g, c, d, dat⟩, by rw [List.length_map] at z; exact z⟩
    · refine ⟨its.toList, h5, ⟨o, n, I.kIn a o h1, h2, d, by simpa using h3⟩, ?_⟩
      have e : ps.length = its.size := by simpa using h5.length
      exact e ▸ h4
  have ei := refs_at rv
  subst ei
  obtain ⟨us, prs, rel, hl, hus, hu2⟩ := pairs_us I hp
  have P := PairArg.tuple (prog := X.prog) (w := X.w) a (ps.map Value.ref).toArray (fun j => ps.getD j 0) (us.zip (prs.map (·.2)))
  have hlz : (us.zip (prs.map (·.2))).length = prs.length := by rw [List.length_zip, List.length_map]; omega
  refine PySem.call_dict_pairs (knd := mixKind X.prog X.w) (kvs := prs) P (I.ok.hd hcalm) ⟨hpl, ?_, fun j k v e => ?_⟩ ⟨hlz.symm, fun i k v e => ?_⟩ (by rw [hlz, hl]; exact hz) fun h' tk hd' k => ?_
  · simp [hlz, hl]
  · obtain ⟨e1, e2⟩ := List.getElem?_zip_eq_some.mp e
    rw [List.getElem?_map] at e2
    obtain ⟨p, e3, rfl⟩ := Option.map_eq_some_iff.mp e2
    obtain ⟨b, g1, g2, g3⟩ := hu2 j p k e3 e1
    have : ps.getD j 0 = b := by simp [List.getD, g1]
    refine ⟨by simp [g1, this], .inl ?_⟩
    show s.heap.IsTuple (ps.getD j 0) #[k, p.2]
    rw [this]
    exact g2
  · obtain ⟨e1, e2⟩ := List.getElem?_zip_eq_some.mp e
    rw [List.getElem?_map] at e2
    obtain ⟨p, e3, rfl⟩ := Option.map_eq_some_iff.mp e2
    obtain ⟨b, g1, g2, g3⟩ := hu2 i p k e3 e1
    exact ⟨p.1, e3, g3⟩
  · have hm : (s.heap.objs.size == sysModules) = false := beq_eq_false_iff_ne.mpr (Nat.ne_of_gt I.big)
    have hlen : (mergeK [] kvs).length ≤ sizeLine := by
      refine Nat.le_trans (length_mergeK kvs []) ?_
      rw [List.length_nil, Nat.zero_add, rel.length, hl]
      exact hz
    exact ⟨.ref s.heap.objs.size, upd H s.heap.objs.size (.dK (mergeK [] kvs)), I.laid (t' := tk) (fun b o e => k b o (by simp) e) (Nat.le_refl _) (show ObjOk X.prog X.w _ _ _ (.dK (mergeK [] kvs)) from ⟨hlen, hm, merged [] prs, KV.merge rel .nil, hd'⟩), rfl, q _ (I.hok.fresh (Nat.le_refl _))⟩
theorem cr_dictM (hC : C.K = X.K) (hc : X.calm = true) : CallR X (.type "dict") (rMsF C E (builtin .dict fz)) := by
  rintro pins s σ H xs us _ I r ⟨Q, rfl, ι, S, ws, sm, h, a⟩
  unfold builtin at a
  split at a <;> try contradiction
  obtain ⟨x, rfl, h1⟩ := one_rel h
  split at a
  · rename_i l e
    obtain ⟨p, kvs, rfl, q1, d1⟩ := dictOf_rel sm e h1
    exact call_dictD pins s σ H _ us _ I r ⟨p, kvs, rfl, d1, fun l hl => aft_mkDF sm q1 a l hl⟩
  · split at a
    · rename_i l e
      obtain ⟨ws, e1, e2⟩ := Option.bind_eq_some_iff.mp e
      unfold dctSrc at e1
      split at e1
      · cases e1
        obtain ⟨p, ys, rfl, d1, r1⟩ := rp_tup h1
        obtain ⟨ps, kvs, rfl, q1, q2⟩ := pairs_rel sm e2 (rel_datas r1)
        rw [hC] at d1 q2
        exact call_dictT hc pins s σ H _ us _ I r ⟨p, ps, kvs, rfl, d1, q2, fun l hl => aft_mkDF sm (putAll_rel .nil q1) a l hl⟩
      · obtain ⟨p, ys, rfl, r1, d1⟩ := lsOf_rel sm e1 h1
        obtain ⟨ps, kvs, rfl, q1, q2⟩ := pairs_rel sm e2 r1
        rw [hC] at d1 q2
        exact call_dictP hc pins s σ H _ us _ I r ⟨p, ps, kvs, rfl, d1, q2, fun l hl => aft_mkDF sm (putAll_rel .nil q1) a l hl⟩
    · exact a.elim
end
end LD
/-! LD10: str, int, repr, isinstance, min(default) and methods, by values. -/
namespace LD
open PySem L2

section
variable {X : Cx} {C : Cn} {E : XK} {fz : Bool}
theorem intText_eq (i : Int) : sT (intText i) = Str.ofString (toString i) := by
  rw [Str.ofString_eq_toList]
  rfl
theorem p500 : BIG < 2 ^ 1920 := by
  unfold BIG
  decide +kernel
theorem log500 {i : Int} (h : i.natAbs < BIG) : i.natAbs.log2 < 1920 := log_lt (by decide) (Nat.lt_trans h p500)
theorem cr_strM : CallR X (.type "str") (rMsF C E (builtin .str fz)) := by
  rintro pins s σ H xs us _ I r ⟨Q, rfl, ι, S, ws, sm, h, a⟩
  unfold builtin at a
  split at a <;> try contradiction
  · obtain ⟨x, rfl, h1⟩ := one_rel h
    have e := rp_int h1
    subst e
    split at a
    · rename_i c
      refine call_str_int pins s σ H _ us _ I r ⟨_, rfl, log500 c.1, .inr ?_⟩
      rw [← intText_eq]
      exact Aft.ok sm (mk_str c.2) a
    · exact a.elim
  · obtain ⟨x, rfl, h1⟩ := one_rel h
    have e := rp_str h1
    subst e
    exact SkE.call_str_str pins s σ H _ us _ I r ⟨_, rfl, .inr (Aft.ok sm h1 a)⟩
theorem cr_intM : CallR X (.type "int") (rMsF C E (builtin .int fz)) := by
  rintro pins s σ H xs us _ I r ⟨Q, rfl, ι, S, ws, sm, h, a⟩
  unfold builtin at a
  split at a <;> try contradiction
  · obtain ⟨x, rfl, h1⟩ := one_rel h
    have e := rp_bl h1
    subst e
    exact call_int1 pins s σ H _ us _ I r (.inr ⟨_, rfl, .inr (Aft.ok sm (mk_int _) a)⟩)
  · obtain ⟨x, rfl, h1⟩ := one_rel h
    have e := rp_str h1
    subst e
    split at a
    · rename_i n hn
      split at a
      · rename_i c
        exact call_int_str pins s σ H _ us _ I r ⟨_, n, rfl, hn, by rw [sT_len]; omega, .inr (Aft.ok sm (mk_int _) a)⟩
      · exact a.elim
    · exact a.elim
mutual
theorem show_ok : ∀ {n m : Nat} {x : D}, x.ok n = true → x.intsOk m = true → n ≤ m → x.pd.showable = true ∧ x.pd.hasDict = false
  | _, _, .non, _, _, _ => by simp [D.pd, PyData.showable, PyData.hasDict]
  | _, _, .bl _, _, _, _ => by simp [D.pd, PyData.showable, PyData.hasDict]
  | n, m, .int i, _, h, _ => by
    have h : i.natAbs < BIG := by cases m <;> simpa [D.intsOk] using h
    simp [D.pd, PyData.showable, PyData.hasDict, log500 h]
  | _, _, .str _, _, _, _ => by simp [D.pd, PyData.showable, PyData.hasDict]
  | 0, _, .tup _, h, _, _ => by simp [D.ok] at h
  | _ + 1, 0, .tup _, _, _, h => by omega
  | n + 1, m + 1, .tup l, h, h2, hl => by
    simp only [D.ok, D.intsOk] at h h2
    simp only [D.pd, PyData.showable, PyData.hasDict]
    exact shows_ok h h2 (by omega)
  | 0, _, .lst _, h, _, _ => by simp [D.ok] at h
  | _ + 1, 0, .lst _, _, _, h => by omega
  | n + 1, m + 1, .lst l, h, h2, hl => by
    simp only [D.ok, D.intsOk] at h h2
    simp only [D.pd, PyData.showable, PyData.hasDict]
    exact shows_ok h h2 (by omega)
  | n, _, .dct _ _, h, _, _ => by cases n <;> simp [D.ok] at h
  | n, _, .fn _, h, _, _ => by cases n <;> simp [D.ok] at h
  | n, _, .scr _, h, _, _ => by cases n <;> simp [D.ok] at h
theorem shows_ok : ∀ {n m : Nat} {l : List D}, l.all (D.ok n) = true → l.all (D.intsOk m) = true → n ≤ m → PyData.showableAll (D.pds l) = true ∧ PyData.hasDictAll (D.pds l) = false
  | _, _, [], _, _, _ => by simp [D.pds, PyData.showableAll, PyData.hasDictAll]
  | n, m, x :: l, h, h2, hl => by
    simp only [List.all_cons, Bool.and_eq_true] at h h2
    have a := show_ok h.1 h2.1 hl
    have b := shows_ok h.2 h2.2 hl
    simp [D.pds, PyData.showableAll, PyData.hasDictAll, a.1, a.2, b.1, b.2]
end
theorem shown_eq (x : D) : sT x.shown = x.pd.shown := rfl
theorem cr_reprM (hC : C.K = X.K) (hg : X.A.guards = some []) (hu : X.A.units + 65 < cLine) : CallR X (.builtin "repr") (rMsF C E (builtin .repr fz)) := by
  rintro pins s σ H xs us _ I r ⟨Q, rfl, ι, S, ws, sm, h, a⟩
  unfold builtin at a
  split at a <;> try contradiction
  obtain ⟨x, rfl, h1⟩ := one_rel h
  split at a
  · rename_i d e
    split at a
    · rename_i c
      simp only [Bool.and_eq_true, decide_eq_true_eq] at c
      obtain ⟨⟨⟨c1, c2⟩, c3⟩, c4⟩ := c
      have dp := flat_dp sm e c1 h1
      rw [hC] at dp
      obtain ⟨so, nd⟩ := show_ok c1 c2 (Nat.le_refl 30)
      have hd := (ok_lay c1).2
      obtain ⟨u, rfl, rx⟩ := vals1 r
      obtain ⟨as, rr⟩ := Dp.reads I d.pd x u dp rx
      have hsz : d.pd.shown.length ≤ sizeLine := lim_line (by rw [← shown_eq, sT_len]; exact c4)
      obtain ⟨p, rfl⟩ : ∃ p, u = .ref p := by
        cases d <;> simp [isSq] at c3 <;> simp only [D.pd] at rr <;> cases rr <;> exact ⟨_, rfl⟩
      refine repr_of_reads' rr so (PyData.noDict_hsm nd) hg (by omega) (fun _ _ e => e) (fun h' u tk hk => ?_) hsz
      refine ⟨.str d.pd.shown, H, I.kept hk, ⟨u, rfl⟩, .inr ?_⟩
      rw [← shown_eq]
      exact Aft.ok sm (mk_str c4) a
    · exact a.elim
  · exact a.elim
/-! ### isinstance -/
def tyNm : Nat → String
  | 0 => "NoneType"
  | 1 => "bool"
  | 2 => "int"
  | 3 => "str"
  | 4 => "tuple"
  | 5 => "list"
  | _ => "dict"
def kNm : BF → String
  | .isInt => "int"
  | .isBool => "bool"
  | .isStr => "str"
  | .isTup => "tuple"
  | _ => "list"
theorem sqT_ty {K : PySem.W.Frag} {H : Hp} {a : Addr} {xs : List V} (h : SqT K H a xs) : TyX K H (.ref a) (.type "tuple") := by
  rcases h with (h | ⟨o, h⟩) | ⟨o, its, n, h1, h2, _⟩
  · exact .base (.tup h)
  · exact .fTuple h
  · exact .kTuple h1 h2
theorem class_ty {H : Hp} {ι : Nat → Addr} {S : Sto} {w : W} {v : V} {c : Nat} (sm : Sim C H ι S) (h : classOf w S = some c) (r : WRp C H ι S.length w v) : TyX C.K H v (.type (tyNm c)) := by
  unfold classOf at h
  split at h
  · cases h; rw [rp_non r]; exact .base .non
  · cases h; rw [rp_bl r]; exact .base (.bl _)
  · cases h; rw [rp_int r]; exact .base (.int _)
  · cases h; rw [rp_str r]; exact .base (.str _)
  · cases h
    obtain ⟨a, xs, rfl, h1, _⟩ := rp_tup r
    exact sqT_ty h1.sqt
  · cases h
    obtain ⟨a, xs, rfl, ⟨o, h1⟩, _⟩ := rp_lst r
    exact .base (.frz h1)
  · cases h
    have r : RpD C H (.dct _ _) v := r
    simp only [RpD] at r
    obtain ⟨a, kvs, rfl, ⟨o, h1⟩, _⟩ := r
    exact .fDict h1
  · cases h
  · split at h
    · rename_i e
      cases h
      obtain ⟨xs, h1, h2⟩ := sm.at' _ _ e
      rw [r.2]
      exact .base (.lst h1)
    · rename_i e
      cases h
      obtain ⟨xs, h1, h2⟩ := sm.at' _ _ e
      rw [r.2]
      exact .base (.tup h1)
    · rename_i e
      cases h
      obtain ⟨xs, h1, h2⟩ := sm.at' _ _ e
      rw [r.2]
      exact .base (.dK h1)
    · cases h
theorem kind_fact (f : BF) (c : Nat) (b : Bool) (hc : c ≤ 6) (h : isKind f c = some b) : kitB (tyNm c) (kNm f) = some b := by
  have : c = 0 ∨ c = 1 ∨ c = 2 ∨ c = 3 ∨ c = 4 ∨ c = 5 ∨ c = 6 := by omega
  cases f <;> first | (simp [isKind] at h; done) | skip
  all_goals
    rcases this with rfl | rfl | rfl | rfl | rfl | rfl | rfl <;> (simp [isKind] at h; subst h; decide +kernel)
theorem class_le {w : W} {S : Sto} {c : Nat} (h : classOf w S = some c) : c ≤ 6 := by
  unfold classOf at h
  split at h <;> first | (cases h; omega) | (cases h; done) | skip
  split at h <;> first | (cases h; omega) | (cases h)
/-- isinstance(x, T) -/
def rIsM (C : Cn) (E : XK) (f : BF) : List V → Hp → VK → Prop := fun xs H Q' => ∃ Q x ι S w, Q' = Fz Q ∧ xs = [x, .ty (kNm f)] ∧ Sim C H ι S ∧ WRp C H ι S.length w x ∧ Aft C E (WRp C) (isRes f w S) H ι S Q
theorem cr_isM (hC : C.K = X.K) (f : BF) : CallR X (.builtin "isinstance") (rIsM C E f) := by
  rintro pins s σ H xs us _ I r ⟨Q, x, ι, S, w, rfl, rfl, sm, h1, a⟩
  unfold isRes at a
  split at a
  · rename_i b e
    obtain ⟨c, e1, e2⟩ := Option.bind_eq_some_iff.mp e
    have ty := class_ty sm e1 h1
    rw [hC] at ty
    exact call_isi pins s σ H _ us _ I r ⟨x, _, _, _, b, rfl, .ty _, ty, kit_ty (kind_fact f c b (class_le e1) e2), .inr (Aft.ok sm (mk_bl _) a)⟩
  · exact a.elim
/-! ### min(l, default = z) -/
def rMinD (C : Cn) (E : XK) (g : List W → Sto → R W) : List V → List V → Hp → VK → Prop := fun xs zs H Q' => ∃ Q, Q' = Fz Q ∧ ∃ ι S ws, Sim C H ι S ∧ WRs C H ι S.length ws (xs ++ zs) ∧ xs.length = 1 ∧ Aft C E (WRp C) (g ws S) H ι S Q
theorem minI_fold : ∀ (l : List Int) (i : Int), l.foldl min i = minI i l
  | [], _ => rfl
  | j :: l, i => by
    rw [List.foldl_cons, minI_fold l]
    show minI (min i j) l = minI (if j < i then j else i) l
    congr 1
    by_cases h : j < i
    · rw [if_pos h]; omega
    · rw [if_neg h]; omega
theorem ints_pd : ∀ (l : List Int), D.pds (l.map D.int) = l.map PyData.int
  | [] => rfl
  | i :: l => by simp [D.pds, D.pd, ints_pd l]
theorem cr_minD (hC : C.K = X.K) (hc : X.calm = true) (hu : X.A.units + 65 < cLine) : CallRK X (.builtin "min") ["default"] (rMinD C E (builtin .min1d fz)) := by
  rintro pins s σ H xs zs us vs _ I r1 r2 ⟨Q, rfl, ι, S, ws, sm, h, hl, a⟩
  unfold builtin at a
  split at a <;> try contradiction
  obtain ⟨x, y, e, h1, h2⟩ := two_rel h
  obtain ⟨rfl, rfl⟩ : xs = [x] ∧ zs = [y] := by
    cases xs with
    | nil => simp at hl
    | cons x' xs =>
      cases xs with
      | cons _ _ => simp at hl
      | nil =>
        simp only [List.cons_append, List.nil_append, List.cons.injEq] at e
        exact ⟨by rw [e.1], e.2⟩
  have e2 := rp_int h2
  subst e2
  obtain ⟨u1, rfl, ru1⟩ := vals1 r1
  obtain ⟨u2, rfl, ru2⟩ := vals1 r2
  have run : ∀ (ns : List Int) (p : Addr), x = .ref p → Rd H p (.lst (ns.map V.int)) → (ns = [] → EP X pins σ (Fz Q) u2 s) → (∀ i l, ns = i :: l → Q (.int (minI i l)) H) →
      wpAny (model X.prog X.w) X.A (call (.builtin "min") [u1] [(Str.ofString "default", u2)]) (EP X pins σ (Fz Q)) X.xe s := by
    intro ns p ex d1 q0 q1
    subst ex
    cases ru1
    obtain ⟨its, rv, pl, hz⟩ := I.list (.inl d1 : SqL X.K H p (ns.map V.int))
    have dpa : ∀ l : List Int, DpAll X.K H (l.map V.int) (l.map PyData.int) := by
      intro l
      induction l with
      | nil => exact .nil
      | cons i l ih => exact .cons (.int i) ih
    obtain ⟨as, ra⟩ := Dp.readsAll I _ _ its (dpa ns) rv
    have da : ∀ l : List Int, PyData.depthAll (l.map PyData.int) ≤ 1 := by
      intro l
      induction l with
      | nil => simp [PyData.depthAll]
      | cons i l ih => simp only [List.map_cons, PyData.depthAll, PyData.depth]; omega
    have dn := da ns
    refine PySem.W.min_list_default (I.ok.hd hc) pl.isList (by simpa using ra) ⟨fun x hx y hy => ?_, fun x hx => ?_⟩ (by omega) (fun e h' tk hk => ?_) fun y ys i v h' tk bs e hv hr hk => ?_
    · obtain ⟨a, _, rfl⟩ := List.mem_map.mp hx
      obtain ⟨b, _, rfl⟩ := List.mem_map.mp hy
      rfl
    · obtain ⟨a, _, rfl⟩ := List.mem_map.mp hx
      exact fun z => nomatch z
    · obtain ⟨v, H', I', r', q'⟩ := q0 (List.map_eq_nil_iff.mp e)
      exact ⟨v, H', I'.kept hk, r', q'⟩
    · cases ns with
      | nil => simp at e
      | cons i l =>
        simp only [List.map_cons, List.cons.injEq] at e
        obtain ⟨rfl, rfl⟩ := e
        rw [PySem.W.minD_ints, minI_fold] at hr
        cases hr
        exact ⟨.int _, H, I.kept hk, ⟨_, rfl⟩, .inr (q1 i l rfl)⟩
  show wpAny (model X.prog X.w) X.A (call (.builtin "min") [u1] [(Str.ofString "default", u2)]) (EP X pins σ (Fz Q)) X.xe s
  split at a
  · rename_i i l e
    obtain ⟨p, ex, d1⟩ := ints_lst sm e h1
    refine run _ p ex d1 (fun z => nomatch z) fun i' l' e => ?_
    cases e
    exact Aft.ok sm (mk_int _) a
  · rename_i e
    obtain ⟨p, ex, d1⟩ := ints_lst sm e h1
    refine run _ p ex d1 (fun _ => ⟨_, H, I, ru2, .inr (Aft.ok sm h2 a)⟩) fun i' l' e => nomatch e
  · exact a.elim
end
end LD
/-! LD11: methods. -/
namespace LD
open PySem L2

section
variable {X : Cx} {C : Cn} {E : XK} {fz : Bool}
def rMmF (C : Cn) (E : XK) (g : W → List W → Sto → R W) : V → List V → Hp → VK → Prop := fun x xs H Q' => ∃ Q, Q' = Fz Q ∧ rMm C E g x xs H Q
theorem cellL_rel {H : Hp} {ι : Nat → Addr} {S : Sto} {w : W} {n : Nat} {l : List W} {v : V} (s : Sim C H ι S) (h : cellL w S = some (n, l)) (r : WRp C H ι S.length w v) :
    ∃ xs, v = .ref (ι n) ∧ n < S.length ∧ WRs C H ι S.length l xs ∧ H (ι n) = some (.lst xs) := by
  unfold cellL at h
  split at h
  · split at h
    · rename_i e
      cases h
      obtain ⟨xs, h1, h2⟩ := s.at' _ _ e
      exact ⟨xs, r.2, r.1, h2, h1⟩
    · cases h
  · cases h
theorem cellD_rel {H : Hp} {ι : Nat → Addr} {S : Sto} {w : W} {n : Nat} {l : List (Ky × W)} {v : V} (s : Sim C H ι S) (h : cellD w S = some (n, l)) (r : WRp C H ι S.length w v) :
    ∃ kvs, v = .ref (ι n) ∧ n < S.length ∧ KRs C H ι S.length l kvs ∧ H (ι n) = some (.dK kvs) := by
  unfold cellD at h
  split at h
  · split at h
    · rename_i e
      cases h
      obtain ⟨xs, h1, h2⟩ := s.at' _ _ e
      exact ⟨xs, r.2, r.1, h2, h1⟩
    · cases h
  · cases h
/-- a list's cell gets other items -/
theorem nx_lst {H : Hp} {ι : Nat → Addr} {S : Sto} {n : Nat} {l : List W} {xs ys : List V} (s : Sim C H ι S) (hn : n < S.length) (h : H (ι n) = some (.lst xs)) (r : WRs C H ι S.length l ys) :
    Nx C H ι S (upd H (ι n) (.lst ys)) ι (S.set n (.lst l)) := by
  have k : Keeps H (upd H (ι n) (.lst ys)) := fun a o h' st => by
    by_cases e : a = ι n
    · subst e; rw [h] at h'; cases h'; exact st.elim
    · rw [upd_ne e]; exact h'
  exact Nx.write s hn (fun o h' => by rw [h] at h'; cases h'; exact fun z => z) ⟨ys, upd_same, WRs.mono k (Nat.le_refl _) (fun _ _ => rfl) r⟩
theorem nx_dct {H : Hp} {ι : Nat → Addr} {S : Sto} {n : Nat} {l : List (Ky × W)} {xs ys : List (Key × V)} (s : Sim C H ι S) (hn : n < S.length) (h : H (ι n) = some (.dK xs)) (r : KRs C H ι S.length l ys) :
    Nx C H ι S (upd H (ι n) (.dK ys)) ι (S.set n (.dct l)) := by
  have k : Keeps H (upd H (ι n) (.dK ys)) := fun a o h' st => by
    by_cases e : a = ι n
    · subst e; rw [h] at h'; cases h'; exact st.elim
    · rw [upd_ne e]; exact h'
  exact Nx.write s hn (fun o h' => by rw [h] at h'; cases h'; exact fun z => z) ⟨ys, upd_same, KRs.mono k (Nat.le_refl _) (fun _ _ => rfl) r⟩
theorem fzM {id : String} {r : V → List V → Hp → VK → Prop} (h : MtR X id r) : MtR X id fun x xs H Q' => ∃ Q, Q' = Fz Q ∧ r x xs H Q := by
  rintro pins s σ H x xs v us _ I rx rs ⟨Q, rfl, q⟩
  exact wpFz (h pins s σ H x xs v us Q I rx rs q)
theorem mm_append : MtR X "list.append" (rMmF C E (method .append fz)) := by
  refine fzM ?_
  rintro pins s σ H x xs v us Q I rx rs ⟨ι, S, w, ws, sm, h, hs, a⟩
  unfold method at a
  split at a <;> try contradiction
  obtain ⟨y, rfl, h1⟩ := one_rel hs
  split at a
  · rename_i n l e
    obtain ⟨ys, rfl, hn, q1, q2⟩ := cellL_rel sm e h
    split at a
    · rename_i c
      refine mt_append pins s σ H _ _ v us Q I rx rs ⟨_, ys, y, rfl, rfl, q2, by rw [← pairLen q1]; exact lim_lt c, ?_⟩
      exact a _ _ _ (nx_lst sm hn q2 (pairApp q1 (.cons h1 .nil))) mk_non
    · exact a.elim
  · exact a.elim
theorem mm_extend : MtR X "list.extend" (rMmF C E (method .extend fz)) := by
  refine fzM ?_
  rintro pins s σ H x xs v us Q I rx rs ⟨ι, S, w, ws, sm, h, hs, a⟩
  unfold method at a
  split at a <;> try contradiction
  obtain ⟨y, rfl, h1⟩ := one_rel hs
  split at a
  · rename_i n l n2 m e e2
    obtain ⟨ys, rfl, hn, q1, q2⟩ := cellL_rel sm e h
    obtain ⟨zs, rfl, hn2, q3, q4⟩ := cellL_rel sm e2 h1
    split at a
    · rename_i c
      refine mt_extend pins s σ H _ _ v us Q I rx rs ⟨_, _, ys, zs, rfl, rfl, q2, q4, by rw [← pairLen q1, ← pairLen q3]; exact lim_line c, ?_⟩
      exact a _ _ _ (nx_lst sm hn q2 (pairApp q1 q3)) mk_non
    · exact a.elim
  · exact a.elim
theorem mm_insert : MtR X "list.insert" (rMmF C E (method .insert fz)) := by
  refine fzM ?_
  rintro pins s σ H x xs v us Q I rx rs ⟨ι, S, w, ws, sm, h, hs, a⟩
  unfold method at a
  split at a <;> try contradiction
  obtain ⟨y, z, rfl, h1, h2⟩ := two_rel hs
  have e1 := rp_int h1
  subst e1
  split at a
  · rename_i n l e
    obtain ⟨ys, rfl, hn, q1, q2⟩ := cellL_rel sm e h
    split at a
    · rename_i c
      refine mt_insert pins s σ H _ _ v us Q I rx rs ⟨_, ys, _, z, rfl, rfl, q2, by rw [← pairLen q1]; exact lim_lt c.1, c.2.1, by have := c.2.2; omega, ?_⟩
      exact a _ _ _ (nx_lst sm hn q2 (pairApp (pairApp (pairTake _ q1) (.cons h2 .nil)) (pairDrop _ q1))) mk_non
    · exact a.elim
  · exact a.elim
theorem last_get {α : Type} (l : List α) : l[l.length - 1]? = l.getLast? := by
  rw [List.getLast?_eq_getElem?]
theorem pairDL {α β : Type} {F : α → β → Prop} {l : List α} {m : List β} (h : Paired F l m) : Paired F l.dropLast m.dropLast := by
  rw [List.dropLast_eq_take, List.dropLast_eq_take, ← pairLen h]
  exact pairTake _ h
theorem mm_pop0 : MtR X "list.pop" (rMmF C E (method .pop0 fz)) := by
  refine fzM ?_
  rintro pins s σ H x xs v us Q I rx rs ⟨ι, S, w, ws, sm, h, hs, a⟩
  unfold method at a
  split at a <;> try contradiction
  cases hs
  split at a
  · rename_i n l e
    obtain ⟨ys, rfl, hn, q1, q2⟩ := cellL_rel sm e h
    split at a
    · rename_i w' hw
      rw [← last_get] at hw
      obtain ⟨y, hy, ry⟩ := pairGet q1 hw
      refine mt_pop pins s σ H _ _ v us Q I rx rs ⟨_, ys, y, rfl, rfl, q2, by rw [← pairLen q1]; exact hy, ?_⟩
      have nx := nx_lst sm hn q2 (pairDL q1)
      exact a _ _ _ nx (nx.val ry)
    · exact a.elim
  · exact a.elim
theorem mm_pop1 : MtR X "list.pop" (rMmF C E (method .pop1 fz)) := by
  refine fzM ?_
  rintro pins s σ H x xs v us Q I rx rs ⟨ι, S, w, ws, sm, h, hs, a⟩
  unfold method at a
  split at a <;> try contradiction
  obtain ⟨y, rfl, h1⟩ := one_rel hs
  have e1 := rp_int h1
  subst e1
  split at a
  · rename_i n l e
    obtain ⟨ys, rfl, hn, q1, q2⟩ := cellL_rel sm e h
    split at a
    · rename_i k ek
      split at a
      · rename_i w' hw
        obtain ⟨y, hy, ry⟩ := pairGet q1 hw
        have hz : ys.length ≤ sizeLine := (I.lstM q2).1
        have hz2 : sizeLine < 2 ^ 60 := by decide
        have hl := pairLen q1
        rw [ixN_eq] at ek
        obtain ⟨g1, g2, g3, g4⟩ := ixN_seq ek
        have nx := nx_lst sm hn q2 (pairErase k q1)
        refine mt_popAt pins s σ H _ _ v us Q I rx rs ⟨_, ys, _, k, y, rfl, rfl, q2, by omega, by omega, ?_, hy, a _ _ _ nx (nx.val ry)⟩
        rw [← hl]
        exact g1
      · exact a.elim
    · exact a.elim
  · exact a.elim
theorem texts_sum : ∀ ts : List (List Nat), ((ts.map sT).map (·.length)).sum = (ts.map List.length).sum
  | [] => rfl
  | t :: ts => by
    simp only [List.map_cons, List.sum_cons]
    rw [texts_sum ts, sT_len]
theorem join_sT (sep : List Nat) (ts : List (List Nat)) : Txt.join (sT sep) (ts.map sT) = sT (TL.joinL sep ts) := by
  rw [TL.join_eq]
  refine TL.ext_tl ?_
  rw [TL.tl_join]
  show TL.joinL sep ((ts.map sT).map TL.tl) = TL.joinL sep ts
  congr 1
  rw [List.map_map]
  exact List.map_id _
theorem joinL_len (sep : List Nat) : ∀ ts : List (List Nat), (TL.joinL sep ts).length ≤ (ts.map List.length).sum + ts.length * sep.length
  | [] => by simp [TL.joinL]
  | [p] => by simp [TL.joinL]
  | p :: q :: r => by
    have ih := joinL_len sep (q :: r)
    simp only [TL.joinL, List.length_append, List.map_cons, List.sum_cons, List.length_cons] at ih ⊢
    rw [Nat.add_mul, Nat.one_mul]
    omega
theorem mm_join (hC : C.K = X.K) : MtR X "str.join" (rMmF C E (method .join fz)) := by
  refine fzM ?_
  rintro pins s σ H x xs v us Q I rx rs ⟨ι, S, w, ws, sm, h, hs, a⟩
  unfold method at a
  split at a <;> try contradiction
  obtain ⟨y, rfl, h1⟩ := one_rel hs
  split at a
  · rename_i sep ts e
    obtain ⟨l, e1, e2⟩ := Option.bind_eq_some_iff.mp e
    obtain ⟨p, ys, rfl, q1, d1⟩ := seqOf_rel sm e1 h1
    rw [hC] at d1
    have ey := texts_rel e2 q1
    subst ey
    have ex := rp_str h
    subst ex
    split at a
    · rename_i c
      refine mt_join pins s σ H _ _ v us Q I rx rs ⟨_, p, ts.map sT, rfl, rfl, d1, ?_, ?_⟩
      · rw [texts_sum, List.length_map, sT_len]
        exact Nat.le_trans c (by decide)
      · rw [join_sT]
        exact Aft.ok sm (mk_str (Nat.le_trans (joinL_len sep ts) c)) a
    · exact a.elim
  · exact a.elim
theorem strs_rel {H : Hp} {ι : Nat → Addr} {L : Nat} : ∀ {ts : List (List Nat)}, (∀ t ∈ ts, t.length ≤ LIM) → WRs C H ι L (ts.map fun t => W.d (.str t)) ((ts.map sT).map V.str)
  | [], _ => .nil
  | t :: ts, h => .cons (mk_str (h t (by simp))) (strs_rel fun t' ht => h t' (by simp [ht]))
theorem spl_len (sep : List Nat) : ∀ (l : List Nat) (k : Nat) (acc : List Nat), ∀ t ∈ TL.spl sep k acc l, t.length ≤ acc.length + l.length
  | [], k, acc, t, h => by
    rw [TL.spl_nil] at h
    rw [List.mem_singleton.mp h]
    simp
  | c :: r, 0, acc, t, h => by
    by_cases hp : TL.pre sep (c :: r) = true
    · rw [TL.spl_hit hp] at h
      rcases List.mem_cons.mp h with rfl | h
      · simp
      · have := spl_len sep r _ _ t h
        simp only [List.length_nil, List.length_cons] at this ⊢
        omega
    · rw [TL.spl_miss (by simpa using hp)] at h
      have := spl_len sep r _ _ t h
      simp only [List.length_append, List.length_cons, List.length_nil] at this ⊢
      omega
  | c :: r, k + 1, acc, t, h => by
    have := spl_len sep r k acc t h
    simp only [List.length_cons]
    omega
theorem mm_split : MtR X "str.split" (rMmF C E (method .split fz)) := by
  rintro pins s σ H x xs v us _ I rx rs ⟨Q, rfl, ι, S, w, ws, sm, h, hs, a⟩
  unfold method at a
  split at a <;> try contradiction
  rename_i sep _
  obtain ⟨y, rfl, h1⟩ := one_rel hs
  have ey := rp_str h1
  subst ey
  split at a
  · rename_i t
    have hl := rp_strL h
    have ex := rp_str h
    subst ex
    split at a
    · rename_i c
      have e : Txt.split (sT t) (sT sep) = (TL.spl sep 0 [] t).map sT := by
        refine TL.map_tl_inj ?_
        rw [TL.split_spl _ _ c.1 (TL.kind_ok (by simpa [sT] using c.2)), List.map_map]
        exact (List.map_id _).symm
      refine mt_split pins s σ H _ _ v us _ I rx rs ⟨_, _, rfl, rfl, ?_, ?_, ?_⟩
      · rw [sT_len]
        cases sep with
        | nil => exact absurd rfl c.1
        | cons a b => simp
      · rw [sT_len]
        have : LIM + 2 ≤ sizeLine := by decide
        omega
      · rw [e]
        intro p hp
        exact aft_mkLF sm (strs_rel fun q hq => by
          have := spl_len sep t 0 [] q hq
          simp only [List.length_nil, Nat.zero_add] at this
          omega) a p hp
    · exact a.elim
  · exact a.elim
theorem par_len (sep : List Nat) : ∀ (l acc p q : List Nat), TL.par sep acc l = some (p, q) → p.length ≤ acc.length + l.length ∧ q.length ≤ l.length
  | [], acc, p, q, h => by simp [TL.par] at h
  | c :: r, acc, p, q, h => by
    simp only [TL.par] at h
    split at h
    · cases h
      simp
    · have := par_len sep r _ p q h
      simp only [List.length_append, List.length_cons, List.length_nil] at this ⊢
      omega
theorem mm_partition : MtR X "str.partition" (rMmF C E (method .partition fz)) := by
  refine fzM ?_
  rintro pins s σ H x xs v us Q I rx rs ⟨ι, S, w, ws, sm, h, hs, a⟩
  unfold method at a
  split at a <;> try contradiction
  rename_i sep _
  obtain ⟨y, rfl, h1⟩ := one_rel hs
  have hl2 := rp_strL h1
  have ey := rp_str h1
  subst ey
  split at a
  · rename_i t
    have hl := rp_strL h
    have ex := rp_str h
    subst ex
    split at a
    · rename_i c
      have hp : (sT sep).length ≠ 0 := by
        rw [sT_len]
        cases sep with
        | nil => exact absurd rfl c
        | cons a b => simp
      refine mt_partition pins s σ H _ _ v us _ I rx rs ⟨_, _, rfl, rfl, by simpa using hp, by rw [sT_len]; exact lim_line hl, fun p hp => ?_⟩
      rw [TL.partition_par _ _ c]
      have cell : ∀ (b1 b2 b3 : List Nat), b1.length ≤ LIM → b2.length ≤ LIM → b3.length ≤ LIM → Aft C E (WRp C) (.ok (.ref S.length) (S ++ [.tup [.d (.str b1), .d (.str b2), .d (.str b3)]])) H ι S Q →
          Q (.ref p) (upd H p (.tup [.str (sT b1), .str (sT b2), .str (sT b3)])) := by
        intro b1 b2 b3 l1 l2 l3 a
        have nx : Nx C H ι S (upd H p (.tup [.str (sT b1), .str (sT b2), .str (sT b3)])) (push ι S.length p) (S ++ [.tup [.d (.str b1), .d (.str b2), .d (.str b3)]]) :=
          Nx.cell sm hp fun ι' he => ⟨_, upd_same, .cons (mk_str l1) (.cons (mk_str l2) (.cons (mk_str l3) .nil))⟩
        exact a _ _ _ nx ⟨by simp, by rw [push_at]⟩
      rw [show TL.par (TL.tl (sT sep)) [] (TL.tl (sT t)) = TL.par sep [] t from rfl]
      split at a
      · rename_i b1 b3 e
        have := par_len sep t [] b1 b3 e
        rw [e]
        exact cell b1 sep b3 (by simp at this; omega) hl2 (by omega) a
      · rename_i e
        rw [e]
        exact cell t [] [] hl (by simp [LIM]) (by simp [LIM]) a
    · exact a.elim
  · exact a.elim
theorem dget_of {H : Hp} {ι : Nat → Addr} {S : Sto} {l : List (Ky × W)} {kvs : List (Key × V)} {p : Addr} {k : Ky} (q1 : KRs C H ι S.length l kvs) (d1 : Rd H p (.dK kvs)) :
    ∃ o, DGet H p (kV (ky k)) o ∧ (∀ w, lookK l k = some w → ∃ v, o = some v ∧ WRp C H ι S.length w v) ∧ (lookK l k = none → o = none) := by
  refine ⟨valV kvs (ky k), .inl ⟨kvs, ky k, d1, rfl, rfl⟩, fun w hw => ?_, fun hw => ?_⟩
  · obtain ⟨v, hv, r⟩ := (lookK_rel (k := k) q1).1 w hw
    exact ⟨v, hv, r⟩
  · exact (lookK_rel (k := k) q1).2 hw
theorem mm_get1 (hu : X.A.units + 1 < cLine) : MtR X "dict.get" (rMmF C E (method .get1 fz)) := by
  refine fzM ?_
  rintro pins s σ H x xs v us Q I rx rs ⟨ι, S, w, ws, sm, h, hs, a⟩
  unfold method at a
  split at a <;> try contradiction
  obtain ⟨y, rfl, h1⟩ := one_rel hs
  split at a
  · rename_i l k e hk
    obtain ⟨p, kvs, rfl, q1, d1⟩ := dictOf_rel sm e h
    have ek := (keyOf_rel hk h1).1
    subst ek
    cases rx
    obtain ⟨u, rfl, ru⟩ := vals1 rs
    obtain ⟨o, g, g1, g2⟩ := dget_of (k := k) q1 d1
    refine d_get1 hu I g ru fun w' s' I' r' => ⟨_, H, I', r', ?_⟩
    cases hl : lookK l k with
    | some z =>
      rw [hl] at a
      obtain ⟨v, rfl, rv⟩ := g1 z hl
      exact Aft.ok sm rv a
    | none =>
      rw [hl] at a
      rw [g2 hl]
      exact Aft.ok sm mk_non a
  · exact a.elim
theorem mm_get2 (hu : X.A.units + 1 < cLine) : MtR X "dict.get" (rMmF C E (method .get2 fz)) := by
  refine fzM ?_
  rintro pins s σ H x xs v us Q I rx rs ⟨ι, S, w, ws, sm, h, hs, a⟩
  unfold method at a
  split at a <;> try contradiction
  obtain ⟨y, y2, rfl, h1, h2⟩ := two_rel hs
  split at a
  · rename_i l k e hk
    obtain ⟨p, kvs, rfl, q1, d1⟩ := dictOf_rel sm e h
    have ek := (keyOf_rel hk h1).1
    subst ek
    cases rx
    obtain ⟨u, u2, rfl, ru, ru2⟩ := vals2 rs
    obtain ⟨o, g, g1, g2⟩ := dget_of (k := k) q1 d1
    refine d_get2 hu I g ru ru2 fun w' s' I' r' => ⟨_, H, I', r', ?_⟩
    cases hl : lookK l k with
    | some z =>
      rw [hl] at a
      obtain ⟨v, rfl, rv⟩ := g1 z hl
      exact Aft.ok sm rv a
    | none =>
      rw [hl] at a
      rw [g2 hl]
      exact Aft.ok sm h2 a
  · exact a.elim
end
end LD
/-! LD12: a def's promise where no guard of repr stands, calls, the end. -/
namespace LD
open PySem PySem.Spec PyProof.Rows L2

/-- a def keeps its promise wherever repr is not under way -/
structure FnG (P : Program) (w : World) (K : PySem.W.Frag) (mg : Str → Option Value) (base : Heap) (CX : CXT) (k : Nat) (f : Addr) (fd : FuncData) (ps : List Str) (sp : Sp) : Prop where
  len : ∀ vs H Q E, sp vs H Q E → vs.length = ps.length
  run : ∀ (A : Around) (outer : List PySem.Env) (s : Shared) (H : Hp) (args : Args) (us : List Value) (vs : List V) (Q : VK) (E : XK), Room k A → A.guards = some [] → Env0 P w K mg base A outer s H → BindsTo s fd args (ps.zip us) → Vals vs us → sp vs H Q E →
    codeAny (model P w) A (.call (.ref f) args) (CR CX outer P w H s Q E) s
theorem FnG.mono {P : Program} {w : World} {K : PySem.W.Frag} {mg : Str → Option Value} {base : Heap} {CX : CXT} {j k : Nat} {f : Addr} {fd : FuncData} {ps : List Str} {sp : Sp} (F : FnG P w K mg base CX j f fd ps sp) (h : j ≤ k) :
    FnG P w K mg base CX k f fd ps sp := ⟨F.len, fun A outer s H args us vs Q E hr => F.run A outer s H args us vs Q E (hr.mono h)⟩
section
variable {X : Cx} {CX : CXT} {k : Nat} {f : Addr} {fd : FuncData} {ps : List Str} {sp : Sp} {E : XK} {x : Str} {p pos : Pos} {e : Expr} {es : List Expr} {t : TA}
theorem run_fnG {pins : List (Addr × Obj)} {σ : L2.St} {H : Hp} {s : Shared} {Q : VK} {us : List Value} {vs : List V} (F : FnG X.prog X.w X.K X.mg X.base CX k f fd ps sp) (hr : Room k X.A) (hg : X.A.guards = some []) (hb : Binds X.K fd ps []) (hx : Passes CX X E)
    (I : Inv X pins σ H s) (r : Vals vs us) (h : sp vs H Q E) : wpAny (model X.prog X.w) X.A (call (.ref f) us) (EP X pins σ Q) X.xe s := by
  have hl : (us ++ []).length = ps.length := by rw [List.append_nil, ← r.length]; exact F.len _ _ _ _ h
  have bd := hb s us I.kIn hl
  rw [List.append_nil] at bd
  refine wpAny_call (codeAny_mono (F.run X.A X.stack s H ⟨us, []⟩ us vs Q E hr hg I.env0 bd r h) fun r s' hq => ?_)
  match r, hq with
  | .error e, hq => exact hx pins σ H s e s' I hq
  | .ok (.ret u), hq => exact I.after hq
  | .ok .next, hq => exact hq.elim
  | .ok .brk, hq => exact hq.elim
  | .ok .cont, hq => exact hq.elim
/-- f(e, ..) -/
theorem pe_callF (F : FnG X.prog X.w X.K X.mg X.base CX k f fd ps sp) (hr : Room k X.A) (hgd : X.A.guards = some []) (hg : Gl X x) (hm : X.mg x = some (.ref f)) (hk : PySem.W.keepIn X.K (.ref f) = true) (hb : Binds X.K fd ps []) (hx : Passes CX X E)
    (ha : PA X (e :: es) t) (hdb : (x == ("__debug__" : Str)) = false) (he : starEach (e :: es) X.env = (false, eval e X.env) :: starEach es X.env) (hpl : (backTo pos (starEach es X.env)).any (·.1) = false) :
    PE X (.Call (.Name x p) (e :: es) [] pos) (fun σ H Q => t σ H fun vs H1 => sp vs H1 Q E) := by
  refine ⟨fun pins s σ H Q I h => ?_⟩
  refine wpAny_Call_Name_kw (ld_glob I hg hm ?_ hdb)
  refine PySem.W.callWith_K (h₀ := X.base) I.ok.mod.kin hk (thn (ha.run pos pins s σ H _ I h) fun us s1 ⟨vs, H1, I1, r, q⟩ => ⟨I1.kIn, ?_⟩) he hpl
  exact run_fnG F hr hgd hb hx I1 r q
theorem pe_callF0 (F : FnG X.prog X.w X.K X.mg X.base CX k f fd ps sp) (hr : Room k X.A) (hgd : X.A.guards = some []) (hg : Gl X x) (hm : X.mg x = some (.ref f)) (hk : PySem.W.keepIn X.K (.ref f) = true) (hb : Binds X.K fd ps []) (hx : Passes CX X E)
    (hdb : (x == ("__debug__" : Str)) = false) : PE X (.Call (.Name x p) [] [] pos) (fun σ H Q => sp [] H Q E) := by
  refine ⟨fun pins s σ H Q I h => ?_⟩
  refine wpAny_Call_Name_kw (ld_glob I hg hm ?_ hdb)
  exact PySem.W.callWith_K0 I.kIn hk (run_fnG (us := []) F hr hgd hb hx I .nil h)
end
/-- a def by its body -/
theorem fn_ofG {CX : CXT} {P : Program} {w : World} {K : PySem.W.Frag} {mg : Str → Option Value} {base : Heap} {k : Nat} {f : Addr} {x qual : Str} {st : Stmt} {fd : FuncData} {N ps : List Str} {sp : Sp} (F : C8.Fun K x qual st f fd) (S : FnScope N ps (C8.fnScope st))
    (len : ∀ vs H Q E, sp vs H Q E → vs.length = ps.length)
    (hbody : ∀ (cdv : Value) (A : Around) (outer : List PySem.Env) (s : Shared) (H : Hp) (vs : List V) (Q : VK) (E : XK), Room k (A.deeper (envOfC qual (C8.fnScope st) s.heap.objs.size f cdv)) → A.guards = some [] → K.In base → sp vs H Q E →
      ∃ t, PSs (cxOf CX P w K mg base N qual (C8.fnScope st) f cdv A outer s H E) (C8.fnBody st) t ∧ t { nx := fun _ H' => Q .non H', rt := Q } (start N vs) H) :
    FnG P w K mg base CX (k + 1) f fd ps sp := by
  obtain ⟨oc, od, dV, kV, doc, pm, an, cdv, ct, osl, rfl, lk, hcd⟩ := F.ex
  refine ⟨len, fun A outer s H args us vs Q E hr hgd e0 hb r hsp => ?_⟩
  have hl := len _ _ _ _ hsp
  have KX : K.In s.heap := e0.mod.kin.keeps fun b o e => (e0.bs b o e).1
  have lim : s.heap.NoLimit := e0.mod.nolimit.keeps fun b o e => (e0.bs b o e).1
  have hkind : ∀ y ∈ ps.zip us, (C8.fnScope st).names.lookup y.1 = some .local ∨ ((C8.fnScope st).names.lookup y.1 = some .cell ∧ ((cellsFrom (s.heap.objs.size + 1) (C8.fnScope st).names []).lookup y.1).isSome = true) := fun ⟨n, v⟩ hy => by
    rcases S.par n (List.of_mem_zip hy).1 with q | q
    · exact .inl q
    · exact .inr ⟨q, PySem.W.cellsFrom_some _ _ _ (.inl q)⟩
  refine codeAny_call_function hr.depth (KX _ _ lk) rfl S.co S.gen rfl (PySem.W.codeRec_of KX hcd) (hb _ _ _ _ ?_)
  refine wpAny_newFunctionEnv_cells S.kind hkind fun env he s1 y => ?_
  subst he
  refine ⟨lim.keeps y.toInCall.keep, codeAny_func ?_⟩
  obtain ⟨t, ht, hq⟩ := hbody cdv A outer s H vs Q E (hr.deeper _) hgd e0.mod.kin hsp
  have I : Inv (cxOf CX P w K mg base N qual (C8.fnScope st) f cdv A outer s H E) [] (start N vs) H s1 := inv_start S hr.hd e0 hl r y
  refine wpAny_mono (ht.run [] s1 (start N vs) H _ I hq) (fun fl s' hs => ?_) fun e s' hs => hs
  match fl, hs with
  | .ret u, ⟨v, σ', H', J, rv, q⟩ => exact ⟨v, H', J.os, J.bare, J.base, J.hok, rv, q⟩
  | .next, ⟨σ', H', J, q⟩ => exact ⟨.non, H', J.os, J.bare, J.base, J.hok, rfl, q⟩
  | .brk, ⟨_, _, _, q⟩ => exact q.elim
  | .cont, ⟨_, _, _, q⟩ => exact q.elim
/-- the heap that tracks the script alone -/
def scrH (K : PySem.W.Frag) (a : Addr) (o : Obj) (ns : List Int) : Hp := match K.lookup a with
  | some _ => fun _ => none
  | none => fun b => if b = a then some (.frz o (.lst (ns.map V.int))) else none
/-- the law's def is called: its promise at the heap that tracks the script alone -/
theorem law_callG {P : Program} {w : World} {K : PySem.W.Frag} {mg mb : Str → Option Value} {CX : CXT} {k : Nat} {fa a : Addr} {fd : FuncData} {x : Str} {sp : Sp} {s₁ : Shared} {vs : List Value} {ns : List Int}
    (KX : K.In s₁.heap) (hns : s₁.heap.Ns mainGlobals mg) (hb : s₁.heap.Ns builtinsNs mb) (hbb : ∀ x : Str, x ≠ "__name__" → mb x = bootBuiltins x) (hlim : s₁.heap.NoLimit) (hg : s₁.gens = #[])
    (ha : s₁.heap.get? a = some { cls := .type "list", data := .seq vs.toArray }) (hi : IntsAre vs ns) (hl : ns.length ≤ sizeLine) (hr : Room k callerA)
    (F : ∀ base : Heap, K.In base → base.Ns mainGlobals mg → FnG P w K mg base CX k fa fd [x] sp) (hbind : ∀ (s : Shared) (u : Value), BindsTo s fd ⟨[u], []⟩ [(x, u)])
    (hsp : ∀ H : Hp, Only H → ScL K H a (ns.map V.int) → sp [.ref a] H (fun v _ => v = .bl true) fun _ _ _ => False)
    (hCX : ∀ H e s', CX [] H s₁ (fun _ _ _ => False) e s' → False) :
    codeAny (model P w) callerA (.call (.ref fa) ⟨[.ref a], []⟩) (fun r s' => r = .ok (.ret (.bool true)) ∧ OldK s₁.heap s'.heap ∧ s'.os = s₁.os ∧ AllBare s'.gens) s₁ := by
  have rv := vals_ints hi
  have lenV := hi.length
  suffices core : ∀ H : Hp, Only H → ScL K H a (ns.map V.int) → HOk P w H s₁.heap → (∀ b, H b ≠ none → b = a) → (H a ≠ none → K.lookup a = none) →
      codeAny (model P w) callerA (.call (.ref fa) ⟨[.ref a], []⟩) (fun r s' => r = .ok (.ret (.bool true)) ∧ OldK s₁.heap s'.heap ∧ s'.os = s₁.os ∧ AllBare s'.gens) s₁ by
    cases hk : K.lookup a with
    | some o =>
      have e := KX a o hk
      rw [ha] at e
      cases e
      refine core (fun _ => none) (fun _ => .inl rfl) (.inr fun _ => .inr ⟨_, vs.toArray, _, hk, rfl, rfl, rfl, by rw [List.size_toArray, lenV]; exact hl, by simpa using rv⟩) (fun b u z => by cases (show (none : Option HO) = some u from z)) (fun b z => absurd rfl z) fun z => absurd rfl z
    | none =>
      refine core (fun b => if b = a then some (.frz { cls := .type "list", data := .seq vs.toArray } (.lst (ns.map V.int))) else none) (fun b => ?_) (.inl ⟨{ cls := .type "list", data := .seq vs.toArray }, if_pos rfl⟩) (fun b u z => ?_) (fun b z => ?_) fun _ => hk
      · by_cases hb : b = a
        · exact .inr ⟨_, _, if_pos hb⟩
        · exact .inl (if_neg hb)
      · by_cases hb : b = a
        · cases (if_pos hb).symm.trans z
          subst hb
          exact ⟨ha, by rw [List.length_map]; exact hl, vs, _, rv, ha⟩
        · cases (if_neg hb).symm.trans z
      · exact Classical.byContradiction fun hb => z (if_neg hb)
  intro H hO hS hok hA hK
  have base_of : ∀ {b : Addr} {o : Obj}, s₁.heap.get? b = some o → H b = none → (hidT s₁.heap H).get? b = some o := fun e n => hidT_get e n
  have noA : ∀ {b : Addr} {o : Obj} {es : Array DictEntry} {ep : Nat}, s₁.heap.get? b = some o → o.data = .dict es ep → H b = none := fun {b o es ep} e d => Classical.byContradiction fun q => by
    have e' := hA b q
    subst e'
    rw [ha] at e
    cases e
    cases (show Data.seq vs.toArray _ = Data.dict es ep from d)
  have nsK : ∀ {b : Addr} {m : Str → Option Value}, s₁.heap.Ns b m → (hidT s₁.heap H).Ns b m := fun {b m} ⟨o, es, ep, e, d, r⟩ => ⟨o, es, ep, base_of e (noA e d), d, r⟩
  have hKb : K.In (hidT s₁.heap H) := fun b o e => base_of (KX b o e) (Classical.byContradiction fun q => by
    have e' := hA b q
    subst e'
    rw [hK q] at e
    cases e)
  have hM : Mod K mg (hidT s₁.heap H) := ⟨hKb, nsK hns, ⟨mb, nsK hb, hbb⟩, let ⟨mc, h1, h2⟩ := hlim; ⟨mc, nsK h1, h2⟩⟩
  have e0 : Env0 P w K mg (hidT s₁.heap H) callerA [] s₁ H := ⟨rfl, hM, fun b o e => of_hidT e, Nat.le_of_eq (hidT_size _ _), trivial, fun b hb => absurd (show b ∈ ([] : List Addr) from hb) (by simp), hok, .of_eq hg⟩
  refine codeAny_mono ((F _ hKb (nsK hns)).run callerA [] s₁ H ⟨[.ref a], []⟩ [.ref a] [.ref a] _ _ hr rfl e0 (hbind s₁ (.ref a)) (.cons rfl .nil) (hsp H hO hS)) fun r s' h => ?_
  match r, h with
  | .error e, h => exact (hCX H e s' h).elim
  | .ok .next, h => exact h.elim
  | .ok .brk, h => exact h.elim
  | .ok .cont, h => exact h.elim
  | .ok (.ret u), ⟨v, H', os, bare, un, hok', r', q⟩ =>
    have q' : v = .bl true := q
    subst q'
    obtain rfl : u = Value.bool true := r'
    refine ⟨rfl, OldK.of_keep fun b o e => ?_, os, bare⟩
    cases q : H b with
    | none => exact un.keep b o e q (by intro z; exact absurd (show b ∈ ([] : List Addr) from z) (by simp)) (by simp)
    | some u =>
      rcases hO b with z | ⟨ob, xs, z⟩
      · rw [q] at z; cases z
      · obtain ⟨e1, _⟩ := hok b _ z
        obtain ⟨e2, _⟩ := hok' b _ (un.frzs b ob _ z)
        rw [e] at e1
        cases e1
        exact e2
/-- what k_head leaves, from the law's promise -/
theorem walkG {l : PySem.W.OpenLaw} {n k : Nat} {q : Program} {loose : List Str} {XP : (Str → Option Value) → Heap → Prop} {YP : World → Heap → Prop} {d : DefRec} {K : Params → PySem.W.Frag} {CX : World → CXT} {x : Str}
    (hn : l.most = some n) (hn2 : n ≤ sizeLine) (hdf : d.params.defaults = []) (hr : Room k callerA)
    (hY : ∀ (w : World) (h : Heap), YP w h → (K w.params).In h)
    (hCX : ∀ (w : World) (H : Hp) (s : Shared) (e : Value) (s' : Shared), CX w [] H s (fun _ _ _ => False) e s' → False)
    (F : ∀ (w : World) (mg : Str → Option Value) (fa : Addr) (h : Heap), (K w.params).In h → h.Ns mainGlobals mg → mg d.name = some (.ref fa) →
      ∃ (fd : FuncData) (sp : Sp), (∀ (s : Shared) (u : Value), BindsTo s fd ⟨[u], []⟩ [(x, u)]) ∧
        (∀ base : Heap, (K w.params).In base → base.Ns mainGlobals mg → FnG l.prog w (K w.params) mg base (CX w) k fa fd [x] sp) ∧
        ∀ (H : Hp) (a : Addr) (ns : List Int), ns.length ≤ n → Only H → ScL (K w.params) H a (ns.map V.int) → sp [.ref a] H (fun v _ => v = .bl true) fun _ _ _ => False) :
    PySem.W.WalkO q loose XP YP l.row.toRowW d [] (fun f vs => PySem.call f vs) := by
  refine Att.attach_call hn hdf fun w s₀ s₁ mg mb fa o pm cd doc a vs ns G Y ho hd hcd hmg hobj hints hlen hg => ?_
  have KX := hY w _ Y
  obtain ⟨fd, sp, hb, hF, hsp⟩ := F w mg fa _ KX G.T.g hmg
  exact law_callG KX G.T.g G.T.b G.T.builtins G.T.nolimit hg hobj hints (Nat.le_trans hlen hn2) hr hF hb (fun H hO hS => hsp H a ns hlen hO hS) fun H e s' => hCX w H s₁ e s'
end LD
/-! LD13: things laid ahead of their content; names; the checks of the text. -/
namespace LD
open PySem L2

section
variable {C : Cn} {E : XK} {H H' H2 : Hp} {ι ι2 : Nat → Addr} {S S2 : Sto} {p : Addr} {u u0 u1 : HO} {o : O}
/-- the cells of a later state are not p, that was free -/
theorem Nx.notp (s : Sim C H ι S) (hp : H p = none) (x : Nx C (upd H p u0) ι S H2 ι2 S2) : ∀ n, n < S2.length → ι2 n ≠ p := by
  intro n hn e
  by_cases h : n < S.length
  · rw [x.ext n h] at e
    exact s.ne hp h e
  · have := x.new n (Nat.le_of_not_lt h) hn
    rw [e, upd_same] at this
    cases this
theorem Nx.atp (s : Sim C H ι S) (hp : H p = none) (x : Nx C (upd H p u0) ι S H2 ι2 S2) : H2 p = some u0 := x.fr p u0 upd_same fun n hn e => s.ne hp hn e
/-- p, laid ahead, gets its content: it is no cell -/
theorem Nx.later (s : Sim C H ι S) (hp : H p = none) (hu : ¬ Stab u0) (x : Nx C (upd H p u0) ι S H2 ι2 S2) : Nx C H ι S (upd H2 p u) ι2 S2 := by
  have np := x.notp s hp
  have at2 := x.atp s hp
  have k1 : Keeps H (upd H p u0) := fun a o h _ => by rw [upd_ne (ne_of_none h hp)]; exact h
  have k2 : Keeps H2 (upd H2 p u) := fun a o h st => by
    by_cases e : a = p
    · subst e; rw [at2] at h; cases h; exact absurd st hu
    · rw [upd_ne e]; exact h
  refine ⟨x.len, x.ext, fun n h1 h2 => ?_, (k1.trans x.sta).trans k2, fun a o h hn => ?_, ⟨fun n o h => ?_, x.sim.inj⟩⟩
  · have := x.new n h1 h2
    by_cases e : ι2 n = p
    · exact absurd e (np n h2)
    · rw [upd_ne e] at this; exact this
  · have e : a ≠ p := ne_of_none h hp
    rw [upd_ne e]
    exact x.fr a o (by rw [upd_ne e]; exact h) hn
  · have hn : n < S2.length := (List.getElem?_eq_some_iff.mp h).1
    exact (x.sim.at' n o h).mono k2 (Nat.le_refl _) (fun _ _ => rfl) fun u' h' => by rw [upd_ne (np n hn)]; exact h'
/-- .. it is a cell -/
theorem Nx.laterC (s : Sim C H ι S) (hp : H p = none) (hu : ¬ Stab u0) (x : Nx C (upd H p u0) ι S H2 ι2 S2)
    (ho : ∀ ι', (∀ n, n < S2.length → ι' n = ι2 n) → ORp C (upd H2 p u) ι' (S2.length + 1) o p) : Nx C H ι S (upd H2 p u) (push ι2 S2.length p) (S2 ++ [o]) := by
  have np := x.notp s hp
  have y : Nx C H ι S (upd H2 p u) ι2 S2 := Nx.later s hp hu x
  have ex : ∀ n, n < S2.length → push ι2 S2.length p n = ι2 n := fun n h => push_lt h
  have hl : (S2 ++ [o]).length = S2.length + 1 := by simp
  refine ⟨by have := y.len; omega, fun n h => by rw [ex n (Nat.lt_of_lt_of_le h y.len), y.ext n h], fun n h1 h2 => ?_, y.sta, y.fr, ⟨fun n o' h => ?_, fun m n hm hn e => ?_⟩⟩
  · by_cases h : n < S2.length
    · rw [ex n h]; exact y.new n h1 h
    · have : n = S2.length := by omega
      subst this
      rw [push_at]; exact hp
  · rw [hl]
    by_cases hn : n < S2.length
    · rw [List.getElem?_append_left hn] at h
      rw [ex n hn]
      exact (y.sim.at' n o' h).mono Keeps.refl (Nat.le_succ _) ex fun _ h => h
    · have h2 : n < (S2 ++ [o]).length := (List.getElem?_eq_some_iff.mp h).1
      have : n = S2.length := by omega
      subst this
      have e : o = o' := by simpa using h
      subst e
      rw [push_at]
      exact ho _ ex
  · by_cases h1 : m < S2.length
    · by_cases h2 : n < S2.length
      · rw [ex m h1, ex n h2] at e; exact y.sim.inj m n h1 h2 e
      · have : n = S2.length := by omega
        subst this
        rw [ex m h1, push_at] at e
        exact absurd e (np m h1)
    · have : m = S2.length := by omega
      subst this
      by_cases h2 : n < S2.length
      · rw [ex n h2, push_at] at e
        exact absurd e.symm (np n h2)
      · omega
/-- a list laid ahead of its items -/
theorem later_mkL {fz : Bool} {ws : List W} {xs : List V} {Q : VK} (s : Sim C H ι S) (hp : H p = none) (x : Nx C (upd H p (.lst [])) ι S H2 ι2 S2) (r : WRs C (upd H2 p (.lst xs)) ι2 S2.length ws xs) (a : Aft C E (WRp C) (mkL fz ws S2) H2 ι2 S2 Q)
    (a' : Aft C E (WRp C) (mkL fz ws S2) H ι S Q) : Fz Q (.ref p) (upd H2 p (.lst xs)) := by
  have ns : ¬ Stab (.lst []) := fun z => z
  unfold mkL at a'
  cases fz with
  | true =>
    rw [if_pos rfl] at a'
    refine .inl ⟨p, _, rfl, upd_same, trivial, fun o => ?_⟩
    rw [upd_upd]
    cases hd : datas ws with
    | some ds =>
      rw [hd] at a'
      have nx : Nx C H ι S (upd H2 p (.frz o (.lst xs))) ι2 S2 := Nx.later s hp ns x
      refine a' _ _ _ nx ?_
      show RpD C _ (.lst ds) _
      simp only [RpD]
      refine ⟨p, xs, rfl, ⟨o, upd_same⟩, ?_⟩
      have k : Keeps (upd H2 p (.lst xs)) (upd H2 p (.frz o (.lst xs))) := fun a q h st => by
        by_cases e : a = p
        · subst e; rw [upd_same] at h; cases h; exact st.elim
        · rw [upd_ne e] at h ⊢; exact h
      exact (datas_rel hd r).mono k
    | none => rw [hd] at a'; exact a'.elim
  | false =>
    rw [if_neg Bool.false_ne_true] at a'
    refine .inr ?_
    have nx : Nx C H ι S (upd H2 p (.lst xs)) (push ι2 S2.length p) (S2 ++ [.lst ws]) := Nx.laterC s hp ns x fun ι' he => ⟨xs, upd_same, WRs.mono Keeps.refl (Nat.le_succ _) he r⟩
    exact a' _ _ _ nx ⟨by simp, by rw [push_at]⟩
end

/-! ### the names' values -/
section
variable {C : Cn} {H : Hp} {ι : Nat → Addr} {L : Nat} {ρ : Rho} {σ : L2.St}
theorem SimE.set {i : Nat} {w : W} {v : V} (h : SimE C H ι L ρ σ) (r : WRp C H ι L w v) : SimE C H ι L (ρ.set i (some w)) (σ.set i (some v)) := by
  refine ⟨by simp [h.len], fun j w' e => ?_⟩
  by_cases hj : i = j
  · subst hj
    have hl : i < ρ.length := by
      have := (List.getElem?_eq_some_iff.mp e).1
      simpa using this
    rw [List.getElem?_set_self hl] at e
    cases e
    exact ⟨v, by rw [List.getElem?_set_self (by rw [← h.len]; exact hl)], r⟩
  · rw [List.getElem?_set_ne hj] at e
    obtain ⟨v', e', r'⟩ := h.get j w' e
    exact ⟨v', by rw [List.getElem?_set_ne hj]; exact e', r'⟩
theorem SimE.wipe1 {i : Nat} (h : SimE C H ι L ρ σ) : SimE C H ι L (ρ.set i none) (σ.set i none) := by
  refine ⟨by simp [h.len], fun j w' e => ?_⟩
  by_cases hj : i = j
  · subst hj
    have hl : i < ρ.length := by
      have := (List.getElem?_eq_some_iff.mp e).1
      simpa using this
    rw [List.getElem?_set_self hl] at e
    cases e
  · rw [List.getElem?_set_ne hj] at e
    obtain ⟨v', e', r'⟩ := h.get j w' e
    exact ⟨v', by rw [List.getElem?_set_ne hj]; exact e', r'⟩
theorem SimE.wipe (h : SimE C H ι L ρ σ) : ∀ vs : List Nat, SimE C H ι L (wipeE ρ vs) (L2.wipe σ vs)
  | [] => h
  | v :: vs => by
    unfold wipeE L2.wipe
    exact (h.wipe vs).wipe1
/-- the slots that are wiped may be set -/
theorem wipe_set {i : Nat} {x : Option V} : ∀ {vs : List Nat} {σ : L2.St}, i ∈ vs → L2.wipe (σ.set i x) vs = L2.wipe σ vs
  | v :: vs, σ, h => by
    unfold L2.wipe
    by_cases hv : i ∈ vs
    · rw [wipe_set hv]
    · have e : v = i := by
        rcases List.mem_cons.mp h with e | e
        · exact e.symm
        · exact absurd e hv
      subst e
      clear h
      have key : ∀ (ws : List Nat), v ∉ ws → L2.wipe (σ.set v x) ws = (L2.wipe σ ws).set v x := by
        intro ws
        induction ws with
        | nil => intro _; rfl
        | cons w ws ih =>
          intro hw
          unfold L2.wipe
          rw [ih fun z => hw (List.mem_cons_of_mem _ z)]
          rw [List.set_comm]
          exact fun z => hw (by rw [z]; simp)
      rw [key vs hv, List.set_set]
theorem wipe_wipe : ∀ (vs : List Nat) (σ : L2.St), L2.wipe (L2.wipe σ vs) vs = L2.wipe σ vs := by
  have key : ∀ (vs ws : List Nat) (σ : L2.St), (∀ v ∈ vs, v ∈ ws) → L2.wipe (L2.wipe σ vs) ws = L2.wipe σ ws := by
    intro vs
    induction vs with
    | nil => intro ws σ _; rfl
    | cons v vs ih =>
      intro ws σ h
      show L2.wipe ((L2.wipe σ vs).set v none) ws = _
      rw [wipe_set (h v (by simp))]
      exact ih ws σ fun z hz => h z (by simp [hz])
  exact fun vs σ => key vs vs σ fun _ h => h
end

/-! ### the text's form -/
def noStar : Expr → Bool
  | .Starred _ _ => false
  | _ => true
def notSet : Expr → Bool
  | .Set _ _ _ => false
  | _ => true
def plainB : Expr → Bool
  | .Slice _ _ _ _ => false
  | _ => true
def baseB : Expr → Bool
  | .Call (.Name _ _) [] [] _ => false
  | _ => true
def notComp : Expr → Bool
  | .ListComp _ _ _ _ => false
  | .SetComp _ _ _ _ => false
  | .DictComp _ _ _ _ _ => false
  | _ => true
theorem star_cons {e : Expr} (h : noStar e = true) (es : List Expr) (env : PySem.Env) : starEach (e :: es) env = (false, eval e env) :: starEach es env := by
  cases e <;> first | rfl | simp [noStar] at h
theorem star_none : ∀ (es : List Expr) (env : PySem.Env), es.all noStar = true → ∀ pos, (backTo pos (starEach es env)).any (·.1) = false
  | [], _, _, _ => rfl
  | e :: es, env, h, pos => by
    simp only [List.all_cons, Bool.and_eq_true] at h
    rw [star_cons h.1]
    show (false || (backTo pos (starEach es env)).any (·.1)) = false
    rw [star_none es env h.2 pos]
    rfl
theorem star_all : ∀ (es : List Expr) (env : PySem.Env), es.all noStar = true → ∀ pos, (backTo pos (starEach es env)).all (fun x => !x.1) = true
  | [], _, _, _ => rfl
  | e :: es, env, h, pos => by
    simp only [List.all_cons, Bool.and_eq_true] at h
    rw [star_cons h.1]
    show (true && (backTo pos (starEach es env)).all (fun x => !x.1)) = true
    rw [star_all es env h.2 pos]
    rfl
theorem base_of {o : Expr} (h : baseB o = true) (name : Str) (env : PySem.Env) (whole : Sem Value) : attributeBase o name env whole = whole := by
  cases o <;> first | rfl | skip
  rename_i f args kws pos
  cases f <;> first | rfl | skip
  cases args <;> first | rfl | skip
  cases kws <;> first | rfl | skip
  simp [baseB] at h
theorem behind_of {op : CmpOp} {b : Expr} (h : notSet b = true) : behindInMarks op b = false := by
  cases b <;> first | rfl | simp [notSet] at h
theorem last_of {op op' : CmpOp} {b c : Expr} (h : notSet c = true) : lastMarks [op, op'] [b, c] = false := by
  show behindInMarks op' c = false
  exact behind_of h
theorem folded_of {e : Expr} (h : notSet e = true) (env : PySem.Env) : ∀ x, foldedSetIterable e env x = pure x := by
  intro x
  cases e <;> first | rfl | simp [notSet] at h
theorem plain_of {b : Expr} (h : plainB b = true) : PlainIx b := by
  intro o i
  cases b <;> first | rfl | simp [plainB] at h
theorem swaps_of {e : Expr} (h : notComp e = true) (t : Option Expr) (line : Nat) (env : PySem.Env) : swapsWith e t line env = pure false := by
  cases e <;> first | rfl | simp [notComp] at h
/-- the names of a def's text: all its names, the defs that it calls, the constants that it names -/
structure Gm where
  N : List Str
  fnm : Nat → Option Str
  ar : Nat → Nat
  glb : Nat → Option Str
def nameOk (x : Str) : Bool := !decide (x = ("__debug__" : Str)) && !decide (x = ("__classdict__" : Str)) && !decide (x = ("__name__" : Str))
def visB (sc : Scope) (x : Str) : Bool := match sc.names.lookup x with
  | some .local => true
  | some .cell => true
  | some .free => true
  | _ => false
def glB (sc : Scope) (x : Str) : Bool := match sc.names.lookup x with
  | some .globalImplicit => true
  | _ => false
def locB (sc : Scope) (x : Str) : Bool := match sc.names.lookup x with
  | some .local => true
  | some .cell => true
  | _ => false
def locOnly (sc : Scope) (x : Str) : Bool := match sc.names.lookup x with
  | some .local => true
  | _ => false
def bfNm : BF → Str
  | .len => "len" | .all => "all" | .any => "any" | .abs => "abs" | .max1 => "max" | .max2 => "max" | .min1 => "min" | .min2 => "min" | .sum => "sum" | .sorted => "sorted" | .repr => "repr"
  | .tuple => "tuple" | .list => "list" | .dict => "dict" | .str => "str" | .int => "int"
  | .isInt => "isinstance" | .isBool => "isinstance" | .isStr => "isinstance" | .isTup => "isinstance" | .isLst => "isinstance"
  | .min1d => "min" | .tupZip => "tuple" | _ => "none"
/-- those that take their arguments plainly: how many -/
def bfAr : BF → Option Nat
  | .len | .all | .any | .abs | .max1 | .min1 | .sum | .sorted | .repr | .tuple | .list | .dict | .str | .int => some 1
  | .max2 | .min2 => some 2
  | _ => none
def mfNm : MF → Str
  | .append => "append" | .extend => "extend" | .insert => "insert" | .pop0 => "pop" | .pop1 => "pop" | .remove => "remove" | .count => "count" | .index => "index"
  | .join => "join" | .split => "split" | .partition => "partition" | .get1 => "get" | .get2 => "get" | .values => "values" | .update => "update"
def mfAr : MF → Option Nat
  | .append | .extend | .pop1 | .join | .split | .partition | .get1 => some 1
  | .insert | .get2 => some 2
  | .pop0 => some 0
  | _ => none
def kTy : BF → Option Str
  | .isInt => some "int" | .isBool => some "bool" | .isStr => some "str" | .isTup => some "tuple" | .isLst => some "list" | _ => none
mutual
def chkP (N : List Str) (sc : Scope) : P → Expr → Bool
  | .name i, .Name x _ => decide (N[i]? = some x) && locB sc x && nameOk x
  | .tup ps, .Tuple es _ _ => chkPs N sc ps es
  | _, _ => false
def chkPs (N : List Str) (sc : Scope) : List P → List Expr → Bool
  | [], [] => true
  | p :: ps, e :: es => noStar e && chkP N sc p e && chkPs N sc ps es
  | _, _ => false
end
/-- the pattern's places with their names -/
def ownOf (N : List Str) (p : P) : List (Str × Nat) := (patIx p).map fun i => (N.getD i Str.empty, i)
def isTupB : Expr → Bool
  | .Tuple _ _ _ => true
  | _ => false
/-- a plain constant -/
def constB : E → Bool
  | .int _ => true
  | .str _ => true
  | _ => false
def zipOf : List Expr → Option (Str × List Expr)
  | [.Call (.Name z _) zs [] _] => some (z, zs)
  | _ => none
theorem zipOf_eq {as : List Expr} {z : Str} {zs : List Expr} (h : zipOf as = some (z, zs)) : ∃ p p2, as = [.Call (.Name z p) zs [] p2] := by
  unfold zipOf at h
  split at h
  · cases h; exact ⟨_, _, rfl⟩
  · cases h
mutual
def chkE (Γ : Gm) : E → Scope → Expr → Bool
  | .var i, sc, .Name x _ => decide (Γ.N[i]? = some x) && visB sc x && nameOk x
  | .int i, _, .Constant (.int j) _ _ => decide (i = j)
  | .bl b, _, .Constant (.bool c) _ _ => b == c
  | .non, _, .Constant .none _ _ => true
  | .str s, _, .Constant (.str x) _ _ => decide (sT s = x) && decide (s.length ≤ LIM)
  | .glob k, sc, .Name x _ => decide (Γ.glb k = some x) && glB sc x && nameOk x
  | .bin op _ a b, sc, .BinOp x o y _ => decide (o = bopPy op) && chkE Γ a sc x && chkE Γ b sc y
  | .neg a, sc, .UnaryOp .USub x _ => chkE Γ a sc x
  | .cmp op a b, sc, .Compare x [o] [y] _ => decide (o = copPy op) && chkE Γ a sc x && chkE Γ b sc y && notSet y
  | .chain op op' a b c, sc, .Compare x [o, o'] [y, z] _ => decide (o = copPy op) && decide (o' = copPy op') && chkE Γ a sc x && chkE Γ b sc y && chkE Γ c sc z && notSet z
  | .and l, sc, .BoolOp .And vs _ => chkEs Γ l sc vs
  | .or l, sc, .BoolOp .Or vs _ => chkEs Γ l sc vs
  | .not a, sc, .UnaryOp .Not x _ => chkE Γ a sc x
  | .ite t a b, sc, .IfExp t' a' b' _ => chkE Γ t sc t' && chkE Γ a sc a' && chkE Γ b sc b'
  | .tup l, sc, .Tuple es _ _ => chkEs Γ l sc es && decide (l.length ≤ 1000)
  | .lst _ l, sc, .List es _ => chkEs Γ l sc es && decide (l.length ≤ 1000)
  | .dict _ ks vs, sc, .Dict keys values _ => ks.all constB && chkKs Γ ks sc keys && chkEs Γ vs sc values && decide (ks.length = vs.length) && decide (ks.length ≤ 15)
  | .ix a i, sc, .Subscript x y _ => chkE Γ a sc x && chkE Γ i sc y && plainB y
  | .slFrom _ a lo, sc, .Subscript x (.Slice (some l) none none _) _ => chkE Γ a sc x && chkE Γ lo sc l
  | .slTo _ a hi, sc, .Subscript x (.Slice none (some h) none _) _ => chkE Γ a sc x && chkE Γ hi sc h
  | .slMid _ a lo hi, sc, .Subscript x (.Slice (some l) (some h) none _) _ => chkE Γ a sc x && chkE Γ lo sc l && chkE Γ hi sc h
  | .bc f _ l, sc, .Call (.Name nm _) args kws _ => decide (nm = bfNm f) && glB sc nm && (match bfAr f, kTy f, args, kws with
    | some n, _, _, [] => chkEs Γ l sc args && decide (l.length = n)
    | none, some t, [a, .Name t' _], [] => chkEs Γ l sc [a] && decide (t' = t) && glB sc t'
    | none, none, [a], [⟨some k, b, _⟩] => (match f with | .min1d => true | _ => false) && decide (k = ("default" : Str)) && chkEs Γ l sc [a, b]
    | none, none, as, [] => (match f with | .tupZip => true | _ => false) && (match zipOf as with
      | some (z, zs) => decide (z = ("zip" : Str)) && glB sc z && chkEs Γ l sc zs && decide (l.length = 2)
      | none => false)
    | _, _, _, _ => false)
  | .mt m _ o l, sc, .Call (.Attribute x nm ap) args [] cp => decide (nm = mfNm m) && chkE Γ o sc x && chkEs Γ l sc args && baseB x && (ap.endLine == cp.line) && decide (mfAr m = some l.length)
  | .call _ i l, sc, .Call (.Name nm _) args [] _ => decide (Γ.fnm i = some nm) && glB sc nm && nameOk nm && chkEs Γ l sc args && decide (l.length = Γ.ar i)
  | .comp _ p k its cs e, sc, .ListComp elt [⟨tg, iter, ifs, 0⟩] scope _ => blkC Γ.N sc scope (ownOf Γ.N p) && chkP Γ.N scope p tg && notSet iter && (match k, iter with
      | .seq, it => chkEs Γ its sc [it]
      | .range1, .Call (.Name nm _) args [] _ => decide (nm = ("range" : Str)) && glB sc nm && decide (its.length = 1) && chkEs Γ its sc args
      | .range2, .Call (.Name nm _) args [] _ => decide (nm = ("range" : Str)) && glB sc nm && decide (its.length = 2) && chkEs Γ its sc args
      | .range3, .Call (.Name nm _) args [] _ => decide (nm = ("range" : Str)) && glB sc nm && decide (its.length = 3) && chkEs Γ its sc args
      | .enum, .Call (.Name nm _) args [] _ => decide (nm = ("enumerate" : Str)) && glB sc nm && decide (its.length = 1) && chkEs Γ its sc args && isTupB tg
      | _, _ => false) && chkEs Γ cs (relS scope sc) ifs && decide (cs.length ≤ 1) && chkE Γ e (relS scope sc) elt
  | .frz a, sc, e => chkE Γ a sc e
  | _, _, _ => false
def chkEs (Γ : Gm) : List E → Scope → List Expr → Bool
  | [], _, [] => true
  | a :: l, sc, e :: es => noStar e && chkE Γ a sc e && chkEs Γ l sc es
  | _, _, _ => false
def chkKs (Γ : Gm) : List E → Scope → List (Option Expr) → Bool
  | [], _, [] => true
  | a :: l, sc, some e :: es => chkE Γ a sc e && chkKs Γ l sc es
  | _, _, _ => false
end
end LD
/-! LD14: expressions keep what the interpreter says. -/
namespace LD
open PySem L2

/-- a def's promise, by the interpreter -/
def spOf (C : Cn) (f : FnS) (n : Nat) : Sp := fun vs H Q Z => ∃ ι S ws, Sim C H ι S ∧ WRs C H ι S.length ws vs ∧ vs.length = n ∧ Aft C Z (WRp C) (f ws S) H ι S Q
def bltNames : List Str := ["len", "all", "any", "abs", "max", "min", "sum", "sorted", "repr", "tuple", "list", "dict", "str", "int", "bool", "isinstance", "range", "zip", "enumerate", "set"]
/-- what holds of a body's context -/
structure GX (Γ : Gm) (t : Tab) (C : Cn) (CX : CXT) (k : Nat) (Z : XK) (sc : Scope) (X : Cx) : Prop where
  hC : C.K = X.K
  calm : X.calm = true
  gd : X.A.guards = some []
  room : Room k X.A
  N : X.N = Γ.N
  nd : Γ.N.Nodup
  scq : X.env.scope = sc
  blt : ∀ nm, nm ∈ bltNames → X.mg nm = none
  glb : ∀ k y x, Γ.glb k = some y → t.glb k = some x → ∃ u v, X.mg y = some u ∧ RelV v u ∧ ∀ H, RpD C H x v
  fns : ∀ i nm, Γ.fnm i = some nm → ∃ f fd ps, X.mg nm = some (.ref f) ∧ PySem.W.keepIn X.K (.ref f) = true ∧ Binds X.K fd ps [] ∧ FnG X.prog X.w X.K X.mg X.base CX k f fd ps (spOf C (t.fns i) (Γ.ar i))
  pass : Passes CX X Z
  cx0 : ∀ l H s e s', CX l H s (fun _ _ _ => False) e s' → False
section
variable {Γ : Gm} {t : Tab} {C : Cn} {CX : CXT} {k : Nat} {Z : XK} {sc : Scope} {X : Cx}
theorem GX.un (g : GX Γ t C CX k Z sc X) : X.A.units + 65 < cLine := by have := g.room.un; omega
theorem GX.gl (g : GX Γ t C CX k Z sc X) {x : Str} (h : glB sc x = true) : Gl X x := by
  unfold glB at h
  unfold Gl PySem.Env.kindOf
  rw [g.scq]
  split at h <;> simp_all
theorem GX.vis (g : GX Γ t C CX k Z sc X) {x : Str} (h : visB sc x = true) : Vis X.env.scope x := by
  unfold visB at h
  unfold Vis
  rw [g.scq]
  split at h <;> simp_all
theorem nm_debug {x : Str} (h : nameOk x = true) : (x == ("__debug__" : Str)) = false := by
  simp only [nameOk, Bool.and_eq_true, Bool.not_eq_true', decide_eq_false_iff_not] at h
  simpa using h.1.1
theorem nm_class {x : Str} (h : nameOk x = true) : (x == ("__classdict__" : Str)) = false := by
  simp only [nameOk, Bool.and_eq_true, Bool.not_eq_true', decide_eq_false_iff_not] at h
  simpa using h.1.2
theorem nm_name {x : Str} (h : nameOk x = true) : x ≠ "__name__" := by
  simp only [nameOk, Bool.and_eq_true, Bool.not_eq_true', decide_eq_false_iff_not] at h
  exact h.2
/-- an expression's promise -/
def SE (t : Tab) (C : Cn) (Z : XK) (X : Cx) (e : E) (x : Expr) : Prop := PE X x (tM C Z (ev t e))
def SEs (t : Tab) (C : Cn) (Z : XK) (X : Cx) (l : List E) (es : List Expr) : Prop := PA X es (tMs C Z (evs t l))
/-- from an expression that may freeze its value -/
theorem peOfF {e : Expr} {f : Rho → Sto → R W} {u : TE} (h : PE X e u) (i : ∀ σ H Q, tM C Z f σ H Q → u σ H (Fz Q)) : PE X e (tM C Z f) := peImp (peFz h) i
theorem tM_imp {f : Rho → Sto → R W} {σ : L2.St} {H : Hp} {Q Q' : VK} (h : tM C Z f σ H Q) (i : ∀ v H', Q v H' → Q' v H') : tM C Z f σ H Q' := by
  obtain ⟨ρ, ι, S, s, se, a⟩ := h
  exact ⟨ρ, ι, S, s, se, a.imp i⟩
theorem tMs_imp {f : Rho → Sto → R (List W)} {σ : L2.St} {H : Hp} {Q Q' : List V → Hp → Prop} (h : tMs C Z f σ H Q) (i : ∀ v H', Q v H' → Q' v H') : tMs C Z f σ H Q' := by
  obtain ⟨ρ, ι, S, s, se, a⟩ := h
  exact ⟨ρ, ι, S, s, se, a.imp i⟩
theorem tM_opF {fa fb f : Rho → Sto → R W} {g : W → W → Sto → R W} {σ : L2.St} {H : Hp} {Q : VK} (e : ∀ ρ S, f ρ S = (fa ρ S).bind fun x S => (fb ρ S).bind fun y S => g x y S) (h : tM C Z f σ H Q) : tOp (rF C Z g) (tM C Z fa) (tM C Z fb) σ H (Fz Q) :=
  tM_imp (tM_op e h) fun _ _ q => tM_imp q fun _ _ q2 => ⟨Q, rfl, q2⟩
theorem tM_argsF {fs : Rho → Sto → R (List W)} {f : Rho → Sto → R W} {g : List W → Sto → R W} {σ : L2.St} {H : Hp} {Q : VK} (e : ∀ ρ S, f ρ S = (fs ρ S).bind g) (h : tM C Z f σ H Q) : tMs C Z fs σ H fun xs H1 => rMsF C Z g xs H1 (Fz Q) :=
  tMs_imp (tM_args e h) fun _ _ q => ⟨Q, rfl, q⟩
theorem snd_var {i : Nat} {x : Str} {p : Pos} (g : GX Γ t C CX k Z sc X) (h : (decide (Γ.N[i]? = some x) && visB sc x && nameOk x) = true) : SE t C Z X (.var i) (.Name x p) := by
  simp only [Bool.and_eq_true, decide_eq_true_eq] at h
  refine peImp (pe_var (i := i) (by rw [g.N]; exact h.1.1) (g.vis h.1.2) (nm_debug h.2) (nm_class h.2)) fun σ H Q q => ?_
  obtain ⟨ρ, ι, S, s, se, a⟩ := q
  simp only [ev] at a
  split at a
  · rename_i w e
    obtain ⟨v, ev, r⟩ := se.get i w e
    exact ⟨v, ev, Aft.ok s r a⟩
  · exact a.elim
theorem snd_bin {op : BOp} {fz : Bool} {a b : E} {x y : Expr} {p : Pos} (g : GX Γ t C CX k Z sc X) (ha : SE t C Z X a x) (hb : SE t C Z X b y) : SE t C Z X (.bin op fz a b) (.BinOp x (bopPy op) y p) :=
  peOfF (pe_op (op_binM (fz := fz) g.hC) ha hb) fun σ H Q q => tM_opF (fun ρ S => by simp only [ev]) q
theorem snd_neg {a : E} {x : Expr} {p : Pos} (ha : SE t C Z X a x) : SE t C Z X (.neg a) (.UnaryOp .USub x p) := by
  refine peImp (pe_un un_neg ha) fun σ H Q q => ?_
  refine tM_imp (tM_un (k := fun x S => match x with | .d (.int i) => .ok (.d (.int (-i))) S | _ => .bad) (fun ρ S => by simp only [ev]; try rfl) q) ?_
  rintro v H' ⟨ι, S, w, sm, r, a⟩
  dsimp only at a
  split at a
  · rename_i i
    exact ⟨i, rp_int r, Aft.ok sm (mk_int _) a⟩
  · exact a.elim
theorem snd_cmp {op : COp} {a b : E} {x y : Expr} {p : Pos} (g : GX Γ t C CX k Z sc X) (ha : SE t C Z X a x) (hb : SE t C Z X b y) (hs : notSet y = true) : SE t C Z X (.cmp op a b) (.Compare x [copPy op] [y] p) :=
  peImp (pe_cmpR (op_cmpM g.hC g.un op) ha hb (behind_of hs)) fun σ H Q q => tM_op (fun ρ S => by simp only [ev]) q
theorem truth_rel {H : Hp} {ι : Nat → Addr} {S : Sto} {w : W} {v : V} {Q : Bool → Hp → Prop} {ρ : Rho} {σ : L2.St} {f : Bool → Sto → R W} {Q2 : VK} (s : Sim C H ι S) (r : WRp C H ι S.length w v) (a : Aft C Z (WRp C) ((truth w S).bind f) H ι S Q2) :
    ∃ b, v = .bl b ∧ Aft C Z (WRp C) (f b S) H ι S Q2 := by
  unfold truth at a
  split at a
  · rename_i b
    exact ⟨b, rp_bl r, a⟩
  · exact a.elim
theorem tM_chain {op op' : COp} {a b c : E} {σ : L2.St} {H : Hp} {Q : VK} (q : tM C Z (ev t (.chain op op' a b c)) σ H Q) : tChain (rM C Z (cmpop op)) (rM C Z (cmpop op')) (tM C Z (ev t a)) (tM C Z (ev t b)) (tM C Z (ev t c)) σ H Q := by
  refine tM_imp (tM_bind (k := fun x ρ S => (ev t b ρ S).bind fun y S => (cmpop op x y S).bind fun r S => (truth r S).bind fun k S => if k = true then (ev t c ρ S).bind fun z S => cmpop op' y z S else .ok (.d (.bl false)) S) (fun ρ S => by simp only [ev]) q) ?_
  rintro v1 H1 ⟨ρ, ι, S, w1, s1, se1, r1, a1⟩
  refine ⟨ρ, ι, S, s1, se1, (Aft.bind s1 a1).imp ?_⟩
  rintro v2 H2 ⟨w2, ι2, S2, nx2, r2, a2⟩
  refine ⟨ι2, S2, w1, w2, nx2.sim, nx2.val r1, r2, (Aft.bind nx2.sim a2).imp ?_⟩
  rintro v3 H3 ⟨w3, ι3, S3, nx3, r3, a3⟩
  obtain ⟨b, rfl, a3⟩ := truth_rel (Q := fun _ _ => True) (ρ := ρ) (σ := σ) nx3.sim r3 a3
  refine ⟨b, rfl, ?_⟩
  cases b with
  | true =>
    rw [if_pos rfl] at a3 ⊢
    refine ⟨ρ, ι3, S3, nx3.sim, nx3.env (nx2.env se1), (Aft.bind nx3.sim a3).imp ?_⟩
    rintro v4 H4 ⟨w4, ι4, S4, nx4, r4, a4⟩
    exact ⟨ι4, S4, w2, w4, nx4.sim, nx4.val (nx3.val r2), r4, a4⟩
  | false =>
    rw [if_neg Bool.false_ne_true] at a3 ⊢
    exact Aft.ok nx3.sim (mk_bl _) a3
theorem snd_chain {op op' : COp} {a b c : E} {x y z : Expr} {p : Pos} (g : GX Γ t C CX k Z sc X) (ha : SE t C Z X a x) (hb : SE t C Z X b y) (hc : SE t C Z X c z) (hs : notSet z = true) :
    SE t C Z X (.chain op op' a b c) (.Compare x [copPy op, copPy op'] [y, z] p) :=
  peImp (pe_chain (op_cmpM (E := Z) g.hC g.un op) (op_cmpM (E := Z) g.hC g.un op') ha hb hc (last_of hs)) fun σ H Q q => tM_chain q
theorem snd_not {a : E} {x : Expr} {p : Pos} (ha : SE t C Z X a x) : SE t C Z X (.not a) (.UnaryOp .Not x p) := by
  refine peImp (pe_not ha) fun σ H Q q => ?_
  refine tM_imp (tM_bind (k := fun x ρ S => (truth x S).bind fun k S => .ok (.d (.bl (!k))) S) (fun ρ S => by simp only [ev]) q) ?_
  rintro v1 H1 ⟨ρ, ι, S, w1, s1, se1, r1, a1⟩
  obtain ⟨b, rfl, a1⟩ := truth_rel (Q := fun _ _ => True) (ρ := ρ) (σ := σ) s1 r1 a1
  exact ⟨b, rfl, Aft.ok s1 (mk_bl _) a1⟩
theorem snd_and1 {a : E} {x : Expr} {p : Pos} (ha : SE t C Z X a x) : SE t C Z X (.and [a]) (.BoolOp .And [x] p) :=
  peImp (pe_one ha) fun σ H Q q => by
    obtain ⟨ρ, ι, S, s, se, a⟩ := q
    exact ⟨ρ, ι, S, s, se, by simpa only [ev, evAnd] using a⟩
theorem snd_or1 {a : E} {x : Expr} {p : Pos} (ha : SE t C Z X a x) : SE t C Z X (.or [a]) (.BoolOp .Or [x] p) :=
  peImp (pe_one ha) fun σ H Q q => by
    obtain ⟨ρ, ι, S, s, se, a⟩ := q
    exact ⟨ρ, ι, S, s, se, by simpa only [ev, evOr] using a⟩
theorem snd_and {a b : E} {l : List E} {x y : Expr} {ys : List Expr} {p : Pos} (ha : SE t C Z X a x) (hr : SE t C Z X (.and (b :: l)) (.BoolOp .And (y :: ys) p)) : SE t C Z X (.and (a :: b :: l)) (.BoolOp .And (x :: y :: ys) p) := by
  refine peImp (pe_and ha hr) fun σ H Q q => ?_
  refine tM_imp (tM_bind (k := fun x ρ S => (truth x S).bind fun k S => if k = true then evAnd t (b :: l) ρ S else .ok (.d (.bl false)) S) (fun ρ S => by simp only [ev, evAnd]) q) ?_
  rintro v1 H1 ⟨ρ, ι, S, w1, s1, se1, r1, a1⟩
  obtain ⟨c, rfl, a1⟩ := truth_rel (Q := fun _ _ => True) (ρ := ρ) (σ := σ) s1 r1 a1
  refine ⟨c, rfl, ?_⟩
  cases c with
  | true =>
    rw [if_pos rfl] at a1 ⊢
    exact ⟨ρ, ι, S, s1, se1, by simpa only [ev] using a1⟩
  | false =>
    rw [if_neg Bool.false_ne_true] at a1 ⊢
    exact Aft.ok s1 (mk_bl _) a1
theorem snd_or {a b : E} {l : List E} {x y : Expr} {ys : List Expr} {p : Pos} (ha : SE t C Z X a x) (hr : SE t C Z X (.or (b :: l)) (.BoolOp .Or (y :: ys) p)) : SE t C Z X (.or (a :: b :: l)) (.BoolOp .Or (x :: y :: ys) p) := by
  refine peImp (pe_or ha hr) fun σ H Q q => ?_
  refine tM_imp (tM_bind (k := fun x ρ S => (truth x S).bind fun k S => if k = true then .ok (.d (.bl true)) S else evOr t (b :: l) ρ S) (fun ρ S => by simp only [ev, evOr]) q) ?_
  rintro v1 H1 ⟨ρ, ι, S, w1, s1, se1, r1, a1⟩
  obtain ⟨c, rfl, a1⟩ := truth_rel (Q := fun _ _ => True) (ρ := ρ) (σ := σ) s1 r1 a1
  refine ⟨c, rfl, ?_⟩
  cases c with
  | false =>
    rw [if_neg Bool.false_ne_true] at a1 ⊢
    exact ⟨ρ, ι, S, s1, se1, by simpa only [ev] using a1⟩
  | true =>
    rw [if_pos rfl] at a1 ⊢
    exact Aft.ok s1 (mk_bl _) a1
/-- a test: its value is a bool -/
def tT (t : Tab) (C : Cn) (Z : XK) (e : E) : TT := tMt C Z (evT t e)
def ST (t : Tab) (C : Cn) (Z : XK) (X : Cx) (e : E) (x : Expr) : Prop := PT X x (tT t C Z e)
theorem tT_val {e : E} {σ : L2.St} {H : Hp} {Q : Bool → Hp → Prop} (h : tT t C Z e σ H Q) : tM C Z (ev t e) σ H fun v H' => ∃ b, v = .bl b ∧ Q b H' := by
  obtain ⟨ρ, ι, S, s, se, a⟩ := h
  refine ⟨ρ, ι, S, s, se, ?_⟩
  unfold evT at a
  refine (Aft.bind (rel := WRp C) s a).imp ?_
  rintro v H1 ⟨w, ι1, S1, nx, r, a1⟩
  unfold truth at a1
  split at a1
  · rename_i b
    exact ⟨b, rp_bl r, Aft.ok nx.sim rfl a1⟩
  · exact a1.elim
theorem snd_val {e : E} {x : Expr} (h : SE t C Z X e x) (he : ∀ whole, isTrue x X.env whole = (do let v ← whole; standAt x.pos; holding [v] (truthy v))) : ST t C Z X e x :=
  ptImp (pt_val h he) fun σ H Q q => tT_val q
theorem tT_bind {e c : E} {f : Bool → Rho → Sto → R Bool} (h : ∀ ρ S, evT t e ρ S = (evT t c ρ S).bind fun k S => f k ρ S) {σ : L2.St} {H : Hp} {Q : Bool → Hp → Prop} (q : tT t C Z e σ H Q) : tT t C Z c σ H fun k H1 => tMt C Z (f k) σ H1 Q := by
  obtain ⟨ρ, ι, S, s, se, a⟩ := q
  refine ⟨ρ, ι, S, s, se, ?_⟩
  rw [h] at a
  refine (Aft.bind (rel := BRp) s a).imp ?_
  rintro k H1 ⟨k', ι1, S1, nx, r, a1⟩
  cases (show k' = k from r)
  exact ⟨ρ, ι1, S1, nx.sim, nx.env se, a1⟩
theorem tM_ofT {e c : E} {f : Bool → Rho → Sto → R W} (h : ∀ ρ S, ev t e ρ S = (evT t c ρ S).bind fun k S => f k ρ S) {σ : L2.St} {H : Hp} {Q : VK} (q : tM C Z (ev t e) σ H Q) : tT t C Z c σ H fun k H1 => tM C Z (f k) σ H1 Q := by
  obtain ⟨ρ, ι, S, s, se, a⟩ := q
  refine ⟨ρ, ι, S, s, se, ?_⟩
  rw [h] at a
  refine (Aft.bind (rel := BRp) s a).imp ?_
  rintro k H1 ⟨k', ι1, S1, nx, r, a1⟩
  cases (show k' = k from r)
  exact ⟨ρ, ι1, S1, nx.sim, nx.env se, a1⟩
theorem evT_bindB (e : E) (ρ : Rho) (S : Sto) {α : Type} (f : Bool → Sto → R α) : ((ev t e ρ S).bind fun x S => (truth x S).bind f) = (evT t e ρ S).bind f := by
  unfold evT
  cases ev t e ρ S with
  | ok w S => rfl
  | exc _ _ _ => rfl
  | bad => rfl
theorem tT_ok {b : Bool} {σ : L2.St} {H : Hp} {Q : Bool → Hp → Prop} (h : tMt C Z (fun _ S => .ok b S) σ H Q) : Q b H := by
  obtain ⟨ρ, ι, S, s, se, a⟩ := h
  exact Aft.ok (rel := BRp) s rfl a
theorem tM_ok {w : W} {v : V} {σ : L2.St} {H : Hp} {Q : VK} (hr : ∀ ι L, WRp C H ι L w v) (h : tM C Z (fun _ S => .ok w S) σ H Q) : Q v H := by
  obtain ⟨ρ, ι, S, s, se, a⟩ := h
  exact Aft.ok s (hr _ _) a
theorem bind_truth (r : R W) (b : Bool) : True := trivial
theorem evT_not (a : E) (ρ : Rho) (S : Sto) : evT t (.not a) ρ S = (evT t a ρ S).bind fun k S => .ok (!k) S := by
  show ((ev t (.not a) ρ S).bind fun w S => truth w S) = _
  simp only [ev]
  rw [evT_bindB]
  cases evT t a ρ S <;> rfl
theorem evT_and (a b : E) (l : List E) (ρ : Rho) (S : Sto) : evT t (.and (a :: b :: l)) ρ S = (evT t a ρ S).bind fun k S => if k = true then evT t (.and (b :: l)) ρ S else .ok false S := by
  show ((ev t (.and (a :: b :: l)) ρ S).bind fun w S => truth w S) = _
  simp only [ev, evAnd]
  rw [evT_bindB]
  cases evT t a ρ S with
  | ok k S =>
    cases k with
    | true => simp only [R.bind, if_true]; rfl
    | false => rfl
  | exc _ _ _ => rfl
  | bad => rfl
theorem evT_or (a b : E) (l : List E) (ρ : Rho) (S : Sto) : evT t (.or (a :: b :: l)) ρ S = (evT t a ρ S).bind fun k S => if k = true then .ok true S else evT t (.or (b :: l)) ρ S := by
  show ((ev t (.or (a :: b :: l)) ρ S).bind fun w S => truth w S) = _
  simp only [ev, evOr]
  rw [evT_bindB]
  cases evT t a ρ S with
  | ok k S =>
    cases k with
    | true => rfl
    | false => simp only [R.bind]; rfl
  | exc _ _ _ => rfl
  | bad => rfl
theorem evT_ite (c a b : E) (ρ : Rho) (S : Sto) : evT t (.ite c a b) ρ S = (evT t c ρ S).bind fun k S => if k = true then evT t a ρ S else evT t b ρ S := by
  show ((ev t (.ite c a b) ρ S).bind fun w S => truth w S) = _
  simp only [ev]
  rw [evT_bindB]
  cases evT t c ρ S with
  | ok k S =>
    cases k with
    | true => rfl
    | false => rfl
  | exc _ _ _ => rfl
  | bad => rfl
theorem snd_ite {c a b : E} {x y z : Expr} {p : Pos} (hc : ST t C Z X c x) (ha : SE t C Z X a y) (hb : SE t C Z X b z) : SE t C Z X (.ite c a b) (.IfExp x y z p) := by
  refine peImp (pe_ifExp hc ha hb) fun σ H Q q => ?_
  have q1 := tM_ofT (c := c) (f := fun k ρ S => if k = true then ev t a ρ S else ev t b ρ S) (fun ρ S => by simp only [ev]; rw [evT_bindB]) q
  obtain ⟨ρ, ι, S, s, se, a1⟩ := q1
  refine ⟨ρ, ι, S, s, se, a1.imp fun k H1 q2 => ?_⟩
  cases k with
  | true => exact q2
  | false => exact q2
theorem tT_imp {e : E} {σ : L2.St} {H : Hp} {Q Q' : Bool → Hp → Prop} (h : tT t C Z e σ H Q) (i : ∀ b H', Q b H' → Q' b H') : tT t C Z e σ H Q' := by
  obtain ⟨ρ, ι, S, s, se, a⟩ := h
  exact ⟨ρ, ι, S, s, se, a.imp i⟩
theorem snd_tnot {a : E} {x : Expr} {p : Pos} (ha : ST t C Z X a x) : ST t C Z X (.not a) (.UnaryOp .Not x p) :=
  ptImp (pt_not ha) fun σ H Q q => tT_imp (tT_bind (f := fun k _ S => .ok (!k) S) (fun ρ S => evT_not a ρ S) q) fun k H1 q1 => tT_ok q1
/-- a test of several terms, whatever its whole is -/
def SW (t : Tab) (C : Cn) (Z : XK) (X : Cx) (e : E) (x : Expr) : Prop := PW X x (tT t C Z e)
theorem pwImp {e : Expr} {t u : TT} (h : PW X e t) (i : ∀ σ H Q, u σ H Q → t σ H Q) : PW X e u := ⟨fun wh pins s σ H Q I q => h.run wh pins s σ H Q I (i σ H Q q)⟩
theorem snd_wand1 {a : E} {x : Expr} {p : Pos} (ha : ST t C Z X a x) : SW t C Z X (.and [a]) (.BoolOp .And [x] p) :=
  pwImp (pw_and1 ha) fun σ H Q q => by
    obtain ⟨ρ, ι, S, s, se, a1⟩ := q
    exact ⟨ρ, ι, S, s, se, by simpa only [evT, ev, evAnd] using a1⟩
theorem snd_wor1 {a : E} {x : Expr} {p : Pos} (ha : ST t C Z X a x) : SW t C Z X (.or [a]) (.BoolOp .Or [x] p) :=
  pwImp (pw_or1 ha) fun σ H Q q => by
    obtain ⟨ρ, ι, S, s, se, a1⟩ := q
    exact ⟨ρ, ι, S, s, se, by simpa only [evT, ev, evOr] using a1⟩
theorem snd_wand {a b : E} {l : List E} {x y : Expr} {ys : List Expr} {p : Pos} (ha : ST t C Z X a x) (hr : SW t C Z X (.and (b :: l)) (.BoolOp .And (y :: ys) p)) : SW t C Z X (.and (a :: b :: l)) (.BoolOp .And (x :: y :: ys) p) :=
  pwImp (pw_and ha hr) fun σ H Q q => tT_imp (tT_bind (f := fun k ρ S => if k = true then evT t (.and (b :: l)) ρ S else .ok false S) (fun ρ S => evT_and a b l ρ S) q) fun k H1 q1 => by
    cases k with
    | true => exact q1
    | false => exact tT_ok (b := false) q1
theorem snd_wor {a b : E} {l : List E} {x y : Expr} {ys : List Expr} {p : Pos} (ha : ST t C Z X a x) (hr : SW t C Z X (.or (b :: l)) (.BoolOp .Or (y :: ys) p)) : SW t C Z X (.or (a :: b :: l)) (.BoolOp .Or (x :: y :: ys) p) :=
  pwImp (pw_or ha hr) fun σ H Q q => tT_imp (tT_bind (f := fun k ρ S => if k = true then .ok true S else evT t (.or (b :: l)) ρ S) (fun ρ S => evT_or a b l ρ S) q) fun k H1 q1 => by
    cases k with
    | true => exact tT_ok (b := true) q1
    | false => exact q1
theorem snd_tcmp {op : COp} {a b : E} {x y : Expr} {p : Pos} (g : GX Γ t C CX k Z sc X) (ha : SE t C Z X a x) (hb : SE t C Z X b y) (hs : notSet y = true) : ST t C Z X (.cmp op a b) (.Compare x [copPy op] [y] p) :=
  ptImp (pt_cmpR (op_cmpM g.hC g.un op) ha hb (behind_of hs)) fun σ H Q q => tM_op (fun ρ S => by simp only [ev]) (tT_val q)
theorem snd_tchain {op op' : COp} {a b c : E} {x y z : Expr} {p : Pos} (g : GX Γ t C CX k Z sc X) (ha : SE t C Z X a x) (hb : SE t C Z X b y) (hc : SE t C Z X c z) (hs : notSet z = true) :
    ST t C Z X (.chain op op' a b c) (.Compare x [copPy op, copPy op'] [y, z] p) :=
  ptImp (pt_chain (op_cmpM (E := Z) g.hC g.un op) (op_cmpM (E := Z) g.hC g.un op') ha hb hc (last_of hs)) fun σ H Q q => tM_chain (tT_val q)
/-- if-else as a test -/
theorem snd_tite {c a b : E} {x y z : Expr} {p : Pos} (hc : ST t C Z X c x) (ha : ST t C Z X a y) (hb : ST t C Z X b z) : ST t C Z X (.ite c a b) (.IfExp x y z p) := by
  refine ⟨fun pins s σ H Q I q => ?_⟩
  have q1 := tT_bind (c := c) (f := fun k ρ S => if k = true then evT t a ρ S else evT t b ρ S) (fun ρ S => evT_ite c a b ρ S) q
  show wpAny (model X.prog X.w) X.A (do if ← isTrue x X.env (eval x X.env) then isTrue y X.env (eval y X.env) else isTrue z X.env (eval z X.env)) (TP X pins σ Q) X.xe s
  refine wpAny_bind (thn (hc.run pins s σ H _ I q1) fun d s1 ⟨H1, I1, q2⟩ => ?_)
  cases d with
  | true => exact ha.run pins s1 σ H1 Q I1 q2
  | false => exact hb.run pins s1 σ H1 Q I1 q2
end
end LD
set_option maxHeartbeats 1000000
/-! LD24: tuple(zip(a, b)), by the heap: a, b of any kind that can be drawn from. -/
namespace PySem
namespace LDZ
open Sem (wp)
open PySem.W (kdx_alive)
section
variable {prog : Program} {w : World} {A : Around} {E : Value → Shared → Prop} {s : Shared} {z TI TO i1 i2 T : Addr} {fp1 fp2 : List Addr} {n1 n2 i : Nat} {P1 P2 : Nat → Value → Prop} {St1 St2 : Nat → Heap → Prop} {a1 a2 : Value}
theorem next_held {f : Bool} {oT : Obj} {Q : Value → Shared → Prop} (S : ZipSep2 z TI TO i1 i2 fp1 fp2) (D1 : Draws prog w A i1 fp1 n1 P1 St1) (D2 : Draws prog w A i2 fp2 n2 P2 St2)
    (hz : IsZipHeld s.heap z TI TO T f) (hT : s.heap.get? T = some oT) (hTI : IsTupOf2 s.heap TI (.ref i1) (.ref i2)) (st1 : St1 i s.heap) (st2 : St2 i s.heap) (hlt1 : i < n1) (hlt2 : i < n2)
    (hQ : ∀ x1 x2 h' tk, P1 i x1 → P2 i x2 → IsZipHeld h' z TI TO T true → St1 (i + 1) h' → St2 (i + 1) h' → IsTupOf2 h' s.heap.objs.size x1 x2 → h'.objs.size = s.heap.objs.size + 1 →
      (∀ c o, c ≠ z → c ≠ i1 → c ≠ i2 → s.heap.get? c = some o → h'.get? c = some o) → Q (.ref s.heap.objs.size) { s with heap := h', toks := tk }) :
    wpAny (model prog w) A (Builtin.«zip.__next__» ⟨[.ref z], []⟩) (fun fin s' => ∃ v, fin = .done (.ret v) ∧ Q v s') E s := by
  obtain ⟨hp, g, d, tk0, os⟩ := s
  show wpAny _ _ (field (.ref z) 2 >>= _) _ _ _
  refine wpAny_bind (wpAny_field hz rfl (x := .bool false) rfl ?_)
  show wpAny _ _ (field (.ref z) 3 >>= _) _ _ _
  refine wpAny_bind (wpAny_field hz rfl (x := .ref TI) rfl ?_)
  refine wpAny_bind (wpAny_seqItems hTI rfl ?_)
  show wpAny _ _ (Builtin.SmallTypes.ownedTupleIsFree (.ref z) >>= _) _ _ _
  refine wpAny_bind (wpAny_tupleHeld_zip hz hT fun g0 hz0 hs0 => ?_)
  replace hs0 : Heap.SameBut z hp g0 := hs0
  simp only [Bool.false_eq_true, if_false]
  refine wpAny_bind ?_
  rw [← Array.forIn_toList]
  simp only [List.forIn_cons, List.forIn_nil]
  refine wpAny_bind (wpAny_bind (wpAny_holding ?_))
  show wpAny _ _ (Builtin.SmallTypes.nextOf (.ref i1) >>= _) _ _ ⟨g0, g, d, tk0, os⟩
  refine wpAny_bind (D1.item i _ _ _ hlt1 (D1.over st1 hs0 S.zf1) fun x1 p1 tk1 hx1 sn1 hp1 => wpAny_pure ?_)
  replace hp1 : Heap.SameBut i1 g0 p1 := hp1
  refine wpAny_pure ?_
  refine wpAny_bind (wpAny_bind (wpAny_holding ?_))
  show wpAny _ _ (Builtin.SmallTypes.nextOf (.ref i2) >>= _) _ _ ⟨p1, g, d, tk1, os⟩
  refine wpAny_bind (D2.item i _ _ _ hlt2 (D2.over (D2.over st2 hs0 S.zf2) hp1 S.sep1_2) fun x2 p2 tk2 hx2 sn2 hp2 => wpAny_pure ?_)
  replace hp2 : Heap.SameBut i2 p1 p2 := hp2
  refine wpAny_pure (wpAny_pure ?_)
  show wpAny _ _ (newTuple [x1, x2] >>= _) _ _ ⟨p2, g, d, tk2, os⟩
  refine wpAny_bind (wpAny_newTuple ?_)
  have hsz : p2.objs.size = hp.objs.size := by rw [hp2.1, hp1.1, hs0.1]
  have hz₃ : IsZipHeld p2 z TI TO T true := hp2.extBut _ _ S.zi2 (hp1.extBut _ _ S.zi1 hz0)
  have hk : ∀ c o, c ≠ z → c ≠ i1 → c ≠ i2 → hp.get? c = some o → p2.get? c = some o := fun c o c1 c2 c3 e => hp2.extBut _ _ c3 (hp1.extBut _ _ c2 (hs0.extBut _ _ c1 e))
  have hj1 : St1 (i + 1) p2 := D1.over sn1 hp2 S.sep2_1
  refine wpAny_pure ⟨_, rfl, ?_⟩
  show Q (.ref p2.objs.size) ⟨p2.push { cls := .type "tuple", data := .seq #[x1, x2] }, g, d, tk2, os⟩
  have hq : IsTupOf2 (p2.push { cls := .type "tuple", data := .seq #[x1, x2] }) p2.objs.size x1 x2 := Heap.get?_push_size _ rfl
  have hz4 : (p2.push { cls := .type "tuple", data := .seq #[x1, x2] }).objs.size = p2.objs.size + 1 := Heap.size_push ..
  have up : ∀ b o, p2.get? b = some o → (p2.push { cls := .type "tuple", data := .seq #[x1, x2] }).get? b = some o := fun b o e => Heap.get?_push_of_some _ e
  have q1 := D1.frame _ _ (p2.push { cls := .type "tuple", data := .seq #[x1, x2] }) hj1 fun b _ o e => up b o e
  have q2 := D2.frame _ _ (p2.push { cls := .type "tuple", data := .seq #[x1, x2] }) sn2 fun b _ o e => up b o e
  rw [hsz] at hq hz4 ⊢
  exact hQ x1 x2 _ tk2 hx1 hx2 (up _ _ hz₃) q1 q2 hq hz4 fun c o c1 c2 c3 e => up _ _ (hk c o c1 c2 c3 e)
theorem end_held {f : Bool} {oT : Obj} {Q : Fin → Shared → Prop} (S : ZipSep2 z TI TO i1 i2 fp1 fp2) (D1 : Draws prog w A i1 fp1 n1 P1 St1) (D2 : Draws prog w A i2 fp2 n2 P2 St2)
    (hz : IsZipHeld s.heap z TI TO T f) (hT : s.heap.get? T = some oT) (hTI : IsTupOf2 s.heap TI (.ref i1) (.ref i2)) (st1 : St1 i s.heap) (st2 : St2 i s.heap) (hle1 : i ≤ n1) (hle2 : i ≤ n2) (hend : i = n1 ∨ i = n2)
    (hE : ∀ h' tk e, (∀ c o, c ≠ z → c ≠ i1 → c ≠ i2 → s.heap.get? c = some o → h'.get? c = some o) → (∃ o, h'.get? e = some o ∧ o.cls = .type "StopIteration") → E (.ref e) { s with heap := h', toks := tk }) :
    wpAny (model prog w) A (Builtin.«zip.__next__» ⟨[.ref z], []⟩) Q E s := by
  obtain ⟨hp, g, d, tk0, os⟩ := s
  show wpAny _ _ (field (.ref z) 2 >>= _) _ _ _
  refine wpAny_bind (wpAny_field hz rfl (x := .bool false) rfl ?_)
  show wpAny _ _ (field (.ref z) 3 >>= _) _ _ _
  refine wpAny_bind (wpAny_field hz rfl (x := .ref TI) rfl ?_)
  refine wpAny_bind (wpAny_seqItems hTI rfl ?_)
  show wpAny _ _ (Builtin.SmallTypes.ownedTupleIsFree (.ref z) >>= _) _ _ _
  refine wpAny_bind (wpAny_tupleHeld_zip hz hT fun g0 hz0 hs0 => ?_)
  replace hs0 : Heap.SameBut z hp g0 := hs0
  simp only [Bool.false_eq_true, if_false]
  refine wpAny_bind ?_
  rw [← Array.forIn_toList]
  simp only [List.forIn_cons, List.forIn_nil]
  refine wpAny_bind (wpAny_bind (wpAny_holding ?_))
  show wpAny _ _ (Builtin.SmallTypes.nextOf (.ref i1) >>= _) _ _ ⟨g0, g, d, tk0, os⟩
  by_cases hlt1 : i < n1
  · refine wpAny_bind (D1.item i _ _ _ hlt1 (D1.over st1 hs0 S.zf1) fun x1 p1 tk1 hx1 sn1 hp1 => wpAny_pure ?_)
    replace hp1 : Heap.SameBut i1 g0 p1 := hp1
    have hi2 : i = n2 := by omega
    refine wpAny_pure ?_
    refine wpAny_bind (wpAny_bind (wpAny_holding ?_))
    show wpAny _ _ (Builtin.SmallTypes.nextOf (.ref i2) >>= _) _ _ ⟨p1, g, d, tk1, os⟩
    refine wpAny_bind (D2.done ⟨p1, g, d, tk1, os⟩ _ _ (by rw [← hi2]; exact (D2.over (D2.over st2 hs0 S.zf2) hp1 S.sep1_2)) fun q e hq he => ?_)
    exact hE q tk1 e (fun c o cz c1 c2 x => hq _ _ c2 (hp1.extBut _ _ c1 (hs0.extBut _ _ cz x))) he
  · have hi1 : i = n1 := by omega
    refine wpAny_bind (D1.done ⟨g0, g, d, tk0, os⟩ _ _ (by rw [← hi1]; exact (D1.over st1 hs0 S.zf1)) fun q e hq he => ?_)
    exact hE q tk0 e (fun c o cz c1 c2 x => hq _ _ c1 (hs0.extBut _ _ cz x)) he
/-- where the zip stands: nothing given yet, or its last tuple is held -/
def Zst (z TI TO i1 i2 : Addr) (St1 St2 : Nat → Heap → Prop) (i : Nat) (ps : List Addr) (h : Heap) : Prop :=
  ((∃ a b, IsTupOf2 h TO a b ∧ IsZip h z TI TO .none) ∨ ∃ T f, T ∈ ps ∧ IsZipHeld h z TI TO T f) ∧ IsTupOf2 h TI (.ref i1) (.ref i2) ∧ St1 i h ∧ St2 i h
/-- the tuples that were given -/
def Zac (P1 P2 : Nat → Value → Prop) (B : Nat) (h : Heap) (ps : List Addr) : Prop :=
  ps.Pairwise (· < ·) ∧ ∀ j p, ps[j]? = some p → B ≤ p ∧ p < h.objs.size ∧ ∃ x y, IsTupOf2 h p x y ∧ P1 j x ∧ P2 j y
theorem pyNext_z {ps : List Addr} {B : Nat} {Q : Option Value → Shared → Prop} (S : ZipSep2 z TI TO i1 i2 fp1 fp2) (D1 : Draws prog w A.in1 i1 fp1 n1 P1 St1) (D2 : Draws prog w A.in1 i2 fp2 n2 P2 St2)
    (hz : Zst z TI TO i1 i2 St1 St2 i ps s.heap) (ha : Zac P1 P2 B s.heap ps) (hlen : ps.length = i) (hB : ∀ c ∈ [z, TI, TO, i1, i2], c < B) (hBs : B ≤ s.heap.objs.size) (hlt1 : i < n1) (hlt2 : i < n2)
    (hQ : ∀ h' tk, Zst z TI TO i1 i2 St1 St2 (i + 1) (ps ++ [s.heap.objs.size]) h' → Zac P1 P2 B h' (ps ++ [s.heap.objs.size]) → s.heap.objs.size ≤ h'.objs.size →
      (∀ c o, c ∉ [z, TO, i1, i2] → s.heap.get? c = some o → h'.get? c = some o) → Q (some (.ref s.heap.objs.size)) { s with heap := h', toks := tk }) :
    wpAny (model prog w) A (pyNext (.ref z)) Q E s := by
  obtain ⟨hz, hTI, st1, st2⟩ := hz
  obtain ⟨hpw, hps⟩ := ha
  have fin : ∀ x1 x2 (h' : Heap), P1 i x1 → P2 i x2 → IsTupOf2 h' s.heap.objs.size x1 x2 → h'.objs.size = s.heap.objs.size + 1 → (∀ c o, c ∉ [z, TO, i1, i2] → s.heap.get? c = some o → h'.get? c = some o) → Zac P1 P2 B h' (ps ++ [s.heap.objs.size]) := by
    intro x1 x2 h' y1 y2 hT hsz hk
    refine ⟨?_, fun j p hj => ?_⟩
    · rw [List.pairwise_append]
      refine ⟨hpw, by simp, fun a ha b hb => ?_⟩
      simp only [List.mem_singleton] at hb
      subst hb
      obtain ⟨j, hj⟩ := List.getElem?_of_mem ha
      exact (hps j a hj).2.1
    · by_cases hlt : j < ps.length
      · rw [List.getElem?_append_left hlt] at hj
        obtain ⟨b1, b2, x, y, b3, b4, b5⟩ := hps j p hj
        refine ⟨b1, by omega, x, y, hk _ _ ?_ b3, b4, b5⟩
        intro hm
        have : p < B := hB p (by simp at hm ⊢; rcases hm with q | q | q | q <;> simp [q])
        omega
      · have hj2 : j < (ps ++ [s.heap.objs.size]).length := (List.getElem?_eq_some_iff.mp hj).1
        have : j = ps.length := by simp at hj2; omega
        subst this
        simp at hj
        subst hj
        exact ⟨hBs, by omega, x1, x2, hT, hlen ▸ y1, hlen ▸ y2⟩
  have neTI : TI ∉ [z, TO, i1, i2] := by
    intro hm
    simp at hm
    rcases hm with q | q | q | q
    · exact S.TIz q
    · exact S.TITO q
    · exact S.TIi1 q
    · exact S.TIi2 q
  rcases hz with ⟨a, b, hTO, hz⟩ | ⟨T, f, hm, hz⟩
  · refine wpAny_pyNext_zipD2_item S D1 D2 hz hTI hTO st1 st2 hlt1 hlt2 fun x1 x2 h' tk y1 y2 b1 b2 d1 d2 b5 b6 b7 => ?_
    have hk : ∀ c o, c ∉ [z, TO, i1, i2] → s.heap.get? c = some o → h'.get? c = some o := fun c o hc e => b7 c o (fun q => hc (by simp [q])) (fun q => hc (by simp [q])) (fun q => hc (by simp [q])) (fun q => hc (by simp [q])) e
    exact hQ h' tk ⟨.inr ⟨_, false, by simp, b1⟩, hk _ _ neTI hTI, d1, d2⟩ (fin x1 x2 h' y1 y2 b5 b6 hk) (by omega) hk
  · obtain ⟨j, hj⟩ := List.getElem?_of_mem hm
    obtain ⟨c1, c2, x, y, hT, _, _⟩ := hps j T hj
    have hTy : s.TypeIs (.ref z) "zip" := ⟨_, hz, rfl⟩
    unfold pyNext
    exact wpAny_bind (wpAny_attempt (wpAny_callSpecial?_slot (name := Str.ofString "__next__") hTy F.slot_zip_next
      (wpAny_call_entry F.slot_zip_next hTy F.entry_zip_next
        (next_held S D1 D2 hz hT hTI st1 st2 hlt1 hlt2 fun x1 x2 h' tk y1 y2 b1 d1 d2 b5 b6 b7 => wpAny_pure (by
          have hk : ∀ c o, c ∉ [z, TO, i1, i2] → s.heap.get? c = some o → h'.get? c = some o := fun c o hc e => b7 c o (fun q => hc (by simp [q])) (fun q => hc (by simp [q])) (fun q => hc (by simp [q])) e
          exact hQ h' tk ⟨.inr ⟨_, true, by simp [hm], b1⟩, hk _ _ neTI hTI, d1, d2⟩ (fin x1 x2 h' y1 y2 b5 b6 hk) (by omega) hk)) (F.args_zip_next_1 _))))
theorem pyNext_ze {ps : List Addr} {B : Nat} {Q : Option Value → Shared → Prop} (S : ZipSep2 z TI TO i1 i2 fp1 fp2) (D1 : Draws prog w A.in1 i1 fp1 n1 P1 St1) (D2 : Draws prog w A.in1 i2 fp2 n2 P2 St2)
    (hz : Zst z TI TO i1 i2 St1 St2 i ps s.heap) (ha : Zac P1 P2 B s.heap ps) (hle1 : i ≤ n1) (hle2 : i ≤ n2) (hend : i = n1 ∨ i = n2)
    (hQ : ∀ h' tk, (∀ c o, c ∉ [z, TO, i1, i2] → s.heap.get? c = some o → h'.get? c = some o) → Q none { s with heap := h', toks := tk }) :
    wpAny (model prog w) A (pyNext (.ref z)) Q E s := by
  obtain ⟨hz, hTI, st1, st2⟩ := hz
  obtain ⟨hpw, hps⟩ := ha
  rcases hz with ⟨a, b, hTO, hz⟩ | ⟨T, f, hm, hz⟩
  · exact wpAny_pyNext_zipD2_end S D1 D2 hz hTI hTO st1 st2 hle1 hle2 hend fun h' tk b7 => hQ h' tk fun c o hc e => b7 c o (fun q => hc (by simp [q])) (fun q => hc (by simp [q])) (fun q => hc (by simp [q])) (fun q => hc (by simp [q])) e
  · obtain ⟨j, hj⟩ := List.getElem?_of_mem hm
    obtain ⟨c1, c2, x, y, hT, _, _⟩ := hps j T hj
    have hTy : s.TypeIs (.ref z) "zip" := ⟨_, hz, rfl⟩
    unfold pyNext
    refine wpAny_bind (wpAny_attempt (wpAny_callSpecial?_slot (name := Str.ofString "__next__") hTy F.slot_zip_next
      (wpAny_call_entry F.slot_zip_next hTy F.entry_zip_next (end_held S D1 D2 hz hT hTI st1 st2 hle1 hle2 hend fun h' tk e hk he => ?_) (F.args_zip_next_1 _))))
    obtain ⟨o, ho, hc⟩ := he
    refine wpAny_bind (wpAny_isInstance (T := "StopIteration") (b := true) ⟨o, ho, hc⟩ isSubtype_stop ?_)
    exact wpAny_pure (hQ _ _ fun c o hc e => hk c o (fun q => hc (by simp [q])) (fun q => hc (by simp [q])) (fun q => hc (by simp [q])) e)
theorem zac_mono {ps : List Addr} {B : Nat} {h h' : Heap} (hk : ∀ p, p ∈ ps → ∀ o, h.get? p = some o → h'.get? p = some o) (ha : Zac P1 P2 B h ps) : Zac P1 P2 B h' ps := by
  refine ⟨ha.1, fun j p hj => ?_⟩
  obtain ⟨b1, b2, x, y, b3, b4, b5⟩ := ha.2 j p hj
  have q := hk p (List.mem_of_getElem? hj) _ b3
  exact ⟨b1, Heap.lt_size q, x, y, q, b4, b5⟩
theorem zst_mono {ps : List Addr} {h h' : Heap} (D1 : Draws prog w A i1 fp1 n1 P1 St1) (D2 : Draws prog w A i2 fp2 n2 P2 St2) (hk : ∀ c, c ∈ z :: TI :: TO :: (fp1 ++ fp2) → ∀ o, h.get? c = some o → h'.get? c = some o)
    (hz : Zst z TI TO i1 i2 St1 St2 i ps h) : Zst z TI TO i1 i2 St1 St2 i ps h' := by
  obtain ⟨hz, hTI, st1, st2⟩ := hz
  refine ⟨?_, hk _ (by simp) _ hTI, D1.frame _ _ _ st1 fun b hb o e => hk b (by simp [hb]) o e, D2.frame _ _ _ st2 fun b hb o e => hk b (by simp [hb]) o e⟩
  rcases hz with ⟨a, b, hTO, hz⟩ | ⟨T, f, hm, hz⟩
  · exact .inl ⟨a, b, hk _ (by simp) _ hTO, hk _ (by simp) _ hz⟩
  · exact .inr ⟨T, f, hm, hk _ (by simp) _ hz⟩
theorem zloop {B : Nat} {R : Result → Shared → Prop} (SZ : ZipSep2 z TI TO i1 i2 fp1 fp2) (D1 : Draws prog w A.in1.in1 i1 fp1 n1 P1 St1) (D2 : Draws prog w A.in1.in1 i2 fp2 n2 P2 St2) (hn : min n1 n2 ≤ sizeLine) (S : Addr) (hSf : S ∉ z :: TI :: TO :: (fp1 ++ fp2)) (res : Value)
    (hB : ∀ c ∈ [z, TI, TO, i1, i2], c < B) :
    ∀ (k i : Nat) (s : Shared) (ps : List Addr) (acc : Array Value) (c : Nat), min n1 n2 - i = k → i ≤ min n1 n2 → B ≤ s.heap.objs.size → Zst z TI TO i1 i2 St1 St2 i ps s.heap → s.heap.get? S = some { cls := .type "list", dict := none, data := .seq acc c, slots := #[] } →
    Zac P1 P2 B s.heap ps → ps.length = i → acc.toList = ps.map Value.ref →
    (∀ h' tk ps' acc' c', (∀ b o, b ∉ [S, z, TO, i1, i2] → s.heap.get? b = some o → h'.get? b = some o) → h'.get? S = some { cls := .type "list", dict := none, data := .seq acc' c', slots := #[] } → Zac P1 P2 B h' ps' → ps'.length = min n1 n2 → acc'.toList = ps'.map Value.ref →
      R (.ok (.ret res)) { s with heap := h', toks := tk }) →
    codeAny (model prog w) A (.builtin "list.extend.loop" ⟨[.ref S, .ref z, res], []⟩) R s := by
  have hSw : S ∉ [z, TO, i1, i2] := fun hm => hSf (by
    simp at hm ⊢
    rcases hm with q | q | q | q
    · simp [q]
    · simp [q]
    · exact .inr (.inr (.inr (.inl (by rw [q]; exact SZ.mem1))))
    · exact .inr (.inr (.inr (.inr (by rw [q]; exact SZ.mem2)))))
  intro k
  induction k with
  | zero =>
    intro i s ps acc c hk hi hBs hst hS hac hlen hacc hR
    have hin : i = min n1 n2 := by omega
    refine codeAny_builtin F.entry_extend_loop ?_
    rw [Around.under_plainId F.plain_extend_loop _]
    show wpAny _ A.in1 (pyNext (.ref z) >>= _) _ _ s
    refine wpAny_bind (pyNext_ze SZ D1 D2 hst hac (by omega) (by omega) (by omega) fun h' tk hkp => ?_)
    refine wpAny_pure (hR h' tk ps acc c (fun b o hb e => hkp b o (fun q => hb (List.mem_cons_of_mem _ q)) e) (hkp S _ hSw hS) (zac_mono (fun p hp o e => hkp p o ?_ e) hac) (by omega) hacc)
    intro hm
    obtain ⟨j, hj⟩ := List.getElem?_of_mem hp
    have b1 := (hac.2 j p hj).1
    have hlt : p < B := hB p (by simp at hm ⊢; rcases hm with q | q | q | q <;> simp [q])
    exact absurd b1 (Nat.not_le_of_lt hlt)
  | succ k ih =>
    intro i s ps acc c hk hi hBs hst hS hac hlen hacc hR
    refine codeAny_builtin F.entry_extend_loop ?_
    rw [Around.under_plainId F.plain_extend_loop _]
    show wpAny _ A.in1 (pyNext (.ref z) >>= _) _ _ s
    refine wpAny_bind (pyNext_z SZ D1 D2 hst hac hlen hB hBs (by omega) (by omega) fun h' tk hst' hac' hsz' hkp => ?_)
    have hS' : h'.get? S = some _ := hkp S _ hSw hS
    have hsize : acc.size = i := by rw [← Array.length_toList, hacc, List.length_map, hlen]
    have hSlt : S < s.heap.objs.size := Heap.lt_size hS
    show wpAny _ A.in1 (updateSeq S (·.push (.ref s.heap.objs.size)) >>= _) _ _ { s with heap := h', toks := tk }
    refine wpAny_bind ?_
    refine wpAny_updateSeq (s := { s with heap := h', toks := tk }) hS' rfl (wpAny_pure ⟨plainId_quiet F.plain_extend_loop _, ih (i + 1) _ (ps ++ [s.heap.objs.size]) (acc.push (.ref s.heap.objs.size)) _ (by omega) (by omega) ?_
      (zst_mono D1 D2 (fun b hb o e => ?_) hst') (Heap.get?_update_self _ hS' rfl) (zac_mono (fun p hp o e => ?_) hac') (by simp [hlen]) (by simp [hacc]) fun h2 tk2 ps' acc' c' hkp2 hS2 hac2 hl2 ha2 => ?_⟩)
      (by rw [hsize]; omega) (by show (acc.push _).size ≤ sizeLine + 1; rw [Array.size_push, hsize]; omega)
    · show B ≤ (h'.update S _).objs.size
      rw [Heap.size_update]; omega
    · exact (Heap.get?_update_other _ _ (fun h : S = b => hSf (by rw [h]; exact hb))).trans e
    · refine (Heap.get?_update_other _ _ (fun h : S = p => ?_)).trans e
      subst h
      obtain ⟨j, hj⟩ := List.getElem?_of_mem hp
      obtain ⟨_, _, x, y, b3, _⟩ := hac'.2 j S hj
      have b3 : h'.get? S = some _ := b3
      have b4 := hS'.symm.trans b3
      simp at b4
    · refine hR h2 tk2 ps' acc' c' (fun b o hb e => hkp2 b o hb ?_) hS2 hac2 hl2 ha2
      exact (Heap.get?_update_other _ _ (fun h : S = b => hb (by rw [h]; exact List.mem_cons_self))).trans (hkp b o (fun q => hb (List.mem_cons_of_mem _ q)) e)
theorem nolen_zip : typeLookup (.type "zip") "__len__" = pure none := by rw [typeLookup_type, builtinLookup_eq_fast]; kernel_rfl
theorem nohint_zip : typeLookup (.type "zip") "__length_hint__" = pure none := by rw [typeLookup_type, builtinLookup_eq_fast]; kernel_rfl
theorem collect_z {Q : List Value → Shared → Prop} (SZ : ZipSep2 z TI TO i1 i2 fp1 fp2) (D1 : Draws prog w A.in1.in1 i1 fp1 n1 P1 St1) (D2 : Draws prog w A.in1.in1 i2 fp2 n2 P2 St2) (hn : min n1 n2 ≤ sizeLine)
    (hst : Zst z TI TO i1 i2 St1 St2 0 [] s.heap) (hfp : ∀ b ∈ z :: TI :: TO :: (fp1 ++ fp2), b < s.heap.objs.size)
    (hQ : ∀ h' tk ps, (∀ b o, b ∉ [z, TO, i1, i2] → s.heap.get? b = some o → h'.get? b = some o) → Zac P1 P2 s.heap.objs.size h' ps → ps.length = min n1 n2 → Q (ps.map Value.ref) { s with heap := h', toks := tk }) :
    wpAny (model prog w) A (collect (.ref z)) Q E s := by
  have hSf : s.heap.objs.size ∉ z :: TI :: TO :: (fp1 ++ fp2) := fun hm => Nat.lt_irrefl _ (hfp _ hm)
  have hSI : s.heap.objs.size ≠ z := fun e => hSf (by rw [e]; simp)
  have hTy : ∀ {h : Heap} {g d tk os}, (∀ o, s.heap.get? z = some o → h.get? z = some o) → (Shared.TypeIs ⟨h, g, d, tk, os⟩ (.ref z) "zip") := by
    intro h g d tk os hk
    obtain ⟨hz, _⟩ := hst
    rcases hz with ⟨a, b, _, hz⟩ | ⟨T, f, hm, hz⟩
    · exact ⟨_, hk _ hz, rfl⟩
    · exact ⟨_, hk _ hz, rfl⟩
  have hB : ∀ c ∈ [z, TI, TO, i1, i2], c < s.heap.objs.size := fun c hc => hfp c (by
    simp at hc ⊢
    rcases hc with q | q | q | q | q
    · simp [q]
    · simp [q]
    · simp [q]
    · exact .inr (.inr (.inr (.inl (by rw [q]; exact SZ.mem1))))
    · exact .inr (.inr (.inr (.inr (by rw [q]; exact SZ.mem2)))))
  obtain ⟨hp, g, d, tk, os⟩ := s
  unfold collect
  refine wpAny_bind (wpAny_runValue (codeAny_builtin F.entry_proto_collect ?_))
  rw [Around.under_plainId F.plain_proto_collect _]
  show wpAny _ A.in1 (newList [] >>= fun l => again (.builtin "list.__iadd__" ⟨[l, .ref z], []⟩)) _ _ _
  refine wpAny_bind (wpAny_newObj_type ?_)
  refine wpAny_pure ⟨plainId_quiet F.plain_list_iadd _, codeAny_builtin F.entry_list_iadd ?_⟩
  rw [Around.under_plainId F.plain_list_iadd _]
  have up : ∀ b o, hp.get? b = some o → (hp.push { cls := .type "list", data := .seq ([] : List Value).toArray }).get? b = some o := fun b o e => Heap.get?_push_of_some _ e
  have hTI := hTy (h := hp.push { cls := .type "list", data := .seq ([] : List Value).toArray }) (g := g) (d := d) (tk := tk) (os := os) (fun o e => up _ _ e)
  show wpAny _ A.in1 (Builtin.List.listExtendWith (.ref hp.objs.size) (.ref z) (.ref hp.objs.size)) _ _ _
  unfold Builtin.List.listExtendWith
  refine wpAny_bind (wpAny_typeOf hTI ?_)
  have h1 : Builtin.List.listSameRef (.ref hp.objs.size) (.ref z) = false := by
    have : hp.objs.size ≠ z := hSI
    simp [Builtin.List.listSameRef, this]
  have h2 : (Value.type "zip" == Value.type "list") = false := by decide
  have h3 : (Value.type "zip" == Value.type "tuple") = false := by decide
  simp only [h1, h2, h3, Bool.or_false, Bool.false_eq_true, if_false]
  refine wpAny_bind (wpAny_pyIter_slot hTI F.slot_zip_iter (wpAny_call_entry F.slot_zip_iter hTI F.entry_zip_iter ?_ (F.args_zip_iter_1 _)))
  show wpAny _ _ (ret (.ref z)) _ _ _
  refine wpAny_pure ⟨_, rfl, "zip", _, hTI, F.slot_zip_next.lookup, ?_⟩
  refine wpAny_bind (wpAny_holding ?_)
  unfold Builtin.List.listLengthHint
  refine wpAny_bind (wpAny_specialOf hTI nolen_zip ?_)
  show wpAny _ A.in1 (specialOf (Value.ref z) (Str.ofString "__length_hint__") >>= _) _ _ _
  refine wpAny_bind (wpAny_specialOf hTI nohint_zip ?_)
  refine wpAny_pure ?_
  show wpAny _ A.in1 (rule "list.extend.makes-room" >>= fun _ => Builtin.List.listTouch (.ref hp.objs.size) >>= fun _ =>
    again (.builtin "list.extend.loop" ⟨[.ref hp.objs.size, .ref z, .ref hp.objs.size], []⟩)) _ _ _
  refine wpAny_bind (wpAny_rule ?_)
  have hS₁ : (hp.push { cls := .type "list", data := .seq ([] : List Value).toArray }).get? hp.objs.size = some { cls := .type "list", data := .seq ([] : List Value).toArray } := Heap.get?_push_size _ rfl
  refine wpAny_bind ?_
  show wpAny _ A.in1 (updateSeq hp.objs.size (·.push .none) >>= fun _ => updateSeq hp.objs.size (·.pop)) _ _ _
  refine wpAny_bind (wpAny_updateSeq hS₁ rfl ?_)
  have hS₂ := Heap.get?_update_self (Obj.mapSeq (·.push Value.none)) hS₁ rfl
  refine wpAny_updateSeq hS₂ rfl ?_
  have hS₃ := Heap.get?_update_self (Obj.mapSeq (·.pop)) hS₂ rfl
  have oth : ∀ b o, b ≠ hp.objs.size → hp.get? b = some o →
      (((hp.push { cls := .type "list", data := .seq ([] : List Value).toArray }).update hp.objs.size (Obj.mapSeq (·.push Value.none))).update hp.objs.size (Obj.mapSeq (·.pop))).get? b = some o :=
    fun b o hb e => (Heap.get?_update_other _ _ (Ne.symm hb)).trans ((Heap.get?_update_other _ _ (Ne.symm hb)).trans (up b o e))
  refine wpAny_pure ⟨plainId_quiet F.plain_extend_loop _, zloop SZ D1 D2 hn _ hSf _ hB _ 0 _ [] _ _ rfl (Nat.zero_le _) ?_
    (zst_mono D1 D2 (fun b hb o e => oth b o (fun h => hSf (h ▸ hb)) e) hst) hS₃ ⟨.nil, fun j p hj => by simp at hj⟩ rfl rfl fun h' tk' ps acc' c' hkp hS' hac hl ha => ?_⟩
  · show hp.objs.size ≤ (((hp.push { cls := .type "list", data := .seq ([] : List Value).toArray }).update hp.objs.size (Obj.mapSeq (·.push Value.none))).update hp.objs.size (Obj.mapSeq (·.pop))).objs.size
    rw [Heap.size_update, Heap.size_update, Heap.size_push]; omega
  · show wpAny _ A (load hp.objs.size >>= _) _ _ _
    refine wpAny_bind (wpAny_load hS' ?_)
    refine wpAny_pure ?_
    show Q acc'.toList _
    rw [ha]
    refine hQ h' tk' ps (fun b o hb e => ?_) hac hl
    by_cases hbs : b = hp.objs.size
    · subst hbs
      exact absurd (Heap.lt_size e) (Nat.lt_irrefl _)
    · exact hkp b o (fun q => by
        rcases List.mem_cons.mp q with q | q
        · exact hbs q
        · exact hb q) (oth b o hbs e)
theorem code_tuple_z {Q₁ : Value → Shared → Prop} (SZ : ZipSep2 z TI TO i1 i2 fp1 fp2) (D1 : Draws prog w A.in1.in1.in1 i1 fp1 n1 P1 St1) (D2 : Draws prog w A.in1.in1.in1 i2 fp2 n2 P2 St2) (hn : min n1 n2 ≤ sizeLine)
    (hTI : s.TypeIs (.ref z) "zip") (hst : Zst z TI TO i1 i2 St1 St2 0 [] s.heap) (hfp : ∀ b ∈ z :: TI :: TO :: (fp1 ++ fp2), b < s.heap.objs.size)
    (h : ∀ h' tk ps, (∀ b o, b ∉ [z, TO, i1, i2] → s.heap.get? b = some o → h'.get? b = some o) → Zac P1 P2 s.heap.objs.size h' ps → ps.length = min n1 n2 →
      Q₁ (.ref h'.objs.size) { s with heap := h'.push { cls := .type "tuple", data := .seq (ps.map Value.ref).toArray }, toks := tk }) :
    codeAny (model prog w) A (.call (.builtin "tuple.__new__") ⟨[.type "tuple", .ref z], []⟩) (wants Q₁ E) s := by
  refine codeAny_of_tree ?_
  show wpAny _ A.in1 (do checkBuiltinCall "tuple.__new__" ⟨[.type "tuple", .ref z], []⟩; again (.builtin "tuple.__new__" ⟨[.type "tuple", .ref z], []⟩)) _ _ s
  refine wpAny_bind (wpAny_of_eq (F.newCall_tuple_1 _) (wpAny_pure ⟨plainId_quiet F.plain_tuple_new _, codeAny_builtin F.entry_tuple_new ?_⟩))
  rw [Around.under_plainId F.plain_tuple_new _]
  have hsub := sub_tuple_self
  have hinit := init_tuple_lookup
  have hmh := madeHere_tuple
  wp_walk using wpAny_typeOf hTI, collect_z (A := A.in1) SZ D1 D2 hn hst hfp
  intro h' tk ps hk hac hl
  show wpAny _ _ (Builtin.Tuple.tupleExact (ps.map Value.ref).toArray >>= fun v => ret v) _ _ _
  unfold Builtin.Tuple.tupleExact
  refine wpAny_bind (wpAny_newObj_type ?_ (by show (ps.map Value.ref).toArray.size ≤ sizeLine; simp only [List.size_toArray, List.length_map]; rw [hl]; exact hn))
  refine wpAny_pure ?_
  exact h h' tk ps hk hac hl
theorem call_tuple_z {Q : Value → Shared → Prop} (SZ : ZipSep2 z TI TO i1 i2 fp1 fp2) (D1 : Draws prog w A.in1.in1.in1.in1 i1 fp1 n1 P1 St1) (D2 : Draws prog w A.in1.in1.in1.in1 i2 fp2 n2 P2 St2) (hn : min n1 n2 ≤ sizeLine)
    (hTI : s.TypeIs (.ref z) "zip") (hst : Zst z TI TO i1 i2 St1 St2 0 [] s.heap) (hfp : ∀ b ∈ z :: TI :: TO :: (fp1 ++ fp2), b < s.heap.objs.size)
    (hQ : ∀ h' tk ps, (∀ b o, b ∉ [z, TO, i1, i2] → s.heap.get? b = some o → h'.get? b = some o) → Zac P1 P2 s.heap.objs.size h' ps → ps.length = min n1 n2 →
      Q (.ref h'.objs.size) { s with heap := h'.push { cls := .type "tuple", data := .seq (ps.map Value.ref).toArray }, toks := tk }) :
    wpAny (model prog w) A (call (.type "tuple") [.ref z]) Q E s := by
  refine callType_codes (Q₁ := fun obj s₁ => s₁.TypeIs obj "tuple" ∧ Q obj s₁) F.called_tuple (F.typeCall_tuple_1 _) F.entry_object_init
    (code_tuple_z (A := A.in1) SZ D1 D2 hn hTI hst hfp fun h' tk ps hk hac hl => ⟨⟨_, Heap.get?_push_size _ rfl, rfl⟩, hQ h' tk ps hk hac hl⟩) fun obj s₁ h₁ => ?_
  exact ⟨h₁.1, F.args_object_init_2 obj _, object_init_meets F.called_tuple.init.lookup F.called_tuple.made (by decide) prog w A.in1 _ s₁ ⟨h₁.1, rfl, h₁.2⟩⟩
end
end LDZ
end PySem
set_option maxHeartbeats 1000000
/-! LD25: tuple(zip(a, b)), by values. -/
namespace LD
open PySem PySem.Spec PyProof.Rows L2
section
variable {X : Cx} {pins : List (Addr × Obj)} {σ : L2.St} {H : Hp} {s : Shared}
/-- an object of ours that already stands in the heap is taken over -/
theorem adopt {T : Addr} {ob : HO} (I : Inv X pins σ H s) (hf : FpOk X pins H T) (new : ObjOk X.prog X.w (upd H T ob) s.heap T ob) : Inv X pins σ (upd H T ob) s := by
  have hn : H T = none := hf.1
  have q : Inv X pins σ (upd H T ob) { s with heap := s.heap, gens := s.gens, drawn := s.drawn, toks := s.toks } := by
    refine I.step (g' := s.gens) (d' := s.drawn) (ch := [T]) (fun b hb => ?_) (fun b o _ _ hc e _ => e) (fun b o _ _ hc e _ => ⟨o.slots, e⟩)
      (fun b o hc e n => ?_) (fun b o hc e => ⟨o, e⟩) (fun b xs e => ?_) (fun b o u e => ?_) (fun b ps e => ⟨#[], ?_⟩) (fun m hm => hm) (fun b u e => ?_) I.bare
    · have e : b = T := by simpa using hb
      subst e
      exact ⟨hf.2.2.2.1, hf.2.1, hf.2.2.2.2.1, hf.2.2.2.2.2⟩
    · rw [upd_ne (fun z => hc (by simp [z]))]; exact n
    · rw [upd_ne (ne_of_none e hn)]; exact e
    · rw [upd_ne (ne_of_none e hn)]; exact e
    · rw [upd_ne (ne_of_none e hn), e]; simp
    · by_cases hb : b = T
      · subst hb
        rw [upd_same] at e
        cases e
        exact new
      · rw [upd_ne hb] at e
        exact (I.hok b u e).stay (fun c v hc q => q) (fun c q => by rw [upd_ne (ne_of_none q hn)]; exact q) fun c xs q => by rw [upd_ne (ne_of_none q hn)]; exact q
  exact q
theorem FpOk.upd {T p : Addr} {ob : HO} (h : FpOk X pins H p) (ne : p ≠ T) : FpOk X pins (upd H T ob) p := by
  obtain ⟨h1, h2⟩ := h
  refine ⟨?_, ?_⟩
  · rw [upd_ne ne]; exact h1
  · exact h2
theorem pair_ok {H : Hp} {p : Addr} {x y : Value} {a b : V} (e : s.heap.get? p = some { cls := .type "tuple", data := .seq #[x, y] }) (r1 : RelV a x) (r2 : RelV b y) :
    ObjOk X.prog X.w H s.heap p (.frz { cls := .type "tuple", data := .seq #[x, y] } (.tup [a, b])) :=
  ⟨e, by show 2 ≤ sizeLine; decide, [x, y], .cons r1 (.cons r2 .nil), ⟨_, e, rfl, _, rfl⟩⟩
/-- all pairs are taken over -/
theorem adopt_pairs {ps : List Addr} {zs : List (V × V)} (t : Paired (fun p (z : V × V) => ∃ x y, IsTupOf2 s.heap p x y ∧ RelV z.1 x ∧ RelV z.2 y) ps zs) : ∀ {H : Hp}, Inv X pins σ H s → ps.Pairwise (· < ·) → (∀ p ∈ ps, FpOk X pins H p) →
    ∃ H', Inv X pins σ H' s ∧ (∀ b u, H b = some u → H' b = some u) ∧ (∀ b, b ∉ ps → H' b = H b) ∧ Paired (fun p (z : V × V) => ∃ o : Obj, o.dict = none ∧ H' p = some (.frz o (.tup [z.1, z.2]))) ps zs := by
  induction t with
  | nil => exact fun {H} I _ _ => ⟨H, I, fun _ _ e => e, fun _ _ => rfl, .nil⟩
  | @cons p z ps zs h t ih =>
    intro H I hp hf
    obtain ⟨x, y, e, r1, r2⟩ := h
    rw [List.pairwise_cons] at hp
    have ne : ∀ q ∈ ps, q ≠ p := fun q hq z => by
      have := hp.1 q hq
      rw [z] at this
      exact absurd this (Nat.lt_irrefl _)
    have I1 := adopt I (hf p (by simp)) (pair_ok e r1 r2)
    obtain ⟨H', I2, k1, k2, k3⟩ := ih I1 hp.2 (fun q hq => FpOk.upd (hf q (by simp [hq])) (ne q hq))
    have hn : H p = none := (hf p (by simp)).1
    refine ⟨H', I2, fun b u hb => k1 b u (by rw [upd_ne (ne_of_none hb hn)]; exact hb), fun b hb => ?_, .cons ⟨_, rfl, k1 p _ (upd_same ..)⟩ k3⟩
    rw [k2 b (fun q => hb (by simp [q])), upd_ne (fun q => hb (by simp [q]))]
/-- what zip draws from: a list, a tuple, a text -/
def ZSrc (K : PySem.W.Frag) (H : Hp) (v : V) (xs : List V) : Prop := (∃ p, v = .ref p ∧ SqL K H p xs) ∨ (∃ p, v = .ref p ∧ SqT K H p xs) ∨ ∃ t : List Nat, v = .str (sT t) ∧ t.length ≤ LIM ∧ xs = t.map fun c => V.str (sT [c])
theorem vals_at {xs : List V} {us : List Value} (r : Vals xs us) {i : Nat} {v : Value} (h : us.toArray[i]? = some v) : ∃ x, xs[i]? = some x ∧ RelV x v := by
  have h : us[i]? = some v := by simpa using h
  have hlt : i < us.length := (List.getElem?_eq_some_iff.mp h).1
  have hl := r.length
  obtain ⟨u, hu, ru⟩ := r.get (List.getElem?_eq_getElem (l := xs) (i := i) (by omega))
  rw [h] at hu
  cases hu
  exact ⟨_, List.getElem?_eq_getElem (by omega), ru⟩
theorem zsrc {xs : List V} {v : V} {u : Value} (I : Inv X pins σ H s) (h : ZSrc X.K H v xs) (r : RelV v u) :
    ∃ (o : Obj) (H0 : Heap → Prop) (src : List Addr) (P : Nat → Value → Prop), Begins u o H0 ∧ H0 s.heap ∧ (∀ a ∈ src, a < s.heap.objs.size) ∧ xs.length ≤ sizeLine ∧ (∀ i w, P i w → ∃ x, xs[i]? = some x ∧ RelV x w) ∧
      ∀ it, it ∉ src → ∃ St : Nat → Heap → Prop, (∀ (A : Around), A.handled = none → Draws X.prog X.w A it (it :: src) xs.length P St) ∧ ∀ h', h'.get? it = some o → H0 h' → St 0 h' := by
  rcases h with ⟨p, rfl, hq⟩ | ⟨p, rfl, hq⟩ | ⟨t, rfl, ht, rfl⟩
  · cases r
    obtain ⟨its, rv, pl, z⟩ := I.list hq
    refine ⟨_, _, [p], fun i w => its.toArray[i]? = some w, begins_list p its.toArray, pl.isList, fun a ha => ?_, z, fun i w hw => vals_at rv hw, fun it hit => ?_⟩
    · rw [List.mem_singleton.mp ha]; exact pl.lt
    · have hne : p ≠ it := fun e => hit (by simp [e])
      have hsz : xs.length = its.toArray.size := by rw [rv.length]; simp
      refine ⟨fun i h => h.IsListIter it p i ∧ h.IsList p its.toArray, fun A hA => by rw [hsz]; exact Draws.list hA it p hne its.toArray, fun h' ho hl => ⟨⟨_, ho, rfl, rfl⟩, hl⟩⟩
  · cases r
    obtain ⟨its, rv, pl, z⟩ := I.tuple hq
    refine ⟨_, _, [p], fun i w => its.toArray[i]? = some w, begins_tuple p its.toArray, pl, fun a ha => ?_, z, fun i w hw => vals_at rv hw, fun it hit => ?_⟩
    · rw [List.mem_singleton.mp ha]
      obtain ⟨o, ho, _⟩ := pl
      exact Heap.lt_size ho
    · have hne : p ≠ it := fun e => hit (by simp [e])
      have hsz : xs.length = its.toArray.size := by rw [rv.length]; simp
      refine ⟨fun i h => h.IsTupleIter it p i ∧ h.IsTuple p its.toArray, fun A hA => by rw [hsz]; exact Draws.tuple hA it p hne its.toArray, fun h' ho hl => ⟨⟨_, ho, rfl, rfl⟩, hl⟩⟩
  · obtain ⟨tk, rfl⟩ := r
    have hsz : (t.map fun c => V.str (sT [c])).length = (sT t).cps.size := by simp [sT]
    have hl : (t.map fun c => V.str (sT [c])).length ≤ sizeLine := by rw [List.length_map]; exact Nat.le_trans ht (by decide)
    refine ⟨_, _, [], fun i w => ∃ c q, (sT t).cps[i]? = some c ∧ w = .str ⟨#[c]⟩ q, begins_text (sT t) tk, trivial, fun a ha => (nomatch ha), hl, fun i w hw => ?_, fun it _ => ?_⟩
    · obtain ⟨c, q, h1, rfl⟩ := hw
      have h1 : t[i]? = some c := by simpa [sT] using h1
      exact ⟨V.str (sT [c]), by simp [h1], ⟨q, rfl⟩⟩
    · refine ⟨fun i h => h.IsStrIter it (strIterType (sT t)) (sT t) tk i, fun A hA => by rw [hsz]; exact Draws.text hA it (sT t) tk, fun h' ho _ => ⟨_, ho, rfl, rfl⟩⟩
end
end LD
set_option maxHeartbeats 1000000
/-! LD26: the rule for tuple(zip(a, b)). -/
namespace LD
open PySem PySem.Spec PyProof.Rows L2 PySem.LDZ
section
variable {X : Cx} {pins : List (Addr × Obj)} {σ : L2.St} {H : Hp} {s : Shared}
def tZip (K : PySem.W.Frag) (t : TA) : TE := fun σ H Q => t σ H fun vs H1 => ∃ a b xs ys, vs = [a, b] ∧ ZSrc K H1 a xs ∧ ZSrc K H1 b ys ∧ xs.length = ys.length ∧
  ∀ (ps : List Addr) (H2 : Hp), (∀ b u, H1 b = some u → H2 b = some u) → (∀ b, b ∉ ps → H2 b = H1 b) → (∀ p, p ∈ ps → H1 p = none) →
    Paired (fun p (z : V × V) => ∃ o : Obj, o.dict = none ∧ H2 p = some (.frz o (.tup [z.1, z.2]))) ps (xs.zip ys) → ∀ l, H2 l = none → Tz Q l H2 (ps.map V.ref)
theorem paired_of {α β : Type} {F : α → β → Prop} : ∀ {l : List α} {m : List β}, l.length = m.length → (∀ (i : Nat) (a : α) (b : β), l[i]? = some a → m[i]? = some b → F a b) → Paired F l m
  | [], [], _, _ => .nil
  | a :: l, b :: m, h, f => .cons (f 0 a b rfl rfl) (paired_of (by simpa using h) fun i a b h1 h2 => f (i + 1) a b (by simpa using h1) (by simpa using h2))
theorem vals_refs : ∀ ps : List Addr, Vals (ps.map V.ref) (ps.map Value.ref)
  | [] => .nil
  | _ :: ps => .cons rfl (vals_refs ps)
theorem pe_tupZip {x y : Expr} {t : TA} {p p2 p3 p4 : Pos} (hc : X.calm = true) (hg : Gl X "tuple") (hm : X.mg "tuple" = none) (hg2 : Gl X "zip") (hm2 : X.mg "zip" = none) (ha : PA X [x, y] t)
    (hs : starEach [.Call (.Name "zip" p2) [x, y] [] p3] X.env = (false, eval (.Call (.Name "zip" p2) [x, y] [] p3) X.env) :: starEach [] X.env)
    (hs2 : starEach [x, y] X.env = (false, eval x X.env) :: starEach [y] X.env) (hpl : (backTo p3 (starEach [y] X.env)).any (·.1) = false) :
    PE X (.Call (.Name "tuple" p) [.Call (.Name "zip" p2) [x, y] [] p3] [] p4) (tZip X.K t) := by
  refine ⟨fun pins s σ H Q I h => ?_⟩
  refine wpAny_Call_Name_kw (ld_blt I hg hm (u := .type "tuple") (by decide +kernel) ?_ (by decide +kernel) (by decide +kernel))
  refine PyProof.Rows.callWith_type1 ?_ hs rfl
  rw [hs]
  show wpAny _ _ (spliced ((false, eval (.Call (.Name "zip" p2) [x, y] [] p3) X.env) :: backTo p4 (starEach [] X.env))) _ _ s
  refine Calls.spliced_cons ?_
  refine wpAny_Call_Name_kw (ld_blt I hg2 hm2 (u := .type "zip") (by decide +kernel) ?_ (by decide +kernel) (by decide +kernel))
  refine PyProof.Rows.callWith_type1 (thn (ha.run p3 pins s σ H _ I h) fun us s1 ⟨vs, H1, I1, r1, q1⟩ => ?_) hs2 hpl
  obtain ⟨a, b, xs, ys, rfl, z1, z2, hlen, q⟩ := q1
  obtain ⟨u1, u2, rfl, ra, rb⟩ : ∃ u1 u2, us = [u1, u2] ∧ RelV a u1 ∧ RelV b u2 := by
    cases r1 with
    | cons h1 r1 => cases r1 with
      | cons h2 r1 => cases r1; exact ⟨_, _, rfl, h1, h2⟩
  obtain ⟨o1, G1, src1, P1, B1, g1, lt1, sz1, v1, d1⟩ := zsrc I1 z1 ra
  obtain ⟨o2, G2, src2, P2, B2, g2, lt2, sz2, v2, d2⟩ := zsrc I1 z2 rb
  refine zip_begins2 B1 B2 g1 g2 fun h' hz hTI hTO ho1 ho2 hsz hk => ?_
  show wpAny _ _ (spliced (backTo p4 (starEach [] X.env))) _ _ _
  refine Calls.spliced_nil ?_
  have n1 : ∀ k, s1.heap.objs.size + k ∉ src1 := fun k hm => absurd (lt1 _ hm) (Nat.not_lt.mpr (Nat.le_add_right _ _))
  have n2 : ∀ k, s1.heap.objs.size + k ∉ src2 := fun k hm => absurd (lt2 _ hm) (Nat.not_lt.mpr (Nat.le_add_right _ _))
  obtain ⟨St1, D1, b1⟩ := d1 s1.heap.objs.size (n1 0)
  obtain ⟨St2, D2, b2⟩ := d2 (s1.heap.objs.size + 1) (n2 1)
  have hh : X.A.handled = none := I1.ok.hd hc
  have c1 : s1.heap.objs.size ∉ src1 := n1 0
  have c2 : s1.heap.objs.size ∉ src2 := n2 0
  have SZ : ZipSep2 (s1.heap.objs.size + 4) (s1.heap.objs.size + 2) (s1.heap.objs.size + 3) s1.heap.objs.size (s1.heap.objs.size + 1) (s1.heap.objs.size :: src1) ((s1.heap.objs.size + 1) :: src2) := by
    have ne : ∀ i j : Nat, i ≠ j → s1.heap.objs.size + i ≠ s1.heap.objs.size + j := fun i j h e => h (Nat.add_left_cancel e)
    refine ⟨ne 2 4 (by decide), ne 3 4 (by decide), ne 2 3 (by decide), ne 2 0 (by decide), by simp, ?_, ?_, ne 2 1 (by decide), by simp, ?_, ?_, ?_, ?_⟩ <;> simp [n1, n2, c1, c2]
  have hst : Zst (s1.heap.objs.size + 4) (s1.heap.objs.size + 2) (s1.heap.objs.size + 3) s1.heap.objs.size (s1.heap.objs.size + 1) St1 St2 0 [] h' :=
    ⟨.inl ⟨_, _, hTO, hz⟩, hTI, b1 h' ho1 (B1.keeps _ _ g1 hk), b2 h' ho2 (B2.keeps _ _ g2 hk)⟩
  refine call_tuple_z (s := { s1 with heap := h' }) SZ (D1 _ hh) (D2 _ hh) (by omega) ⟨_, hz, rfl⟩ hst (fun b hb => ?_) fun h2 tk ps hk2 hac hl => ?_
  · show b < h'.objs.size
    rw [hsz]
    simp only [List.mem_cons, List.mem_append] at hb
    rcases hb with e | e | e | (e | e) | e | e
    · rw [e]; exact Nat.add_lt_add_left (by decide) _
    · rw [e]; exact Nat.add_lt_add_left (by decide) _
    · rw [e]; exact Nat.add_lt_add_left (by decide) _
    · rw [e]; exact Nat.lt_add_of_pos_right (by decide)
    · exact Nat.lt_of_lt_of_le (lt1 b e) (Nat.le_add_right _ _)
    · rw [e]; exact Nat.add_lt_add_left (by decide) _
    · exact Nat.lt_of_lt_of_le (lt2 b e) (Nat.le_add_right _ _)
  · have fr : ∀ c, s1.heap.objs.size ≤ c → FpOk X pins H1 c := fun c hc => I1.fpOk hc (I1.hok.fresh hc)
    have I2 : Inv X pins σ H1 { s1 with heap := h2, toks := tk } := by
      refine I1.turnedL (t' := tk) (ch := [s1.heap.objs.size + 4, s1.heap.objs.size + 3, s1.heap.objs.size, s1.heap.objs.size + 1]) (fun b o hb e => hk2 b o hb (hk b o e)) fun c hcm => fr c ?_
      simp only [List.mem_cons, List.not_mem_nil, or_false] at hcm
      rcases hcm with e | e | e | e <;> rw [e]
      · exact Nat.le_add_right _ _
      · exact Nat.le_add_right _ _
      · exact Nat.le_refl _
      · exact Nat.le_add_right _ _
    have hac2 : ∀ j p, ps[j]? = some p → h'.objs.size ≤ p ∧ ∃ x y, IsTupOf2 h2 p x y ∧ P1 j x ∧ P2 j y := fun j p hj => ⟨(hac.2 j p hj).1, (hac.2 j p hj).2.2⟩
    have hps : ∀ p ∈ ps, s1.heap.objs.size ≤ p := fun p hp => by
      obtain ⟨j, hj⟩ := List.getElem?_of_mem hp
      exact Nat.le_trans (Nat.le_trans (Nat.le_add_right _ 5) (Nat.le_of_eq hsz.symm)) (hac2 j p hj).1
    have hpl2 : ps.length = (xs.zip ys).length := by rw [hl, List.length_zip]
    have hpair : Paired (fun p (z : V × V) => ∃ x y, IsTupOf2 h2 p x y ∧ RelV z.1 x ∧ RelV z.2 y) ps (xs.zip ys) := by
      refine paired_of hpl2 fun i p z hp hzz => ?_
      obtain ⟨_, x, y, e, q1, q2⟩ := hac2 i p hp
      obtain ⟨w1, e1, r1⟩ := v1 i x q1
      obtain ⟨w2, e2, r2⟩ := v2 i y q2
      have e3 : (xs.zip ys)[i]? = some (w1, w2) := by rw [List.getElem?_zip_eq_some]; exact ⟨e1, e2⟩
      rw [hzz] at e3
      cases e3
      exact ⟨x, y, e, r1, r2⟩
    obtain ⟨H2, I3, k1, k2, k3⟩ := adopt_pairs (s := { s1 with heap := h2, toks := tk }) hpair I2 hac.1 fun p hp => fr p (hps p hp)
    have hno : H2 h2.objs.size = none := I3.hok.fresh (Nat.le_refl _)
    have hz3 : (ps.map V.ref).length ≤ sizeLine := by rw [List.length_map, hpl2, List.length_zip]; omega
    exact ep_tup (t' := tk) I3 (vals_refs ps) hz3 (q ps H2 k1 k2 (fun p hp => (fr p (hps p hp)).1) k3 _ hno)
end
end LD
/-! LD15: displays, subscripts, calls, methods. -/
namespace LD
open PySem L2

section
variable {Γ : Gm} {t : Tab} {C : Cn} {CX : CXT} {k : Nat} {Z : XK} {sc : Scope} {X : Cx}
theorem Aft.bindE {α β γ δ : Type} {rel : Hp → (Nat → Addr) → Nat → α → β → Prop} {rel2 : Hp → (Nat → Addr) → Nat → γ → δ → Prop} {H : Hp} {ι : Nat → Addr} {S : Sto} {r : R α} {f : α → Sto → R γ} {Q : δ → Hp → Prop} (s : Sim C H ι S) (h : Aft C Z rel2 (r.bind f) H ι S Q) :
    Aft C Z rel r H ι S fun b H1 => ∃ a ι1 S1, r = .ok a S1 ∧ Nx C H ι S H1 ι1 S1 ∧ rel H1 ι1 S1.length a b ∧ Aft C Z rel2 (f a S1) H1 ι1 S1 Q := by
  cases r with
  | ok a S' =>
    intro b H1 ι1 x hr
    exact ⟨a, ι1, S', rfl, x, hr, Aft.start s x h⟩
  | exc c fs S' => exact h
  | bad => exact h
theorem evs_len : ∀ {l : List E} {ρ : Rho} {S S' : Sto} {ws : List W}, evs t l ρ S = .ok ws S' → ws.length = l.length
  | [], ρ, S, S', ws, h => by
    simp only [evs] at h
    cases h
    rfl
  | e :: l, ρ, S, S', ws, h => by
    simp only [evs] at h
    cases h1 : ev t e ρ S with
    | ok w S1 =>
      rw [h1] at h
      simp only [R.bind] at h
      cases h2 : evs t l ρ S1 with
      | ok ws' S2 =>
        rw [h2] at h
        simp only at h
        cases h
        rw [List.length_cons, List.length_cons, evs_len h2]
      | exc _ _ _ => rw [h2] at h; cases h
      | bad => rw [h2] at h; cases h
    | exc _ _ _ => rw [h1] at h; cases h
    | bad => rw [h1] at h; cases h
theorem snd_nil : SEs t C Z X [] [] := paImp pa_nil fun σ H Q q => by
  obtain ⟨ρ, ι, S, s, se, a⟩ := q
  simp only [evs] at a
  exact Aft.ok (rel := WRs C) s .nil a
theorem snd_cons {e : E} {l : List E} {x : Expr} {xs : List Expr} (hn : noStar x = true) (h : SE t C Z X e x) (hr : SEs t C Z X l xs) : SEs t C Z X (e :: l) (x :: xs) := by
  refine paImp (pa_cons h hr (star_cons hn _ _)) fun σ H Q q => ?_
  obtain ⟨ρ, ι, S, s, se, a⟩ := q
  simp only [evs] at a
  refine ⟨ρ, ι, S, s, se, (Aft.bind s a).imp ?_⟩
  rintro v H1 ⟨w, ι1, S1, nx, r, a1⟩
  refine ⟨ρ, ι1, S1, nx.sim, nx.env se, (Aft.bind nx.sim a1).imp ?_⟩
  rintro vs H2 ⟨ws, ι2, S2, nx2, r2, a2⟩
  exact Aft.ok (rel := WRs C) nx2.sim (.cons (nx2.val r) r2) a2
/-- .. with the number of them -/
theorem tM_argsN {l : List E} {f : Rho → Sto → R W} {g : List W → Sto → R W} {σ : L2.St} {H : Hp} {Q : VK} (e : ∀ ρ S, f ρ S = (evs t l ρ S).bind g) (h : tM C Z f σ H Q) : tMs C Z (evs t l) σ H fun xs H1 => xs.length = l.length ∧ ∃ ι S ws, Sim C H1 ι S ∧ WRs C H1 ι S.length ws xs ∧ Aft C Z (WRp C) (g ws S) H1 ι S Q := by
  obtain ⟨ρ, ι, S, s, se, a⟩ := h
  rw [e] at a
  refine ⟨ρ, ι, S, s, se, (Aft.bindE s a).imp ?_⟩
  rintro xs H1 ⟨ws, ι1, S1, e1, nx, r, q⟩
  exact ⟨by rw [← pairLen r, evs_len e1], ι1, S1, ws, nx.sim, r, q⟩
theorem few_line {n : Nat} (h : n ≤ 1000) : n ≤ sizeLine := Nat.le_trans h (by decide)
theorem snd_tup {l : List E} {es : List Expr} {j : Nat} {p : Pos} (h : SEs t C Z X l es) (hl : l.length ≤ 1000) : SE t C Z X (.tup l) (.Tuple es j p) :=
  peImp (pe_tupZ h) fun σ H Q q => tMs_imp (tM_argsN (g := fun ws S => mkT ws S) (fun ρ S => by simp only [ev]) q) fun xs H1 q1 => by
    obtain ⟨hn, ι, S, ws, s, r, a⟩ := q1
    exact ⟨by rw [hn]; exact few_line hl, aft_mkT s r a⟩
theorem snd_lst {fz : Bool} {l : List E} {es : List Expr} {p : Pos} (h : SEs t C Z X l es) (hl : l.length ≤ 1000) : SE t C Z X (.lst fz l) (.List es p) :=
  peOfF (pe_lst h) fun σ H Q q => tMs_imp (tM_argsN (g := fun ws S => mkL fz ws S) (fun ρ S => by simp only [ev]) q) fun xs H1 q1 => by
    obtain ⟨hn, ι, S, ws, s, r, a⟩ := q1
    exact ⟨by rw [hn]; exact few_line hl, aft_mkLF s r a⟩
theorem snd_ix {a b : E} {x y : Expr} {p : Pos} (g : GX Γ t C CX k Z sc X) (ha : SE t C Z X a x) (hb : SE t C Z X b y) (hs : plainB y = true) : SE t C Z X (.ix a b) (.Subscript x y p) :=
  peImp (pe_ix (ix_M g.hC (by have := g.un; omega)) ha hb (plain_of hs)) fun σ H Q q => tM_op (fun ρ S => by simp only [ev]) q
theorem snd_slFrom {fz : Bool} {a lo : E} {x l : Expr} {p p2 : Pos} (g : GX Γ t C CX k Z sc X) (ha : SE t C Z X a x) (hl : SE t C Z X lo l) : SE t C Z X (.slFrom fz a lo) (.Subscript x (.Slice (some l) none none p2) p) := by
  refine peOfF (pe_slice (sl_M (C := C) (E := Z) g.hC fz) ha (po_some hl) po_none) fun σ H Q q => ?_
  refine tM_imp (tM_bind (k := fun x ρ S => (ev t lo ρ S).bind fun y S => match y with | .d (.int i) => slice fz x (some i) none S | _ => .bad) (fun ρ S => by simp only [ev]; try rfl) q) ?_
  rintro v H1 ⟨ρ, ι, S, w, s, se, r, a1⟩
  refine ⟨ρ, ι, S, s, se, (Aft.bind s a1).imp ?_⟩
  rintro v2 H2 ⟨w2, ι2, S2, nx, r2, a2⟩
  split at a2
  · exact ⟨_, rp_int r2, Q, ι2, S2, w, rfl, nx.sim, nx.val r, a2⟩
  · exact a2.elim
theorem snd_slTo {fz : Bool} {a lo : E} {x l : Expr} {p p2 : Pos} (g : GX Γ t C CX k Z sc X) (ha : SE t C Z X a x) (hl : SE t C Z X lo l) : SE t C Z X (.slTo fz a lo) (.Subscript x (.Slice none (some l) none p2) p) := by
  refine peOfF (pe_slice (sl_M (C := C) (E := Z) g.hC fz) ha po_none (po_some hl)) fun σ H Q q => ?_
  refine tM_imp (tM_bind (k := fun x ρ S => (ev t lo ρ S).bind fun y S => match y with | .d (.int i) => slice fz x none (some i) S | _ => .bad) (fun ρ S => by simp only [ev]; try rfl) q) ?_
  rintro v H1 ⟨ρ, ι, S, w, s, se, r, a1⟩
  refine ⟨ρ, ι, S, s, se, (Aft.bind s a1).imp ?_⟩
  rintro v2 H2 ⟨w2, ι2, S2, nx, r2, a2⟩
  split at a2
  · exact ⟨_, rp_int r2, Q, ι2, S2, w, rfl, nx.sim, nx.val r, a2⟩
  · exact a2.elim
theorem snd_slMid {fz : Bool} {a lo hi : E} {x l u : Expr} {p p2 : Pos} (g : GX Γ t C CX k Z sc X) (ha : SE t C Z X a x) (hl : SE t C Z X lo l) (hh : SE t C Z X hi u) : SE t C Z X (.slMid fz a lo hi) (.Subscript x (.Slice (some l) (some u) none p2) p) := by
  refine peOfF (pe_slice (sl_M (C := C) (E := Z) g.hC fz) ha (po_some hl) (po_some hh)) fun σ H Q q => ?_
  refine tM_imp (tM_bind (k := fun x ρ S => (ev t lo ρ S).bind fun y S => match y with | .d (.int i) => (ev t hi ρ S).bind fun z S => (match z with | .d (.int j) => slice fz x (some i) (some j) S | _ => .bad) | _ => .bad) (fun ρ S => by simp only [ev]; try rfl) q) ?_
  rintro v H1 ⟨ρ, ι, S, w, s, se, r, a1⟩
  refine ⟨ρ, ι, S, s, se, (Aft.bind s a1).imp ?_⟩
  rintro v2 H2 ⟨w2, ι2, S2, nx, r2, a2⟩
  split at a2
  · refine ⟨_, rp_int r2, ρ, ι2, S2, nx.sim, nx.env se, (Aft.bind nx.sim a2).imp ?_⟩
    rintro v3 H3 ⟨w3, ι3, S3, nx3, r3, a3⟩
    split at a3
    · exact ⟨_, rp_int r3, Q, ι3, S3, w, rfl, nx3.sim, nx3.val (nx.val r), a3⟩
    · exact a3.elim
  · exact a2.elim
/-! ### built-in functions -/
theorem bf_call {fz : Bool} (g : GX Γ t C CX k Z sc X) (f : BF) (n : Nat) (h : bfAr f = some n) :
    ((∃ id, CallR X (.builtin id) (rMsF C Z (builtin f fz)) ∧ bootBuiltins (bfNm f) = some (.builtin id)) ∨ (∃ T, CallR X (.type T) (rMsF C Z (builtin f fz)) ∧ bootBuiltins (bfNm f) = some (.type T))) ∧ bfNm f ∈ bltNames ∧ (bfNm f == ("__debug__" : Str)) = false ∧ bfNm f ≠ "__name__" := by
  have hu := g.un
  cases f <;> simp only [bfAr] at h <;> first | (cases h; done) | skip
  · exact ⟨.inl ⟨_, cr_len g.hC, by decide +kernel⟩, by decide +kernel, by decide +kernel, by decide +kernel⟩
  · exact ⟨.inl ⟨_, cr_allM g.hC g.calm, by decide +kernel⟩, by decide +kernel, by decide +kernel, by decide +kernel⟩
  · exact ⟨.inl ⟨_, cr_anyM g.hC g.calm, by decide +kernel⟩, by decide +kernel, by decide +kernel, by decide +kernel⟩
  · exact ⟨.inl ⟨_, cr_absM, by decide +kernel⟩, by decide +kernel, by decide +kernel, by decide +kernel⟩
  · exact ⟨.inl ⟨_, cr_max1M g.calm, by decide +kernel⟩, by decide +kernel, by decide +kernel, by decide +kernel⟩
  · exact ⟨.inl ⟨_, cr_max2M g.calm, by decide +kernel⟩, by decide +kernel, by decide +kernel, by decide +kernel⟩
  · exact ⟨.inl ⟨_, cr_min1M g.calm, by decide +kernel⟩, by decide +kernel, by decide +kernel, by decide +kernel⟩
  · exact ⟨.inl ⟨_, cr_min2M g.calm, by decide +kernel⟩, by decide +kernel, by decide +kernel, by decide +kernel⟩
  · exact ⟨.inl ⟨_, cr_sumM g.calm, by decide +kernel⟩, by decide +kernel, by decide +kernel, by decide +kernel⟩
  · exact ⟨.inl ⟨_, cr_sortedM g.hC g.calm (by omega), by decide +kernel⟩, by decide +kernel, by decide +kernel, by decide +kernel⟩
  · exact ⟨.inr ⟨_, cr_tupleM g.hC, by decide +kernel⟩, by decide +kernel, by decide +kernel, by decide +kernel⟩
  · exact ⟨.inr ⟨_, cr_listM g.hC g.calm, by decide +kernel⟩, by decide +kernel, by decide +kernel, by decide +kernel⟩
  · exact ⟨.inr ⟨_, cr_dictM g.hC g.calm, by decide +kernel⟩, by decide +kernel, by decide +kernel, by decide +kernel⟩
  · exact ⟨.inr ⟨_, cr_strM, by decide +kernel⟩, by decide +kernel, by decide +kernel, by decide +kernel⟩
  · exact ⟨.inr ⟨_, cr_intM, by decide +kernel⟩, by decide +kernel, by decide +kernel, by decide +kernel⟩
  · exact ⟨.inl ⟨_, cr_reprM g.hC g.gd hu, by decide +kernel⟩, by decide +kernel, by decide +kernel, by decide +kernel⟩
theorem snd_bc {f : BF} {fz : Bool} {l : List E} {x : Expr} {xs : List Expr} {n : Nat} {p p2 : Pos} (g : GX Γ t C CX k Z sc X) (hf : bfAr f = some n) (hg : glB sc (bfNm f) = true) (h : SEs t C Z X l (x :: xs)) (hs : (x :: xs).all noStar = true) :
    SE t C Z X (.bc f fz l) (.Call (.Name (bfNm f) p) (x :: xs) [] p2) := by
  obtain ⟨hc, hb, h1, h2⟩ := bf_call (fz := fz) g f n hf
  have hm := g.blt _ hb
  simp only [List.all_cons, Bool.and_eq_true] at hs
  refine peOfF (u := tCB (rMsF C Z (builtin f fz)) (tMs C Z (evs t l))) ?_ fun σ H Q q => tM_argsF (fun ρ S => by simp only [ev]) q
  rcases hc with ⟨id, hc, hv⟩ | ⟨T, hc, hv⟩
  · exact pe_callB hc (g.gl hg) hm hv h h2 h1 (star_cons hs.1 _ _) (star_none _ _ hs.2 _)
  · exact pe_callTy hc (g.gl hg) hm hv h h2 h1 (star_cons hs.1 _ _) (star_none _ _ hs.2 _)
/-- isinstance(x, T) -/
theorem snd_is {f : BF} {fz : Bool} {a : E} {x : Expr} {ty : Str} {p p2 p3 : Pos} (g : GX Γ t C CX k Z sc X) (hf : kTy f = some ty) (hg : glB sc "isinstance" = true) (hg2 : glB sc ty = true) (h : SE t C Z X a x) (hs : noStar x = true) :
    SE t C Z X (.bc f fz [a]) (.Call (.Name "isinstance" p) [x, .Name ty p3] [] p2) := by
  have hb : bootBuiltins ty = some (.type (kNm f)) ∧ ty ∈ bltNames ∧ (ty == ("__debug__" : Str)) = false ∧ ty ≠ "__name__" ∧ ∀ w S, builtin f fz [w] S = isRes f w S := by
    cases f <;> simp only [kTy] at hf <;> first | (cases hf; done) | (cases hf; exact ⟨by decide +kernel, by decide +kernel, by decide +kernel, by decide +kernel, fun _ _ => rfl⟩)
  obtain ⟨b1, b2, b3, b4, b5⟩ := hb
  have hty : PE X (.Name ty p3) (tC (.ty (kNm f))) := pe_bltn (g.gl hg2) (g.blt _ b2) b1 rfl b4 b3
  refine peOfF (pe_callB (cr_isM (E := Z) g.hC f) (g.gl hg) (g.blt _ (by decide +kernel)) (by decide +kernel) (pa_cons h (pa_cons hty pa_nil (star_cons rfl _ _)) (star_cons hs _ _)) (by decide +kernel) (by decide +kernel) (star_cons hs _ _) (star_none _ _ (by rfl) _)) fun σ H Q q => ?_
  refine tM_imp (tM_un (k := isRes f) (fun ρ S => ?_) q) ?_
  · simp only [ev, evs]
    cases ev t a ρ S with
    | ok w S => simp only [R.bind, b5]
    | exc _ _ _ => rfl
    | bad => rfl
  · rintro v H1 ⟨ι, S, w, sm, r, a1⟩
    exact ⟨Q, v, ι, S, w, rfl, rfl, sm, r, a1⟩
theorem evs_two (a b : E) (ρ : Rho) (S : Sto) (g : List W → Sto → R W) : ((evs t [a, b] ρ S).bind g) = (ev t a ρ S).bind fun w S => (ev t b ρ S).bind fun w' S => g [w, w'] S := by
  simp only [evs]
  cases ev t a ρ S with
  | ok w S1 =>
    simp only [R.bind]
    cases ev t b ρ S1 <;> rfl
  | exc _ _ _ => rfl
  | bad => rfl
/-- min(l, default = z) -/
theorem snd_minD {fz : Bool} {a b : E} {x y : Expr} {p p2 p3 : Pos} (g : GX Γ t C CX k Z sc X) (hg : glB sc "min" = true) (ha : SE t C Z X a x) (hb : SE t C Z X b y) (hs : noStar x = true) :
    SE t C Z X (.bc .min1d fz [a, b]) (.Call (.Name "min" p) [x] [⟨some "default", y, p3⟩] p2) := by
  have hst : starEach [x] X.env = (false, eval x X.env) :: starEach [] X.env := star_cons hs _ _
  refine peOfF (pe_callBK (cr_minD (E := Z) (C := C) (fz := fz) g.hC g.calm g.un) (g.gl hg) (g.blt _ (by decide +kernel)) (by decide +kernel) (pa_cons ha pa_nil hst) (pk_cons hb pk_nil) (by decide +kernel) (by decide +kernel) ?_ ?_ rfl rfl rfl) fun σ H Q q => ?_
  · rw [hst]; rfl
  · rw [hst]; rfl
  · have q2 := tM_bind (fa := ev t a) (k := fun w ρ S => (ev t b ρ S).bind fun w' S => builtin .min1d fz [w, w'] S) (fun ρ S => by simp only [ev]; exact evs_two a b ρ S _) q
    refine tM_imp q2 ?_
    rintro v H1 ⟨ρ, ι, S, w, s1, se1, r1, a1⟩
    refine ⟨ρ, ι, S, s1, se1, (Aft.bind s1 a1).imp ?_⟩
    rintro v2 H2 ⟨w', ι2, S2, nx, r2, a2⟩
    exact ⟨Q, rfl, ι2, S2, [w, w'], nx.sim, .cons (nx.val r1) (.cons r2 .nil), rfl, a2⟩
/-! ### methods -/
/-- the thing is of the builtin type T -/
def tyP (K : PySem.W.Frag) (T : String) (x : V) (H : Hp) : Prop := (T = "str" ∧ ∃ s, x = .str s) ∨ (T = "list" ∧ ∃ p xs, x = .ref p ∧ SqL K H p xs) ∨ (T = "dict" ∧ ∃ p kvs, x = .ref p ∧ Rd H p (.dK kvs))
theorem tyP_is {pins : List (Addr × Obj)} {σ : L2.St} {H : Hp} {s : Shared} {T : String} {x : V} {v : Value} (I : Inv X pins σ H s) (r : RelV x v) (ty : tyP X.K T x H) :
    s.TypeIs v T ∧ ∀ a, v = .ref a → ∃ ob, s.heap.get? a = some ob ∧ ob.dict = none := by
  rcases ty with ⟨rfl, z, rfl⟩ | ⟨rfl, p, xs, rfl, hq⟩ | ⟨rfl, p, kvs, rfl, hq⟩
  · obtain ⟨t, rfl⟩ := r
    exact ⟨typeIs_str s z t, fun _ e => nomatch e⟩
  · cases r
    obtain ⟨its, _, pl, _⟩ := I.list hq
    refine ⟨pl.isList.typeIs, fun a e => ?_⟩
    cases e
    obtain ⟨o, n, e, c, hd, _⟩ := pl
    exact ⟨o, e, hd⟩
  · cases r
    obtain ⟨t1, t2, _⟩ := isD_at I (.inl ⟨kvs, hq⟩)
    exact ⟨t1, t2⟩
def tMtP (K : PySem.W.Frag) (T : String) (r : V → List V → Hp → VK → Prop) (to : TE) (ta : TA) : TE := fun σ H Q => to σ H fun x H1 => tyP K T x H1 ∧ ta σ H1 fun xs H2 => r x xs H2 Q
theorem pe_mtP {T id : String} {name : Str} {o e : Expr} {es : List Expr} {to : TE} {ta : TA} {apos cpos : Pos} {r : V → List V → Hp → VK → Prop} (pa : PlainAttrs T) (slot : Slot T name id) (hty : typeOf (.builtin id) = pure (.type "method_descriptor")) (hm : MtR X id r) (ho : PE X o to) (ha : PA X (e :: es) ta)
    (hb : baseB o = true) (hs : (e :: es).all noStar = true) (hl : (e :: es).length < 20) (hline : (apos.endLine == cpos.line) = true) :
    PE X (.Call (.Attribute o name apos) (e :: es) [] cpos) (tMtP X.K T r to ta) := by
  refine ⟨fun pins s σ H Q I h => ?_⟩
  have hst : starEach (e :: es) X.env = (false, eval e X.env) :: starEach es X.env := by
    simp only [List.all_cons, Bool.and_eq_true] at hs
    exact star_cons hs.1 _ _
  have hpl : (backTo cpos (starEach es X.env)).any (·.1) = false := by
    simp only [List.all_cons, Bool.and_eq_true] at hs
    exact star_none _ _ hs.2 _
  have hfew : ((backTo cpos (starEach (e :: es) X.env)).all (fun x => !x.1) && (backToKw cpos (keywordEach [] X.env)).all (fun x => x.1.isSome)
      && decide ((e :: es).length + ([] : List Keyword).length + (if ([] : List Keyword).isEmpty then 0 else 1) < 30)) = true := by
    rw [star_all _ _ hs]
    simp only [Bool.true_and, Bool.and_eq_true, decide_eq_true_eq]
    refine ⟨rfl, ?_⟩
    show (e :: es).length + 0 + 0 < 30
    omega
  refine wpAny_Call_method_late (base_of hb name X.env _) hfew hline rfl (thn (ho.run pins s σ H _ I h) fun v s1 ⟨x, H1, I1, r1, ty, q1⟩ => ?_)
  obtain ⟨h1, h2⟩ := tyP_is I1 r1 ty
  refine ⟨T, id, pa, slot, hty, h1, h2, ?_⟩
  have hA := ha.run cpos pins s1 σ H1 _ I1 q1
  rw [hst] at hA ⊢
  refine Calls.callWith_builtin (by show (false || (backTo cpos (starEach es X.env)).any (·.1)) = false; rw [hpl]; rfl) (Calls.evalArgs_plain ?_)
  exact thn hA fun us s2 ⟨vs, H2, I2, r2, q2⟩ => hm pins s2 σ H2 x vs v us Q I2 r1 r2 q2
theorem pe_mtP0 {T id : String} {name : Str} {o : Expr} {to : TE} {apos cpos : Pos} {r : V → List V → Hp → VK → Prop} (pa : PlainAttrs T) (slot : Slot T name id) (hty : typeOf (.builtin id) = pure (.type "method_descriptor")) (hm : MtR X id r) (ho : PE X o to)
    (hb : baseB o = true) (hline : (apos.endLine == cpos.line) = true) : PE X (.Call (.Attribute o name apos) [] [] cpos) (tMtP X.K T r to tNil) := by
  refine ⟨fun pins s σ H Q I h => ?_⟩
  refine wpAny_Call_method0_late (base_of hb name X.env _) hline (thn (ho.run pins s σ H _ I h) fun v s1 ⟨x, H1, I1, r1, ty, q1⟩ => ?_)
  obtain ⟨h1, h2⟩ := tyP_is I1 r1 ty
  exact ⟨T, id, pa, slot, hty, h1, h2, Calls.callWith_builtin rfl (PySem.evalArgs_none (hm pins s1 σ H1 x [] v [] Q I1 r1 .nil q1))⟩
def mfTy : MF → String
  | .join | .split | .partition => "str"
  | .get1 | .get2 | .values | .update => "dict"
  | _ => "list"
theorem mf_call {fz : Bool} (g : GX Γ t C CX k Z sc X) (m : MF) (n : Nat) (h : mfAr m = some n) :
    ∃ id, PlainAttrs (mfTy m) ∧ Slot (mfTy m) (mfNm m) id ∧ typeOf (.builtin id) = pure (.type "method_descriptor") ∧ MtR X id (rMmF C Z (method m fz)) := by
  have hu := g.un
  cases m <;> simp only [mfAr] at h <;> first | (cases h; done) | skip
  · exact ⟨_, F.plainAttrs_list, F.slot_list_append, F.type_list_append, mm_append⟩
  · exact ⟨_, F.plainAttrs_list, F.slot_list_extend, F.type_list_extend, mm_extend⟩
  · exact ⟨_, F.plainAttrs_list, F.slot_list_insert, F.type_list_insert, mm_insert⟩
  · exact ⟨_, F.plainAttrs_list, F.slot_list_pop, F.type_list_pop, mm_pop0⟩
  · exact ⟨_, F.plainAttrs_list, F.slot_list_pop, F.type_list_pop, mm_pop1⟩
  · exact ⟨_, F.plainAttrs_str, F.slot_str_join, F.type_str_join, mm_join g.hC⟩
  · exact ⟨_, F.plainAttrs_str, F.slot_str_split, F.type_str_split, mm_split⟩
  · exact ⟨_, F.plainAttrs_str, F.slot_str_partition, F.type_str_partition, mm_partition⟩
  · exact ⟨_, F.plainAttrs_dict, F.slot_dict_get, F.type_dict_get, mm_get1 (by omega)⟩
  · exact ⟨_, F.plainAttrs_dict, F.slot_dict_get, F.type_dict_get, mm_get2 (by omega)⟩
theorem kind_ty {H : Hp} {ι : Nat → Addr} {S : Sto} {m : MF} {w : W} {v : V} (hC : C.K = X.K) (s : Sim C H ι S) (h : kindOk m w S = true) (r : WRp C H ι S.length w v) : tyP X.K (mfTy m) v H := by
  have hl : (lsOf w S).isSome = true → tyP X.K "list" v H := fun h => by
    obtain ⟨l, e⟩ := Option.isSome_iff_exists.mp h
    obtain ⟨p, xs, rfl, _, q⟩ := lsOf_rel s e r
    rw [hC] at q
    exact .inr (.inl ⟨rfl, p, xs, rfl, q⟩)
  have hd : (dictOf w S).isSome = true → tyP X.K "dict" v H := fun h => by
    obtain ⟨l, e⟩ := Option.isSome_iff_exists.mp h
    obtain ⟨p, xs, rfl, _, q⟩ := dictOf_rel s e r
    exact .inr (.inr ⟨rfl, p, xs, rfl, q⟩)
  have hs : isStrW w = true → tyP X.K "str" v H := fun h => by
    cases w with
    | d x => cases x <;> first | exact .inl ⟨rfl, _, rp_str r⟩ | (simp [isStrW] at h)
    | ref n => simp [isStrW] at h
  cases m <;> first | exact hl h | exact hd h | exact hs h
theorem snd_mtT {m : MF} {fz : Bool} {o : E} {l : List E} {σ : L2.St} {H : Hp} {Q : VK} (g : GX Γ t C CX k Z sc X) (q : tM C Z (ev t (.mt m fz o l)) σ H Q) : tMtP X.K (mfTy m) (rMmF C Z (method m fz)) (tM C Z (ev t o)) (tMs C Z (evs t l)) σ H (Fz Q) := by
  refine tM_imp (tM_bind (k := fun x ρ S => if kindOk m x S = true then (evs t l ρ S).bind fun ws S => method m fz x ws S else .bad) (fun ρ S => by simp only [ev]) q) ?_
  rintro v H1 ⟨ρ, ι, S, w, s1, se1, r1, a1⟩
  split at a1
  · rename_i hk
    refine ⟨kind_ty g.hC s1 hk r1, ρ, ι, S, s1, se1, (Aft.bind s1 a1).imp ?_⟩
    rintro vs H2 ⟨ws, ι2, S2, nx, r2, a2⟩
    exact ⟨Q, rfl, ι2, S2, w, ws, nx.sim, nx.val r1, r2, a2⟩
  · exact a1.elim
theorem snd_mt {m : MF} {fz : Bool} {o : E} {l : List E} {x e : Expr} {es : List Expr} {n : Nat} {ap cp : Pos} (g : GX Γ t C CX k Z sc X) (hm : mfAr m = some n) (ho : SE t C Z X o x) (h : SEs t C Z X l (e :: es)) (hb : baseB x = true) (hs : (e :: es).all noStar = true) (hn : (e :: es).length < 20) (hl : (ap.endLine == cp.line) = true) :
    SE t C Z X (.mt m fz o l) (.Call (.Attribute x (mfNm m) ap) (e :: es) [] cp) := by
  obtain ⟨id, h1, h2, h3, h4⟩ := mf_call (fz := fz) g m n hm
  exact peOfF (pe_mtP h1 h2 h3 h4 ho h hb hs hn hl) fun σ H Q q => snd_mtT g q
theorem snd_mt0 {m : MF} {fz : Bool} {o : E} {x : Expr} {n : Nat} {ap cp : Pos} (g : GX Γ t C CX k Z sc X) (hm : mfAr m = some n) (ho : SE t C Z X o x) (hb : baseB x = true) (hl : (ap.endLine == cp.line) = true) :
    SE t C Z X (.mt m fz o []) (.Call (.Attribute x (mfNm m) ap) [] [] cp) := by
  obtain ⟨id, h1, h2, h3, h4⟩ := mf_call (fz := fz) g m n hm
  refine peOfF (pe_mtP0 h1 h2 h3 h4 ho hb hl) fun σ H Q q => ?_
  refine tM_imp (snd_mtT g q) fun v H1 q1 => ⟨q1.1, ?_⟩
  obtain ⟨ρ, ι, S, s, se, a⟩ := q1.2
  simp only [evs] at a
  exact Aft.ok (rel := WRs C) s .nil a
end
end LD
/-! LD27: tuple(zip(a, b)). -/
namespace LD
open PySem L2
section
variable {C : Cn} {H H' : Hp} {ι : Nat → Addr} {S : Sto} {L : Nat}
theorem zipSrc_rel {w : W} {l : List W} {v : V} (s : Sim C H ι S) (h : zipSrc w S = some l) (r : WRp C H ι S.length w v) : ∃ xs, ZSrc C.K H v xs ∧ WRs C H ι S.length l xs := by
  unfold zipSrc at h
  split at h
  · rename_i t
    cases h
    have r' : v = .str (sT t) ∧ t.length ≤ LIM := by simpa only [WRp, RpD] using r
    exact ⟨_, .inr (.inr ⟨t, r'.1, r'.2, rfl⟩), chars_rel t⟩
  · obtain ⟨a, xs, e, h1, h2⟩ := seqOf_rel s h r
    rcases h2 with h2 | h2
    · exact ⟨xs, .inl ⟨a, e, h2⟩, h1⟩
    · exact ⟨xs, .inr (.inl ⟨a, e, h2⟩), h1⟩
theorem pair_len : ∀ {l m : List W} {ds : List D}, pairDs l m = some ds → l.length = m.length
  | [], [], _, _ => rfl
  | .d x :: l, .d y :: m, ds, h => by
    simp only [pairDs, Option.map_eq_some_iff] at h
    obtain ⟨es, h1, _⟩ := h
    simp [pair_len h1]
  | [], _ :: _, _, h => by simp [pairDs] at h
  | .d _ :: _, [], _, h => by simp [pairDs] at h
  | .ref _ :: _, _, _, h => by simp [pairDs] at h
  | .d _ :: _, .ref _ :: _, _, h => by simp [pairDs] at h
theorem pair_rel (k : Keeps H H') : ∀ {l m : List W} {ds : List D} {xs ys : List V} {ps : List Addr}, pairDs l m = some ds → WRs C H ι L l xs → WRs C H ι L m ys →
    Paired (fun p (z : V × V) => ∃ o : Obj, o.dict = none ∧ H' p = some (.frz o (.tup [z.1, z.2]))) ps (xs.zip ys) → RpDs C H' ds (ps.map V.ref)
  | [], [], ds, _, _, ps, h, .nil, .nil, hp => by
    simp only [pairDs, Option.some.injEq] at h
    subst h
    cases hp
    simp [RpDs]
  | .d x :: l, .d y :: m, ds, _, _, ps, h, .cons r1 t1, .cons r2 t2, hp => by
    simp only [pairDs, Option.map_eq_some_iff] at h
    obtain ⟨es, h1, rfl⟩ := h
    cases hp with
    | cons q qs =>
      obtain ⟨o, ho, hq⟩ := q
      simp only [List.map_cons, RpDs]
      refine ⟨_, _, rfl, ?_, pair_rel k h1 t1 t2 qs⟩
      simp only [RpD]
      refine ⟨_, _, rfl, .inl ⟨o, hq, ho⟩, ?_⟩
      simp only [RpDs]
      exact ⟨_, _, rfl, RpD.mono k r1, _, _, rfl, RpD.mono k r2, rfl⟩
  | [], _ :: _, _, _, _, _, h, _, _, _ => by simp [pairDs] at h
  | .d _ :: _, [], _, _, _, _, h, _, _, _ => by simp [pairDs] at h
  | .ref _ :: _, _, _, _, _, _, h, _, _, _ => by simp [pairDs] at h
  | .d _ :: _, .ref _ :: _, _, _, _, _, h, _, _, _ => by simp [pairDs] at h
end
section
variable {Γ : Gm} {t : Tab} {C : Cn} {CX : CXT} {k : Nat} {Z : XK} {sc : Scope} {X : Cx}
theorem snd_tupZip {fz : Bool} {a b : E} {x y : Expr} {p p2 p3 p4 : Pos} (g : GX Γ t C CX k Z sc X) (hg : glB sc "tuple" = true) (hg2 : glB sc "zip" = true) (h : SEs t C Z X [a, b] [x, y]) (hs : [x, y].all noStar = true) :
    SE t C Z X (.bc .tupZip fz [a, b]) (.Call (.Name "tuple" p) [.Call (.Name "zip" p2) [x, y] [] p3] [] p4) := by
  have hss := hs
  simp only [List.all_cons, Bool.and_eq_true] at hs
  refine peImp (pe_tupZip g.calm (g.gl hg) (g.blt _ (by decide +kernel)) (g.gl hg2) (g.blt _ (by decide +kernel)) h (star_cons rfl _ _) (star_cons hs.1 _ _) (star_none _ _ (by simp [hs.2]) _)) fun σ H Q q => ?_
  refine tMs_imp (tM_argsN (g := fun ws S => builtin .tupZip fz ws S) (fun ρ S => by simp only [ev]) q) ?_
  rintro vs H1 ⟨hn, ι, S, ws, sm, r, a⟩
  unfold builtin at a
  split at a <;> try contradiction
  rename_i wa wb
  split at a
  · rename_i l m e1 e2
    split at a
    · rename_i ds hd
      cases r with
      | cons r1 r => cases r with
        | cons r2 r =>
          cases r
          obtain ⟨xs, z1, q1⟩ := zipSrc_rel sm e1 r1
          obtain ⟨ys, z2, q2⟩ := zipSrc_rel sm e2 r2
          rw [g.hC] at z1 z2
          refine ⟨_, _, xs, ys, rfl, z1, z2, by rw [← pairLen q1, ← pairLen q2]; exact pair_len hd, fun ps H2 k1 k2 k3 hp l hl => .inl fun o ho => ?_⟩
          have nx : Nx C H1 ι S H2 ι S := ⟨Nat.le_refl _, fun _ _ => rfl, fun _ a b => absurd (Nat.lt_of_lt_of_le b a) (Nat.lt_irrefl _), fun a o h _ => k1 a o h, fun a o h _ => k1 a o h,
            ⟨fun n o h => (sm.at' n o h).mono (fun a o h _ => k1 a o h) (Nat.le_refl _) (fun _ _ => rfl) fun u h => k1 _ u h, sm.inj⟩⟩
          have nx2 := Nx.tmp nx.sim hl (.frz o (.tup (ps.map V.ref)))
          refine a _ _ ι (Nx.trans sm nx nx2) ?_
          show RpD C _ (.tup ds) _
          simp only [RpD]
          exact ⟨l, _, rfl, .inl ⟨o, upd_same, ho⟩, (pair_rel nx.sta hd q1 q2 hp).mono nx2.sta⟩
    · exact a.elim
  · exact a.elim
end
end LD
/-! LD16: calls of the text's own defs; dict displays. -/
namespace LD
open PySem L2

section
variable {C : Cn} {Z : XK} {H H' : Hp} {ι ι' : Nat → Addr} {L L' : Nat}
theorem wr_free {w : W} {v : V} {x : D} (h : w = .d x) (r : WRp C H ι L w v) : WRp C H ι' L' w v := by
  subst h
  exact r
theorem wrs_free : ∀ {ws : List W} {vs : List V}, (datas ws).isSome = true → WRs C H ι L ws vs → WRs C H ι' L' ws vs
  | _, _, _, .nil => .nil
  | .d x :: ws, _, h, .cons r t => by
    refine .cons r (wrs_free ?_ t)
    simp only [datas, Option.isSome_map] at h
    exact h
  | .ref n :: ws, _, h, .cons r t => by simp [datas] at h
theorem krs_free : ∀ {l : List (Ky × W)} {vs : List (Key × V)}, (datas (l.map (·.2))).isSome = true → KRs C H ι L l vs → KRs C H ι' L' l vs
  | _, _, _, .nil => .nil
  | (k, .d x) :: ws, _, h, .cons r t => by
    refine .cons r (krs_free ?_ t)
    simp only [List.map_cons, datas, Option.isSome_map] at h
    exact h
  | (k, .ref n) :: ws, _, h, .cons r t => by simp [datas] at h
theorem frs_free : ∀ {l : List (List Nat × W)} {vs : List (Str × V)}, (datas (l.map (·.2))).isSome = true → FRs C H ι L l vs → FRs C H ι' L' l vs
  | _, _, _, .nil => .nil
  | (k, .d x) :: ws, _, h, .cons r t => by
    refine .cons r (frs_free ?_ t)
    simp only [List.map_cons, datas, Option.isSome_map] at h
    exact h
  | (k, .ref n) :: ws, _, h, .cons r t => by simp [datas] at h
theorem orp_free {o : O} {a : Addr} (h : flatO o = true) (r : ORp C H ι L o a) : ORp C H ι' L' o a := by
  cases o with
  | lst ws => obtain ⟨xs, h1, h2⟩ := r; exact ⟨xs, h1, wrs_free h h2⟩
  | dct l => obtain ⟨xs, h1, h2⟩ := r; exact ⟨xs, h1, krs_free h h2⟩
  | tup _ => simp [flatO] at h
  | ins _ _ => simp [flatO] at h
  | exc _ _ => simp [flatO] at h
  | dead => simp [flatO] at h
theorem getAll_at {S : Sto} : ∀ {rs : List Nat} {T : Sto}, getAll S rs = some T → T.length = rs.length ∧ ∀ (k n : Nat), rs[k]? = some n → ∃ o : O, S[n]? = some o ∧ flatO o = true ∧ T[k]? = some o
  | [], T, h => by
    simp only [getAll, Option.some.injEq] at h
    subst h
    exact ⟨rfl, fun k n e => by simp at e⟩
  | r :: rs, T, h => by
    simp only [getAll] at h
    split at h
    · rename_i o e
      split at h
      · rename_i f
        obtain ⟨T', hT, rfl⟩ := Option.map_eq_some_iff.mp h
        obtain ⟨h1, h2⟩ := getAll_at hT
        refine ⟨by simp [h1], fun k n e' => ?_⟩
        cases k with
        | zero =>
          simp only [List.getElem?_cons_zero, Option.some.injEq] at e'
          subst e'
          exact ⟨o, e, f, rfl⟩
        | succ k =>
          obtain ⟨o', g1, g2, g3⟩ := h2 k n (by simpa using e')
          exact ⟨o', g1, g2, by simpa using g3⟩
      · cases h
    · cases h
theorem putBack_len : ∀ (rs : List Nat) (T S : Sto), (putBack S rs T).length = S.length
  | [], T, _ => by cases T <;> rfl
  | _ :: _, [], _ => rfl
  | n :: rs, o :: T, S => by
    show (putBack (S.set n o) rs T).length = _
    rw [putBack_len rs T, List.length_set]
theorem putBack_out : ∀ (rs : List Nat) (T S : Sto) (n : Nat), n ∉ rs → (putBack S rs T)[n]? = S[n]?
  | [], T, _, _, _ => by cases T <;> rfl
  | _ :: _, [], _, _, _ => rfl
  | m :: rs, o :: T, S, n, h => by
    show (putBack (S.set m o) rs T)[n]? = _
    rw [putBack_out rs T _ n fun z => h (List.mem_cons_of_mem _ z), List.getElem?_set_ne fun e => h (by rw [e]; simp)]
theorem putBack_in : ∀ (rs : List Nat) (T S : Sto) (k n : Nat), rs.Nodup → rs.length ≤ T.length → rs[k]? = some n → n < S.length → (putBack S rs T)[n]? = T[k]?
  | [], _, _, _, _, _, _, h, _ => by simp at h
  | _ :: _, [], _, _, _, _, h, _, _ => by simp at h
  | m :: rs, o :: T, S, k, n, nd, hl, e, hn => by
    show (putBack (S.set m o) rs T)[n]? = _
    cases k with
    | zero =>
      simp only [List.getElem?_cons_zero, Option.some.injEq] at e
      subst e
      rw [putBack_out rs T _ m (List.nodup_cons.mp nd).1, List.getElem?_set_self hn]
      rfl
    | succ k =>
      have := putBack_in rs T (S.set m o) k n (List.nodup_cons.mp nd).2 (by simpa using hl) (by simpa using e) (by simpa using hn)
      rw [this]
      rfl
theorem renum_rel {ι2 : Nat → Addr} : ∀ {ws : List W} {vs : List V} (k : Nat), WRs C H ι L ws vs → (∀ j n, (refsOf ws)[j]? = some n → ι2 (k + j) = ι n) → k + (refsOf ws).length ≤ L' → WRs C H ι2 L' (renum k ws) vs
  | _, _, _, .nil, _, _ => .nil
  | .d x :: ws, _, k, .cons r t, h, hl => .cons r (renum_rel k t h hl)
  | .ref n :: ws, _, k, .cons r t, h, hl => by
    simp only [refsOf, List.length_cons] at hl
    refine .cons ⟨by omega, ?_⟩ (renum_rel (k + 1) t (fun j m e => ?_) (by omega))
    · rw [r.2]
      have := h 0 n rfl
      rw [Nat.add_zero] at this
      rw [this]
    · have := h (j + 1) m (by simpa [refsOf] using e)
      rw [← this]
      congr 1
      omega
theorem refs_lt {S : Sto} : ∀ {ws : List W} {vs : List V}, WRs C H ι S.length ws vs → ∀ n ∈ refsOf ws, n < S.length
  | _, _, .nil, n, h => by simp [refsOf] at h
  | .d x :: ws, _, .cons r t, n, h => refs_lt t n h
  | .ref m :: ws, _, .cons r t, n, h => by
    simp only [refsOf, List.mem_cons] at h
    rcases h with rfl | h
    · exact r.1
    · exact refs_lt t n h
/-- a call that sees the handed-in cells alone -/
theorem loc_sp {f : FnS} {S : Sto} {ws : List W} {vs : List V} {Q : VK} {n : Nat} (s : Sim C H ι S) (r : WRs C H ι S.length ws vs) (hn : vs.length = n) (a : Aft C Z (WRp C) (callLoc f ws S) H ι S Q) : spOf C f n vs H Q Z := by
  unfold callLoc at a
  split at a
  · rename_i T hT
    split at a
    · rename_i hnd
      have nd := of_decide_eq_true hnd
      obtain ⟨tl, tg⟩ := getAll_at hT
      have lt := refs_lt r
      let ι2 : Nat → Addr := fun k => ι ((refsOf ws).getD k 0)
      have i2 : ∀ k n, (refsOf ws)[k]? = some n → ι2 k = ι n := fun k n e => by simp [ι2, List.getD, e]
      have at2 : ∀ k, k < T.length → ∃ n, (refsOf ws)[k]? = some n ∧ n < S.length := fun k hk => by
        have hk' : k < (refsOf ws).length := by omega
        exact ⟨(refsOf ws)[k], List.getElem?_eq_getElem hk', lt _ (List.getElem_mem hk')⟩
      have sT : Sim C H ι2 T := by
        refine ⟨fun k o e => ?_, fun k j hk hj e => ?_⟩
        · have hk := (List.getElem?_eq_some_iff.mp e).1
          obtain ⟨n, hn, _⟩ := at2 k hk
          obtain ⟨o', g1, g2, g3⟩ := tg k n hn
          rw [g3] at e
          cases e
          rw [i2 k n hn]
          exact orp_free g2 (s.at' n o g1)
        · obtain ⟨m, hm, lm⟩ := at2 k hk
          obtain ⟨m', hm', lm'⟩ := at2 j hj
          rw [i2 k m hm, i2 j m' hm'] at e
          have := s.inj m m' lm lm' e
          subst this
          have hk' : k < (refsOf ws).length := by omega
          have hj' : j < (refsOf ws).length := by omega
          rw [List.getElem?_eq_getElem hk'] at hm
          rw [List.getElem?_eq_getElem hj'] at hm'
          exact (List.getElem_inj nd).mp ((Option.some.inj hm).trans (Option.some.inj hm').symm)
      -- behind the call
      have back : ∀ {T' : Sto} {H' : Hp} {ι3 : Nat → Addr}, Nx C H ι2 T H' ι3 T' → (T'.take (refsOf ws).length).all flatO = true → (refsOf ws).length ≤ T'.length → Nx C H ι S H' ι (putBack S (refsOf ws) T') := by
        intro T' H' ι3 nx hf hl
        have fr' : ∀ a o, H a = some o → (∀ n, n ∈ refsOf ws → ι n ≠ a) → H' a = some o := fun a o h hn => nx.fr a o h fun k hk e => by
          obtain ⟨n, hm, _⟩ := at2 k hk
          rw [i2 k n hm] at e
          exact hn n (List.mem_of_getElem? hm) e
        refine ⟨Nat.le_of_eq (putBack_len _ _ _).symm, fun _ _ => rfl, fun m h1 h2 => ?_, nx.sta, fun a o h hn => fr' a o h fun n hm => hn n (lt n hm), ⟨fun m o e => ?_, fun m j hm hj e => ?_⟩⟩
        · rw [putBack_len] at h2; omega
        · rw [putBack_len]
          have hm : m < S.length := by
            have := (List.getElem?_eq_some_iff.mp e).1
            rw [putBack_len] at this
            exact this
          by_cases h : m ∈ refsOf ws
          · obtain ⟨j, hj⟩ := List.mem_iff_getElem?.mp h
            rw [putBack_in _ T' S j m nd hl hj hm] at e
            have hj' : j < (refsOf ws).length := (List.getElem?_eq_some_iff.mp hj).1
            have hfl : flatO o = true := by
              have : o ∈ T'.take (refsOf ws).length := by
                have h2 : (T'.take (refsOf ws).length)[j]? = some o := by rw [List.getElem?_take_of_lt hj']; exact e
                exact List.mem_of_getElem? h2
              exact List.all_eq_true.mp hf o this
            have := nx.sim.at' j o e
            rw [nx.ext j (by omega), i2 j m hj] at this
            exact orp_free hfl this
          · rw [putBack_out _ _ _ _ h] at e
            refine (s.at' m o e).mono nx.sta (Nat.le_refl _) (fun _ _ => rfl) fun u h' => fr' _ u h' fun n hn' e' => ?_
            have := s.inj n m (lt n hn') hm e'
            subst this
            exact h hn'
        · rw [putBack_len] at hm hj
          exact s.inj m j hm hj e
      refine ⟨ι2, T, renum 0 ws, sT, renum_rel 0 r (fun j m e => by rw [Nat.zero_add]; exact i2 j m e) (by omega), hn, ?_⟩
      cases e : f (renum 0 ws) T with
      | ok w T' =>
        rw [e] at a
        cases w with
        | d x =>
          simp only at a
          split at a
          · rename_i c
            simp only [Bool.and_eq_true, decide_eq_true_eq] at c
            intro b H' ι3 nx rb
            exact a b H' ι (back nx c.1 c.2) rb
          · exact a.elim
        | ref m => exact a.elim
      | exc c fs T' =>
        rw [e] at a
        simp only at a
        split at a
        · rename_i cc
          simp only [Bool.and_eq_true, decide_eq_true_eq] at cc
          intro d xs H' ι3 nx h1 h2
          exact a d xs H' ι (back nx cc.1.1 cc.1.2) h1 (frs_free cc.2 h2)
        · exact a.elim
      | bad => rw [e] at a; exact a.elim
    · exact a.elim
  · exact a.elim
end
section
variable {Γ : Gm} {t : Tab} {C : Cn} {CX : CXT} {k : Nat} {Z : XK} {sc : Scope} {X : Cx}
theorem call_sp {loc : Bool} {i : Nat} {H : Hp} {ι : Nat → Addr} {S : Sto} {ws : List W} {vs : List V} {Q : VK} {n : Nat} (s : Sim C H ι S) (r : WRs C H ι S.length ws vs) (hn : vs.length = n) (a : Aft C Z (WRp C) (if loc = true then callLoc (t.fns i) ws S else t.fns i ws S) H ι S Q) : spOf C (t.fns i) n vs H Q Z := by
  cases loc with
  | true => exact loc_sp s r hn a
  | false => exact ⟨ι, S, ws, s, r, hn, a⟩
theorem snd_call {loc : Bool} {i : Nat} {l : List E} {nm : Str} {es : List Expr} {p p2 : Pos} (g : GX Γ t C CX k Z sc X) (hf : Γ.fnm i = some nm) (hg : glB sc nm = true) (hk : nameOk nm = true) (h : SEs t C Z X l es) (hs : es.all noStar = true)
    (hn : l.length = Γ.ar i) (hl : l.length = es.length) : SE t C Z X (.call loc i l) (.Call (.Name nm p) es [] p2) := by
  obtain ⟨f, fd, ps, h1, h2, h3, F⟩ := g.fns i nm hf
  cases es with
  | nil =>
    obtain rfl : l = [] := List.eq_nil_of_length_eq_zero hl
    refine peImp (pe_callF0 F g.room g.gd (g.gl hg) h1 h2 h3 g.pass (nm_debug hk)) fun σ H Q q => ?_
    obtain ⟨ρ, ι, S, s, se, a⟩ := q
    simp only [ev, evs] at a
    exact call_sp s (.nil : WRs C H ι S.length [] []) (by rw [← hn]; rfl) a
  | cons e es =>
    simp only [List.all_cons, Bool.and_eq_true] at hs
    refine peImp (pe_callF F g.room g.gd (g.gl hg) h1 h2 h3 g.pass h (nm_debug hk) (star_cons hs.1 _ _) (star_none _ _ hs.2 _)) fun σ H Q q => ?_
    refine tMs_imp (tM_argsN (g := fun ws S => if loc = true then callLoc (t.fns i) ws S else t.fns i ws S) (fun ρ S => by simp only [ev]) q) fun xs H1 q1 => ?_
    obtain ⟨hx, ι, S, ws, s, r, a⟩ := q1
    exact call_sp s r (by rw [hx, hn]) a
/-- a dict laid ahead of its content -/
theorem later_mkD {fz : Bool} {l : List (Ky × W)} {xs : List (Key × V)} {H H2 : Hp} {ι ι2 : Nat → Addr} {S S2 : Sto} {p : Addr} {Q : VK} (s : Sim C H ι S) (hp : H p = none) (x : Nx C (upd H p (.dK [])) ι S H2 ι2 S2) (r : KRs C H2 ι2 S2.length l xs)
    (a' : Aft C Z (WRp C) (mkD fz l S2) H ι S Q) : Fz Q (.ref p) (upd H2 p (.dK xs)) := by
  have ns : ¬ Stab (.dK []) := fun z => z
  have at2 := x.atp s hp
  have kk : ∀ u : HO, Keeps H2 (upd H2 p u) := fun u a o h st => by
    by_cases e : a = p
    · subst e; rw [at2] at h; cases h; exact st.elim
    · rw [upd_ne e]; exact h
  unfold mkD at a'
  cases fz with
  | true =>
    rw [if_pos rfl] at a'
    refine .inl ⟨p, _, rfl, upd_same, trivial, fun o => ?_⟩
    rw [upd_upd]
    cases hd : datas (l.map (·.2)) with
    | some ds =>
      rw [hd] at a'
      have nx : Nx C H ι S (upd H2 p (.frz o (.dK xs))) ι2 S2 := Nx.later s hp ns x
      obtain ⟨k1, k2, k3⟩ := krs_keys r
      refine a' _ _ _ nx ?_
      show RpD C _ (.dct _ ds) _
      simp only [RpD]
      exact ⟨p, xs, rfl, ⟨o, upd_same⟩, k1, k2, (datas_rel hd k3).mono (kk _)⟩
    | none => rw [hd] at a'; exact a'.elim
  | false =>
    rw [if_neg Bool.false_ne_true] at a'
    refine .inr ?_
    have nx : Nx C H ι S (upd H2 p (.dK xs)) (push ι2 S2.length p) (S2 ++ [.dct l]) := Nx.laterC s hp ns x fun ι' he => ⟨xs, upd_same, KRs.mono (kk _) (Nat.le_succ _) he r⟩
    exact a' _ _ _ nx ⟨by simp, by rw [push_at]⟩
theorem snd_dict0 {fz : Bool} {p : Pos} : SE t C Z X (.dict fz [] []) (.Dict [] [] p) := by
  refine peOfF pe_dnewK fun σ H Q q => ?_
  obtain ⟨ρ, ι, S, s, se, a⟩ := q
  simp only [ev, evs] at a
  intro p hp
  exact aft_mkDF s (.nil : KRs C H ι S.length [] []) a p hp
def kW : E → W
  | .int i => .d (.int i)
  | .str s => .d (.str s)
  | _ => .d .non
def kK : E → Ky
  | .int i => .inl i
  | .str s => .inr s
  | _ => .inl 0
def kVl : E → V
  | .int i => .int i
  | .str s => .str (sT s)
  | _ => .non
theorem evs_const : ∀ {ks : List E} (ρ : Rho) (S : Sto), ks.all constB = true → evs t ks ρ S = .ok (ks.map kW) S
  | [], ρ, S, _ => rfl
  | e :: ks, ρ, S, h => by
    simp only [List.all_cons, Bool.and_eq_true] at h
    have ih := evs_const (ks := ks) ρ S h.2
    simp only [evs, ih]
    cases e <;> simp [constB] at h <;> simp only [ev, R.bind, ih, List.map_cons, kW]
theorem const_key : ∀ {ks : List E}, ks.all constB = true → ((datas (ks.map kW)).bind fun ds => ds.mapM keyOf) = some (ks.map kK)
  | [], _ => rfl
  | e :: ks, h => by
    simp only [List.all_cons, Bool.and_eq_true] at h
    obtain ⟨ds, h1, h2⟩ := Option.bind_eq_some_iff.mp (const_key h.2)
    cases e <;> simp [constB] at h <;> (simp only [List.map_cons, kW, datas, h1, Option.map_some, Option.bind_some, List.mapM_cons, keyOf, h2, kK]; rfl)
/-- the pairs of a display whose keys are plain constants -/
theorem pairs_const {σ : L2.St} {ρ : Rho} : ∀ {ks vs : List E} {H : Hp} {ι : Nat → Addr} {S : Sto} {P : List (V × V) → Hp → Prop}, ks.all constB = true → (∀ e ∈ ks, ∀ s, e = .str s → s.length ≤ LIM) → ks.length = vs.length → Sim C H ι S → SimE C H ι S.length ρ σ →
    Aft C Z (WRs C) (evs t vs ρ S) H ι S (fun ys H2 => P ((ks.map kVl).zip ys) H2) → tPairs ((ks.zip vs).map fun kv => (tM C Z (ev t kv.1), tM C Z (ev t kv.2))) σ H P
  | [], [], H, ι, S, P, _, _, _, s, se, a => by
    simp only [evs] at a
    exact Aft.ok (rel := WRs C) s .nil a
  | [], _ :: _, H, ι, S, P, _, _, hl, _, _, _ => by simp at hl
  | _ :: _, [], H, ι, S, P, _, _, hl, _, _, _ => by simp at hl
  | e :: ks, e2 :: vs, H, ι, S, P, hc, hlim, hl, s, se, a => by
    simp only [List.all_cons, Bool.and_eq_true] at hc
    have key : tM C Z (ev t e) σ H fun x H1 => x = kVl e ∧ H1 = H → True := ⟨ρ, ι, S, s, se, by cases e <;> simp [constB] at hc <;> exact fun _ _ _ _ _ _ => trivial⟩
    show tM C Z (ev t e) σ H fun x H1 => tM C Z (ev t e2) σ H1 fun y H2 => tPairs ((ks.zip vs).map fun kv => (tM C Z (ev t kv.1), tM C Z (ev t kv.2))) σ H2 fun ps H3 => P ((x, y) :: ps) H3
    have step : ∀ H1 ι1, Nx C H ι S H1 ι1 S → tM C Z (ev t e2) σ H1 fun y H2 => tPairs ((ks.zip vs).map fun kv => (tM C Z (ev t kv.1), tM C Z (ev t kv.2))) σ H2 fun ps H3 => P ((kVl e, y) :: ps) H3 := fun H1 ι1 nx => by
      have a1 := Aft.start s nx a
      simp only [evs] at a1
      refine ⟨ρ, ι1, S, nx.sim, nx.env se, (Aft.bind nx.sim a1).imp ?_⟩
      rintro y H2 ⟨w, ι2, S2, nx2, r2, a2⟩
      refine pairs_const hc.2 (fun z hz => hlim z (List.mem_cons_of_mem _ hz)) (by simpa using hl) nx2.sim (nx2.env (nx.env se)) ((Aft.bind nx2.sim a2).imp ?_)
      rintro ys H3 ⟨ws, ι3, S3, nx3, r3, a3⟩
      exact Aft.ok (rel := WRs C) nx3.sim (.cons (nx3.val r2) r3) a3
    refine ⟨ρ, ι, S, s, se, ?_⟩
    cases e <;> simp [constB] at hc
    · rename_i i
      intro b H1 ι1 nx r
      rw [rp_int r]
      exact step H1 ι1 nx
    · rename_i z
      intro b H1 ι1 nx r
      rw [rp_str r]
      exact step H1 ι1 nx
theorem zip_rel {H : Hp} {ι : Nat → Addr} {L : Nat} : ∀ {ks : List E} {ws : List W} {ys : List V}, ks.all constB = true → (∀ e ∈ ks, ∀ s, e = .str s → s.length ≤ LIM) → ks.length = ws.length → WRs C H ι L ws ys →
    ∃ kvs : List (Key × V), (ks.map kVl).zip ys = kvs.map (fun kv => (kV kv.1, kv.2)) ∧ kvs.length = ks.length ∧ KRs C H ι L ((ks.map kK).zip ws) kvs
  | [], _, _, _, _, _, _ => ⟨[], rfl, rfl, .nil⟩
  | _ :: _, [], _, _, _, hl, _ => by simp at hl
  | e :: ks, w :: ws, y :: ys, hc, hlim, hl, .cons r t => by
    simp only [List.all_cons, Bool.and_eq_true] at hc
    obtain ⟨kvs, h1, h2, h3⟩ := zip_rel hc.2 (fun z hz => hlim z (List.mem_cons_of_mem _ hz)) (by simpa using hl) t
    refine ⟨(ky (kK e), y) :: kvs, ?_, by simp [h2], .cons ⟨⟨rfl, ?_⟩, r⟩ h3⟩
    · simp only [List.map_cons, List.zip_cons_cons, h1]
      cases e <;> simp [constB] at hc <;> rfl
    · cases e <;> simp [constB] at hc
      · trivial
      · exact hlim _ (by simp) _ rfl
theorem snd_dict {fz : Bool} {ks vs : List E} {keys : List (Option Expr)} {values : List Expr} {p : Pos} (hc : ks.all constB = true) (hlim : ∀ e ∈ ks, ∀ s, e = .str s → s.length ≤ LIM) (hl : ks.length = vs.length) (h15 : keys.length ≤ 15) (hk : keys.length = ks.length)
    (h : PPs X p keys values ((ks.zip vs).map fun kv => (tM C Z (ev t kv.1), tM C Z (ev t kv.2)))) (hall : keys.all (·.isSome) = true) (hv : keys.length = values.length) (h0 : keys ≠ []) : SE t C Z X (.dict fz ks vs) (.Dict keys values p) := by
  refine peOfF (pe_disp h hall hv h0 h15) fun σ H Q q => ?_
  obtain ⟨ρ, ι, S, s, se, a⟩ := q
  intro p hp
  simp only [ev] at a
  rw [evs_const ρ S hc] at a
  have nt : Nx C H ι S (upd H p (.dK [])) ι S := Nx.tmp s hp _
  have a : Aft C Z (WRp C) ((evs t vs ρ S).bind fun vs S => match ((datas (ks.map kW)).bind fun ds => ds.mapM keyOf) with | some kk => mkD fz (putAll [] (kk.zip vs)) S | none => .bad) H ι S Q := a
  simp only [const_key hc] at a
  refine pairs_const hc hlim hl nt.sim (nt.env se) ?_
  have a1 := Aft.start s nt a
  -- the values, then the dict
  cases hr : evs t vs ρ S with
  | ok ws S2 =>
    rw [hr] at a a1
    intro ys H2 ι2 nx r
    have hlw : ks.length = ws.length := by rw [evs_len hr, hl]
    obtain ⟨kvs, h1, h2, h3⟩ := zip_rel hc hlim hlw r
    refine ⟨nx.atp s hp, kvs, h1, by omega, ?_⟩
    exact later_mkD s hp nx (putAll_rel .nil h3) a
  | exc c fs S' => rw [hr] at a1; exact a1
  | bad => rw [hr] at a; exact a.elim
end
end LD
set_option maxHeartbeats 1000000
/-! LD22: enumerate of a tuple. -/
namespace PySem
namespace LDE
open Sem (wp)
open AutoSeq1 (wpAny_loadPart')
section
variable {prog : Program} {w : World} {A : Around} {E : Value → Shared → Prop} {s : Shared}
theorem enumT_next_item {e it l : Addr} {i : Nat} {items : Array Value} {x old : Value} {Q : Value → Shared → Prop}
    (he : IsEnum s.heap e it i old) (hit : s.heap.IsTupleIter it l i) (hl : s.heap.IsTuple l items) (hx : items[i]? = some x) (hne : e ≠ it)
    (hQ : ∀ h', IsEnumOut h' e it ((i : Int) + 1) x s.heap.objs.size → h'.IsTupleIter it l (i + 1) →
      h'.get? s.heap.objs.size = some { cls := .type "tuple", data := .seq #[.int i s.toks, x] } → h'.objs.size = s.heap.objs.size + 1 →
      (∀ b o, b ≠ e → b ≠ it → s.heap.get? b = some o → h'.get? b = some o) → Q (.ref s.heap.objs.size) { s with heap := h', toks := s.toks + 1 }) :
    wpAny (model prog w) A (Builtin.«enumerate.__next__» ⟨[.ref e], []⟩) (fun fin s' => ∃ v, fin = .done (.ret v) ∧ Q v s') E s := by
  obtain ⟨hp, g, d, tk, os⟩ := s
  show wpAny _ _ (field (.ref e) 2 >>= _) _ _ _
  refine wpAny_bind (wpAny_field he rfl (x := .ref it) rfl ?_)
  refine wpAny_bind (RZ.nextOf_tuple_item hit hl hx fun h₁ hit₁ hs₁ => ?_)
  replace hs₁ : Heap.SameBut it hp h₁ := hs₁
  have he₁ : IsEnum h₁ e it i old := (hs₁.2 e hne).trans he
  show wpAny _ _ (field (.ref e) 3 >>= _) _ _ ⟨h₁, g, d, tk, os⟩
  refine wpAny_bind (wpAny_field he₁ rfl (x := rawInt i) rfl ?_)
  show wpAny _ _ (field (.ref e) 4 >>= _) _ _ ⟨h₁, g, d, tk, os⟩
  refine wpAny_bind (wpAny_field he₁ rfl (x := .none) rfl ?_)
  show wpAny _ _ (mkInt i >>= _) _ _ ⟨h₁, g, d, tk, os⟩
  refine wpAny_bind (wpAny_mkInt ?_)
  show wpAny _ _ (setField (.ref e) 3 (rawInt ((i : Int) + 1)) >>= _) _ _ ⟨h₁, g, d, tk + 1, os⟩
  refine wpAny_bind (wpAny_setField_rec he₁ (by simp) fun h₂ he₂ hs₂ => ?_)
  replace hs₂ : Heap.SameBut e h₁ h₂ := hs₂
  replace he₂ : IsEnum h₂ e it ((i : Int) + 1) old := he₂
  show wpAny _ _ (setField (.ref e) 4 .none >>= _) _ _ ⟨h₂, g, d, tk + 1, os⟩
  refine wpAny_bind (wpAny_setField_rec he₂ (by simp) fun h₃ he₃ hs₃ => ?_)
  replace hs₃ : Heap.SameBut e h₂ h₃ := hs₃
  replace he₃ : IsEnum h₃ e it ((i : Int) + 1) old := he₃
  show wpAny _ _ (newTuple [.int i tk, x] >>= _) _ _ ⟨h₃, g, d, tk + 1, os⟩
  refine wpAny_bind (wpAny_newTuple ?_)
  have he₄ : IsEnum (h₃.push { cls := .type "tuple", data := .seq #[.int i tk, x] }) e it ((i : Int) + 1) old := Heap.get?_push_of_some _ he₃
  generalize hh₄ : h₃.push { cls := .type "tuple", data := .seq #[.int i tk, x] } = h₄ at he₄
  have hsz : h₃.objs.size = hp.objs.size := by rw [hs₃.1, hs₂.1, hs₁.1]
  have hel : e < hp.objs.size := Heap.lt_size he
  have ht₄ : h₄.get? hp.objs.size = some { cls := .type "tuple", data := .seq #[.int i tk, x] } := by rw [← hh₄, ← hsz]; exact Heap.get?_push_size _ rfl
  have hz₄ : h₄.objs.size = hp.objs.size + 1 := by rw [← hh₄, Heap.size_push, hsz]
  have hk₄ : ∀ b o, b ≠ e → b ≠ it → hp.get? b = some o → h₄.get? b = some o := fun b o hbe hbi hb => by
    rw [← hh₄]; exact Heap.get?_push_of_some _ (hs₃.extBut b o hbe (hs₂.extBut b o hbe (hs₁.extBut b o hbi hb)))
  have hit₄ : h₄.IsTupleIter it l (i + 1) := by
    rw [← hh₄]; obtain ⟨o, ho, r⟩ := (hit₁.extBut hs₂.extBut (Ne.symm hne)).extBut hs₃.extBut (Ne.symm hne); exact ⟨o, Heap.get?_push_of_some _ ho, r⟩
  show wpAny _ _ (Builtin.SmallTypes.ownedTupleIsFree (.ref e) >>= _) _ _ ⟨h₄, g, d, tk + 1, os⟩
  rw [hsz]
  clear hh₄ he₃ hs₃ he₂ hs₂ he₁ hs₁ hit₁ hsz h₃ h₂ h₁
  refine wpAny_bind ?_
  · unfold Builtin.SmallTypes.ownedTupleIsFree
    refine wpAny_bind (wpAny_field he₄ rfl (x := .none) rfl (wpAny_pure ?_))
    simp only [if_true]
    refine wpAny_bind (wpAny_rule ?_)
    refine wpAny_bind (wpAny_field he₄ rfl (x := old) rfl ?_)
    refine wpAny_bind (wpAny_setField_rec he₄ (by simp) fun h₅ he₅ hs₅ => ?_)
    replace hs₅ : Heap.SameBut e h₄ h₅ := hs₅
    replace he₅ : IsEnum h₅ e it ((i : Int) + 1) x := he₅
    show wpAny _ _ (Builtin.SmallTypes.ownedTupleHandOut (.ref e) (.ref hp.objs.size) >>= _) _ _ ⟨h₅, g, d, tk + 1, os⟩
    refine wpAny_bind ?_
    · unfold Builtin.SmallTypes.ownedTupleHandOut
      refine wpAny_bind (wpAny_setField_rec he₅ (by simp) fun h₆ he₆ hs₆ => ?_)
      replace hs₆ : Heap.SameBut e h₅ h₆ := hs₆
      replace he₆ : IsEnumOut h₆ e it ((i : Int) + 1) x hp.objs.size := he₆
      refine wpAny_setField_rec he₆ (by simp) fun h₇ he₇ hs₇ => ?_
      replace hs₇ : Heap.SameBut e h₆ h₇ := hs₇
      replace he₇ : IsEnumOut h₇ e it ((i : Int) + 1) x hp.objs.size := he₇
      refine wpAny_bind (wpAny_letGo (wpAny_pure ⟨_, rfl, hQ h₇ he₇ ?_ ?_ ?_ ?_⟩))
      · exact ((hit₄.extBut hs₅.extBut (Ne.symm hne)).extBut hs₆.extBut (Ne.symm hne)).extBut hs₇.extBut (Ne.symm hne)
      · exact hs₇.extBut _ _ (Nat.ne_of_gt hel) (hs₆.extBut _ _ (Nat.ne_of_gt hel) (hs₅.extBut _ _ (Nat.ne_of_gt hel) ht₄))
      · rw [hs₇.1, hs₆.1, hs₅.1, hz₄]
      · exact fun b o hbe hbi hb => hs₇.extBut b o hbe (hs₆.extBut b o hbe (hs₅.extBut b o hbe (hk₄ b o hbe hbi hb)))

theorem pyNext_enumT_item {e it l : Addr} {i : Nat} {items : Array Value} {x old : Value} {Q : Option Value → Shared → Prop}
    (he : IsEnum s.heap e it i old) (hit : s.heap.IsTupleIter it l i) (hl : s.heap.IsTuple l items) (hx : items[i]? = some x) (hne : e ≠ it)
    (hQ : ∀ h', IsEnumOut h' e it ((i : Int) + 1) x s.heap.objs.size → h'.IsTupleIter it l (i + 1) →
      h'.get? s.heap.objs.size = some { cls := .type "tuple", data := .seq #[.int i s.toks, x] } → h'.objs.size = s.heap.objs.size + 1 →
      (∀ b o, b ≠ e → b ≠ it → s.heap.get? b = some o → h'.get? b = some o) → Q (some (.ref s.heap.objs.size)) { s with heap := h', toks := s.toks + 1 }) :
    wpAny (model prog w) A (pyNext (.ref e)) Q E s := by
  have hT : s.TypeIs (.ref e) "enumerate" := ⟨_, he, rfl⟩
  unfold pyNext
  exact wpAny_bind (wpAny_attempt (wpAny_callSpecial?_slot (name := Str.ofString "__next__") hT F.slot_enumerate_next
    (wpAny_call_entry F.slot_enumerate_next hT F.entry_enumerate_next
      (enumT_next_item he hit hl hx hne fun h' a b c d k => wpAny_pure (hQ h' a b c d k)) (F.args_enumerate_next_1 _))))

theorem pyNext_enumT_end {e it l : Addr} {i : Nat} {items : Array Value} {old : Value} {Q : Option Value → Shared → Prop} (hh : A.handled = none)
    (he : IsEnum s.heap e it i old) (hit : s.heap.IsTupleIter it l i) (hl : s.heap.IsTuple l items) (hx : items[i]? = none)
    (hQ : ∀ h', Heap.ExtBut it s.heap h' → Q none { s with heap := h' }) : wpAny (model prog w) A (pyNext (.ref e)) Q E s := by
  have hT : s.TypeIs (.ref e) "enumerate" := ⟨_, he, rfl⟩
  unfold pyNext
  refine wpAny_bind (wpAny_attempt (wpAny_callSpecial?_slot (name := Str.ofString "__next__") hT F.slot_enumerate_next
    (wpAny_call_entry F.slot_enumerate_next hT F.entry_enumerate_next ?_ (F.args_enumerate_next_1 _))))
  show wpAny _ _ (field (.ref e) 2 >>= _) _ _ _
  refine wpAny_bind (wpAny_field he rfl (x := .ref it) rfl ?_)
  refine wpAny_bind (RZ.nextOf_tuple_end hh hit hl hx fun h' x he' hx' => ?_)
  obtain ⟨o, ho, hc⟩ := hx'
  refine wpAny_bind (wpAny_isInstance (T := "StopIteration") (b := true) ⟨o, ho, hc⟩ isSubtype_stop ?_)
  exact wpAny_pure (hQ _ he')
end
theorem meets_enumT (l : Addr) (items : Array Value) (n : Nat) (dct : Option Addr) (sl : Array (Option Value)) :
    Meets (Builtin.«enumerate.__new__» ⟨[.type "enumerate", .ref l], []⟩) (fun _ R s => s.heap.get? l = some { cls := .type "tuple", dict := dct, data := .seq items n, slots := sl } ∧
      R (.ok (.ret (.ref (s.heap.push { cls := .type "tuple_iterator", data := .fields #[.ref l, .int 0 0] }).objs.size)))
        { s with heap := (s.heap.push { cls := .type "tuple_iterator", data := .fields #[.ref l, .int 0 0] }).push { cls := .type "enumerate", data := .fields #[.none, .bool false, .ref s.heap.objs.size, rawInt 0, .none, .none] } }) :=
  .of_wp fun prog w A R s h => by
    obtain ⟨hp, g, d, tk, os⟩ := s; obtain ⟨hl, h⟩ := h
    have hsub := sub_enumerate
    have hL : Heap.IsTuple (Shared.heap ⟨hp, g, d, tk, os⟩) l items := ⟨_, hl, rfl, n, rfl⟩
    wp_walk using wpAny_loadPart' hl
    refine wpAny_stack_any fun st => wpAny_pure ?_
    split
    · rename_i c _ _ _ _ _
      cases (c == Value.type "enumerate")
      · wp_walk using wpAny_loadPart' hl, wpAny_pyIter_tuple hL
        exact ⟨_, rfl, h⟩
      · wp_walk using wpAny_loadPart' hl, wpAny_pyIter_tuple hL
        exact ⟨_, rfl, h⟩
    · wp_walk using wpAny_loadPart' hl, wpAny_pyIter_tuple hL
      exact ⟨_, rfl, h⟩

section
variable {prog : Program} {w : World} {A : Around} {E : Value → Shared → Prop} {s : Shared}
theorem call_enumT {l : Addr} {items : Array Value} {Q : Value → Shared → Prop} (hL : s.heap.IsTuple l items)
    (h : ∀ h', IsEnum h' (s.heap.objs.size + 1) s.heap.objs.size 0 .none → h'.IsTupleIter s.heap.objs.size l 0 → h'.objs.size = s.heap.objs.size + 2 →
      (∀ b o, s.heap.get? b = some o → h'.get? b = some o) → Q (.ref (s.heap.objs.size + 1)) { s with heap := h' }) :
    wpAny (model prog w) A (call (.type "enumerate") [.ref l]) Q E s := by
  obtain ⟨⟨c, dct, dt, sl⟩, hl, hc, n, hd⟩ := hL
  replace hc : c = .type "tuple" := hc
  replace hd : dt = .seq items n := hd
  subst hc hd
  refine callType_new F.called_enumerate (by decide) (F.typeCall_enumerate_1 _) (F.newCall_enumerate_1 _) (fun obj => F.args_object_init_2 obj _) F.entry_enumerate_new
    (meets_enumT l items n dct sl) ⟨hl, ?_⟩
  have hz : (s.heap.push { cls := .type "tuple_iterator", data := .fields #[.ref l, .int 0 0] }).objs.size = s.heap.objs.size + 1 := Heap.size_push ..
  show _ ∧ _
  rw [hz]
  have he : IsEnum ((s.heap.push { cls := .type "tuple_iterator", data := .fields #[.ref l, .int 0 0] }).push
      { cls := .type "enumerate", data := .fields #[.none, .bool false, .ref s.heap.objs.size, rawInt 0, .none, .none] }) (s.heap.objs.size + 1) s.heap.objs.size 0 .none := by
    have := Heap.get?_push_size (s.heap.push { cls := .type "tuple_iterator", data := .fields #[.ref l, .int 0 0] })
      (o := { cls := .type "enumerate", data := .fields #[.none, .bool false, .ref s.heap.objs.size, rawInt 0, .none, .none] }) rfl
    rw [hz] at this; exact this
  refine ⟨⟨_, he, rfl⟩, h _ he ⟨_, Heap.get?_push_of_some _ (Heap.get?_push_size _ rfl), rfl, rfl⟩ (by rw [Heap.size_push, hz]) fun b o x => Heap.get?_push_of_some _ (Heap.get?_push_of_some _ x)⟩

end
end LDE
end PySem
namespace L2
namespace LDE
open PySem PySem.Spec PyProof.Rows PySem.LDE
def IteT (K : PySem.W.Frag) (a : Addr) : It :=
  ⟨fun i H => ∃ (xs : List V) (x : V), SqT K H a xs ∧ xs[i]? = some x, fun i H v H' => ∃ T x, v = .ref T ∧ H T = none ∧ H' = upd H T (.tup [.int (i : Nat), x]) ∧ ∀ xs, SqT K H a xs → xs[i]? = some x, fun i H => ∃ xs : List V, SqT K H a xs ∧ xs.length ≤ i⟩
theorem turn_enumT {P : Program} {w : World} {K : PySem.W.Frag} {elts : List Expr} {kk : Nat} {tpos : Pos} (a e it : Addr) :
    Turn P w K (.Tuple elts kk tpos) (IteT K a) [e, it] e (fun i h => (∃ old, IsEnum h e it ((i : Nat) : Int) old) ∧ h.IsTupleIter it a i ∧ e ≠ it) where
  mem := by simp
  obj := fun i h st b hb => by
    obtain ⟨⟨old, he⟩, ⟨o, ho, hc, hd⟩, _⟩ := st
    have e' : b = e ∨ b = it := by simpa using hb
    rcases e' with z | z
    · rw [z]; exact ⟨_, he, fun v q => nomatch q⟩
    · rw [z]; exact ⟨o, ho, fun v q => by rw [hd] at q; cases q⟩
  keep := fun i h h' st k => let ⟨⟨old, he⟩, hi, hne⟩ := st; ⟨⟨old, k e (by simp) _ he⟩, hi.at fun o q => k it (by simp) o q, hne⟩
  item := by
    intro X hP hw hK hc i pins s σ H E I hf st hg
    subst hP hw hK
    obtain ⟨⟨old, he⟩, hit, hne⟩ := st
    obtain ⟨xs, x, hq, hx⟩ := hg
    obtain ⟨its, rv, p, hz⟩ := I.tuple hq
    obtain ⟨u, hu, ru⟩ := rv.get hx
    have hel : e < s.heap.objs.size := Heap.lt_size he
    have hil : it < s.heap.objs.size := by obtain ⟨_, q, _⟩ := hit; exact Heap.lt_size q
    refine pyNext_enumT_item he hit p (x := u) (by simpa using hu) hne fun h' ho hit' hT hsz hk => ?_
    refine ⟨_, rfl, wpAny_letOwnedTupleGo_enum (s := { s with heap := h', toks := s.toks + 1 }) ho fun h'' he' sb => ?_⟩
    have hT2 : h''.get? s.heap.objs.size = some { cls := .type "tuple", data := .seq #[.int i s.toks, u] } := (sb.2 _ (Nat.ne_of_gt hel)).trans hT
    have new : ObjOk X.prog X.w (upd H s.heap.objs.size (.tup [.int (i : Nat), x])) h'' s.heap.objs.size (.tup [.int (i : Nat), x]) :=
      ⟨by show 2 ≤ sizeLine; decide, [.int i s.toks, u], .cons ⟨_, rfl⟩ (.cons ru .nil), ⟨_, hT2, rfl, _, rfl⟩⟩
    have I1 : Inv X pins σ (upd H s.heap.objs.size (.tup [.int (i : Nat), x])) { s with heap := h'', toks := s.toks + 1 } :=
      I.turnedNew (ch := [e, it]) (fun b ob hb q => (sb.2 b (fun z => hb (by simp [z]))).trans (hk b ob (fun z => hb (by simp [z])) (fun z => hb (by simp [z])) q)) hf (Nat.le_refl _) new
    refine ⟨.ref s.heap.objs.size, _, I1, rfl, ⟨_, x, rfl, I.hok.fresh (Nat.le_refl _), rfl, fun ys hy => by rw [I.tuple_inj hy hq]; exact hx⟩, ⟨⟨u, ?_⟩, hit'.at fun o q => (sb.2 it (Ne.symm hne)).trans q, hne⟩, fun b hb => ?_⟩
    · have e1 : ((i + 1 : Nat) : Int) = (i : Int) + 1 := by omega
      rw [e1]; exact he'
    · have hb' : b < s.heap.objs.size := by
        have e' : b = e ∨ b = it := by simpa using hb
        rcases e' with z | z
        · rw [z]; exact hel
        · rw [z]; exact hil
      rw [upd_ne (Nat.ne_of_lt hb')]
      exact (hf b hb).1
  done := by
    intro X hP hw hK hc i pins s σ H E I hf st hg
    subst hP hw hK
    obtain ⟨⟨old, he⟩, hit, hne⟩ := st
    obtain ⟨xs, hq, hx⟩ := hg
    obtain ⟨its, rv, p, hz⟩ := I.tuple hq
    obtain ⟨f0, f1, f2, f3, f4, f5⟩ := hf it (by simp)
    have hl := rv.length
    exact pyNext_enumT_end (I.ok.hd hc) he hit p (by simp; omega) fun h' eb => ⟨rfl, I.turned (t' := s.toks) (fun b o hb q => eb b o hb q) f0 f1 f3 f4 f5⟩
  self := fun A i s Q E st h => let ⟨⟨_, he⟩, _⟩ := st; wpAny_pyIter_enum he h
def iEnumT (K : PySem.W.Frag) (ta : TA) : TI := fun σ H R => ta σ H fun vs H1 => ∃ a xs, vs = [.ref a] ∧ SqT K H1 a xs ∧ R (IteT K a) H1
theorem pi_enumT {X : Cx} {e : Expr} {ta : TA} {p pos tpos : Pos} {elts : List Expr} {kk : Nat} (hg : Gl X "enumerate") (hm : X.mg "enumerate" = none) (ha : PA X [e] ta) (hs : starEach [e] X.env = [(false, eval e X.env)] := by rfl) :
    PI X (.Tuple elts kk tpos) (.Call (.Name "enumerate" p) [e] [] pos) (iEnumT X.K ta) := by
  refine ⟨fun pins s σ H R I h => ?_⟩
  refine Call_ (ld_blt I hg hm PyProof.Rows.boot_enumerate (PyProof.Rows.callWith_type1 (thn (ha.run pos pins s σ H _ I h) fun us s1 ⟨vs, H1, I1, r1, q1⟩ => ?_) hs rfl))
  obtain ⟨a, xs, ex, hq, q⟩ := q1
  subst ex
  cases r1 with
  | cons r rr =>
    cases rr
    cases r
    obtain ⟨its, rv, p', hz⟩ := I1.tuple hq
    refine call_enumT p' fun h' he hit hsz hk => wpAny_pyIter_enum he ?_
    have I2 : Inv X pins σ H1 { s1 with heap := h' } := I1.kept (t' := s1.toks) hk
    refine ⟨s1.heap.objs.size + 1, [s1.heap.objs.size + 1, s1.heap.objs.size], _, _, H1, rfl, I2, turn_enumT a (s1.heap.objs.size + 1) s1.heap.objs.size, ⟨⟨.none, he⟩, hit, Nat.succ_ne_self _⟩, fun b hb => ?_, q⟩
    have e' : b = s1.heap.objs.size + 1 ∨ b = s1.heap.objs.size := by simpa using hb
    have hle : s1.heap.objs.size ≤ b := by
      rcases e' with z | z
      · rw [z]; exact Nat.le_add_right _ _
      · rw [z]; exact Nat.le_refl _
    exact I1.fpOk hle (I1.hok.fresh hle)
end LDE
end L2
/-! LD17: targets, iterators, comprehensions. -/
namespace LD
open PySem L2

mutual
def gV (K : PySem.W.Frag) : P → TG
  | .name i => gName i
  | .tup ps => gTup K ps.length (gVs K ps)
def gVs (K : PySem.W.Frag) : List P → TGs
  | [] => gNil
  | p :: ps => gCons (gV K p) (gVs K ps)
end
section
variable {C : Cn} {H : Hp} {ι : Nat → Addr} {S : Sto}
mutual
theorem gV_ok (s : Sim C H ι S) : ∀ {p : P} {w : W} {v : V} {ρ ρ' : Rho} {σ : L2.St} {Q : L2.St → Hp → Prop}, patSet p w S ρ = some ρ' → WRp C H ι S.length w v → SimE C H ι S.length ρ σ →
    (∀ σ', SimE C H ι S.length ρ' σ' → (∀ vs : List Nat, (∀ i ∈ patIx p, i ∈ vs) → L2.wipe σ' vs = L2.wipe σ vs) → Q σ' H) → gV C.K p v σ H Q
  | .name i, w, v, ρ, ρ', σ, Q, h, r, se, q => by
    simp only [patSet, Option.some.injEq] at h
    subst h
    simp only [gV, gName]
    exact q _ (se.set r) fun vs hv => wipe_set (hv i (by simp [patIx]))
  | .tup ps, w, v, ρ, ρ', σ, Q, h, r, se, q => by
    simp only [patSet] at h
    split at h
    · rename_i ws e
      obtain ⟨a, xs, rfl, r1, d1⟩ := seqTup_rel s e r
      simp only [gV, gTup]
      have hl := patSets_len h
      exact ⟨a, xs, rfl, d1, by rw [← pairLen r1, hl], gVs_ok s h r1 se fun σ' se' hv => q σ' se' fun vs hi => hv vs fun i hi' => hi i (by simpa [patIx] using hi')⟩
    · cases h
theorem gVs_ok (s : Sim C H ι S) : ∀ {ps : List P} {ws : List W} {vs : List V} {ρ ρ' : Rho} {σ : L2.St} {Q : L2.St → Hp → Prop}, patSets ps ws S ρ = some ρ' → WRs C H ι S.length ws vs → SimE C H ι S.length ρ σ →
    (∀ σ', SimE C H ι S.length ρ' σ' → (∀ vs : List Nat, (∀ i ∈ patIxs ps, i ∈ vs) → L2.wipe σ' vs = L2.wipe σ vs) → Q σ' H) → gVs C.K ps vs σ H Q
  | [], [], vs, ρ, ρ', σ, Q, h, r, se, q => by
    cases r
    simp only [patSets, Option.some.injEq] at h
    subst h
    simp only [gVs, gNil]
    exact ⟨trivial, q σ se fun _ _ => rfl⟩
  | [], _ :: _, _, _, _, _, _, h, _, _, _ => by simp [patSets] at h
  | _ :: _, [], _, _, _, _, _, h, _, _, _ => by simp [patSets] at h
  | p :: ps, w :: ws, _, ρ, ρ', σ, Q, h, .cons r1 r2, se, q => by
    simp only [patSets] at h
    split at h
    · rename_i ρ1 e
      simp only [gVs, gCons]
      refine ⟨_, _, rfl, gV_ok s e r1 se fun σ1 se1 hv1 => gVs_ok s h r2 se1 fun σ2 se2 hv2 => q σ2 se2 fun vs hi => ?_⟩
      rw [hv2 vs fun i hi' => hi i (by simp [patIxs, hi']), hv1 vs fun i hi' => hi i (by simp [patIxs, hi'])]
    · cases h
theorem patSets_len : ∀ {ps : List P} {ws : List W} {S : Sto} {ρ ρ' : Rho}, patSets ps ws S ρ = some ρ' → ws.length = ps.length
  | [], [], _, _, _, _ => rfl
  | [], _ :: _, _, _, _, h => by simp [patSets] at h
  | _ :: _, [], _, _, _, h => by simp [patSets] at h
  | p :: ps, w :: ws, S, ρ, ρ', h => by
    simp only [patSets] at h
    split at h
    · simp [patSets_len h]
    · cases h
end
end
section
variable {X : Cx} {N : List Str} {sc : Scope}
theorem asg_len : ∀ (es : List Expr) (env : PySem.Env), (assignEach es env).length = es.length
  | [], _ => rfl
  | e :: es, env => by
    cases e <;> (show (assignEach es env).length + 1 = es.length + 1; rw [asg_len es env])
theorem asg_cons {e : Expr} (h : noStar e = true) (es : List Expr) (env : PySem.Env) : assignEach (e :: es) env = (false, assign e env) :: assignEach es env := by
  cases e <;> first | rfl | simp [noStar] at h
theorem asg_find : ∀ (es : List Expr) (env : PySem.Env), es.all noStar = true → (assignEach es env).findIdx? (·.1) = none
  | [], _, _ => rfl
  | e :: es, env, h => by
    simp only [List.all_cons, Bool.and_eq_true] at h
    rw [asg_cons h.1, List.findIdx?_cons, asg_find es env h.2]
    rfl
mutual
theorem snd_pat (hN : X.N = N) (nd : N.Nodup) (hc : X.calm = true) (hl : ∀ x, locB sc x = true → Loc X.env.scope x ∧ (X.fn x = true ∨ X.env.scope.names.lookup x = some .local)) : ∀ {p : P} {e : Expr}, chkP N sc p e = true → PG X e (gV X.K p)
  | .name i, e, h => by
    cases e <;> simp only [chkP, Bool.false_eq_true] at h
    rename_i x pos
    simp only [Bool.and_eq_true, decide_eq_true_eq] at h
    simp only [gV]
    obtain ⟨h1, h2⟩ := hl x h.1.2
    exact pg_name (by rw [hN]; exact nd) (by rw [hN]; exact h.1.1) h1 h2
  | .tup ps, e, h => by
    cases e <;> simp only [chkP, Bool.false_eq_true] at h
    rename_i es k pos
    simp only [gV]
    obtain ⟨h1, h2, h3⟩ := snd_pats hN nd hc hl h
    exact pg_tup hc h1 (by rw [asg_len, h2]) (asg_find _ _ h3)
theorem snd_pats (hN : X.N = N) (nd : N.Nodup) (hc : X.calm = true) (hl : ∀ x, locB sc x = true → Loc X.env.scope x ∧ (X.fn x = true ∨ X.env.scope.names.lookup x = some .local)) : ∀ {ps : List P} {es : List Expr}, chkPs N sc ps es = true → PGs X es (gVs X.K ps) ∧ es.length = ps.length ∧ es.all noStar = true
  | [], [], _ => ⟨by simp only [gVs]; exact pgs_nil, rfl, rfl⟩
  | [], _ :: _, h => by simp [chkPs] at h
  | _ :: _, [], h => by simp [chkPs] at h
  | p :: ps, e :: es, h => by
    simp only [chkPs, Bool.and_eq_true] at h
    obtain ⟨h1, h2, h3⟩ := snd_pats hN nd hc hl h.2
    refine ⟨?_, by simp [h2], by simp [h.1.1, h3]⟩
    simp only [gVs]
    exact pgs_cons (snd_pat hN nd hc hl h.1.2) h1 (by rw [asg_cons h.1.1]; rfl)
end
end
/-! ### iterators -/
def itemGo (it : Item) (S : Sto) : Bool := match it with
  | .live n i len => match S[n]? with
    | some (.lst l) => l.length == len && decide (i < len)
    | _ => false
  | _ => true
def ItRel (C : Cn) (H : Hp) (ι : Nat → Addr) (S : Sto) (it : Item) (x : V) (H'' : Hp) : Prop := match it with
  | .one w => H'' = H ∧ WRp C H ι S.length w x
  | .two a b => ∃ T x1 x2, x = .ref T ∧ H T = none ∧ H'' = upd H T (.tup [x1, x2]) ∧ WRp C H ι S.length a x1 ∧ WRp C H ι S.length b x2
  | .live n i len => H'' = H ∧ ∃ l w, S[n]? = some (.lst l) ∧ l[i]? = some w ∧ WRp C H ι S.length w x
structure ItR (C : Cn) (J : It) (H1 : Hp) (ι : Nat → Addr) (S : Sto) (its : List Item × Option (Nat × Nat)) : Prop where
  go : ∀ i it H' ι' S', its.1[i]? = some it → Nx C H1 ι S H' ι' S' → itemGo it S' = true → J.go i H'
  stop : ∀ H' ι' S', Nx C H1 ι S H' ι' S' → finOk its.2 S' = true → J.stop its.1.length H'
  yld : ∀ i it H' ι' S' x H'', its.1[i]? = some it → Nx C H1 ι S H' ι' S' → itemGo it S' = true → J.yld i H' x H'' → ItRel C H' ι' S' it x H''
/-- an iterator's promise -/
def tI (t : Tab) (C : Cn) (Z : XK) (k : IK) (its : List E) : TI := fun σ H R => tMs C Z (evs t its) σ H fun xs H1 => ∃ ι S ws items, Sim C H1 ι S ∧ WRs C H1 ι S.length ws xs ∧ itemsOf k ws S = some items ∧ ∀ J, ItR C J H1 ι S items → R J H1
/-- from a walk over fixed values -/
theorem itR_fix {C : Cn} {J : It} {H1 : Hp} {ι : Nat → Addr} {S : Sto} {l : List W} {xs : List V} {G : Hp → Prop} (w : Walk J xs.length G (YAt xs)) (hg : ∀ H' ι' S', Nx C H1 ι S H' ι' S' → G H') (r : WRs C H1 ι S.length l xs) : ItR C J H1 ι S (l.map .one, none) := by
  have hl := pairLen r
  refine ⟨fun i it H' ι' S' e nx _ => w.goes i H' (by have := (List.getElem?_eq_some_iff.mp e).1; simp at this; omega) (hg _ _ _ nx), fun H' ι' S' nx _ => ?_, fun i it H' ι' S' x H'' e nx _ y => ?_⟩
  · have : (l.map Item.one).length = xs.length := by rw [List.length_map, hl]
    show J.stop (l.map Item.one).length H'
    rw [this]
    exact w.stops H' (hg _ _ _ nx)
  · have e : (l.map Item.one)[i]? = some it := e
    rw [List.getElem?_map] at e
    obtain ⟨a, ea, rfl⟩ := Option.map_eq_some_iff.mp e
    obtain ⟨x', hx', rx⟩ := pairGet r ea
    have hi : i < xs.length := (List.getElem?_eq_some_iff.mp hx').1
    obtain ⟨h1, h2⟩ := w.yields i H' x H'' hi (hg _ _ _ nx) y
    rw [hx'] at h2
    cases h2
    exact ⟨h1, nx.val rx⟩
/-- .. over values told by their place -/
theorem itR_fn {C : Cn} {J : It} {H1 : Hp} {ι : Nat → Addr} {S : Sto} {n : Nat} {f : Nat → V} {g : Nat → W} {l : List Item} (w : Walk J n (fun _ => True) (YFn f)) (hl : l.length = n) (hi : ∀ i it, l[i]? = some it → it = Item.one (g i)) (r : ∀ i H' ι' S', WRp C H' ι' S' (g i) (f i)) : ItR C J H1 ι S (l, none) := by
  refine ⟨fun i it H' ι' S' e nx _ => w.goes i H' (by have := (List.getElem?_eq_some_iff.mp e).1; simp at this; omega) trivial, fun H' ι' S' nx _ => ?_, fun i it H' ι' S' x H'' e nx _ y => ?_⟩
  · show J.stop l.length H'
    rw [hl]
    exact w.stops H' trivial
  · have hi' : i < n := by have := (List.getElem?_eq_some_iff.mp e).1; simp at this; omega
    rw [hi i it e]
    obtain ⟨h1, h2⟩ := w.yields i H' x H'' hi' trivial y
    subst h2
    exact ⟨h1, r i H' ι' _⟩
section
variable {Γ : Gm} {t : Tab} {C : Cn} {CX : CXT} {k : Nat} {Z : XK} {sc : Scope} {X : Cx}
theorem piImp {tg it : Expr} {w u : TI} (h : PI X tg it w) (i : ∀ σ H R, u σ H R → w σ H R) : PI X tg it u := ⟨fun pins s σ H R I q => h.run pins s σ H R I (i σ H R q)⟩
theorem snd_range1 {tg a : Expr} {e : E} {p pos : Pos} (g : GX Γ t C CX k Z sc X) (hg : glB sc "range" = true) (h : SEs t C Z X [e] [a]) (hs : noStar a = true) : PI X tg (.Call (.Name "range" p) [a] [] pos) (tI t C Z .range1 [e]) := by
  refine piImp (pi_range1 (g.gl hg) (g.blt _ (by decide +kernel)) h (star_cons hs _ _)) fun σ H R q => tMs_imp q fun xs H1 q1 => ?_
  obtain ⟨ι, S, ws, items, s, r, e1, q1⟩ := q1
  unfold itemsOf at e1
  split at e1 <;> try contradiction
  rename_i n _
  split at e1
  · rename_i c
    cases e1
    obtain ⟨x, rfl, r1⟩ := one_rel r
    have ex := rp_int r1
    subst ex
    simp only [smallI, Bool.and_eq_true, decide_eq_true_eq] at c
    refine ⟨n, rfl, by omega, by omega, q1 _ (itR_fn (f := fun i => .int (0 + i)) (g := fun i => .d (.int (0 + (i : Int)))) walk_range (by simp [rangeI]) (fun i it e => ?_) fun i H' ι' S' => mk_int _)⟩
    simp only [rangeI, List.map_map, List.getElem?_map, Option.map_eq_some_iff] at e
    obtain ⟨a, ha, rfl⟩ := e
    have := List.getElem?_eq_some_iff.mp ha
    obtain ⟨h1, h2⟩ := this
    simp only [List.getElem_range] at h2
    subst h2
    rfl
  · cases e1
theorem snd_range2 {tg a b : Expr} {e e2 : E} {p pos : Pos} (g : GX Γ t C CX k Z sc X) (hg : glB sc "range" = true) (h : SEs t C Z X [e, e2] [a, b]) (hs : noStar a = true) (hs2 : noStar b = true) : PI X tg (.Call (.Name "range" p) [a, b] [] pos) (tI t C Z .range2 [e, e2]) := by
  refine piImp (pi_range2 (g.gl hg) (g.blt _ (by decide +kernel)) h (by rw [star_cons hs, star_cons hs2]; rfl) (star_cons hs2 _ _)) fun σ H R q => tMs_imp q fun xs H1 q1 => ?_
  obtain ⟨ι, S, ws, items, s, r, e1, q1⟩ := q1
  unfold itemsOf at e1
  split at e1 <;> try contradiction
  rename_i lo hi _
  split at e1
  · rename_i c
    cases e1
    obtain ⟨x, y, rfl, r1, r2⟩ := two_rel r
    have ex := rp_int r1
    have ey := rp_int r2
    subst ex ey
    simp only [smallI, Bool.and_eq_true, decide_eq_true_eq] at c
    refine ⟨lo, hi, rfl, by omega, q1 _ (itR_fn (f := fun i => .int (lo + i)) (g := fun i => .d (.int (lo + (i : Int)))) walk_range (by simp [rangeI]) (fun i it e => ?_) fun i H' ι' S' => mk_int _)⟩
    simp only [rangeI, List.map_map, List.getElem?_map, Option.map_eq_some_iff] at e
    obtain ⟨a, ha, rfl⟩ := e
    obtain ⟨h1, h2⟩ := List.getElem?_eq_some_iff.mp ha
    simp only [List.getElem_range] at h2
    subst h2
    rfl
  · cases e1
theorem snd_range3 {tg a b c : Expr} {e e2 e3 : E} {p pos : Pos} (g : GX Γ t C CX k Z sc X) (hg : glB sc "range" = true) (h : SEs t C Z X [e, e2, e3] [a, b, c]) (hs : noStar a = true) (hs2 : noStar b = true) (hs3 : noStar c = true) : PI X tg (.Call (.Name "range" p) [a, b, c] [] pos) (tI t C Z .range3 [e, e2, e3]) := by
  refine piImp (pi_range3 (g.gl hg) (g.blt _ (by decide +kernel)) h (star_cons hs _ _) (star_none _ _ (by simp [hs2, hs3]) _)) fun σ H R q => tMs_imp q fun xs H1 q1 => ?_
  obtain ⟨ι, S, ws, items, s, r, e1, q1⟩ := q1
  unfold itemsOf at e1
  split at e1 <;> try contradiction
  rename_i lo hi st _
  split at e1
  · rename_i c
    cases e1
    cases r with
    | cons r1 r =>
      obtain ⟨y, z, rfl, r2, r3⟩ := two_rel r
      have ex := rp_int r1
      have ey := rp_int r2
      have ez := rp_int r3
      subst ex ey ez
      simp only [smallI, Bool.and_eq_true, decide_eq_true_eq, beq_iff_eq] at c
      obtain ⟨c1, c2⟩ := c
      subst c2
      refine ⟨lo, hi, -1, _, rfl, RgC.neg (by omega) (by omega) (by omega) (by omega), q1 _ (itR_fn (f := fun i => .int (lo + (i : Nat) * (-1))) (g := fun i => .d (.int (lo + ((i : Nat) : Int) * (-1)))) walk_rangeC (by simp [stepI]) (fun i it e => ?_) fun i H' ι' S' => mk_int _)⟩
      simp only [stepI, List.getElem?_map, Option.map_eq_some_iff] at e
      obtain ⟨a, ha, rfl⟩ := e
      obtain ⟨h1, h2⟩ := List.getElem?_eq_some_iff.mp ha
      simp only [List.getElem_range] at h2
      subst h2
      rfl
  · cases e1
theorem keys_at {C : Cn} {H : Hp} {ι : Nat → Addr} {L : Nat} {ks : List Ky} {kvs : List (Key × V)} (h : kvs.map (·.1) = ks.map ky) (hk : ∀ k ∈ ks, kyOk k) : WRs C H ι L (ks.map fun k => .d (keyD k)) (kvs.map fun kv => kV kv.1) := by
  have e : kvs.map (fun kv => kV kv.1) = (ks.map ky).map kV := by rw [← h, List.map_map]; rfl
  rw [e]
  clear e h
  induction ks with
  | nil => exact .nil
  | cons k ks ih =>
    refine .cons ?_ (ih fun z hz => hk z (List.mem_cons_of_mem _ hz))
    have := hk k (by simp)
    cases k with
    | inl i => exact mk_int i
    | inr s => exact mk_str this
/-- pairs with their places -/
theorem enum_at : ∀ (k : Nat) (l : List W) (i : Nat) (it : Item), (enumI k l)[i]? = some it → ∃ w, l[i]? = some w ∧ it = .two (.d (.int ((k + i : Nat) : Int))) w
  | k, [], i, it, h => by simp [enumI] at h
  | k, a :: l, 0, it, h => by
    simp only [enumI, List.getElem?_cons_zero, Option.some.injEq] at h
    subst h
    exact ⟨a, rfl, by simp⟩
  | k, a :: l, i + 1, it, h => by
    obtain ⟨w, h1, h2⟩ := enum_at (k + 1) l i it (by simpa [enumI] using h)
    refine ⟨w, by simpa using h1, ?_⟩
    rw [h2]
    have : k + 1 + i = k + (i + 1) := by omega
    rw [this]
theorem enum_len : ∀ (k : Nat) (l : List W), (enumI k l).length = l.length
  | _, [] => rfl
  | k, a :: l => by simp [enumI, enum_len (k + 1) l]
theorem itR_enum {C : Cn} {J : It} {H1 : Hp} {ι : Nat → Addr} {S : Sto} {l : List W} {xs : List V} {G : Hp → Prop} (w : Walk J xs.length G (YPair (fun i => some (.int (i : Nat))) (fun i => xs[i]?))) (hg : ∀ H' ι' S', Nx C H1 ι S H' ι' S' → G H') (r : WRs C H1 ι S.length l xs) : ItR C J H1 ι S (enumI 0 l, none) := by
  have hl := pairLen r
  have len := enum_len 0 l
  refine ⟨fun i it H' ι' S' e nx _ => w.goes i H' (by have := (List.getElem?_eq_some_iff.mp e).1; simp at this; omega) (hg _ _ _ nx), fun H' ι' S' nx _ => ?_, fun i it H' ι' S' x H'' e nx _ y => ?_⟩
  · show J.stop (enumI 0 l).length H'
    rw [len, hl]
    exact w.stops H' (hg _ _ _ nx)
  · obtain ⟨a, ea, rfl⟩ := enum_at 0 l i it e
    obtain ⟨x', hx', rx⟩ := pairGet r ea
    have hi : i < xs.length := (List.getElem?_eq_some_iff.mp hx').1
    obtain ⟨T, x1, x2, rfl, hT, rfl, h1, h2⟩ := w.yields i H' x H'' hi (hg _ _ _ nx) y
    cases h1
    have h2 : xs[i]? = some x2 := h2
    rw [hx'] at h2
    cases h2
    exact ⟨T, _, _, rfl, hT, rfl, by rw [Nat.zero_add]; exact mk_int _, nx.val rx⟩
theorem walk_enumT {K : PySem.W.Frag} {a : Addr} {xs : List V} : Walk (LDE.IteT K a) xs.length (fun H => SqT K H a xs) (YPair (fun i => some (.int (i : Nat))) (fun i => xs[i]?)) := by
  refine ⟨fun i _ hi q => ⟨xs, xs[i], q, by simp [hi]⟩, fun _ q => ⟨xs, q, Nat.le_refl _⟩, fun i H v H' _ q y => ?_⟩
  obtain ⟨T, x, h1, h2, h3, h4⟩ := y
  exact ⟨T, .int (i : Nat), x, h1, h2, h3, rfl, h4 xs q⟩
theorem sqt_stays {C : Cn} {H H' : Hp} {ι ι' : Nat → Addr} {S S' : Sto} {a : Addr} {xs : List V} (nx : Nx C H ι S H' ι' S') (d1 : SqT C.K H a xs) : SqT C.K H' a xs := nx.sta.sqt d1
theorem snd_enum {elts : List Expr} {kk : Nat} {tpos : Pos} {a : Expr} {e : E} {p pos : Pos} (g : GX Γ t C CX k Z sc X) (hg : glB sc "enumerate" = true) (h : SE t C Z X e a) (hs : noStar a = true) : PI X (.Tuple elts kk tpos) (.Call (.Name "enumerate" p) [a] [] pos) (tI t C Z .enum [e]) := by
  refine ⟨fun pins s σ H R I q => ?_⟩
  have ha : SEs t C Z X [e] [a] := snd_cons hs h snd_nil
  refine PyProof.Rows.Call_ (ld_blt I (g.gl hg) (g.blt _ (by decide +kernel)) PyProof.Rows.boot_enumerate (PyProof.Rows.callWith_type1 (thn (ha.run pos pins s σ H _ I q) fun us s1 ⟨vs, H1, I1, r1, q1⟩ => ?_) (star_cons hs _ _) rfl))
  obtain ⟨ι, S, ws, items, sm, r, e1, q1⟩ := q1
  unfold itemsOf at e1
  split at e1 <;> try contradiction
  rename_i w _
  obtain ⟨l, e2, rfl⟩ := Option.map_eq_some_iff.mp e1
  obtain ⟨x, rfl, rw1⟩ := one_rel r
  obtain ⟨ad, xs, rfl, q2, d1⟩ := fixOf_rel sm e2 rw1
  obtain ⟨u, rfl, ru⟩ := vals1 r1
  cases ru
  have fre : ∀ b, b ∈ [s1.heap.objs.size + 1, s1.heap.objs.size] → FpOk X pins H1 b := fun b hb => by
    have e' : b = s1.heap.objs.size + 1 ∨ b = s1.heap.objs.size := by simpa using hb
    have hle : s1.heap.objs.size ≤ b := by omega
    exact I1.fpOk hle (I1.hok.fresh hle)
  rcases d1 with d1 | d1
  · have d2 := d1
    rw [g.hC] at d2
    obtain ⟨its, rv, p', hz⟩ := I1.tuple d2
    refine PySem.LDE.call_enumT p' fun h' he hit hsz hk => wpAny_pyIter_enum he ?_
    have I2 : Inv X pins σ H1 { s1 with heap := h' } := I1.kept (t' := s1.toks) hk
    exact ⟨s1.heap.objs.size + 1, [s1.heap.objs.size + 1, s1.heap.objs.size], _, _, H1, rfl, I2, LDE.turn_enumT ad (s1.heap.objs.size + 1) s1.heap.objs.size, ⟨⟨.none, he⟩, hit, Nat.succ_ne_self _⟩, fre, q1 _ (by
      have := itR_enum (C := C) (H1 := H1) (ι := ι) (S := S) (walk_enumT (K := X.K) (a := ad)) (fun H' ι' S' nx => by rw [← g.hC]; exact sqt_stays nx d1) q2
      exact this)⟩
  · have d2 : SqL X.K H1 ad xs := d1.sql
    obtain ⟨its, rv, p', hz⟩ := I1.list d2
    refine call_enumerate_list p'.isList fun h' he hit hsz hk => wpAny_pyIter_enum he ?_
    have I2 : Inv X pins σ H1 { s1 with heap := h' } := I1.kept (t' := s1.toks) hk
    exact ⟨s1.heap.objs.size + 1, [s1.heap.objs.size + 1, s1.heap.objs.size], _, _, H1, rfl, I2, turn_enum ad (s1.heap.objs.size + 1) s1.heap.objs.size, ⟨⟨.none, he⟩, hit, Nat.succ_ne_self _⟩, fre, q1 _ (itR_enum walk_enum (fun H' ι' S' nx => (nx.sta.fzl d1).sql) q2)⟩
/-- a sequence by its value -/
theorem pi_val {tg : Expr} {pins : List (Addr × Obj)} {σ : L2.St} {H : Hp} {s : Shared} {x : V} {v : Value} {R : It → Hp → Prop} {ι : Nat → Addr} {S : Sto} {w : W} {items : List Item × Option (Nat × Nat)} (hC : C.K = X.K) (I : Inv X pins σ H s) (rx : RelV x v)
    (sm : Sim C H ι S) (r : WRp C H ι S.length w x) (e : itemsOf .seq [w] S = some items) (q : ∀ J, ItR C J H ι S items → R J H) : wpAny (model X.prog X.w) X.A (pyIter v) (PIE X pins σ tg R) X.xe s := by
  have lst : ∀ {a : Addr} {xs : List V}, x = .ref a → SqL X.K H a xs → R (Itl X.K a) H → wpAny (model X.prog X.w) X.A (pyIter v) (PIE X pins σ tg R) X.xe s := fun {a xs} ex hq q => by
    subst ex
    cases rx
    obtain ⟨its, rv, p, hz⟩ := I.list hq
    refine wpAny_pyIter_list p.isList ⟨s.heap.objs.size, [s.heap.objs.size], _, _, H, rfl, I.kept (t' := s.toks) fun b o e => Heap.get?_push_of_some _ e, turn_list a _, ⟨_, Heap.get?_push_size _ rfl, rfl, rfl⟩, fun b hb => ?_, q⟩
    obtain rfl : b = s.heap.objs.size := by simpa using hb
    exact I.fpOk (Nat.le_refl _) (I.hok.fresh (Nat.le_refl _))
  have tup : ∀ {a : Addr} {xs : List V}, x = .ref a → SqT X.K H a xs → R (Itt X.K a) H → wpAny (model X.prog X.w) X.A (pyIter v) (PIE X pins σ tg R) X.xe s := fun {a xs} ex hq q => by
    subst ex
    cases rx
    obtain ⟨its, rv, p, hz⟩ := I.tuple hq
    refine wpAny_pyIter_tuple (show s.heap.IsTuple a its.toArray from p) ⟨s.heap.objs.size, [s.heap.objs.size], _, _, H, rfl, I.kept (t' := s.toks) fun b o e => Heap.get?_push_of_some _ e, turn_tuple a _, ⟨_, Heap.get?_push_size _ rfl, rfl, rfl⟩, fun b hb => ?_, q⟩
    obtain rfl : b = s.heap.objs.size := by simpa using hb
    exact I.fpOk (Nat.le_refl _) (I.hok.fresh (Nat.le_refl _))
  unfold itemsOf at e
  split at e <;> try contradiction
  · rename_i z _ he
    cases he
    cases e
    have ex := rp_str r
    subst ex
    obtain ⟨tk, rfl⟩ := rx
    have fin : R (Its (sT z)) H := q _ ⟨fun i it H' ι' S' e nx _ => walk_str.goes i H' (by have := (List.getElem?_eq_some_iff.mp e).1; simp [sT] at this ⊢; omega) trivial,
      fun H' ι' S' nx _ => by
        have := (walk_str (z := sT z)).stops H' trivial
        simpa [sT] using this,
      fun i it H' ι' S' x H'' e nx _ y => by
        have hi : i < (sT z).cps.size := by have := (List.getElem?_eq_some_iff.mp e).1; simp [sT] at this ⊢; omega
        obtain ⟨h1, c, h2, h3⟩ := walk_str.yields i H' x H'' hi trivial y
        have e : (z.map fun c => Item.one (.d (.str [c])))[i]? = some it := e
        rw [List.getElem?_map] at e
        obtain ⟨c', hc', rfl⟩ := Option.map_eq_some_iff.mp e
        have h2 : z[i]? = some c := by simpa [sT] using h2
        rw [hc'] at h2
        cases h2
        subst h3
        exact ⟨h1, mk_str (by simp [LIM])⟩⟩
    cases ha : (sT z).cps.all (· < 128)
    · exact wpAny_pyIter_wide ha (pi_one (tk := s.toks) I _ (turn_str _ (sT z) tk "str_iterator" (.inr rfl)) ⟨_, Heap.get?_push_size _ rfl, rfl, rfl⟩ fin)
    · exact wpAny_pyIter_ascii ha (pi_one (tk := s.toks) I _ (turn_str _ (sT z) tk "str_ascii_iterator" (.inl rfl)) ⟨_, Heap.get?_push_size _ rfl, rfl, rfl⟩ fin)
  · rename_i ks vs _ he
    cases he
    cases e
    have r : RpD C H (.dct ks vs) x := r
    simp only [RpD] at r
    obtain ⟨d, kvs, rfl, ⟨o, h1⟩, h2, h4, h3⟩ := r
    obtain rfl : v = Value.ref d := rx
    obtain ⟨hs, hgd, hx, es, ep, vs', hdt, hsz, kv, hm⟩ := I.frzK h1
    have hr : WRs C H ι S.length (ks.map fun k => .d (keyD k)) (kvs.map fun kv => kV kv.1) := keys_at h2 h4
    have fin : R (Itk d o kvs) H := q _ (by
      have w : Walk (Itk d o kvs) (kvs.map fun kv => kV kv.1).length (fun H => H d = some (.frz o (.dK kvs))) (YAt (kvs.map fun kv => kV kv.1)) := by
        have w0 := walk_keys (d := d) (o := o) (kvs := kvs)
        rw [List.length_map]
        refine ⟨w0.goes, w0.stops, fun i H x H' hi hg y => ?_⟩
        obtain ⟨e1, k, v, e2, e3⟩ := w0.yields i H x H' hi hg y
        exact ⟨e1, by rw [List.getElem?_map, e2, e3]; rfl⟩
      have := itR_fix (C := C) (H1 := H) (ι := ι) (S := S) w (fun H' ι' S' nx => nx.sta _ _ h1 trivial) hr
      rw [List.map_map] at this
      exact this)
    refine iter_keys hs hgd hx hdt (pi_one (tk := s.toks) I _ (turn_keys _ hdt) ⟨_, Heap.get?_push_size _ rfl, rfl, ?_⟩ fin)
    rw [hsz] <;> rfl
  · rename_i w' _ _ _ he
    cases he
    split at e
    · rename_i n l ec
      cases e
      obtain ⟨xs, ex, hn, q1, q2⟩ := cellL_rel sm ec r
      refine lst ex (.inl (.inl q2)) (q _ ?_)
      have cell : ∀ {H' : Hp} {ι' : Nat → Addr} {S' : Sto}, Nx C H ι S H' ι' S' → ∀ l', S'[n]? = some (.lst l') → ∃ ys, H' (ι n) = some (.lst ys) ∧ WRs C H' ι' S'.length l' ys := fun {H' ι' S'} nx l' e => by
        obtain ⟨ys, h1, h2⟩ := nx.sim.at' _ _ e
        rw [nx.ext n hn] at h1
        exact ⟨ys, h1, h2⟩
      have len : (liveI n l.length).length = l.length := by simp [liveI]
      have itm : ∀ (i : Nat) (it : Item), (liveI n l.length)[i]? = some it → it = .live n i l.length := fun i it e => by
        simp only [liveI, List.getElem?_map, Option.map_eq_some_iff] at e
        obtain ⟨a, ha, rfl⟩ := e
        obtain ⟨h1, h2⟩ := List.getElem?_eq_some_iff.mp ha
        simp only [List.getElem_range] at h2
        rw [h2]
      refine ⟨fun i it H' ι' S' e nx hg => ?_, fun H' ι' S' nx hf => ?_, fun i it H' ι' S' x H'' e nx hg y => ?_⟩
      · rw [itm i it e] at hg
        simp only [itemGo] at hg
        split at hg
        · rename_i l' e'
          obtain ⟨ys, h1, h2⟩ := cell nx l' e'
          simp only [Bool.and_eq_true, beq_iff_eq, decide_eq_true_eq] at hg
          have hl := pairLen h2
          exact ⟨ys, ys[i]'(by omega), .inl (.inl h1), by simp [show i < ys.length by omega]⟩
        · cases hg
      · simp only [finOk] at hf
        split at hf
        · rename_i l' e'
          obtain ⟨ys, h1, h2⟩ := cell nx l' e'
          have hl := pairLen h2
          refine ⟨ys, .inl (.inl h1), ?_⟩
          show ys.length ≤ (liveI n l.length).length
          rw [len]
          have : l'.length = l.length := by simpa using hf
          omega
        · cases hf
      · have ei := itm i it e
        subst ei
        simp only [itemGo] at hg
        split at hg
        · rename_i l' e'
          obtain ⟨ys, h1, h2⟩ := cell nx l' e'
          have y2 := y.2 ys (.inl (.inl h1))
          simp only [Bool.and_eq_true, beq_iff_eq, decide_eq_true_eq] at hg
          have hl := pairLen h2
          obtain ⟨z, hz, rz⟩ := pairGet h2 (List.getElem?_eq_getElem (show i < l'.length by omega))
          rw [y2] at hz
          cases hz
          exact ⟨y.1, l', l'[i]'(by omega), e', by simp [show i < l'.length by omega], rz⟩
        · cases hg
    · obtain ⟨l, e1, rfl⟩ := Option.map_eq_some_iff.mp e
      obtain ⟨a, xs, rfl, q1, d1⟩ := fixOf_rel sm e1 r
      rcases d1 with d1 | d1
      · refine tup rfl (hC ▸ d1) (q _ (itR_fix walk_tup (fun H' ι' S' nx => ?_) q1))
        -- a tuple stays
        rcases d1 with (d1 | ⟨o, d1⟩) | d1
        · exact .inl (.inl (nx.sta _ _ d1 trivial))
        · exact .inl (.inr ⟨o, nx.sta _ _ d1 trivial⟩)
        · exact .inr (hC ▸ d1)
      · have d2 : SqL X.K H a xs := d1.sql
        exact lst rfl d2 (q _ (itR_fix walk_list (fun H' ι' S' nx => (nx.sta.fzl d1).sql) q1))
theorem snd_seq {tg a : Expr} {e : E} (g : GX Γ t C CX k Z sc X) (h : SE t C Z X e a) : PI X tg a (tI t C Z .seq [e]) := by
  refine ⟨fun pins s σ H R I q => ?_⟩
  obtain ⟨ρ, ι, S, sm, se, a1⟩ := q
  simp only [evs] at a1
  have a2 : Aft C Z (WRp C) (ev t e ρ S) H ι S fun x H1 => ∃ ι S w items, Sim C H1 ι S ∧ WRp C H1 ι S.length w x ∧ itemsOf .seq [w] S = some items ∧ ∀ J, ItR C J H1 ι S items → R J H1 := by
    cases he : ev t e ρ S with
    | ok w S' =>
      rw [he] at a1
      intro x H1 ι1 nx r
      obtain ⟨ι2, S2, ws, items, s2, r2, e2, q2⟩ := a1 [x] H1 ι1 nx (.cons r .nil)
      obtain ⟨w2, rfl⟩ : ∃ w2, ws = [w2] := by
        cases r2 with
        | cons r3 r4 => cases r4; exact ⟨_, rfl⟩
      obtain ⟨x', ex, r3⟩ := one_rel r2
      cases ex
      exact ⟨ι2, S2, w2, items, s2, r3, e2, q2⟩
    | exc c fs S' => rw [he] at a1; exact a1
    | bad => rw [he] at a1; exact a1
  refine thn (h.run pins s σ H _ I ⟨ρ, ι, S, sm, se, a2⟩) fun v s1 ⟨x, H1, I1, rx, q1⟩ => ?_
  obtain ⟨ι1, S1, w, items, s1', r, e1, q2⟩ := q1
  exact pi_val g.hC I1 rx s1' r e1 q2
end
end LD
/-! LD18: comprehensions; every expression. -/
namespace LD
open PySem L2

section
variable {C : Cn} {Z : XK} {H H' H2 : Hp} {ι ι' ι2 : Nat → Addr} {S S' S2 : Sto} {p : Addr} {u u' : HO} {o : O}
/-- a thing that is no cell and was not there ahead is written -/
theorem Nx.poke (x : Nx C H ι S H' ι' S') (hp : H p = none) (hu : H' p = some u) (hs : ¬ Stab u) (np : ∀ n, n < S'.length → ι' n ≠ p) : Nx C H ι S (upd H' p u') ι' S' := by
  have k2 : Keeps H' (upd H' p u') := fun a o h st => by
    by_cases e : a = p
    · subst e; rw [hu] at h; cases h; exact absurd st hs
    · rw [upd_ne e]; exact h
  refine ⟨x.len, x.ext, x.new, x.sta.trans k2, fun a o h hn => ?_, ⟨fun n o h => ?_, x.sim.inj⟩⟩
  · rw [upd_ne (ne_of_none h hp)]
    exact x.fr a o h hn
  · have hn : n < S'.length := (List.getElem?_eq_some_iff.mp h).1
    exact (x.sim.at' n o h).mono k2 (Nat.le_refl _) (fun _ _ => rfl) fun u' h' => by rw [upd_ne (np n hn)]; exact h'
/-- .. is counted among the cells -/
theorem Nx.addC (x : Nx C H ι S H' ι' S') (hp : H p = none) (np : ∀ n, n < S'.length → ι' n ≠ p) (ho : ∀ ι2, (∀ n, n < S'.length → ι2 n = ι' n) → ORp C H' ι2 (S'.length + 1) o p) : Nx C H ι S H' (push ι' S'.length p) (S' ++ [o]) := by
  have ex : ∀ n, n < S'.length → push ι' S'.length p n = ι' n := fun n h => push_lt h
  have hl : (S' ++ [o]).length = S'.length + 1 := by simp
  refine ⟨by have := x.len; omega, fun n h => by rw [ex n (Nat.lt_of_lt_of_le h x.len), x.ext n h], fun n h1 h2 => ?_, x.sta, x.fr, ⟨fun n o' h => ?_, fun m n hm hn e => ?_⟩⟩
  · by_cases h : n < S'.length
    · rw [ex n h]; exact x.new n h1 h
    · have : n = S'.length := by omega
      subst this
      rw [push_at]; exact hp
  · rw [hl]
    by_cases hn : n < S'.length
    · rw [List.getElem?_append_left hn] at h
      rw [ex n hn]
      exact (x.sim.at' n o' h).mono Keeps.refl (Nat.le_succ _) ex fun _ h => h
    · have h2 : n < (S' ++ [o]).length := (List.getElem?_eq_some_iff.mp h).1
      have : n = S'.length := by omega
      subst this
      have e : o = o' := by simpa using h
      subst e
      rw [push_at]
      exact ho _ ex
  · by_cases h1 : m < S'.length
    · by_cases h2 : n < S'.length
      · rw [ex m h1, ex n h2] at e; exact x.sim.inj m n h1 h2 e
      · have : n = S'.length := by omega
        subst this
        rw [ex m h1, push_at] at e
        exact absurd e (np m h1)
    · have : m = S'.length := by omega
      subst this
      by_cases h2 : n < S'.length
      · rw [ex n h2, push_at] at e
        exact absurd e.symm (np n h2)
      · omega
theorem end_mkL {fz : Bool} {ws : List W} {xs : List V} {Q : VK} (x : Nx C H ι S H' ι' S') (hp : H p = none) (hD : H' p = some (.lst xs)) (np : ∀ n, n < S'.length → ι' n ≠ p) (r : WRs C H' ι' S'.length ws xs) (a : Aft C Z (WRp C) (mkL fz ws S') H ι S Q) : Fz Q (.ref p) H' := by
  unfold mkL at a
  cases fz with
  | true =>
    rw [if_pos rfl] at a
    refine .inl ⟨p, _, rfl, hD, trivial, fun o => ?_⟩
    cases hd : datas ws with
    | some ds =>
      rw [hd] at a
      have nx : Nx C H ι S (upd H' p (.frz o (.lst xs))) ι' S' := x.poke hp hD (fun z => z) np
      refine a _ _ _ nx ?_
      show RpD C _ (.lst ds) _
      simp only [RpD]
      have k2 : Keeps H' (upd H' p (.frz o (.lst xs))) := fun a o' h st => by
        by_cases e : a = p
        · subst e; rw [hD] at h; cases h; exact st.elim
        · rw [upd_ne e]; exact h
      exact ⟨p, xs, rfl, ⟨o, upd_same⟩, (datas_rel hd r).mono k2⟩
    | none => rw [hd] at a; exact a.elim
  | false =>
    rw [if_neg Bool.false_ne_true] at a
    refine .inr (a _ _ _ (x.addC hp np fun ι2 he => ⟨xs, hD, WRs.mono Keeps.refl (Nat.le_succ _) he r⟩) ⟨by simp, by rw [push_at]⟩)
theorem itemSet_go {P : P} {it : Item} {ρ ρ' : Rho} (h : itemSet P it S ρ = some ρ') : itemGo it S = true := by
  cases it with
  | one w => rfl
  | two a b => rfl
  | live n i len =>
    have h : (match S[n]? with
      | some (.lst l) => if l.length = len then (match l[i]? with
        | some w => patSet P w S ρ
        | none => none) else none
      | _ => none) = some ρ' := h
    show (match S[n]? with
      | some (.lst l) => l.length == len && decide (i < len)
      | _ => false) = true
    cases e : S[n]? with
    | none => rw [e] at h; cases h
    | some o =>
      rw [e] at h
      cases o <;> first | (cases h; done) | skip
      rename_i l
      simp only at h ⊢
      split at h
      · rename_i hl
        split at h
        · rename_i w hw
          have := (List.getElem?_eq_some_iff.mp hw).1
          simp [hl]
          omega
        · cases h
      · cases h
/-- an item is stored -/
theorem item_gV {P : P} {it : Item} {x : V} {H'' : Hp} {ρ ρ' : Rho} {σ : L2.St} {Q : L2.St → Hp → Prop} (s : Sim C H ι S) (r : ItRel C H ι S it x H'') (h : itemSet P it S ρ = some ρ') (se : SimE C H ι S.length ρ σ)
    (q : Nx C H ι S H'' ι S → ∀ σ', SimE C H'' ι S.length ρ' σ' → (∀ vs : List Nat, (∀ i ∈ patIx P, i ∈ vs) → L2.wipe σ' vs = L2.wipe σ vs) → Q σ' H'') : gV C.K P x σ H'' Q := by
  unfold itemSet at h
  split at h
  · obtain ⟨rfl, r⟩ := r
    exact gV_ok s h r se (q (Nx.refl s))
  · rename_i a b p1 p2
    obtain ⟨T, x1, x2, rfl, hT, rfl, r1, r2⟩ := r
    have nx : Nx C H ι S (upd H T (.tup [x1, x2])) ι S := Nx.tmp s hT _
    obtain ⟨ρ1, h1, h2⟩ := Option.bind_eq_some_iff.mp h
    simp only [gV, gTup]
    refine ⟨T, [x1, x2], rfl, SqT.of upd_same, rfl, gVs_ok (ws := [a, b]) (ρ' := ρ') nx.sim ?_ (.cons (nx.val r1) (.cons (nx.val r2) .nil)) (nx.env se) fun σ' se' hv => q nx σ' se' fun vs hi => hv vs fun i hi' => hi i (by simpa [patIx] using hi')⟩
    simp only [patSets, h1, h2]
  · cases h
  · rename_i n i len p
    obtain ⟨rfl, l, w, e1, e2, r⟩ := r
    rw [e1] at h
    simp only [e2] at h
    split at h
    · exact gV_ok s h r se (q (Nx.refl s))
    · cases h
end
section
variable {Γ : Gm} {t : Tab} {C : Cn} {CX : CXT} {k : Nat} {Z : XK} {sc : Scope} {X : Cx}
/-- nothing is wished of an error -/
def Z0 : XK := fun _ _ _ => False
theorem gx_blk (g : GX Γ t C CX k Z sc X) (s : Shared) (H : Hp) (scope : Scope) (cl : List (Str × Addr)) (c : Addr) (fp : List Addr) : GX Γ t C CX k Z0 (relS scope sc) (X.blk s H scope (compEnvC scope cl c X.env) fp) := by
  refine ⟨g.hC, g.calm, g.gd, g.room, g.N, g.nd, ?_, g.blt, g.glb, g.fns, fun pins σ H s e s' I h => (g.cx0 _ _ _ _ _ h).elim, g.cx0⟩
  show relS scope X.env.scope = _
  rw [g.scq]
theorem relS_loc {scope sc' : Scope} {x : Str} {kd : NameKind} (h : scope.names.lookup x = some kd) (hk : kd ≠ .free) : (relS scope sc').names.lookup x = some kd := by
  unfold relS
  show (scope.names.map _).lookup x = some kd
  generalize scope.names = ns at h
  induction ns with
  | nil => simp at h
  | cons a ns ih =>
    obtain ⟨n, k0⟩ := a
    rw [List.map_cons]
    cases hx : x == n with
    | true =>
      simp only [List.lookup_cons, hx, Option.some.injEq] at h
      subst h
      have e : (k0 == NameKind.free) = false := by cases k0 <;> first | rfl | exact absurd rfl hk
      simp only [e, Bool.false_and, Bool.false_eq_true, if_false, List.lookup_cons, hx]
    | false =>
      simp only [List.lookup_cons, hx] at h
      have := ih h
      dsimp only
      split
      · simp only [List.lookup_cons, hx]; exact this
      · simp only [List.lookup_cons, hx]; exact this
theorem blk_loc (s : Shared) (H : Hp) (scope : Scope) (cl : List (Str × Addr)) (c : Addr) (fp : List Addr) : ∀ x, locB scope x = true → Loc (X.blk s H scope (compEnvC scope cl c X.env) fp).env.scope x ∧ ((X.blk s H scope (compEnvC scope cl c X.env) fp).fn x = true ∨ (X.blk s H scope (compEnvC scope cl c X.env) fp).env.scope.names.lookup x = some .local) := by
  intro x h
  unfold locB at h
  split at h
  · rename_i e
    have := relS_loc (sc' := X.env.scope) e (by decide)
    exact ⟨.inl this, .inr this⟩
  · rename_i e
    have := relS_loc (sc' := X.env.scope) e (by decide)
    refine ⟨.inr this, .inl ?_⟩
    show (scope.names.lookup x == some .cell) = true
    rw [e]
    rfl
  · cases h
theorem wipeE_eq (ρ : Rho) : ∀ vs : List Nat, (wipeE ρ vs).length = ρ.length
  | [] => rfl
  | v :: vs => by simp [wipeE, wipeE_eq ρ vs]
theorem own_ix (N : List Str) (p : P) : (ownOf N p).map (·.2) = patIx p := by
  unfold ownOf
  rw [List.map_map]
  exact List.map_id _
theorem comp_tLc {fz : Bool} {p : P} {kd : IK} {its cs : List E} {e : E} {σ : L2.St} {H : Hp} {Q : VK} (hC : C.K = X.K) (q : tM C Z (ev t (.comp fz p kd its cs e)) σ H Q) :
    tLc (tI t C Z kd its) (gV X.K p) (tMt C Z0 (evConds t cs)) (tM C Z0 (ev t e)) (patIx p) σ H (Fz Q) := by
  obtain ⟨ρ, ι, S, s, se, a⟩ := q
  simp only [ev] at a
  refine ⟨ρ, ι, S, s, se, (Aft.bind s a).imp ?_⟩
  rintro xs H1 ⟨ws, ι1, S1, nx1, r1, a1⟩
  split at a1
  · rename_i items ei
    refine ⟨ι1, S1, ws, items, nx1.sim, r1, ei, fun J hJ D hD => ?_⟩
    have se1 := nx1.env se
    generalize hstep : (fun it S => match itemSet p it S (wipeE ρ (patIx p)) with
      | some ρ' => (evConds t cs ρ' S).bind fun b S => if b = true then (ev t e ρ' S).bind fun w S => .ok (some w) S else .ok none S
      | none => (.bad : R (Option W))) = step at a1
    let Pv : Nat → Hp → Prop := fun i H' => ∃ ι' S' acc xs, Nx C H1 ι1 S1 H' ι' S' ∧ H' D = some (.lst xs) ∧ (∀ n, n < S'.length → ι' n ≠ D) ∧ WRs C H' ι' S'.length acc xs ∧ Aft C Z (WRp C) ((compL step items.2 (items.1.drop i) acc S').noX.bind fun r S => mkL fz r S) H1 ι1 S1 Q
    refine ⟨fun i m H' => m = items.1.length - i ∧ i ≤ items.1.length ∧ Pv i H', ⟨items.1.length, by simp, Nat.zero_le _, ι1, S1, [], [], Nx.tmp nx1.sim hD _, upd_same, fun n hn => nx1.sim.ne hD hn, .nil, a1⟩, ?_⟩
    rintro i m H' ⟨rfl, hi', ι', S', acc, xs', nx, hD', np, racc, aa⟩
    by_cases hlt : i < items.1.length
    · -- a turn
      have hit : items.1[i]? = some items.1[i] := List.getElem?_eq_getElem hlt
      generalize items.1[i] = it at hit
      have hdrop : items.1.drop i = it :: items.1.drop (i + 1) := by
        rw [List.drop_eq_getElem_cons hlt]
        rw [List.getElem?_eq_getElem hlt] at hit
        rw [Option.some.inj hit]
      rw [hdrop] at aa
      simp only [compL] at aa
      -- the step goes well
      cases hr : step it S' with
      | exc c fs S'' => rw [hr] at aa; exact aa.elim
      | bad => rw [hr] at aa; exact aa.elim
      | ok r S'' =>
        rw [hr] at aa
        have hr2 := hr
        rw [← hstep] at hr2
        simp only at hr2
        cases hset : itemSet p it S' (wipeE ρ (patIx p)) with
        | none => rw [hset] at hr2; cases hr2
        | some ρ' =>
          rw [hset] at hr2
          simp only at hr2
          have hgo := itemSet_go hset
          refine .inr ⟨hJ.go i it H' ι' S' hit nx hgo, Pv (i + 1), fun H'' p' => ⟨items.1.length - (i + 1), by omega, rfl, hlt, p'⟩, fun x H'' y => ?_⟩
          have rel := hJ.yld i it H' ι' S' x H'' hit nx hgo y
          rw [← hC]
          refine item_gV nx.sim rel hset ((nx.env se1).wipe _) fun nx2 σ2 se2 hw => ⟨by rw [hw (patIx p) fun _ h => h, wipe_wipe], ?_⟩
          have nxT := Nx.trans nx1.sim nx nx2
          have atD : H'' D = some (.lst xs') := nx2.fr D _ hD' np
          cases hc : evConds t cs ρ' S' with
          | exc c fs S3 => rw [hc] at hr2; cases hr2
          | bad => rw [hc] at hr2; cases hr2
          | ok b S3 =>
            rw [hc] at hr2
            simp only [R.bind] at hr2
            refine ⟨ρ', ι', S', nx2.sim, se2, ?_⟩
            rw [hc]
            intro b' H3 ι3 nx3 eb
            cases (show b = b' from eb)
            have nxT3 := Nx.trans nx1.sim nxT nx3
            have atD3 : H3 D = some (.lst xs') := nx3.fr D _ atD np
            have np3 : ∀ n, n < S3.length → ι3 n ≠ D := fun n hn e => by
              by_cases h : n < S'.length
              · rw [nx3.ext n h] at e; exact np n h e
              · have := nx3.new n (Nat.le_of_not_lt h) hn
                rw [e, atD] at this
                cases this
            cases b with
            | true =>
              rw [if_pos rfl] at hr2 ⊢
              cases hv : ev t e ρ' S3 with
              | exc c fs S4 => rw [hv] at hr2; cases hr2
              | bad => rw [hv] at hr2; cases hr2
              | ok w S4 =>
                rw [hv] at hr2
                simp only [R.bind, R.ok.injEq] at hr2
                obtain ⟨rfl, rfl⟩ := hr2
                refine ⟨ρ', ι3, S3, nx3.sim, nx3.env se2, ?_⟩
                rw [hv]
                intro v H4 ι4 nx4 rv
                have atD4 : H4 D = some (.lst xs') := nx4.fr D _ atD3 np3
                have np4 : ∀ n, n < S4.length → ι4 n ≠ D := fun n hn e => by
                  by_cases h : n < S3.length
                  · rw [nx4.ext n h] at e; exact np3 n h e
                  · have := nx4.new n (Nat.le_of_not_lt h) hn
                    rw [e, atD3] at this
                    cases this
                have nxT4 := Nx.trans nx1.sim nxT3 nx4
                have aa : Aft C Z (WRp C) ((if acc.length < LIM then compL step items.2 (items.1.drop (i + 1)) (acc ++ [w]) S4 else .bad).noX.bind fun r S => mkL fz r S) H1 ι1 S1 Q := aa
                by_cases hlim : acc.length < LIM
                · rw [if_pos hlim] at aa
                  have hl := pairLen racc
                  refine ⟨xs', atD4, by rw [← hl]; exact lim_lt hlim, ι4, S4, acc ++ [w], xs' ++ [v], nxT4.poke hD atD4 (fun z => z) np4, upd_same, np4, ?_, aa⟩
                  have k4 : Keeps H4 (upd H4 D (.lst (xs' ++ [v]))) := fun a o h st => by
                    by_cases e : a = D
                    · subst e; rw [atD4] at h; cases h; exact st.elim
                    · rw [upd_ne e]; exact h
                  refine pairApp ?_ (.cons (rv.mono k4 (Nat.le_refl _) fun _ _ => rfl) .nil)
                  exact WRs.mono k4 (Nat.le_refl _) (fun _ _ => rfl) (nx4.vals (nx3.vals (nx2.vals racc)))
                · rw [if_neg hlim] at aa
                  exact aa.elim
            | false =>
              rw [if_neg Bool.false_ne_true] at hr2 ⊢
              simp only [R.ok.injEq] at hr2
              obtain ⟨rfl, rfl⟩ := hr2
              exact ⟨ι3, S3, acc, xs', nxT3, atD3, np3, nx3.vals (nx2.vals racc), aa⟩
    · have hi2 : i = items.1.length := by omega
      subst hi2
      rw [List.drop_length] at aa
      simp only [compL] at aa
      by_cases hf : finOk items.2 S' = true
      · rw [if_pos hf] at aa
        exact .inl ⟨hJ.stop H' ι' S' nx hf, end_mkL nx hD hD' np racc aa⟩
      · rw [if_neg hf] at aa
        exact aa.elim
  · exact a1.elim
theorem snd_comp {fz : Bool} {p : P} {kd : IK} {its cs : List E} {e : E} {elt tg iter : Expr} {ifs : List Expr} {scope : Scope} {pos : Pos} (g : GX Γ t C CX k Z sc X) (hb : blkC Γ.N sc scope (ownOf Γ.N p) = true) (hp : chkP Γ.N scope p tg = true) (hs : notSet iter = true)
    (hi : PI X tg iter (tI t C Z kd its))
    (ht : ∀ (s : Shared) (H : Hp) (c : Addr) (cl : List (Str × Addr)) (fp : List Addr), PTs (X.blk s H scope (compEnvC scope cl c X.env) fp) ifs (tMt C Z0 (evConds t cs)))
    (he : ∀ (s : Shared) (H : Hp) (c : Addr) (cl : List (Str × Addr)) (fp : List Addr), SE t C Z0 (X.blk s H scope (compEnvC scope cl c X.env) fp) e elt) :
    SE t C Z X (.comp fz p kd its cs e) (.ListComp elt [⟨tg, iter, ifs, 0⟩] scope pos) := by
  have hN : X.N.Nodup := by rw [g.N]; exact g.nd
  have ok : BlkOk X.N X.env.scope scope (ownOf Γ.N p) := blkOk_by (by rw [g.N, g.scq]; exact hb)
  refine peOfF (pe_lc (g := gV X.K p) g.calm hN hi ok (fun s H c cl fp => snd_pat (sc := scope) (N := Γ.N) (X := X.blk s H scope (compEnvC scope cl c X.env) fp) g.N g.nd g.calm (blk_loc s H scope cl c fp) hp) ht he (folded_of hs _)) fun σ H Q q => ?_
  rw [own_ix]
  exact comp_tLc g.hC q
/-- is the list of name = [..] stored by another road -/
def swapB (sc : Scope) (y : Str) (p : Pos) (v : Expr) : Bool := match v with
  | .ListComp _ _ s p2 => (sc.names.lookup y == some .local) && p.line == p2.line && !(s.names.any fun (n, k) => n == y && (k == .local || k == .cell))
  | _ => false
theorem tLc_imp {wi : TI} {g : TG} {tt : TT} {te : TE} {vs : List Nat} {σ : L2.St} {H : Hp} {Q Q' : VK} (hw : ∀ R R', (∀ J H1, R J H1 → R' J H1) → wi σ H R → wi σ H R') (i : ∀ v H', Q v H' → Q' v H') (h : tLc wi g tt te vs σ H Q) : tLc wi g tt te vs σ H Q' := by
  refine hw _ _ (fun J H1 h D hD => ?_) h
  obtain ⟨W, h0, hs⟩ := h D hD
  refine ⟨W, h0, fun i' m H' hw => ?_⟩
  rcases hs i' m H' hw with ⟨h1, h2⟩ | h1
  · exact .inl ⟨h1, i _ _ h2⟩
  · exact .inr h1
theorem tI_imp {kd : IK} {its : List E} {σ : L2.St} {H : Hp} : ∀ R R' : It → Hp → Prop, (∀ J H1, R J H1 → R' J H1) → tI t C Z kd its σ H R → tI t C Z kd its σ H R' := by
  intro R R' h q
  refine tMs_imp q ?_
  rintro xs H1 ⟨ι, S, ws, items, s, r, e, q⟩
  exact ⟨ι, S, ws, items, s, r, e, fun J hJ => h _ _ (q J hJ)⟩
end
end LD
/-! LD19: every expression that the check takes keeps what the interpreter says. -/
namespace LD
open PySem L2

section
variable {Γ : Gm} {t : Tab} {C : Cn} {CX : CXT} {k : Nat} {Z : XK} {sc : Scope} {X : Cx}
theorem const_pe {e : E} {x : Expr} {w : W} {v : V} (h : PE X x (tC v)) (he : ∀ ρ S, ev t e ρ S = .ok w S) (hr : ∀ H ι L, WRp C H ι L w v) : SE t C Z X e x := peImp h fun σ H Q q => by
  obtain ⟨ρ, ι, S, s, se, a⟩ := q
  rw [he] at a
  exact Aft.ok s (hr _ _ _) a
theorem snd_int {i : Int} {j : Nat} {p : Pos} : SE t C Z X (.int i) (.Constant (.int i) j p) := const_pe pe_int (fun _ _ => by simp only [ev]) fun _ _ _ => mk_int i
theorem snd_bl {b : Bool} {j : Nat} {p : Pos} : SE t C Z X (.bl b) (.Constant (.bool b) j p) := const_pe pe_bl (fun _ _ => by simp only [ev]) fun _ _ _ => mk_bl b
theorem snd_non {j : Nat} {p : Pos} : SE t C Z X .non (.Constant .none j p) := const_pe pe_non (fun _ _ => by simp only [ev]) fun _ _ _ => mk_non
theorem snd_str {s : List Nat} {j : Nat} {p : Pos} (h : s.length ≤ LIM) : SE t C Z X (.str s) (.Constant (.str (sT s)) j p) := const_pe pe_str (fun _ _ => by simp only [ev]) fun _ _ _ => mk_str h
theorem snd_glob {i : Nat} {x : Str} {p : Pos} (g : GX Γ t C CX k Z sc X) (h : Γ.glb i = some x) (hg : glB sc x = true) (hk : nameOk x = true) : SE t C Z X (.glob i) (.Name x p) := by
  cases e : t.glb i with
  | none =>
    refine ⟨fun pins s σ H Q I q => ?_⟩
    obtain ⟨ρ, ι, S, s', se, a⟩ := q
    simp only [ev, e] at a
    exact a.elim
  | some d =>
    obtain ⟨u, v, h1, h2, h3⟩ := g.glb i x d h e
    exact const_pe (w := .d d) (pe_glob (g.gl hg) h1 h2 (nm_debug hk)) (fun ρ S => by simp only [ev, e]) fun H ι L => h3 H
theorem frz_fz {H : Hp} {ι : Nat → Addr} {S : Sto} {w : W} {v : V} {Q : VK} (s : Sim C H ι S) (r : WRp C H ι S.length w v) (a : Aft C Z (WRp C) (frzW w S) H ι S Q) : Fz Q v H := by
  unfold frzW at a
  split at a
  · exact .inr (Aft.ok s r a)
  · rename_i n
    obtain ⟨hn, rfl⟩ := r
    split at a
    · rename_i l e
      split at a
      · rename_i ds hd
        obtain ⟨xs, h1, h2⟩ := s.at' _ _ e
        refine .inl ⟨ι n, _, rfl, h1, trivial, fun o => ?_⟩
        have nx : Nx C H ι S (upd H (ι n) (.frz o (.lst xs))) ι (S.set n .dead) := Nx.write s hn (fun o' h' => by rw [h1] at h'; cases h'; exact fun z => z) ⟨o, _, upd_same⟩
        refine a _ _ _ nx ?_
        show RpD C _ (.lst ds) _
        simp only [RpD]
        exact ⟨ι n, xs, rfl, ⟨o, upd_same⟩, (datas_rel hd h2).mono nx.sta⟩
      · exact a.elim
    · rename_i l e
      split at a
      · rename_i ds hd
        obtain ⟨xs, h1, h2⟩ := s.at' _ _ e
        refine .inl ⟨ι n, _, rfl, h1, trivial, fun o => ?_⟩
        have nx : Nx C H ι S (upd H (ι n) (.frz o (.dK xs))) ι (S.set n .dead) := Nx.write s hn (fun o' h' => by rw [h1] at h'; cases h'; exact fun z => z) ⟨o, _, upd_same⟩
        obtain ⟨k1, k2, k3⟩ := krs_keys h2
        refine a _ _ _ nx ?_
        show RpD C _ (.dct _ ds) _
        simp only [RpD]
        exact ⟨ι n, xs, rfl, ⟨o, upd_same⟩, k1, k2, (datas_rel hd k3).mono nx.sta⟩
      · exact a.elim
    · exact a.elim
theorem snd_frz {e : E} {x : Expr} (h : SE t C Z X e x) : SE t C Z X (.frz e) x := by
  refine peOfF h fun σ H Q q => tM_imp (tM_un (k := frzW) (fun ρ S => by simp only [ev]) q) ?_
  rintro v H1 ⟨ι, S, w, s, r, a⟩
  exact frz_fz s r a
theorem evT_frz (e : E) (ρ : Rho) (S : Sto) : evT t (.frz e) ρ S = evT t e ρ S := by
  unfold evT
  simp only [ev]
  cases ev t e ρ S with
  | ok w S' =>
    simp only [R.bind]
    cases w with
    | d x => rfl
    | ref n =>
      simp only [frzW, truth]
      cases S'[n]? with
      | none => rfl
      | some o => cases o <;> first | rfl | (rename_i l; simp only; cases datas l <;> rfl) | (rename_i l; simp only; cases datas (l.map (·.2)) <;> rfl)
  | exc _ _ _ => rfl
  | bad => rfl
theorem snd_tfrz {e : E} {x : Expr} (h : ST t C Z X e x) : ST t C Z X (.frz e) x := ptImp h fun σ H Q q => by
  obtain ⟨ρ, ι, S, s, se, a⟩ := q
  exact ⟨ρ, ι, S, s, se, by rw [← evT_frz]; exact a⟩
inductive AllSE (t : Tab) (C : Cn) (Z : XK) (X : Cx) : List E → List Expr → Prop where
  | nil : AllSE t C Z X [] []
  | cons {e : E} {x : Expr} {l : List E} {xs : List Expr} (n : noStar x = true) (h : SE t C Z X e x) (h2 : ST t C Z X e x) (r : AllSE t C Z X l xs) : AllSE t C Z X (e :: l) (x :: xs)
inductive AllK (t : Tab) (C : Cn) (Z : XK) (X : Cx) : List E → List (Option Expr) → Prop where
  | nil : AllK t C Z X [] []
  | cons {e : E} {x : Expr} {l : List E} {xs : List (Option Expr)} (h : SE t C Z X e x) (r : AllK t C Z X l xs) : AllK t C Z X (e :: l) (some x :: xs)
theorem AllSE.ses : ∀ {l : List E} {xs : List Expr}, AllSE t C Z X l xs → SEs t C Z X l xs ∧ xs.all noStar = true ∧ l.length = xs.length
  | _, _, .nil => ⟨snd_nil, rfl, rfl⟩
  | _, _, .cons n h h2 r => by
    obtain ⟨a, b, c⟩ := r.ses
    exact ⟨snd_cons n h a, by simp [n, b], by simp [c]⟩
theorem AllSE.and : ∀ {l : List E} {xs : List Expr} (p : Pos), AllSE t C Z X l xs → SE t C Z X (.and l) (.BoolOp .And xs p) ∧ ST t C Z X (.and l) (.BoolOp .And xs p)
  | [], _, p, h => by
    refine ⟨⟨fun pins s σ H Q I q => ?_⟩, ⟨fun pins s σ H Q I q => ?_⟩⟩
    · obtain ⟨ρ, ι, S, s', se, a⟩ := q
      simp only [ev, evAnd] at a
      exact a.elim
    · obtain ⟨ρ, ι, S, s', se, a⟩ := q
      simp only [evT, ev, evAnd] at a
      exact a.elim
  | e :: l, _, p, .cons (x := x) (xs := xs) n h h2 r => by
    have key : SE t C Z X (.and (e :: l)) (.BoolOp .And (x :: xs) p) ∧ SW t C Z X (.and (e :: l)) (.BoolOp .And (x :: xs) p) := by
      clear n
      induction r generalizing e x with
      | nil => exact ⟨snd_and1 h, snd_wand1 h2⟩
      | cons n' h' h2' r' ih =>
        obtain ⟨i1, i2⟩ := ih _ _ h' h2'
        exact ⟨snd_and h i1, snd_wand h2 i2⟩
    exact ⟨key.1, key.2.pt⟩
theorem AllSE.or : ∀ {l : List E} {xs : List Expr} (p : Pos), AllSE t C Z X l xs → SE t C Z X (.or l) (.BoolOp .Or xs p) ∧ ST t C Z X (.or l) (.BoolOp .Or xs p)
  | [], _, p, h => by
    refine ⟨⟨fun pins s σ H Q I q => ?_⟩, ⟨fun pins s σ H Q I q => ?_⟩⟩
    · obtain ⟨ρ, ι, S, s', se, a⟩ := q
      simp only [ev, evOr] at a
      exact a.elim
    · obtain ⟨ρ, ι, S, s', se, a⟩ := q
      simp only [evT, ev, evOr] at a
      exact a.elim
  | e :: l, _, p, .cons (x := x) (xs := xs) n h h2 r => by
    have key : SE t C Z X (.or (e :: l)) (.BoolOp .Or (x :: xs) p) ∧ SW t C Z X (.or (e :: l)) (.BoolOp .Or (x :: xs) p) := by
      clear n
      induction r generalizing e x with
      | nil => exact ⟨snd_or1 h, snd_wor1 h2⟩
      | cons n' h' h2' r' ih =>
        obtain ⟨i1, i2⟩ := ih _ _ h' h2'
        exact ⟨snd_or h i1, snd_wor h2 i2⟩
    exact ⟨key.1, key.2.pt⟩
theorem AllK.pps : ∀ {ks vs : List E} {keys : List (Option Expr)} {values : List Expr} (p : Pos), AllK t C Z X ks keys → AllSE t C Z X vs values → ks.length = vs.length → PPs X p keys values ((ks.zip vs).map fun kv => (tM C Z (ev t kv.1), tM C Z (ev t kv.2))) ∧ keys.all (·.isSome) = true ∧ keys.length = values.length ∧ keys.length = ks.length
  | _, _, _, _, p, .nil, .nil, _ => ⟨pps_nil, rfl, rfl, rfl⟩
  | _, _, _, _, p, .cons h r, .cons n h' _ r', hl => by
    obtain ⟨a, b, c, d⟩ := r.pps p r' (by simpa using hl)
    exact ⟨pps_cons h h' a, by simp [b], by simp [c], by simp [d]⟩
  | _, _, _, _, p, .nil, .cons _ _ _ _, hl => by simp at hl
  | _, _, _, _, p, .cons _ _, .nil, hl => by simp at hl
theorem constLim : ∀ {ks : List E} {keys : List (Option Expr)} {sc : Scope}, chkKs Γ ks sc keys = true → ∀ e ∈ ks, ∀ s, e = .str s → s.length ≤ LIM
  | [], _, _, _, e, he, _, _ => by simp at he
  | k :: ks, keys, sc, h, e, he, s, es => by
    cases keys with
    | nil => simp [chkKs] at h
    | cons o keys =>
      cases o with
      | none => simp [chkKs] at h
      | some x =>
        simp only [chkKs, Bool.and_eq_true] at h
        rcases List.mem_cons.mp he with rfl | he
        · subst es
          have h1 := h.1
          unfold chkE at h1
          split at h1 <;> first | contradiction | (injections; subst_vars)
          simp only [Bool.and_eq_true, decide_eq_true_eq] at h1
          exact h1.2
        · exact constLim h.2 e he s es
end
section
variable {Γ : Gm} {sc : Scope} {x : Expr}
theorem inv_var {i : Nat} (h : chkE Γ (.var i) sc x = true) : ∃ y p, x = .Name y p ∧ (decide (Γ.N[i]? = some y) && visB sc y && nameOk y) = true := by
  (unfold chkE at h; first | contradiction | (split at h <;> first | contradiction | (injections; subst_vars)))
  exact ⟨_, _, rfl, h⟩
theorem inv_int {i : Int} (h : chkE Γ (.int i) sc x = true) : ∃ j p, x = .Constant (.int i) j p := by
  (unfold chkE at h; first | contradiction | (split at h <;> first | contradiction | (injections; subst_vars)))
  simp only [decide_eq_true_eq] at h
  exact ⟨_, _, by rw [h]⟩
theorem inv_bl {b : Bool} (h : chkE Γ (.bl b) sc x = true) : ∃ j p, x = .Constant (.bool b) j p := by
  (unfold chkE at h; first | contradiction | (split at h <;> first | contradiction | (injections; subst_vars)))
  simp only [beq_iff_eq] at h
  exact ⟨_, _, by rw [h]⟩
theorem inv_non (h : chkE Γ .non sc x = true) : ∃ j p, x = .Constant .none j p := by
  (unfold chkE at h; first | contradiction | (split at h <;> first | contradiction | (injections; subst_vars)))
  exact ⟨_, _, rfl⟩
theorem inv_str {s : List Nat} (h : chkE Γ (.str s) sc x = true) : ∃ j p, x = .Constant (.str (sT s)) j p ∧ s.length ≤ LIM := by
  (unfold chkE at h; first | contradiction | (split at h <;> first | contradiction | (injections; subst_vars)))
  simp only [Bool.and_eq_true, decide_eq_true_eq] at h
  exact ⟨_, _, by rw [h.1], h.2⟩
theorem inv_glob {i : Nat} (h : chkE Γ (.glob i) sc x = true) : ∃ y p, x = .Name y p ∧ Γ.glb i = some y ∧ glB sc y = true ∧ nameOk y = true := by
  (unfold chkE at h; first | contradiction | (split at h <;> first | contradiction | (injections; subst_vars)))
  simp only [Bool.and_eq_true, decide_eq_true_eq] at h
  exact ⟨_, _, rfl, h.1.1, h.1.2, h.2⟩
theorem inv_bin {op : BOp} {fz : Bool} {a b : E} (h : chkE Γ (.bin op fz a b) sc x = true) : ∃ y z p, x = .BinOp y (bopPy op) z p ∧ chkE Γ a sc y = true ∧ chkE Γ b sc z = true := by
  (unfold chkE at h; first | contradiction | (split at h <;> first | contradiction | (injections; subst_vars)))
  simp only [Bool.and_eq_true, decide_eq_true_eq] at h
  obtain ⟨⟨rfl, h1⟩, h2⟩ := h
  exact ⟨_, _, _, rfl, h1, h2⟩
theorem inv_neg {a : E} (h : chkE Γ (.neg a) sc x = true) : ∃ y p, x = .UnaryOp .USub y p ∧ chkE Γ a sc y = true := by
  (unfold chkE at h; first | contradiction | (split at h <;> first | contradiction | (injections; subst_vars)))
  exact ⟨_, _, rfl, h⟩
theorem inv_cmp {op : COp} {a b : E} (h : chkE Γ (.cmp op a b) sc x = true) : ∃ y z p, x = .Compare y [copPy op] [z] p ∧ chkE Γ a sc y = true ∧ chkE Γ b sc z = true ∧ notSet z = true := by
  (unfold chkE at h; first | contradiction | (split at h <;> first | contradiction | (injections; subst_vars)))
  simp only [Bool.and_eq_true, decide_eq_true_eq] at h
  obtain ⟨⟨⟨rfl, h1⟩, h2⟩, h3⟩ := h
  exact ⟨_, _, _, rfl, h1, h2, h3⟩
theorem inv_chain {op op' : COp} {a b c : E} (h : chkE Γ (.chain op op' a b c) sc x = true) : ∃ y z w p, x = .Compare y [copPy op, copPy op'] [z, w] p ∧ chkE Γ a sc y = true ∧ chkE Γ b sc z = true ∧ chkE Γ c sc w = true ∧ notSet w = true := by
  (unfold chkE at h; first | contradiction | (split at h <;> first | contradiction | (injections; subst_vars)))
  simp only [Bool.and_eq_true, decide_eq_true_eq] at h
  obtain ⟨⟨⟨⟨⟨rfl, rfl⟩, h1⟩, h2⟩, h3⟩, h4⟩ := h
  exact ⟨_, _, _, _, rfl, h1, h2, h3, h4⟩
theorem inv_and {l : List E} (h : chkE Γ (.and l) sc x = true) : ∃ es p, x = .BoolOp .And es p ∧ chkEs Γ l sc es = true := by
  (unfold chkE at h; first | contradiction | (split at h <;> first | contradiction | (injections; subst_vars)))
  exact ⟨_, _, rfl, h⟩
theorem inv_or {l : List E} (h : chkE Γ (.or l) sc x = true) : ∃ es p, x = .BoolOp .Or es p ∧ chkEs Γ l sc es = true := by
  (unfold chkE at h; first | contradiction | (split at h <;> first | contradiction | (injections; subst_vars)))
  exact ⟨_, _, rfl, h⟩
theorem inv_not {a : E} (h : chkE Γ (.not a) sc x = true) : ∃ y p, x = .UnaryOp .Not y p ∧ chkE Γ a sc y = true := by
  (unfold chkE at h; first | contradiction | (split at h <;> first | contradiction | (injections; subst_vars)))
  exact ⟨_, _, rfl, h⟩
theorem inv_ite {c a b : E} (h : chkE Γ (.ite c a b) sc x = true) : ∃ y z w p, x = .IfExp y z w p ∧ chkE Γ c sc y = true ∧ chkE Γ a sc z = true ∧ chkE Γ b sc w = true := by
  (unfold chkE at h; first | contradiction | (split at h <;> first | contradiction | (injections; subst_vars)))
  simp only [Bool.and_eq_true] at h
  exact ⟨_, _, _, _, rfl, h.1.1, h.1.2, h.2⟩
theorem inv_tup {l : List E} (h : chkE Γ (.tup l) sc x = true) : ∃ es j p, x = .Tuple es j p ∧ chkEs Γ l sc es = true ∧ l.length ≤ 1000 := by
  (unfold chkE at h; first | contradiction | (split at h <;> first | contradiction | (injections; subst_vars)))
  simp only [Bool.and_eq_true, decide_eq_true_eq] at h
  exact ⟨_, _, _, rfl, h.1, h.2⟩
theorem inv_lst {fz : Bool} {l : List E} (h : chkE Γ (.lst fz l) sc x = true) : ∃ es p, x = .List es p ∧ chkEs Γ l sc es = true ∧ l.length ≤ 1000 := by
  (unfold chkE at h; first | contradiction | (split at h <;> first | contradiction | (injections; subst_vars)))
  simp only [Bool.and_eq_true, decide_eq_true_eq] at h
  exact ⟨_, _, rfl, h.1, h.2⟩
theorem inv_dict {fz : Bool} {ks vs : List E} (h : chkE Γ (.dict fz ks vs) sc x = true) : ∃ keys values p, x = .Dict keys values p ∧ ks.all constB = true ∧ chkKs Γ ks sc keys = true ∧ chkEs Γ vs sc values = true ∧ ks.length = vs.length ∧ ks.length ≤ 15 := by
  (unfold chkE at h; first | contradiction | (split at h <;> first | contradiction | (injections; subst_vars)))
  simp only [Bool.and_eq_true, decide_eq_true_eq] at h
  obtain ⟨⟨⟨⟨h1, h2⟩, h3⟩, h4⟩, h5⟩ := h
  exact ⟨_, _, _, rfl, h1, h2, h3, h4, h5⟩
theorem inv_ix {a i : E} (h : chkE Γ (.ix a i) sc x = true) : ∃ y z p, x = .Subscript y z p ∧ chkE Γ a sc y = true ∧ chkE Γ i sc z = true ∧ plainB z = true := by
  (unfold chkE at h; first | contradiction | (split at h <;> first | contradiction | (injections; subst_vars)))
  simp only [Bool.and_eq_true] at h
  exact ⟨_, _, _, rfl, h.1.1, h.1.2, h.2⟩
theorem inv_slFrom {fz : Bool} {a lo : E} (h : chkE Γ (.slFrom fz a lo) sc x = true) : ∃ y z p p2, x = .Subscript y (.Slice (some z) none none p2) p ∧ chkE Γ a sc y = true ∧ chkE Γ lo sc z = true := by
  (unfold chkE at h; first | contradiction | (split at h <;> first | contradiction | (injections; subst_vars)))
  simp only [Bool.and_eq_true] at h
  exact ⟨_, _, _, _, rfl, h.1, h.2⟩
theorem inv_slTo {fz : Bool} {a lo : E} (h : chkE Γ (.slTo fz a lo) sc x = true) : ∃ y z p p2, x = .Subscript y (.Slice none (some z) none p2) p ∧ chkE Γ a sc y = true ∧ chkE Γ lo sc z = true := by
  (unfold chkE at h; first | contradiction | (split at h <;> first | contradiction | (injections; subst_vars)))
  simp only [Bool.and_eq_true] at h
  exact ⟨_, _, _, _, rfl, h.1, h.2⟩
theorem inv_slMid {fz : Bool} {a lo hi : E} (h : chkE Γ (.slMid fz a lo hi) sc x = true) : ∃ y z w p p2, x = .Subscript y (.Slice (some z) (some w) none p2) p ∧ chkE Γ a sc y = true ∧ chkE Γ lo sc z = true ∧ chkE Γ hi sc w = true := by
  (unfold chkE at h; first | contradiction | (split at h <;> first | contradiction | (injections; subst_vars)))
  simp only [Bool.and_eq_true] at h
  exact ⟨_, _, _, _, _, rfl, h.1.1, h.1.2, h.2⟩
theorem inv_bc {f : BF} {fz : Bool} {l : List E} (h : chkE Γ (.bc f fz l) sc x = true) : ∃ args kws p p2, x = .Call (.Name (bfNm f) p) args kws p2 ∧ glB sc (bfNm f) = true ∧
    ((∃ n, bfAr f = some n ∧ kws = [] ∧ chkEs Γ l sc args = true ∧ l.length = n) ∨ (∃ ty a p3, kTy f = some ty ∧ kws = [] ∧ args = [a, .Name ty p3] ∧ chkEs Γ l sc [a] = true ∧ glB sc ty = true) ∨
      (∃ a b p3, f = .min1d ∧ args = [a] ∧ kws = [⟨some "default", b, p3⟩] ∧ chkEs Γ l sc [a, b] = true) ∨
      (∃ zs p3 p4, f = .tupZip ∧ args = [.Call (.Name "zip" p3) zs [] p4] ∧ kws = [] ∧ glB sc "zip" = true ∧ chkEs Γ l sc zs = true ∧ l.length = 2)) := by
  (unfold chkE at h; first | contradiction | (split at h <;> first | contradiction | (injections; subst_vars)))
  simp only [Bool.and_eq_true, decide_eq_true_eq] at h
  obtain ⟨⟨rfl, h2⟩, h3⟩ := h
  refine ⟨_, _, _, _, rfl, h2, ?_⟩
  split at h3
  · rename_i n hf
    simp only [Bool.and_eq_true, decide_eq_true_eq] at h3
    exact .inl ⟨_, hf, rfl, h3.1, h3.2⟩
  · rename_i ty a ty' p3 _ hty
    simp only [Bool.and_eq_true, decide_eq_true_eq] at h3
    obtain ⟨⟨h4, rfl⟩, h5⟩ := h3
    exact .inr (.inl ⟨_, a, p3, hty, rfl, rfl, h4, h5⟩)
  · rename_i a kk b p3 _ _
    simp only [Bool.and_eq_true, decide_eq_true_eq] at h3
    obtain ⟨⟨h4, rfl⟩, h5⟩ := h3
    refine .inr (.inr (.inl ⟨a, b, p3, ?_, rfl, rfl, h5⟩))
    split at h4
    · rfl
    · cases h4
  · simp only [Bool.and_eq_true] at h3
    obtain ⟨h4, h5⟩ := h3
    split at h5
    · rename_i z zs hz
      simp only [Bool.and_eq_true, decide_eq_true_eq] at h5
      obtain ⟨⟨⟨rfl, h6⟩, h7⟩, h8⟩ := h5
      obtain ⟨p3, p4, rfl⟩ := zipOf_eq hz
      refine .inr (.inr (.inr ⟨zs, p3, p4, ?_, rfl, rfl, h6, h7, h8⟩))
      split at h4
      · rfl
      · cases h4
    · cases h5
  · cases h3
theorem inv_mt {m : MF} {fz : Bool} {o : E} {l : List E} (h : chkE Γ (.mt m fz o l) sc x = true) : ∃ y args ap cp, x = .Call (.Attribute y (mfNm m) ap) args [] cp ∧ chkE Γ o sc y = true ∧ chkEs Γ l sc args = true ∧ baseB y = true ∧ (ap.endLine == cp.line) = true ∧ mfAr m = some l.length := by
  (unfold chkE at h; first | contradiction | (split at h <;> first | contradiction | (injections; subst_vars)))
  simp only [Bool.and_eq_true, decide_eq_true_eq] at h
  obtain ⟨⟨⟨⟨⟨rfl, h1⟩, h2⟩, h3⟩, h4⟩, h5⟩ := h
  exact ⟨_, _, _, _, rfl, h1, h2, h3, h4, h5⟩
theorem inv_call {loc : Bool} {i : Nat} {l : List E} (h : chkE Γ (.call loc i l) sc x = true) : ∃ nm args p p2, x = .Call (.Name nm p) args [] p2 ∧ Γ.fnm i = some nm ∧ glB sc nm = true ∧ nameOk nm = true ∧ chkEs Γ l sc args = true ∧ l.length = Γ.ar i := by
  (unfold chkE at h; first | contradiction | (split at h <;> first | contradiction | (injections; subst_vars)))
  simp only [Bool.and_eq_true, decide_eq_true_eq] at h
  obtain ⟨⟨⟨⟨h1, h2⟩, h3⟩, h4⟩, h5⟩ := h
  exact ⟨_, _, _, _, rfl, h1, h2, h3, h4, h5⟩
/-- the check of what a for walks -/
def chkI (Γ : Gm) (sc : Scope) (kd : IK) (its : List E) (iter tg : Expr) : Bool := match kd, iter with
  | .seq, it => chkEs Γ its sc [it]
  | .range1, .Call (.Name nm _) args [] _ => decide (nm = ("range" : Str)) && glB sc nm && decide (its.length = 1) && chkEs Γ its sc args
  | .range2, .Call (.Name nm _) args [] _ => decide (nm = ("range" : Str)) && glB sc nm && decide (its.length = 2) && chkEs Γ its sc args
  | .range3, .Call (.Name nm _) args [] _ => decide (nm = ("range" : Str)) && glB sc nm && decide (its.length = 3) && chkEs Γ its sc args
  | .enum, .Call (.Name nm _) args [] _ => decide (nm = ("enumerate" : Str)) && glB sc nm && decide (its.length = 1) && chkEs Γ its sc args && isTupB tg
  | _, _ => false
theorem inv_comp {fz : Bool} {p : P} {kd : IK} {its cs : List E} {e : E} (h : chkE Γ (.comp fz p kd its cs e) sc x = true) : ∃ elt tg iter ifs scope pos, x = .ListComp elt [⟨tg, iter, ifs, 0⟩] scope pos ∧ blkC Γ.N sc scope (ownOf Γ.N p) = true ∧ chkP Γ.N scope p tg = true ∧ notSet iter = true ∧
    chkI Γ sc kd its iter tg = true ∧ chkEs Γ cs (relS scope sc) ifs = true ∧ cs.length ≤ 1 ∧ chkE Γ e (relS scope sc) elt = true := by
  (unfold chkE at h; first | contradiction | (split at h <;> first | contradiction | (injections; subst_vars)))
  simp only [Bool.and_eq_true, decide_eq_true_eq] at h
  obtain ⟨⟨⟨⟨⟨⟨h1, h2⟩, h3⟩, h4⟩, h5⟩, h6⟩, h7⟩ := h
  exact ⟨_, _, _, _, _, _, rfl, h1, h2, h3, h4, h5, h6, h7⟩
end
section
variable {Γ : Gm} {t : Tab} {C : Cn} {CX : CXT} {k : Nat} {Z : XK} {sc : Scope} {X : Cx}
theorem both {e : E} {x : Expr} (h : SE t C Z X e x) (he : ∀ whole, isTrue x X.env whole = (do let v ← whole; standAt x.pos; holding [v] (truthy v))) : SE t C Z X e x ∧ ST t C Z X e x := ⟨h, snd_val h he⟩
theorem snd_iter {kd : IK} {its : List E} {iter tg : Expr} (g : GX Γ t C CX k Z sc X) (h : chkI Γ sc kd its iter tg = true) (hs : ∀ xs, chkEs Γ its sc xs = true → AllSE t C Z X its xs) : PI X tg iter (tI t C Z kd its) := by
  unfold chkI at h
  split at h <;> try contradiction
  · have q := hs _ h
    cases q with
    | cons n a b r =>
      cases r
      exact snd_seq g a
  · simp only [Bool.and_eq_true, decide_eq_true_eq] at h
    obtain ⟨⟨⟨rfl, h1⟩, h2⟩, h3⟩ := h
    have q := hs _ h3
    cases q with
    | nil => simp at h2
    | cons n a b r =>
      cases r with
      | nil => exact snd_range1 g h1 (snd_cons n a snd_nil) n
      | cons _ _ _ _ => simp at h2
  · simp only [Bool.and_eq_true, decide_eq_true_eq] at h
    obtain ⟨⟨⟨rfl, h1⟩, h2⟩, h3⟩ := h
    have q := hs _ h3
    cases q with
    | nil => simp at h2
    | cons n a b r =>
      cases r with
      | nil => simp at h2
      | cons n2 a2 b2 r =>
        cases r with
        | nil => exact snd_range2 g h1 (snd_cons n a (snd_cons n2 a2 snd_nil)) n n2
        | cons _ _ _ _ => simp at h2
  · simp only [Bool.and_eq_true, decide_eq_true_eq] at h
    obtain ⟨⟨⟨rfl, h1⟩, h2⟩, h3⟩ := h
    have q := hs _ h3
    cases q with
    | nil => simp at h2
    | cons n a b r =>
      cases r with
      | nil => simp at h2
      | cons n2 a2 b2 r =>
        cases r with
        | nil => simp at h2
        | cons n3 a3 b3 r =>
          cases r with
          | nil => exact snd_range3 g h1 (snd_cons n a (snd_cons n2 a2 (snd_cons n3 a3 snd_nil))) n n2 n3
          | cons _ _ _ _ => simp at h2
  · simp only [Bool.and_eq_true, decide_eq_true_eq] at h
    obtain ⟨⟨⟨⟨rfl, h1⟩, h2⟩, h3⟩, h4⟩ := h
    have q := hs _ h3
    cases tg <;> first | (simp [isTupB] at h4; done) | skip
    cases q with
    | nil => simp at h2
    | cons n a b r =>
      cases r with
      | nil => exact snd_enum g h1 a n
      | cons _ _ _ _ => simp at h2
theorem snd_conds {cs : List E} {ifs : List Expr} (h : AllSE t C Z X cs ifs) (hl : cs.length ≤ 1) : PTs X ifs (tMt C Z (evConds t cs)) := by
  cases h with
  | nil => exact ⟨fun pins s σ H Q I q => pts_nil.run pins s σ H Q I (by
      obtain ⟨ρ, ι, S, s', se, a⟩ := q
      simp only [evConds] at a
      exact Aft.ok (rel := BRp) s' rfl a)⟩
  | cons n a b r =>
    cases r with
    | nil => exact ⟨fun pins s σ H Q I q => (pts_one b).run pins s σ H Q I (by
        obtain ⟨ρ, ι, S, s', se, a⟩ := q
        refine ⟨ρ, ι, S, s', se, ?_⟩
        simp only [evConds] at a
        rw [evT_bindB] at a
        generalize he : evT t _ ρ S = r at a ⊢
        cases r with
        | ok k' S' =>
          cases k' with
          | true => exact a
          | false => exact a
        | exc c fs S' => exact a
        | bad => exact a)⟩
    | cons _ _ _ _ => simp at hl
end
section
variable {Γ : Gm} {t : Tab} {C : Cn} {CX : CXT} {k : Nat}
mutual
theorem sndE : ∀ (e : E) (Z : XK) (sc : Scope) (X : Cx) (x : Expr), chkE Γ e sc x = true → GX Γ t C CX k Z sc X → SE t C Z X e x ∧ ST t C Z X e x
  | .var i, Z, sc, X, x, h, g => by
    obtain ⟨y, p, rfl, h⟩ := inv_var h
    exact both (snd_var g h) fun _ => rfl
  | .int i, Z, sc, X, x, h, g => by
    obtain ⟨j, p, rfl⟩ := inv_int h
    exact both snd_int fun _ => rfl
  | .bl b, Z, sc, X, x, h, g => by
    obtain ⟨j, p, rfl⟩ := inv_bl h
    exact both snd_bl fun _ => rfl
  | .non, Z, sc, X, x, h, g => by
    obtain ⟨j, p, rfl⟩ := inv_non h
    exact both snd_non fun _ => rfl
  | .str s, Z, sc, X, x, h, g => by
    obtain ⟨j, p, rfl, h2⟩ := inv_str h
    exact both (snd_str h2) fun _ => rfl
  | .glob i, Z, sc, X, x, h, g => by
    obtain ⟨y, p, rfl, h1, h2, h3⟩ := inv_glob h
    exact both (snd_glob g h1 h2 h3) fun _ => rfl
  | .fnv i, Z, sc, X, x, h, g => by (unfold chkE at h; first | contradiction | (split at h <;> first | contradiction | (injections; subst_vars)))
  | .bin op fz a b, Z, sc, X, x, h, g => by
    obtain ⟨y, z, p, rfl, h1, h2⟩ := inv_bin h
    exact both (snd_bin g (sndE a Z sc X y h1 g).1 (sndE b Z sc X z h2 g).1) fun _ => rfl
  | .neg a, Z, sc, X, x, h, g => by
    obtain ⟨y, p, rfl, h⟩ := inv_neg h
    exact both (snd_neg (sndE a Z sc X y h g).1) fun _ => rfl
  | .cmp op a b, Z, sc, X, x, h, g => by
    obtain ⟨y, z, p, rfl, h1, h2, h3⟩ := inv_cmp h
    have qa := (sndE a Z sc X y h1 g).1
    have qb := (sndE b Z sc X z h2 g).1
    exact ⟨snd_cmp g qa qb h3, snd_tcmp g qa qb h3⟩
  | .chain op op' a b c, Z, sc, X, x, h, g => by
    obtain ⟨y, z, w, p, rfl, h1, h2, h3, h4⟩ := inv_chain h
    have qa := (sndE a Z sc X y h1 g).1
    have qb := (sndE b Z sc X z h2 g).1
    have qc := (sndE c Z sc X w h3 g).1
    exact ⟨snd_chain g qa qb qc h4, snd_tchain g qa qb qc h4⟩
  | .and l, Z, sc, X, x, h, g => by
    obtain ⟨es, p, rfl, h⟩ := inv_and h
    exact (sndEs l Z sc X es h g).and p
  | .or l, Z, sc, X, x, h, g => by
    obtain ⟨es, p, rfl, h⟩ := inv_or h
    exact (sndEs l Z sc X es h g).or p
  | .not a, Z, sc, X, x, h, g => by
    obtain ⟨y, p, rfl, h⟩ := inv_not h
    have q := sndE a Z sc X y h g
    exact ⟨snd_not q.1, snd_tnot q.2⟩
  | .ite c a b, Z, sc, X, x, h, g => by
    obtain ⟨y, z, w, p, rfl, h1, h2, h3⟩ := inv_ite h
    have qc := sndE c Z sc X y h1 g
    have qa := sndE a Z sc X z h2 g
    have qb := sndE b Z sc X w h3 g
    exact ⟨snd_ite qc.2 qa.1 qb.1, snd_tite qc.2 qa.2 qb.2⟩
  | .tup l, Z, sc, X, x, h, g => by
    obtain ⟨es, j, p, rfl, h1, h2⟩ := inv_tup h
    exact both (snd_tup (sndEs l Z sc X es h1 g).ses.1 h2) fun _ => rfl
  | .lst fz l, Z, sc, X, x, h, g => by
    obtain ⟨es, p, rfl, h1, h2⟩ := inv_lst h
    exact both (snd_lst (sndEs l Z sc X es h1 g).ses.1 h2) fun _ => rfl
  | .dict fz ks vs, Z, sc, X, x, h, g => by
    obtain ⟨keys, values, pos, rfl, h1, h2, h3, h4, h5⟩ := inv_dict h
    have qk := sndKs ks Z sc X keys h2 g
    have qv := sndEs vs Z sc X values h3 g
    obtain ⟨p1, p2, p3, p4⟩ := qk.pps pos qv h4
    refine both ?_ fun _ => rfl
    by_cases h0 : keys = []
    · subst h0
      cases qk
      cases qv with
      | nil => exact snd_dict0
      | cons _ _ _ _ => simp at h4
    · exact snd_dict h1 (constLim h2) h4 (by rw [p4]; exact h5) p4 p1 p2 p3 h0
  | .ix a i, Z, sc, X, x, h, g => by
    obtain ⟨y, z, p, rfl, h1, h2, h3⟩ := inv_ix h
    exact both (snd_ix g (sndE a Z sc X y h1 g).1 (sndE i Z sc X z h2 g).1 h3) fun _ => rfl
  | .slFrom fz a lo, Z, sc, X, x, h, g => by
    obtain ⟨y, z, p, p2, rfl, h1, h2⟩ := inv_slFrom h
    exact both (snd_slFrom g (sndE a Z sc X y h1 g).1 (sndE lo Z sc X z h2 g).1) fun _ => rfl
  | .slTo fz a hi, Z, sc, X, x, h, g => by
    obtain ⟨y, z, p, p2, rfl, h1, h2⟩ := inv_slTo h
    exact both (snd_slTo g (sndE a Z sc X y h1 g).1 (sndE hi Z sc X z h2 g).1) fun _ => rfl
  | .slMid fz a lo hi, Z, sc, X, x, h, g => by
    obtain ⟨y, z, w, p, p2, rfl, h1, h2, h3⟩ := inv_slMid h
    exact both (snd_slMid g (sndE a Z sc X y h1 g).1 (sndE lo Z sc X z h2 g).1 (sndE hi Z sc X w h3 g).1) fun _ => rfl
  | .slRev fz a, Z, sc, X, x, h, g => by (unfold chkE at h; first | contradiction | (split at h <;> first | contradiction | (injections; subst_vars)))
  | .bc f fz l, Z, sc, X, x, h, g => by
    obtain ⟨args, kws, p, p2, rfl, h1, h2⟩ := inv_bc h
    refine both ?_ fun _ => rfl
    rcases h2 with ⟨n, h3, rfl, h4, h5⟩ | ⟨ty, a, p3, h3, rfl, rfl, h4, h5⟩ | ⟨a, b, p3, rfl, rfl, rfl, h4⟩ | ⟨zs, p3, p4, rfl, rfl, rfl, h4, h5, h6⟩
    · have q := sndEs l Z sc X args h4 g
      obtain ⟨p1, p2, p3⟩ := q.ses
      cases args with
      | nil =>
        have : n = 0 := by rw [← h5, p3]; rfl
        subst this
        cases f <;> simp [bfAr] at h3
      | cons e es => exact snd_bc g h3 h1 p1 p2
    · have q := sndEs l Z sc X [a] h4 g
      cases q with
      | cons n a1 b1 r =>
        cases r
        have e : bfNm f = "isinstance" := by cases f <;> simp [kTy] at h3 <;> rfl
        rw [e] at h1 ⊢
        exact snd_is g h3 h1 h5 a1 n
    · have q := sndEs l Z sc X [a, b] h4 g
      cases q with
      | cons n a1 b1 r =>
        cases r with
        | cons n2 a2 b2 r =>
          cases r
          exact snd_minD g h1 a1 a2 n
    · obtain ⟨q1, q2, q3⟩ := (sndEs l Z sc X zs h5 g).ses
      match l, zs, h6, q3, q1, q2 with
      | [a, b], [y, z], _, _, q1, q2 => exact snd_tupZip g h1 h4 q1 q2
  | .mt m fz o l, Z, sc, X, x, h, g => by
    obtain ⟨y, args, ap, cp, rfl, h1, h2, h3, h4, h5⟩ := inv_mt h
    have qo := (sndE o Z sc X y h1 g).1
    have q := sndEs l Z sc X args h2 g
    obtain ⟨p1, p2, p3⟩ := q.ses
    refine both ?_ fun _ => rfl
    cases args with
    | nil =>
      obtain rfl : l = [] := List.eq_nil_of_length_eq_zero p3
      exact snd_mt0 g h5 qo h3 h4
    | cons e es =>
      have hn : (e :: es).length < 20 := by
        rw [← p3]
        cases m <;> simp [mfAr] at h5 <;> omega
      exact snd_mt g h5 qo p1 h3 p2 hn h4
  | .call loc i l, Z, sc, X, x, h, g => by
    obtain ⟨nm, args, p, p2, rfl, h1, h2, h3, h4, h5⟩ := inv_call h
    obtain ⟨q1, q2, q3⟩ := (sndEs l Z sc X args h4 g).ses
    exact both (snd_call g h1 h2 h3 q1 q2 h5 q3) fun _ => rfl
  | .callv i l, Z, sc, X, x, h, g => by (unfold chkE at h; first | contradiction | (split at h <;> first | contradiction | (injections; subst_vars)))
  | .comp fz p kd its cs e, Z, sc, X, x, h, g => by
    obtain ⟨elt, tg, iter, ifs, scope, pos, rfl, h1, h2, h3, h4, h5, h6, h7⟩ := inv_comp h
    refine both (snd_comp g h1 h2 h3 (snd_iter g h4 fun xs hx => sndEs its Z sc X xs hx g) (fun s H c cl fp => ?_) fun s H c cl fp => ?_) fun _ => rfl
    · exact snd_conds (sndEs cs Z0 (relS scope sc) _ ifs h5 (gx_blk g s H scope cl c fp)) h6
    · exact (sndE e Z0 (relS scope sc) _ elt h7 (gx_blk g s H scope cl c fp)).1
  | .attr o f, Z, sc, X, x, h, g => by (unfold chkE at h; first | contradiction | (split at h <;> first | contradiction | (injections; subst_vars)))
  | .make c i l, Z, sc, X, x, h, g => by (unfold chkE at h; first | contradiction | (split at h <;> first | contradiction | (injections; subst_vars)))
  | .mcall c i o l, Z, sc, X, x, h, g => by (unfold chkE at h; first | contradiction | (split at h <;> first | contradiction | (injections; subst_vars)))
  | .err c l, Z, sc, X, x, h, g => by (unfold chkE at h; first | contradiction | (split at h <;> first | contradiction | (injections; subst_vars)))
  | .frz a, Z, sc, X, x, h, g => by
    have h : chkE Γ a sc x = true := by simpa only [chkE] using h
    have q := sndE a Z sc X x h g
    exact ⟨snd_frz q.1, snd_tfrz q.2⟩
theorem sndEs : ∀ (l : List E) (Z : XK) (sc : Scope) (X : Cx) (xs : List Expr), chkEs Γ l sc xs = true → GX Γ t C CX k Z sc X → AllSE t C Z X l xs
  | [], Z, sc, X, [], h, g => .nil
  | [], Z, sc, X, _ :: _, h, g => by simp [chkEs] at h
  | _ :: _, Z, sc, X, [], h, g => by simp [chkEs] at h
  | e :: l, Z, sc, X, x :: xs, h, g => by
    simp only [chkEs, Bool.and_eq_true] at h
    have q := sndE e Z sc X x h.1.2 g
    exact .cons h.1.1 q.1 q.2 (sndEs l Z sc X xs h.2 g)
theorem sndKs : ∀ (l : List E) (Z : XK) (sc : Scope) (X : Cx) (xs : List (Option Expr)), chkKs Γ l sc xs = true → GX Γ t C CX k Z sc X → AllK t C Z X l xs
  | [], Z, sc, X, [], h, g => .nil
  | [], Z, sc, X, _ :: _, h, g => by simp [chkKs] at h
  | _ :: _, Z, sc, X, [], h, g => by simp [chkKs] at h
  | _ :: _, Z, sc, X, none :: _, h, g => by simp [chkKs] at h
  | e :: l, Z, sc, X, some x :: xs, h, g => by
    simp only [chkKs, Bool.and_eq_true] at h
    exact .cons (sndE e Z sc X x h.1 g).1 (sndKs l Z sc X xs h.2 g)
end
end
end LD
/-! LD20: statements. -/
namespace LD
open PySem L2

/-- what is wanted behind a statement -/
def AftS (C : Cn) (Z : XK) (r : RS) (H : Hp) (ι : Nat → Addr) (S : Sto) (D : Ends) : Prop := match r with
  | .nx ρ' S' => ∀ σ' H' ι', Nx C H ι S H' ι' S' → SimE C H' ι' S'.length ρ' σ' → D.nx σ' H'
  | .br ρ' S' => ∀ σ' H' ι', Nx C H ι S H' ι' S' → SimE C H' ι' S'.length ρ' σ' → D.bk σ' H'
  | .ct ρ' S' => ∀ σ' H' ι', Nx C H ι S H' ι' S' → SimE C H' ι' S'.length ρ' σ' → D.ct σ' H'
  | .rt w S' => ∀ v H' ι', Nx C H ι S H' ι' S' → WRp C H' ι' S'.length w v → D.rt v H'
  | .exc c fs _ S' => ∀ d xs H' ι', Nx C H ι S H' ι' S' → H' d = some (.xd xs) → FRs C H' ι' S'.length fs xs → Z (.ref (C.ca c)) (some d) H'
  | .bad => False
def tS (C : Cn) (Z : XK) (f : Rho → Sto → RS) : TS := fun D σ H => ∃ ρ ι S, Sim C H ι S ∧ SimE C H ι S.length ρ σ ∧ AftS C Z (f ρ S) H ι S D
section
variable {C : Cn} {Z : XK} {H H1 : Hp} {ι ι1 : Nat → Addr} {S S1 : Sto} {D D' : Ends} {σ : L2.St} {ρ : Rho}
theorem AftS.start {r : RS} (s : Sim C H ι S) (x : Nx C H ι S H1 ι1 S1) (h : AftS C Z r H ι S D) : AftS C Z r H1 ι1 S1 D := by
  cases r with
  | nx ρ' S' => exact fun σ' H' ι' y => h σ' H' ι' (Nx.trans s x y)
  | br ρ' S' => exact fun σ' H' ι' y => h σ' H' ι' (Nx.trans s x y)
  | ct ρ' S' => exact fun σ' H' ι' y => h σ' H' ι' (Nx.trans s x y)
  | rt w S' => exact fun v H' ι' y => h v H' ι' (Nx.trans s x y)
  | exc c fs ρ' S' => exact fun d xs H' ι' y => h d xs H' ι' (Nx.trans s x y)
  | bad => exact h
/-- a value first -/
theorem AftS.go {α β : Type} {rel : Hp → (Nat → Addr) → Nat → α → β → Prop} {r : R α} {f : α → Sto → RS} (s : Sim C H ι S) (h : AftS C Z (r.go ρ f) H ι S D) :
    Aft C Z rel r H ι S fun b H1 => ∃ a ι1 S1, Nx C H ι S H1 ι1 S1 ∧ rel H1 ι1 S1.length a b ∧ AftS C Z (f a S1) H1 ι1 S1 D := by
  cases r with
  | ok a S' =>
    intro b H1 ι1 x hr
    exact ⟨a, ι1, S', x, hr, AftS.start s x h⟩
  | exc c fs S' => exact h
  | bad => exact h
theorem AftS.seq {r : RS} {f : Rho → Sto → RS} (s : Sim C H ι S) (h : AftS C Z (r.seq f) H ι S D) : AftS C Z r H ι S { D with nx := fun σ' H' => ∃ ρ' ι' S', Nx C H ι S H' ι' S' ∧ SimE C H' ι' S'.length ρ' σ' ∧ AftS C Z (f ρ' S') H' ι' S' D } := by
  cases r with
  | nx ρ' S' => exact fun σ' H' ι' x se => ⟨ρ', ι', S', x, se, AftS.start s x h⟩
  | br ρ' S' => exact h
  | ct ρ' S' => exact h
  | rt w S' => exact h
  | exc c fs ρ' S' => exact h
  | bad => exact h
theorem tS_go {f : Rho → Sto → RS} {fa : Rho → Sto → R W} {k : W → Rho → Sto → RS} (e : ∀ ρ S, f ρ S = (fa ρ S).go ρ fun w S => k w ρ S) (h : tS C Z f D σ H) :
    tM C Z fa σ H fun x H1 => ∃ ρ ι S w, Sim C H1 ι S ∧ SimE C H1 ι S.length ρ σ ∧ WRp C H1 ι S.length w x ∧ AftS C Z (k w ρ S) H1 ι S D := by
  obtain ⟨ρ, ι, S, s, se, a⟩ := h
  rw [e] at a
  refine ⟨ρ, ι, S, s, se, (AftS.go s a).imp ?_⟩
  rintro x H1 ⟨w, ι1, S1, nx, r, q⟩
  exact ⟨ρ, ι1, S1, w, nx.sim, nx.env se, r, q⟩
end
/-- what holds of a def's body -/
structure GS (Γ : Gm) (t : Tab) (C : Cn) (CX : CXT) (k : Nat) (Z : XK) (sc : Scope) (X : Cx) : Prop where
  gx : GX Γ t C CX k Z sc X
  fnA : ∀ x, X.fn x = true
  kd : sc.kind = .function
  own : PassesOwn (model X.prog X.w) X.A X.env X.xe
/-- the stores in other order of a, b = x, y -/
def isStar : Expr → Bool
  | .Starred .. => true
  | _ => false
def nmOf (sc : Scope) (line : Nat) : Expr → Option Str
  | .Name id pos => if sc.names.lookup id == some .local && pos.line == line then some id else none
  | _ => none
def swapS (sc : Scope) (ts vs : List Expr) : Option (Option (List Str)) :=
  if !(ts.length == 2 || ts.length == 3) || vs.length != ts.length then some none
  else if vs.any isStar then some none
  else
    let names := ts.filterMap (nmOf sc ((ts.head?.map (·.pos.line)).getD 0))
    if names.length != ts.length || names.eraseDups.length != names.length then some none
    else if vs.all (foldedForSure 8) then some none
    else if vs.all (constantsAlone 8) then none
    else some (some names)
def chkN (N : List Str) (sc : Scope) : List Nat → List Str → Bool
  | [], [] => true
  | i :: is, x :: xs => decide (N[i]? = some x) && locOnly sc x && nameOk x && chkN N sc is xs
  | _, _ => false
def isComp : E → Bool
  | .comp .. => true
  | _ => false
/-- no comprehension of another kind -/
def notOdd : Expr → Bool
  | .SetComp _ _ _ _ => false
  | .DictComp _ _ _ _ _ => false
  | _ => true
def tupB : Expr → Option (List Expr)
  | .Tuple vs _ _ => some vs
  | _ => none
mutual
def chkT (Γ : Gm) (sc : Scope) : T → Stmt → Bool
  | .asg (.pat (.name i)) e, .Assign [.Name y p] v _ => decide (Γ.N[i]? = some y) && locB sc y && nameOk y && chkE Γ e sc v && (!swapB sc y p v || isComp e) && notOdd v
  | .asg (.pat (.tup ps)) e, .Assign [.Tuple ts kt pt] v _ => chkP Γ.N sc (.tup ps) (.Tuple ts kt pt) && chkE Γ e sc v && (match tupB v with
    | some vs => decide (swapS sc ts vs = some none)
    | none => true)
  | .asg (.sub o i) e, .Assign [.Subscript x y _] v _ => chkE Γ o sc x && chkE Γ i sc y && plainB y && chkE Γ e sc v
  | .par is es, .Assign [.Tuple ts _ _] (.Tuple vs _ _) _ => (match swapS sc ts vs with
    | some (some names) => chkN Γ.N sc is names
    | _ => false) && chkEs Γ es sc vs && decide is.Nodup && decide (es.length = is.length) && decide (is.length = 2 ∨ is.length = 3)
  | .ex e, .Expr x _ => chkE Γ e sc x && notComp x
  | .ret e, .Return (some x) _ => chkE Γ e sc x
  | .retN, .Return none _ => true
  | .ite c a b, .If c' a' b' _ => chkE Γ c sc c' && chkTs Γ sc a a' && chkTs Γ sc b b'
  | .for p kd its b, .For tg iter body [] _ => chkP Γ.N sc p tg && notSet iter && chkI Γ sc kd its iter tg && chkTs Γ sc b body
  | .whl _ c b, .While c' body [] _ => chkE Γ c sc c' && chkTs Γ sc b body
  | .brk, .Break _ => true
  | .cnt, .Continue _ => true
  | .pass, .Pass _ => true
  | .raise _ [], _ => true
  | .try _ _ _ _, _ => true
  | _, _ => false
def chkTs (Γ : Gm) (sc : Scope) : List T → List Stmt → Bool
  | [], [] => true
  | s :: l, x :: xs => chkT Γ sc s x && chkTs Γ sc l xs
  | _, _ => false
end
section
variable {Γ : Gm} {t : Tab} {C : Cn} {CX : CXT} {k : Nat} {Z : XK} {sc : Scope} {X : Cx}
def SS (t : Tab) (C : Cn) (Z : XK) (X : Cx) (s : T) (x : Stmt) : Prop := PS X x (tS C Z (ex t s))
def SSs (t : Tab) (C : Cn) (Z : XK) (X : Cx) (l : List T) (xs : List Stmt) : Prop := PSs X xs (tS C Z (exs t l))
theorem snd_snil : SSs t C Z X [] [] := pssImp pss_nil fun D σ H q => by
  obtain ⟨ρ, ι, S, s, se, a⟩ := q
  simp only [exs] at a
  exact a σ H ι (Nx.refl s) se
theorem snd_scons {s : T} {l : List T} {x : Stmt} {xs : List Stmt} (h : SS t C Z X s x) (hr : SSs t C Z X l xs) : SSs t C Z X (s :: l) (x :: xs) := by
  refine pssImp (pss_cons h hr) fun D σ H q => ?_
  obtain ⟨ρ, ι, S, s, se, a⟩ := q
  simp only [exs] at a
  refine ⟨ρ, ι, S, s, se, ?_⟩
  have a2 := AftS.seq s a
  generalize ex t _ ρ S = r at a2 ⊢
  cases r with
  | nx ρ' S' =>
    intro σ' H' ι' x se'
    obtain ⟨ρ2, ι2, S2, x2, se2, q⟩ := a2 σ' H' ι' x se'
    exact ⟨ρ2, ι2, S2, x2.sim, se2, q⟩
  | br ρ' S' => exact a2
  | ct ρ' S' => exact a2
  | rt w S' => exact a2
  | exc c fs ρ' S' => exact a2
  | bad => exact a2
theorem never_ps {s : T} {x : Stmt} (h : ∀ ρ S, ex t s ρ S = .bad) : SS t C Z X s x := ⟨fun pins st σ H D I q => by
  obtain ⟨ρ, ι, S, s', se, a⟩ := q
  rw [h] at a
  exact a.elim⟩
/-- the next state's thing may be frozen -/
def FzS (P : L2.St → Hp → Prop) : L2.St → Hp → Prop := fun σ H => (∃ a u, H a = some u ∧ Mut (some u) ∧ ∀ o, P σ (upd H a (.frz o u))) ∨ P σ H
theorem psFz {st : Stmt} {u : TS} (h : PS X st u) : PS X st fun D σ H => u { D with nx := FzS D.nx } σ H := by
  refine ⟨fun pins s σ H D I q => thn (h.run pins s σ H _ I q) fun f s1 hf => ?_⟩
  cases f with
  | next =>
    obtain ⟨σ1, H1, I1, q1⟩ := hf
    rcases q1 with ⟨a, u, hu, mu, q1⟩ | q1
    · obtain ⟨od, I2⟩ := I1.lock hu mu
      exact ⟨σ1, _, I2, q1 od⟩
    · exact ⟨σ1, H1, I1, q1⟩
  | brk => exact hf
  | cont => exact hf
  | ret v => exact hf
theorem snd_set {i : Nat} {e : E} {y : Str} {v : Expr} {p p2 : Pos} (g : GS Γ t C CX k Z sc X) (h1 : Γ.N[i]? = some y) (h2 : locB sc y = true) (h : SE t C Z X e v) (hs : swapsWith v (some (.Name y p)) p2.line X.env = pure false) : SS t C Z X (.asg (.pat (.name i)) e) (.Assign [.Name y p] v p2) := by
  have hl : L2.Loc X.env.scope y := by
    unfold locB at h2
    unfold L2.Loc
    rw [g.gx.scq]
    split at h2 <;> simp_all
  refine psImp (ps_set (i := i) (by rw [g.gx.N]; exact g.gx.nd) (by rw [g.gx.N]; exact h1) hl h hs (.inl (g.fnA _))) fun D σ H q => ?_
  refine tM_imp (tS_go (k := fun w ρ S => asgG t (.pat (.name i)) w ρ S) (fun ρ S => by simp only [ex]) q) ?_
  rintro x H1 ⟨ρ, ι, S, w, s, se, r, a⟩
  simp only [asgG, patSet, RS.ofO] at a
  exact a _ H1 ι (Nx.refl s) (se.set r)
theorem snd_pasg {p : P} {e : E} {tg v : Expr} {p2 : Pos} (g : GS Γ t C CX k Z sc X) (hp : PG X tg (gV X.K p)) (h : SE t C Z X e v) (hs : swapsWithSole [tg] v p2.line X.env = pure false) (hw : swappedStores [tg] v X.env = pure none) (hn : noStar tg = true) : SS t C Z X (.asg (.pat p) e) (.Assign [tg] v p2) := by
  refine psImp (ps_asg h hp hs hw (by rw [asg_cons hn]; rfl)) fun D σ H q => ?_
  refine tM_imp (tS_go (k := fun w ρ S => asgG t (.pat p) w ρ S) (fun ρ S => by simp only [ex]) q) ?_
  rintro x H1 ⟨ρ, ι, S, w, s, se, r, a⟩
  simp only [asgG] at a
  cases hq : patSet p w S ρ with
  | none => rw [hq] at a; exact a.elim
  | some ρ' =>
    rw [hq] at a
    have := gV_ok s hq r se (Q := D.nx) fun σ' se' _ => a σ' H1 ι (Nx.refl s) se'
    rw [g.gx.hC] at this
    exact this
/-- o[i] = v -/
def rSetM (C : Cn) (Z : XK) : TSet := fun o i v H Q => ∃ ι S w1 w2 w3 S', Sim C H ι S ∧ WRp C H ι S.length w1 o ∧ WRp C H ι S.length w2 i ∧ WRp C H ι S.length w3 v ∧ setAt w1 w2 w3 S = some S' ∧ ∀ H', Nx C H ι S H' ι S' → Q H'
theorem set_M (hu : X.A.units + 1 < cLine) : PSet X (rSetM C Z) := by
  rintro pins s σ H o i v ov iv u Q I ro ri rv ⟨ι, S, w1, w2, w3, S', sm, r1, r2, r3, e, q⟩
  unfold setAt at e
  split at e
  · rename_i n l hc
    obtain ⟨xs, rfl, hn, q1, q2⟩ := cellL_rel sm hc r1
    split at e
    · rename_i j
      obtain ⟨m, hm, rfl⟩ := Option.map_eq_some_iff.mp e
      have ei := rp_int r2
      subst ei
      refine set_list pins s σ H _ _ _ _ _ _ Q I ro ri rv ⟨ι n, xs, j, m, rfl, rfl, q2, ?_, q _ (nx_lst sm hn q2 (pairSet r3 m q1))⟩
      rw [← ixN_eq, ← pairLen q1]
      exact hm
    · cases e
  · split at e
    · rename_i n l kd hc
      obtain ⟨kvs, rfl, hn, q1, q2⟩ := cellD_rel sm hc r1
      obtain ⟨kk, hk, e⟩ := Option.bind_eq_some_iff.mp e
      split at e
      · rename_i hl
        cases e
        obtain ⟨ek, ok⟩ := keyOf_rel hk r2
        subst ek
        refine set_dict hu pins s σ H _ _ _ _ _ _ Q I ro ri rv ⟨ι n, _, rfl, .inl ⟨kvs, ky kk, q2, rfl, by rw [← pairLen q1]; exact lim_lt hl, rfl⟩, q _ (nx_dct sm hn q2 (putK_rel ok r3 q1))⟩
      · cases e
    · cases e
theorem snd_sub {o i e : E} {x y v : Expr} {p p2 : Pos} (g : GS Γ t C CX k Z sc X) (ho : SE t C Z X o x) (hi : SE t C Z X i y) (h : SE t C Z X e v) (hpl : plainB y = true) : SS t C Z X (.asg (.sub o i) e) (.Assign [.Subscript x y p] v p2) := by
  have hu := g.gx.un
  refine psImp (ps_asg h (pg_sub ho hi (set_M (C := C) (Z := Z) (by omega)) (by intro v; cases y <;> first | rfl | simp [plainB] at hpl)) (by cases v <;> rfl) (by cases v <;> rfl)) fun D σ H q => ?_
  refine tM_imp (tS_go (k := fun w ρ S => asgG t (.sub o i) w ρ S) (fun ρ S => by simp only [ex]) q) ?_
  rintro v H1 ⟨ρ, ι, S, w, s, se, r, a⟩
  simp only [asgG] at a
  refine ⟨ρ, ι, S, s, se, (AftS.go s a).imp ?_⟩
  rintro vo H2 ⟨wo, ι2, S2, nx2, r2, a2⟩
  refine ⟨ρ, ι2, S2, nx2.sim, nx2.env se, (AftS.go nx2.sim a2).imp ?_⟩
  rintro vi H3 ⟨wi, ι3, S3, nx3, r3, a3⟩
  cases hq : setAt wo wi w S3 with
  | none => rw [hq] at a3; exact a3.elim
  | some S4 =>
    rw [hq] at a3
    refine ⟨ι3, S3, wo, wi, w, S4, nx3.sim, nx3.val r2, r3, nx3.val (nx2.val r), hq, fun H' nx => ?_⟩
    exact a3 σ H' ι3 nx (nx.env (nx3.env (nx2.env se)))
theorem snd_ex {e : E} {x : Expr} {p : Pos} (h : SE t C Z X e x) (hs : notComp x = true) : SS t C Z X (.ex e) (.Expr x p) := by
  refine psImp (ps_expr h (swaps_of hs _ _ _)) fun D σ H q => ?_
  refine tM_imp (tS_go (k := fun _ ρ S => .nx ρ S) (fun ρ S => by simp only [ex]) q) ?_
  rintro v H1 ⟨ρ, ι, S, w, s, se, r, a⟩
  exact a σ H1 ι (Nx.refl s) se
theorem snd_ret {e : E} {x : Expr} {p : Pos} (h : SE t C Z X e x) : SS t C Z X (.ret e) (.Return (some x) p) := by
  refine psImp (ps_ret h) fun D σ H q => ?_
  refine tM_imp (tS_go (k := fun w ρ S => .rt w S) (fun ρ S => by simp only [ex]) q) ?_
  rintro v H1 ⟨ρ, ι, S, w, s, se, r, a⟩
  exact a v H1 ι (Nx.refl s) r
theorem snd_retN {p : Pos} : SS t C Z X .retN (.Return none p) := psImp ps_retN fun D σ H q => by
  obtain ⟨ρ, ι, S, s, se, a⟩ := q
  simp only [ex] at a
  exact a .non H ι (Nx.refl s) mk_non
theorem snd_brk {p : Pos} : SS t C Z X .brk (.Break p) := psImp ps_break fun D σ H q => by
  obtain ⟨ρ, ι, S, s, se, a⟩ := q
  simp only [ex] at a
  exact a σ H ι (Nx.refl s) se
theorem snd_cnt {p : Pos} : SS t C Z X .cnt (.Continue p) := psImp ps_continue fun D σ H q => by
  obtain ⟨ρ, ι, S, s, se, a⟩ := q
  simp only [ex] at a
  exact a σ H ι (Nx.refl s) se
theorem snd_pass {p : Pos} : SS t C Z X .pass (.Pass p) := psImp ps_pass fun D σ H q => by
  obtain ⟨ρ, ι, S, s, se, a⟩ := q
  simp only [ex] at a
  exact a σ H ι (Nx.refl s) se
theorem tT_goS {c : E} {f : Rho → Sto → RS} {g : Bool → Rho → Sto → RS} {D : Ends} {σ : L2.St} {H : Hp} (e : ∀ ρ S, f ρ S = (evT t c ρ S).go ρ fun b S => g b ρ S) (h : tS C Z f D σ H) : tT t C Z c σ H fun b H1 => tS C Z (g b) D σ H1 := by
  obtain ⟨ρ, ι, S, s, se, a⟩ := h
  rw [e] at a
  refine ⟨ρ, ι, S, s, se, (AftS.go (rel := BRp) s a).imp ?_⟩
  rintro b H1 ⟨b', ι1, S1, nx, r, a1⟩
  cases (show b' = b from r)
  exact ⟨ρ, ι1, S1, nx.sim, nx.env se, a1⟩
theorem snd_sif {c : E} {a b : List T} {x : Expr} {as bs : List Stmt} {p : Pos} (hc : ST t C Z X c x) (ha : SSs t C Z X a as) (hb : SSs t C Z X b bs) : SS t C Z X (.ite c a b) (.If x as bs p) := by
  refine psImp (ps_if hc ha hb) fun D σ H q => ?_
  refine tT_imp (tT_goS (g := fun k ρ S => if k = true then exs t a ρ S else exs t b ρ S) (fun ρ S => by simp only [ex]) q) fun k H1 q1 => ?_
  cases k with
  | true => exact q1
  | false => exact q1
/-- a loop's body: from its end on -/
theorem body_aft {r : RS} {H : Hp} {ι : Nat → Addr} {S : Sto} {D : Ends} {N : L2.St → Hp → Prop} {rest : Rho → Sto → RS} (s : Sim C H ι S)
    (h : AftS C Z (match r with | .nx ρ S => rest ρ S | .ct ρ S => rest ρ S | .br ρ S => .nx ρ S | r => r) H ι S D)
    (hN : ∀ ρ' S' σ' H' ι', Nx C H ι S H' ι' S' → SimE C H' ι' S'.length ρ' σ' → AftS C Z (rest ρ' S') H ι S D → N σ' H') : AftS C Z r H ι S { D with nx := N, ct := N, bk := D.nx } := by
  cases r with
  | nx ρ' S' => exact fun σ' H' ι' x se => hN ρ' S' σ' H' ι' x se h
  | ct ρ' S' => exact fun σ' H' ι' x se => hN ρ' S' σ' H' ι' x se h
  | br ρ' S' => exact h
  | rt w S' => exact h
  | exc c fs ρ' S' => exact h
  | bad => exact h
theorem snd_while {n : Nat} {c : E} {b : List T} {x : Expr} {body : List Stmt} {p : Pos} (g : GS Γ t C CX k Z sc X) (hc : ST t C Z X c x) (hb : SSs t C Z X b body) : SS t C Z X (.whl n c b) (.While x body [] p) := by
  refine psImp (ps_while g.own hc hb) fun D σ H q => ?_
  obtain ⟨ρ, ι, S, s, se, a⟩ := q
  simp only [ex] at a
  refine ⟨fun m σ' H' => ∃ ρ' ι' S', Nx C H ι S H' ι' S' ∧ SimE C H' ι' S'.length ρ' σ' ∧ AftS C Z (whileL (evT t c) (exs t b) m ρ' S') H' ι' S' D, ⟨n, ρ, ι, S, Nx.refl s, se, a⟩, ?_⟩
  rintro m σ1 H1 ⟨ρ1, ι1, S1, nx1, se1, a1⟩
  cases m with
  | zero => exact a1.elim
  | succ m =>
    simp only [whileL] at a1
    refine ⟨ρ1, ι1, S1, nx1.sim, se1, (AftS.go (rel := BRp) nx1.sim a1).imp ?_⟩
    rintro kb H2 ⟨kb', ι2, S2, nx2, r2, a2⟩
    cases (show kb' = kb from r2)
    cases kb with
    | true =>
      rw [if_pos rfl] at a2 ⊢
      refine ⟨fun σ' H' => ∃ m', m' < m + 1 ∧ ∃ ρ' ι' S', Nx C H ι S H' ι' S' ∧ SimE C H' ι' S'.length ρ' σ' ∧ AftS C Z (whileL (evT t c) (exs t b) m' ρ' S') H' ι' S' D, fun σ' H' h => h, ρ1, ι2, S2, nx2.sim, nx2.env se1, ?_⟩
      refine body_aft nx2.sim a2 fun ρ' S' σ' H' ι' x se' h => ⟨m, Nat.lt_succ_self _, ρ', ι', S', Nx.trans s (Nx.trans s nx1 nx2) x, se', AftS.start nx2.sim x h⟩
    | false =>
      rw [if_neg Bool.false_ne_true] at a2 ⊢
      exact a2 σ1 H2 ι2 (Nx.refl nx2.sim) (nx2.env se1)
theorem snd_for {p : P} {kd : IK} {its : List E} {b : List T} {tg iter : Expr} {body : List Stmt} {pos : Pos} (g : GS Γ t C CX k Z sc X) (hp : PG X tg (gV X.K p)) (hs : notSet iter = true) (hi : PI X tg iter (tI t C Z kd its)) (hb : SSs t C Z X b body) :
    SS t C Z X (.for p kd its b) (.For tg iter body [] pos) := by
  refine psImp (ps_for g.own g.gx.calm hi hp hb (folded_of hs _)) fun D σ H q => ?_
  obtain ⟨ρ, ι, S, s, se, a⟩ := q
  simp only [ex] at a
  refine ⟨ρ, ι, S, s, se, (AftS.go s a).imp ?_⟩
  rintro xs H1 ⟨ws, ι1, S1, nx1, r1, a1⟩
  split at a1
  · rename_i items ei
    refine ⟨ι1, S1, ws, items, nx1.sim, r1, ei, fun J hJ => ?_⟩
    generalize hturn : (fun it ρ S => (RS.ofO (itemSet p it S ρ) S).seq fun ρ S => exs t b ρ S) = turn at a1
    let Pv : Nat → L2.St → Hp → Prop := fun i σ' H' => ∃ ρ' ι' S', Nx C H1 ι1 S1 H' ι' S' ∧ SimE C H' ι' S'.length ρ' σ' ∧ AftS C Z (forL turn items.2 (items.1.drop i) ρ' S') H' ι' S' D
    refine ⟨fun i m σ' H' => m = items.1.length - i ∧ i ≤ items.1.length ∧ Pv i σ' H', ⟨items.1.length, by simp, Nat.zero_le _, ρ, ι1, S1, Nx.refl nx1.sim, nx1.env se, a1⟩, ?_⟩
    rintro i m σ' H' ⟨rfl, hi', ρ', ι', S', nx, se', aa⟩
    by_cases hlt : i < items.1.length
    · have hit : items.1[i]? = some items.1[i] := List.getElem?_eq_getElem hlt
      generalize items.1[i] = it at hit
      have hdrop : items.1.drop i = it :: items.1.drop (i + 1) := by
        rw [List.drop_eq_getElem_cons hlt]
        rw [List.getElem?_eq_getElem hlt] at hit
        rw [Option.some.inj hit]
      rw [hdrop] at aa
      simp only [forL] at aa
      cases hset : itemSet p it S' ρ' with
      | none =>
        rw [← hturn] at aa
        simp only [hset, RS.ofO, RS.seq] at aa
        exact aa.elim
      | some ρ2 =>
        have ht : turn it ρ' S' = exs t b ρ2 S' := by
          rw [← hturn]
          simp only [hset, RS.ofO, RS.seq]
        rw [ht] at aa
        have hgo := itemSet_go hset
        refine .inr ⟨hJ.go i it H' ι' S' hit nx hgo, Pv (i + 1), fun σ2 H2 p' => ⟨items.1.length - (i + 1), by omega, rfl, hlt, p'⟩, fun x H'' y => ?_⟩
        have rel := hJ.yld i it H' ι' S' x H'' hit nx hgo y
        rw [← g.gx.hC]
        refine item_gV nx.sim rel hset se' fun nx2 σ2 se2 _ => ⟨ρ2, ι', S', nx2.sim, se2, ?_⟩
        exact body_aft nx2.sim (AftS.start nx.sim nx2 aa) fun ρ3 S3 σ3 H3 ι3 x3 se3 h => ⟨ρ3, ι3, S3, Nx.trans nx1.sim (Nx.trans nx1.sim nx nx2) x3, se3, AftS.start nx2.sim x3 h⟩
    · have hi2 : i = items.1.length := by omega
      subst hi2
      rw [List.drop_length] at aa
      simp only [forL] at aa
      by_cases hf : finOk items.2 S' = true
      · rw [if_pos hf] at aa
        exact .inl ⟨hJ.stop H' ι' S' nx hf, aa σ' H' ι' (Nx.refl nx.sim) se'⟩
      · rw [if_neg hf] at aa
        exact aa.elim
  · exact a1.elim
theorem swaps_name {v : Expr} {y : Str} {p : Pos} {line : Nat} {env : PySem.Env} (hs : env.scope = sc) (hk : sc.kind = .function) (h : notOdd v = true) : swapsWith v (some (.Name y p)) line env = pure (swapB sc y p v) := by
  cases v <;> first | rfl | (simp [notOdd] at h; done) | skip
  rename_i elt gens scope pos
  have hb : env.blockKind = .function := by
    unfold PySem.Env.blockKind
    rw [hs, hk]
    rfl
  have hkd : env.kindOf y = sc.names.lookup y := by
    unfold PySem.Env.kindOf
    rw [hs]
  show (pure (env.blockKind == .function && env.kindOf y == some .local && p.line == (Expr.ListComp elt gens scope pos).pos.line && !(scope.names.any fun (n, k) => n == y && (k == .local || k == .cell))) : Sem Bool) = _
  rw [hb, hkd]
  rfl
/-- name = [..] by the other road -/
theorem snd_setLc {i : Nat} {y : Str} {py spos pos : Pos} {fz : Bool} {p : P} {kd : IK} {its cs : List E} {e : E} {elt tg iter : Expr} {ifs : List Expr} {scope : Scope} (g : GS Γ t C CX k Z sc X) (hy : Γ.N[i]? = some y) (hyl : sc.names.lookup y = some .local)
    (hsw : swapsWith (.ListComp elt [⟨tg, iter, ifs, 0⟩] scope pos) (some (.Name y py)) spos.line X.env = pure true) (hb : blkC Γ.N sc scope (ownOf Γ.N p) = true) (hp : chkP Γ.N scope p tg = true) (hs : notSet iter = true)
    (hi : PI X tg iter (tI t C Z kd its))
    (ht : ∀ (s : Shared) (H : Hp) (c : Addr) (cl : List (Str × Addr)) (fp : List Addr), PTs (X.blk s H scope (compEnvC scope cl c X.env) fp) ifs (tMt C Z0 (evConds t cs)))
    (he : ∀ (s : Shared) (H : Hp) (c : Addr) (cl : List (Str × Addr)) (fp : List Addr), SE t C Z0 (X.blk s H scope (compEnvC scope cl c X.env) fp) e elt) :
    SS t C Z X (.asg (.pat (.name i)) (.comp fz p kd its cs e)) (.Assign [.Name y py] (.ListComp elt [⟨tg, iter, ifs, 0⟩] scope pos) spos) := by
  have gx := g.gx
  have hN : X.N.Nodup := by rw [gx.N]; exact gx.nd
  have ok : BlkOk X.N X.env.scope scope (ownOf Γ.N p) := blkOk_by (by rw [gx.N, gx.scq]; exact hb)
  refine psImp (psFz (ps_setLc (i := i) (g := gV X.K p) gx.calm hN (by rw [gx.N]; exact hy) (by rw [gx.scq]; exact hyl) hsw hi ok (fun s H c cl fp => snd_pat (sc := scope) (N := Γ.N) (X := X.blk s H scope (compEnvC scope cl c X.env) fp) gx.N gx.nd gx.calm (blk_loc s H scope cl c fp) hp) ht he (folded_of hs _))) fun D σ H q => ?_
  rw [own_ix]
  have q2 := tS_go (fa := ev t (.comp fz p kd its cs e)) (k := fun w ρ S => asgG t (.pat (.name i)) w ρ S) (fun ρ S => by simp only [ex]) q
  have q3 : tM C Z (ev t (.comp fz p kd its cs e)) σ H fun x H1 => D.nx (σ.set i (some x)) H1 := tM_imp q2 fun x H1 h => by
    obtain ⟨ρ, ι, S, w, s, se, r, a⟩ := h
    simp only [asgG, patSet, RS.ofO] at a
    exact a _ H1 ι (Nx.refl s) (se.set r)
  refine tLc_imp tI_imp (fun v H' h => ?_) (comp_tLc gx.hC q3)
  rcases h with ⟨a, u, e1, hu, mu, h⟩ | h
  · exact .inl ⟨a, u, hu, mu, h⟩
  · exact .inr h
/-! ### a, b = x, y -/
def setAll : List Nat → List V → L2.St → L2.St
  | i :: is, v :: vs, σ => setAll is vs (σ.set i (some v))
  | _, _, σ => σ
theorem setAll_set : ∀ {is : List Nat} {vs : List V} {σ : L2.St} {i : Nat} {v : V}, i ∉ is → setAll is vs (σ.set i (some v)) = (setAll is vs σ).set i (some v)
  | [], vs, σ, i, v, _ => by cases vs <;> rfl
  | j :: is, [], σ, i, v, _ => rfl
  | j :: is, w :: vs, σ, i, v, h => by
    simp only [setAll]
    have hj : i ≠ j := fun e => h (by rw [e]; simp)
    rw [List.set_comm _ _ hj, setAll_set fun z => h (List.mem_cons_of_mem _ z)]
def nmE (env : PySem.Env) (line : Nat) : Expr → Option Str
  | .Name id pos => if env.kindOf id == some .local && pos.line == line then some id else none
  | _ => none
theorem swap_sound {ts vs : List Expr} {k1 k2 : Nat} {p1 p2 : Pos} {env : PySem.Env} {r : Option (List Str)} (hs : env.scope = sc) (hk : sc.kind = .function) (h : swapS sc ts vs = some r) : swappedStores [.Tuple ts k1 p1] (.Tuple vs k2 p2) env = pure r := by
  have hb : env.blockKind = .function := by
    unfold PySem.Env.blockKind
    rw [hs, hk]
    rfl
  have hnm : ∀ line, nmE env line = nmOf sc line := by
    intro line
    funext e
    cases e <;> first | rfl | skip
    simp only [nmOf, nmE, PySem.Env.kindOf, hs]
  unfold swappedStores
  dsimp only
  change (if (!(ts.length == 2 || ts.length == 3) || vs.length != ts.length || env.blockKind != ScopeKind.function) = true then pure none
    else if vs.any isStar = true then pure none
    else if ((ts.filterMap (nmE env ((ts.head?.map (·.pos.line)).getD 0))).length != ts.length || (ts.filterMap (nmE env ((ts.head?.map (·.pos.line)).getD 0))).eraseDups.length != (ts.filterMap (nmE env ((ts.head?.map (·.pos.line)).getD 0))).length) = true then pure none
    else if vs.all (foldedForSure 8) = true then pure none
    else if vs.all (constantsAlone 8) = true then (do unsupported "assign.tuple-of-constant-expressions:order-of-the-stores"; pure (some (ts.filterMap (nmE env ((ts.head?.map (·.pos.line)).getD 0)))))
    else pure (some (ts.filterMap (nmE env ((ts.head?.map (·.pos.line)).getD 0))))) = (pure r : Sem _)
  rw [hnm, hb]
  unfold swapS at h
  have e0 : (ScopeKind.function != ScopeKind.function) = false := by decide
  rw [e0, Bool.or_false]
  split at h
  · rename_i c
    rw [if_pos c]
    cases h
    rfl
  · rename_i c
    rw [if_neg c]
    split at h
    · rename_i c2
      rw [if_pos c2]
      cases h
      rfl
    · rename_i c2
      rw [if_neg c2]
      dsimp only at h
      split at h
      · rename_i c3
        rw [if_pos c3]
        cases h
        rfl
      · rename_i c3
        rw [if_neg c3]
        split at h
        · rename_i c4
          rw [if_pos c4]
          cases h
          rfl
        · rename_i c4
          rw [if_neg c4]
          split at h
          · cases h
          · rename_i c5
            rw [if_neg c5]
            cases h
            rfl
/-- stores to names, one after another -/
inductive NmAt (X : Cx) : List Nat → List Str → Prop where
  | nil : NmAt X [] []
  | cons {i : Nat} {x : Str} {is : List Nat} {xs : List Str} (h : X.N[i]? = some x) (h2 : X.env.scope.names.lookup x = some .local) (r : NmAt X is xs) : NmAt X (i :: is) (x :: xs)
theorem NmAt.append : ∀ {is js : List Nat} {xs ys : List Str}, NmAt X is xs → NmAt X js ys → NmAt X (is ++ js) (xs ++ ys)
  | _, _, _, _, .nil, h => h
  | _, _, _, _, .cons a b r, h => .cons a b (r.append h)
theorem NmAt.reverse : ∀ {is : List Nat} {xs : List Str}, NmAt X is xs → NmAt X is.reverse xs.reverse
  | _, _, .nil => .nil
  | _, _, .cons a b r => by
    rw [List.reverse_cons, List.reverse_cons]
    exact r.reverse.append (.cons a b .nil)
theorem store_names {pins : List (Addr × Obj)} (hN : X.N.Nodup) : ∀ {is : List Nat} {names : List Str} {vs : List V} {us : List Value} {σ : L2.St} {H : Hp} {s : Shared} {Q : Unit → Shared → Prop}, NmAt X is names → Inv X pins σ H s → Vals vs us → vs.length = is.length →
    (∀ s', Inv X pins (setAll is vs σ) H s' → Q () s') → wpAny (model X.prog X.w) X.A (assignInOrder (names.map fun n => bindName X.env n) us) Q X.xe s
  | _, _, _, _, σ, H, s, Q, .nil, I, .nil, _, q => PyProof.Rows.assignInOrder_nil (q s I)
  | _, _, _, _, σ, H, s, Q, .nil, I, .cons _ _, hl, q => by simp at hl
  | _, _, _, _, σ, H, s, Q, .cons h h2 r, I, .nil, hl, q => by simp at hl
  | _, _, _, _, σ, H, s, Q, .cons h h2 r, I, .cons rv rr, hl, q => by
    rw [List.map_cons]
    exact PyProof.Rows.assignInOrder_cons (wpAny_bindName (store_ok I hN h (.inl h2) rv (fun s2 I2 => store_names hN r I2 rr (by simpa using hl) q) (.inr h2)))
theorem setAll_app : ∀ {is js : List Nat} {vs ws : List V} {σ : L2.St}, vs.length = is.length → setAll (is ++ js) (vs ++ ws) σ = setAll js ws (setAll is vs σ)
  | [], js, [], ws, σ, _ => rfl
  | [], _, _ :: _, _, _, h => by simp at h
  | _ :: _, _, [], _, _, h => by simp at h
  | i :: is, js, v :: vs, ws, σ, h => by
    simp only [List.cons_append, setAll]
    exact setAll_app (by simpa using h)
theorem setAll_rev : ∀ {is : List Nat} {vs : List V} {σ : L2.St}, is.Nodup → vs.length = is.length → setAll is.reverse vs.reverse σ = setAll is vs σ
  | [], [], σ, _, _ => rfl
  | [], _ :: _, _, _, h => by simp at h
  | _ :: _, [], _, _, h => by simp at h
  | i :: is, v :: vs, σ, nd, h => by
    have hl : vs.length = is.length := by simpa using h
    rw [List.reverse_cons, List.reverse_cons, setAll_app (by simp [hl]), setAll_rev (List.nodup_cons.mp nd).2 hl]
    simp only [setAll]
    rw [setAll_set (List.nodup_cons.mp nd).1]
theorem ps_parN {is : List Nat} {names : List Str} {ts es : List Expr} {ta : TA} {kt k2 : Nat} {pt pt2 pos : Pos} (hc : X.calm = true) (hN : X.N.Nodup) (hn : NmAt X is names) (nd : is.Nodup) (ha : PA X es ta) (h23 : is.length ≤ 3)
    (hw : swappedStores [.Tuple ts kt pt] (.Tuple es k2 pt2) X.env = pure (some names)) :
    PS X (.Assign [.Tuple ts kt pt] (.Tuple es k2 pt2) pos) (fun D σ H => ta σ H fun vs H1 => vs.length = is.length ∧ D.nx (setAll is vs σ) H1) := by
  have hln : ∀ {is : List Nat} {names : List Str}, NmAt X is names → names.length = is.length := by
    intro is names h
    induction h with
    | nil => rfl
    | cons _ _ _ ih => simp [ih]
  refine ⟨fun pins s σ H D I h => ?_⟩
  rw [exec_Assign_arm]
  refine wpAny_bind (wpAny_standAt ?_)
  have hs : swapsWithSole [.Tuple ts kt pt] (.Tuple es k2 pt2) pos.line X.env = pure false := rfl
  rw [hs]
  refine wpAny_bind (wpAny_pure ?_)
  rw [if_neg (by decide)]
  refine wpAny_bind (PyProof.Rows.Tuple_ (thn (ha.run _ pins s σ H _ I h) fun us s1 ⟨vs, H1, I1, r1, hl, q1⟩ => ?_))
  have hus : us.length = is.length := by rw [← r1.length]; exact hl
  refine wpAny_newObj_type ?_ (by show us.toArray.size ≤ sizeLine; rw [List.size_toArray, hus]; exact Nat.le_trans h23 (by decide))
  have I2 : Inv X pins σ H1 { s1 with heap := s1.heap.push { cls := .type "tuple", data := .seq us.toArray } } := I1.kept (t' := s1.toks) fun b o e => Heap.get?_push_of_some _ e
  rw [hw]
  refine wpAny_bind (wpAny_pure ?_)
  show wpAny (model X.prog X.w) X.A (do rule "assign.swapped-stores"; let items ← unpackItems (.ref s1.heap.objs.size) names.length none; assignInOrder (names.reverse.map fun n => bindName X.env n) items.reverse; pure Flow.next) _ _ _
  have hsz : names.length = us.toArray.size := by rw [List.size_toArray, hus, hln hn]
  rw [hsz]
  refine wpAny_bind (wpAny_rule (wpAny_bind (PyProof.Rows.unpackItems_tuple (items := us.toArray) (I.ok.hd hc) (PyProof.Rows.IsTup.new s1.heap _) fun h' hx' => ?_)))
  have I3 := I2.kept (h' := h') (t' := s1.toks) fun b o e => hx' b o (Nat.ne_of_lt (Heap.lt_size e)) e
  show wpAny _ _ (assignInOrder (names.reverse.map fun n => bindName X.env n) us.reverse >>= fun _ => pure Flow.next) _ _ _
  refine wpAny_bind (store_names hN hn.reverse I3 r1.reverse (by simp [hl]) fun s' I4 => wpAny_pure ?_)
  rw [setAll_rev nd hl] at I4
  exact ⟨_, H1, I4, q1⟩
theorem setMany_rel {H : Hp} {ι : Nat → Addr} {L : Nat} : ∀ {is : List Nat} {ws : List W} {vs : List V} {ρ ρ' : Rho} {σ : L2.St}, setMany is ws ρ = some ρ' → WRs C H ι L ws vs → SimE C H ι L ρ σ → vs.length = is.length ∧ SimE C H ι L ρ' (setAll is vs σ)
  | [], [], _, ρ, ρ', σ, h, .nil, se => by
    simp only [setMany, Option.some.injEq] at h
    subst h
    exact ⟨rfl, se⟩
  | [], _ :: _, _, _, _, _, h, _, _ => by simp [setMany] at h
  | _ :: _, [], _, _, _, _, h, _, _ => by simp [setMany] at h
  | i :: is, w :: ws, _, ρ, ρ', σ, h, .cons r rr, se => by
    simp only [setMany] at h
    obtain ⟨a, b⟩ := setMany_rel h rr (se.set r)
    exact ⟨by simp [a], b⟩
theorem nm_at (g : GS Γ t C CX k Z sc X) : ∀ {is : List Nat} {names : List Str}, chkN Γ.N sc is names = true → NmAt X is names
  | [], [], _ => .nil
  | [], _ :: _, h => by simp [chkN] at h
  | _ :: _, [], h => by simp [chkN] at h
  | i :: is, x :: xs, h => by
    simp only [chkN, Bool.and_eq_true, decide_eq_true_eq] at h
    obtain ⟨⟨⟨h1, h2⟩, h3⟩, h4⟩ := h
    refine .cons (by rw [g.gx.N]; exact h1) ?_ (nm_at g h4)
    unfold locOnly at h2
    rw [g.gx.scq]
    split at h2 <;> simp_all
theorem snd_par {is : List Nat} {es : List E} {names : List Str} {ts vs : List Expr} {k1 k2 : Nat} {p1 p2 p3 : Pos} (g : GS Γ t C CX k Z sc X) (hw : swapS sc ts vs = some (some names)) (hn : chkN Γ.N sc is names = true) (nd : is.Nodup) (h23 : is.length ≤ 3) (h : SEs t C Z X es vs) :
    SS t C Z X (.par is es) (.Assign [.Tuple ts k1 p1] (.Tuple vs k2 p2) p3) := by
  refine psImp (ps_parN g.gx.calm (by rw [g.gx.N]; exact g.gx.nd) (nm_at g hn) nd h h23 (swap_sound g.gx.scq g.kd hw)) fun D σ H q => ?_
  obtain ⟨ρ, ι, S, s, se, a⟩ := q
  simp only [ex] at a
  refine ⟨ρ, ι, S, s, se, (AftS.go s a).imp ?_⟩
  rintro xs H1 ⟨ws, ι1, S1, nx, r, a1⟩
  cases hq : setMany is ws ρ with
  | none => rw [hq] at a1; exact a1.elim
  | some ρ' =>
    rw [hq] at a1
    obtain ⟨h1, h2⟩ := setMany_rel hq r (nx.env se)
    exact ⟨h1, a1 _ H1 ι1 (Nx.refl nx.sim) h2⟩
end
section
variable {Γ : Gm} {t : Tab} {C : Cn} {CX : CXT} {k : Nat} {Z : XK} {sc : Scope} {X : Cx}
theorem GS.loc (g : GS Γ t C CX k Z sc X) : ∀ x, locB sc x = true → L2.Loc X.env.scope x ∧ (X.fn x = true ∨ X.env.scope.names.lookup x = some .local) := by
  intro x h
  refine ⟨?_, .inl (g.fnA x)⟩
  unfold locB at h
  unfold L2.Loc
  rw [g.gx.scq]
  split at h <;> simp_all
theorem tinv_name {i : Nat} {e : E} {x : Stmt} (h : chkT Γ sc (.asg (.pat (.name i)) e) x = true) : ∃ y p v p2, x = .Assign [.Name y p] v p2 ∧ Γ.N[i]? = some y ∧ locB sc y = true ∧ chkE Γ e sc v = true ∧ (swapB sc y p v = false ∨ isComp e = true) ∧ notOdd v = true := by
  unfold chkT at h
  split at h <;> first | contradiction | (rename_i heq; cases heq)
  simp only [Bool.and_eq_true, Bool.or_eq_true, Bool.not_eq_true', decide_eq_true_eq] at h
  obtain ⟨⟨⟨⟨⟨h1, h2⟩, h3⟩, h4⟩, h5⟩, h6⟩ := h
  exact ⟨_, _, _, _, rfl, h1, h2, h4, h5, h6⟩
theorem tinv_tup {ps : List P} {e : E} {x : Stmt} (h : chkT Γ sc (.asg (.pat (.tup ps)) e) x = true) : ∃ ts kt pt v p2, x = .Assign [.Tuple ts kt pt] v p2 ∧ chkP Γ.N sc (.tup ps) (.Tuple ts kt pt) = true ∧ chkE Γ e sc v = true ∧ (match tupB v with
    | some vs => decide (swapS sc ts vs = some none)
    | none => true) = true := by
  unfold chkT at h
  split at h <;> first | contradiction | (rename_i heq; cases heq)
  simp only [Bool.and_eq_true] at h
  exact ⟨_, _, _, _, _, rfl, h.1.1, h.1.2, h.2⟩
theorem tinv_sub {o i e : E} {x : Stmt} (h : chkT Γ sc (.asg (.sub o i) e) x = true) : ∃ y z p v p2, x = .Assign [.Subscript y z p] v p2 ∧ chkE Γ o sc y = true ∧ chkE Γ i sc z = true ∧ plainB z = true ∧ chkE Γ e sc v = true := by
  unfold chkT at h
  split at h <;> first | contradiction | (rename_i heq; cases heq)
  simp only [Bool.and_eq_true] at h
  exact ⟨_, _, _, _, _, rfl, h.1.1.1, h.1.1.2, h.1.2, h.2⟩
theorem tinv_par {is : List Nat} {es : List E} {x : Stmt} (h : chkT Γ sc (.par is es) x = true) : ∃ ts k1 p1 vs k2 p2 p3 names, x = .Assign [.Tuple ts k1 p1] (.Tuple vs k2 p2) p3 ∧ swapS sc ts vs = some (some names) ∧ chkN Γ.N sc is names = true ∧ chkEs Γ es sc vs = true ∧ is.Nodup ∧ is.length ≤ 3 := by
  (unfold chkT at h; first | contradiction | (split at h <;> first | contradiction | (injections; subst_vars)))
  simp only [Bool.and_eq_true, decide_eq_true_eq] at h
  obtain ⟨⟨⟨⟨h1, h2⟩, h3⟩, h4⟩, h5⟩ := h
  split at h1
  · rename_i names hn
    exact ⟨_, _, _, _, _, _, _, names, rfl, hn, h1, h2, h3, by omega⟩
  · cases h1
theorem tinv_ex {e : E} {x : Stmt} (h : chkT Γ sc (.ex e) x = true) : ∃ y p, x = .Expr y p ∧ chkE Γ e sc y = true ∧ notComp y = true := by
  (unfold chkT at h; first | contradiction | (split at h <;> first | contradiction | (injections; subst_vars)))
  simp only [Bool.and_eq_true] at h
  exact ⟨_, _, rfl, h.1, h.2⟩
theorem tinv_ret {e : E} {x : Stmt} (h : chkT Γ sc (.ret e) x = true) : ∃ y p, x = .Return (some y) p ∧ chkE Γ e sc y = true := by
  (unfold chkT at h; first | contradiction | (split at h <;> first | contradiction | (injections; subst_vars)))
  exact ⟨_, _, rfl, h⟩
theorem tinv_retN {x : Stmt} (h : chkT Γ sc .retN x = true) : ∃ p, x = .Return none p := by
  (unfold chkT at h; first | contradiction | (split at h <;> first | contradiction | (injections; subst_vars)))
  exact ⟨_, rfl⟩
theorem tinv_ite {c : E} {a b : List T} {x : Stmt} (h : chkT Γ sc (.ite c a b) x = true) : ∃ y as bs p, x = .If y as bs p ∧ chkE Γ c sc y = true ∧ chkTs Γ sc a as = true ∧ chkTs Γ sc b bs = true := by
  (unfold chkT at h; first | contradiction | (split at h <;> first | contradiction | (injections; subst_vars)))
  simp only [Bool.and_eq_true] at h
  exact ⟨_, _, _, _, rfl, h.1.1, h.1.2, h.2⟩
theorem tinv_for {p : P} {kd : IK} {its : List E} {b : List T} {x : Stmt} (h : chkT Γ sc (.for p kd its b) x = true) : ∃ tg iter body pos, x = .For tg iter body [] pos ∧ chkP Γ.N sc p tg = true ∧ notSet iter = true ∧ chkI Γ sc kd its iter tg = true ∧ chkTs Γ sc b body = true := by
  (unfold chkT at h; first | contradiction | (split at h <;> first | contradiction | (injections; subst_vars)))
  simp only [Bool.and_eq_true] at h
  exact ⟨_, _, _, _, rfl, h.1.1.1, h.1.1.2, h.1.2, h.2⟩
theorem tinv_whl {n : Nat} {c : E} {b : List T} {x : Stmt} (h : chkT Γ sc (.whl n c b) x = true) : ∃ y body p, x = .While y body [] p ∧ chkE Γ c sc y = true ∧ chkTs Γ sc b body = true := by
  (unfold chkT at h; first | contradiction | (split at h <;> first | contradiction | (injections; subst_vars)))
  simp only [Bool.and_eq_true] at h
  exact ⟨_, _, _, rfl, h.1, h.2⟩
theorem tinv_brk {x : Stmt} (h : chkT Γ sc .brk x = true) : ∃ p, x = .Break p := by
  (unfold chkT at h; first | contradiction | (split at h <;> first | contradiction | (injections; subst_vars)))
  exact ⟨_, rfl⟩
theorem tinv_cnt {x : Stmt} (h : chkT Γ sc .cnt x = true) : ∃ p, x = .Continue p := by
  (unfold chkT at h; first | contradiction | (split at h <;> first | contradiction | (injections; subst_vars)))
  exact ⟨_, rfl⟩
theorem tinv_pass {x : Stmt} (h : chkT Γ sc .pass x = true) : ∃ p, x = .Pass p := by
  (unfold chkT at h; first | contradiction | (split at h <;> first | contradiction | (injections; subst_vars)))
  exact ⟨_, rfl⟩
theorem no_attr {o : E} {f : List Nat} {e : E} {x : Stmt} (h : chkT Γ sc (.asg (.attr o f) e) x = true) : False := by (unfold chkT at h; first | contradiction | (split at h <;> first | contradiction | (injections; subst_vars)))
theorem no_gtup {gs : List G} {e : E} {x : Stmt} (h : chkT Γ sc (.asg (.tup gs) e) x = true) : False := by (unfold chkT at h; first | contradiction | (split at h <;> first | contradiction | (injections; subst_vars)))
theorem no_raise {c : Nat} {e : E} {l : List E} {x : Stmt} (h : chkT Γ sc (.raise c (e :: l)) x = true) : False := by (unfold chkT at h; first | contradiction | (split at h <;> first | contradiction | (injections; subst_vars)))
mutual
theorem sndT : ∀ (s : T) (x : Stmt), chkT Γ sc s x = true → GS Γ t C CX k Z sc X → SS t C Z X s x
  | .asg (.pat (.name i)) e, x, h, g => by
    obtain ⟨y, p, v, p2, rfl, h1, h2, h3, h4, h5⟩ := tinv_name h
    have hsw := swaps_name (p := p) (y := y) (line := p2.line) g.gx.scq g.kd h5
    cases hb : swapB sc y p v with
    | false =>
      rw [hb] at hsw
      exact snd_set g h1 h2 (sndE e Z sc X v h3 g.gx).1 hsw
    | true =>
      rw [hb] at hsw h4
      have hc : isComp e = true := by simpa using h4
      cases e <;> first | (simp [isComp] at hc; done) | skip
      rename_i fz pp kd its cs e
      obtain ⟨elt, tg, iter, ifs, scope, pos, rfl, q1, q2, q3, q4, q5, q6, q7⟩ := inv_comp h3
      have hyl : sc.names.lookup y = some .local := by
        simp only [swapB, Bool.and_eq_true, beq_iff_eq] at hb
        exact hb.1.1
      refine snd_setLc g h1 hyl hsw q1 q2 q3 (snd_iter g.gx q4 fun xs hx => sndEs its Z sc X xs hx g.gx) (fun s H c cl fp => ?_) fun s H c cl fp => ?_
      · exact snd_conds (sndEs cs Z0 (relS scope sc) _ ifs q5 (gx_blk g.gx s H scope cl c fp)) q6
      · exact (sndE e Z0 (relS scope sc) _ elt q7 (gx_blk g.gx s H scope cl c fp)).1
  | .asg (.pat (.tup ps)) e, x, h, g => by
    obtain ⟨ts, kt, pt, v, p2, rfl, h1, h2, h3⟩ := tinv_tup h
    refine snd_pasg g (snd_pat g.gx.N g.gx.nd g.gx.calm g.loc h1) (sndE e Z sc X v h2 g.gx).1 (by cases v <;> rfl) ?_ rfl
    cases v <;> first | rfl | skip
    simp only [tupB, decide_eq_true_eq] at h3
    exact swap_sound g.gx.scq g.kd h3
  | .asg (.sub o i) e, x, h, g => by
    obtain ⟨y, z, p, v, p2, rfl, h1, h2, h3, h4⟩ := tinv_sub h
    exact snd_sub g (sndE o Z sc X y h1 g.gx).1 (sndE i Z sc X z h2 g.gx).1 (sndE e Z sc X v h4 g.gx).1 h3
  | .asg (.attr o f) e, x, h, g => (no_attr h).elim
  | .asg (.tup gs) e, x, h, g => (no_gtup h).elim
  | .par is es, x, h, g => by
    obtain ⟨ts, k1, p1, vs, k2, p2, p3, names, rfl, h1, h2, h3, h4, h5⟩ := tinv_par h
    exact snd_par g h1 h2 h4 h5 (sndEs es Z sc X vs h3 g.gx).ses.1
  | .ex e, x, h, g => by
    obtain ⟨y, p, rfl, h1, h2⟩ := tinv_ex h
    exact snd_ex (sndE e Z sc X y h1 g.gx).1 h2
  | .ret e, x, h, g => by
    obtain ⟨y, p, rfl, h1⟩ := tinv_ret h
    exact snd_ret (sndE e Z sc X y h1 g.gx).1
  | .retN, x, h, g => by
    obtain ⟨p, rfl⟩ := tinv_retN h
    exact snd_retN
  | .ite c a b, x, h, g => by
    obtain ⟨y, as, bs, p, rfl, h1, h2, h3⟩ := tinv_ite h
    exact snd_sif (sndE c Z sc X y h1 g.gx).2 (sndTs a as h2 g) (sndTs b bs h3 g)
  | .for p kd its b, x, h, g => by
    obtain ⟨tg, iter, body, pos, rfl, h1, h2, h3, h4⟩ := tinv_for h
    exact snd_for g (snd_pat g.gx.N g.gx.nd g.gx.calm g.loc h1) h2 (snd_iter g.gx h3 fun xs hx => sndEs its Z sc X xs hx g.gx) (sndTs b body h4 g)
  | .whl n c b, x, h, g => by
    obtain ⟨y, body, p, rfl, h1, h2⟩ := tinv_whl h
    exact snd_while g (sndE c Z sc X y h1 g.gx).2 (sndTs b body h2 g)
  | .brk, x, h, g => by
    obtain ⟨p, rfl⟩ := tinv_brk h
    exact snd_brk
  | .cnt, x, h, g => by
    obtain ⟨p, rfl⟩ := tinv_cnt h
    exact snd_cnt
  | .pass, x, h, g => by
    obtain ⟨p, rfl⟩ := tinv_pass h
    exact snd_pass
  | .raise c [], x, h, g => never_ps fun ρ S => by simp only [ex, evs, R.go]
  | .raise c (e :: l), x, h, g => (no_raise h).elim
  | .try b c v h', x, h, g => never_ps fun ρ S => by simp only [ex]
theorem sndTs : ∀ (l : List T) (xs : List Stmt), chkTs Γ sc l xs = true → GS Γ t C CX k Z sc X → SSs t C Z X l xs
  | [], [], h, g => snd_snil
  | [], _ :: _, h, g => by simp [chkTs] at h
  | _ :: _, [], h, g => by simp [chkTs] at h
  | s :: l, x :: xs, h, g => by
    simp only [chkTs, Bool.and_eq_true] at h
    exact snd_scons (sndT s x h.1 g) (sndTs l xs h.2 g)
end
end
end LD
/-! LD21: a def of the text keeps the interpreter's promise. -/
namespace LD
open PySem L2

section
variable {C : Cn} {H : Hp} {ι : Nat → Addr} {L : Nat}
theorem args_rel : ∀ {ws : List W} {vs : List V}, WRs C H ι L ws vs → ∀ (i : Nat) (w : W), (ws.map some)[i]? = some (some w) → ∃ v, (vs.map some)[i]? = some (some v) ∧ WRp C H ι L w v
  | _, _, .nil, i, w, h => by simp at h
  | w0 :: ws, v0 :: vs, .cons r t, i, w, h => by
    cases i with
    | zero =>
      simp only [List.map_cons, List.getElem?_cons_zero, Option.some.injEq] at h
      subst h
      exact ⟨v0, by simp, r⟩
    | succ i =>
      obtain ⟨v, h1, h2⟩ := args_rel t i w (by simpa using h)
      exact ⟨v, by simpa using h1, h2⟩
theorem start_rel {N : List Str} {ws : List W} {vs : List V} (r : WRs C H ι L ws vs) (hn : ws.length ≤ N.length) : SimE C H ι L (ws.map some ++ List.replicate (N.length - ws.length) none) (L2.start N vs) := by
  have hl := pairLen r
  refine ⟨?_, fun i w e => ?_⟩
  · unfold L2.start
    simp [hl]
  · unfold L2.start
    by_cases h : i < ws.length
    · rw [List.getElem?_append_left (by simpa using h)] at e
      obtain ⟨v, h1, h2⟩ := args_rel r i w e
      exact ⟨v, by rw [List.getElem?_append_left (by simp [← hl]; exact h)]; exact h1, h2⟩
    · rw [List.getElem?_append_right (by simpa using h)] at e
      rw [List.getElem?_replicate] at e
      split at e <;> cases e
end
/-- the promise of a def whose text the check takes -/
theorem def_ok {Γ : Gm} {t : Tab} {C : Cn} {CX : CXT} {P : Program} {w : World} {K : PySem.W.Frag} {mg : Str → Option Value} {base : Heap} {k : Nat} {f : Addr} {x qual : Str} {st : Stmt} {fd : FuncData} {ps : List Str} {d : Fd}
    (F : C8.Fun K x qual st f fd) (hsc : C8.scC Γ.N ps (C8.fnScope st) = true) (hps : ps.length = d.np) (hnl : Γ.N.length = d.nl) (hch : chkTs Γ (C8.fnScope st) d.body (C8.fnBody st) = true)
    (hC : C.K = K) (hblt : ∀ nm, nm ∈ bltNames → mg nm = none)
    (hglb : ∀ i y v, Γ.glb i = some y → t.glb i = some v → ∃ u z, mg y = some u ∧ RelV z u ∧ ∀ H, RpD C H v z)
    (hfns : ∀ i nm, Γ.fnm i = some nm → ∃ f fd ps, mg nm = some (.ref f) ∧ PySem.W.keepIn K (.ref f) = true ∧ Binds K fd ps [] ∧ FnG P w K mg base CX k f fd ps (spOf C (t.fns i) (Γ.ar i)))
    (hpass : ∀ (N : List Str) (qual : Str) (scope : Scope) (f : Addr) (cd : Value) (A : Around) (outer : List PySem.Env) (s : Shared) (H : Hp) (E : XK), Passes CX (cxOf CX P w K mg base N qual scope f cd A outer s H E) E)
    (hcx0 : ∀ l H s e s', CX l H s (fun _ _ _ => False) e s' → False) :
    FnG P w K mg base CX (k + 1) f fd ps (spOf C (runFd t d) d.np) := by
  have S := C8.fnScope_by hsc
  refine fn_ofG F S (fun vs H Q E h => ?_) fun cdv A outer s H vs Q E hr hgd hK hsp => ?_
  · obtain ⟨ι, T, ws, s, r, hn, a⟩ := h
    rw [hn, hps]
  · have hnp : d.np ≤ d.nl := by
      have h1 := congrArg List.length S.pre
      rw [List.length_take] at h1
      omega
    have g : GS Γ t C CX k E (C8.fnScope st) (cxOf CX P w K mg base Γ.N qual (C8.fnScope st) f cdv A outer s H E) :=
      ⟨⟨hC, rfl, hgd, hr, rfl, S.nd, rfl, hblt, hglb, hfns, hpass _ _ _ _ _ _ _ _ _ _, hcx0⟩, fun _ => rfl, S.kind, PassesOwn.leaving⟩
    refine ⟨_, sndTs d.body (C8.fnBody st) hch g, ?_⟩
    obtain ⟨ι, T, ws, sm, r, hn, a⟩ := hsp
    have hlen := pairLen r
    refine ⟨ws.map some ++ List.replicate (Γ.N.length - ws.length) none, ι, T, sm, start_rel r (by omega), ?_⟩
    unfold runFd at a
    rw [if_pos (by omega)] at a
    have e : List.replicate (d.nl - d.np) (none : Option W) = List.replicate (Γ.N.length - ws.length) none := by
      congr 1
      omega
    rw [e] at a
    generalize exs t d.body (ws.map some ++ List.replicate (Γ.N.length - ws.length) none) T = r0 at a ⊢
    cases r0 with
    | nx ρ' S' => exact fun σ' H' ι' x se => a .non H' ι' x mk_non
    | br ρ' S' => exact a.elim
    | ct ρ' S' => exact a.elim
    | rt w S' => exact a
    | exc c fs ρ' S' => exact a
    | bad => exact a
end LD
/-! LD23: all defs of a text, one after another. -/
namespace LD
open PySem L2

/-- a def of the text: its name, its statement, its names, its parameters, its compact form -/
structure Df where
  name : Str
  st : Stmt
  N : List Str
  ps : List Str
  fd : Fd
def tabL (g : Nat → Option D) (l : List FnS) : Tab := ⟨fun i => l.getD i fun _ _ => .bad, g⟩
def gam (ds : List Df) (gl : Nat → Option Str) (j : Nat) (d : Df) : Gm := ⟨d.N, fun i => if i < j then (ds[i]?).map (·.name) else none, fun i => ((ds[i]?).map (·.fd.np)).getD 0, gl⟩
def chkD (ds : List Df) (gl : Nat → Option Str) (j : Nat) (d : Df) : Bool :=
  C8.scC d.N d.ps (C8.fnScope d.st) && decide (d.ps.length = d.fd.np) && decide (d.N.length = d.fd.nl) && chkTs (gam ds gl j d) (C8.fnScope d.st) d.fd.body (C8.fnBody d.st)
def chkAll (ds : List Df) (gl : Nat → Option Str) : Nat → List Df → Bool
  | _, [] => true
  | j, d :: l => chkD ds gl j d && chkAll ds gl (j + 1) l
theorem chkAll_at {ds : List Df} {gl : Nat → Option Str} : ∀ {l : List Df} {j i : Nat} {d : Df}, chkAll ds gl j l = true → l[i]? = some d → chkD ds gl (j + i) d = true
  | [], _, _, _, _, h => by simp at h
  | d0 :: l, j, 0, d, h, e => by
    simp only [chkAll, Bool.and_eq_true] at h
    simp only [List.getElem?_cons_zero, Option.some.injEq] at e
    subst e
    exact h.1
  | d0 :: l, j, i + 1, d, h, e => by
    simp only [chkAll, Bool.and_eq_true] at h
    have := chkAll_at h.2 (i := i) (by simpa using e)
    have e2 : j + (i + 1) = j + 1 + i := by omega
    rw [e2]
    exact this
/-- how a def stands behind the top -/
def Stands (K : PySem.W.Frag) (mg : Str → Option Value) (d : Df) : Prop := ∃ f fd, mg d.name = some (.ref f) ∧ PySem.W.keepIn K (.ref f) = true ∧ Binds K fd d.ps [] ∧ C8.Fun K d.name d.name d.st f fd ∧ fd.defaults = .none
theorem all_ok {ds : List Df} {L : List FnS} {glv : Nat → Option D} {gl : Nat → Option Str} {C : Cn} {CX : CXT} {P : Program} {w : World} {K : PySem.W.Frag} {mg : Str → Option Value} {base : Heap}
    (hch : chkAll ds gl 0 ds = true) (hL : ∀ (j : Nat) (d : Df), ds[j]? = some d → L[j]? = some (runFd (tabL glv (L.take j)) d.fd)) (hst : ∀ (j : Nat) (d : Df), ds[j]? = some d → Stands K mg d)
    (hC : C.K = K) (hblt : ∀ nm, nm ∈ bltNames → mg nm = none)
    (hglb : ∀ i y v, gl i = some y → glv i = some v → ∃ u z, mg y = some u ∧ RelV z u ∧ ∀ H, RpD C H v z)
    (hpass : ∀ (N : List Str) (qual : Str) (scope : Scope) (f : Addr) (cd : Value) (A : Around) (outer : List PySem.Env) (s : Shared) (H : Hp) (E : XK), Passes CX (cxOf CX P w K mg base N qual scope f cd A outer s H E) E)
    (hcx0 : ∀ l H s e s', CX l H s (fun _ _ _ => False) e s' → False) :
    ∀ (j : Nat) (d : Df), ds[j]? = some d → ∀ f fd, C8.Fun K d.name d.name d.st f fd → ∃ r, L[j]? = some r ∧ FnG P w K mg base CX (j + 1) f fd d.ps (spOf C r d.fd.np) := by
  intro j
  induction j using Nat.strongRecOn with
  | ind j ih =>
    intro d hd f fd h4
    have hc := chkAll_at hch hd
    rw [Nat.zero_add] at hc
    unfold chkD at hc
    simp only [Bool.and_eq_true, decide_eq_true_eq] at hc
    obtain ⟨⟨⟨c1, c2⟩, c3⟩, c4⟩ := hc
    refine ⟨_, hL j d hd, def_ok (Γ := gam ds gl j d) h4 c1 c2 c3 c4 hC hblt hglb (fun i nm hi => ?_) hpass hcx0⟩
    simp only [gam] at hi
    split at hi
    · rename_i hlt
      obtain ⟨d', hd', rfl⟩ := Option.map_eq_some_iff.mp hi
      obtain ⟨f', fd', g1, g2, g3, g4, _⟩ := hst i d' hd'
      obtain ⟨r', g5, g6⟩ := ih i hlt d' hd' f' fd' g4
      refine ⟨f', fd', d'.ps, g1, g2, g3, ?_⟩
      have e1 : (tabL glv (L.take j)).fns i = r' := by
        show (L.take j).getD i _ = r'
        simp [List.getD, List.getElem?_take_of_lt hlt, g5]
      have e2 : (gam ds gl j d).ar i = d'.fd.np := by simp [gam, hd']
      rw [e1, e2]
      exact g6.mono hlt
    · cases hi
/-- the end: from the law's run -/
theorem law_end {l : PySem.W.OpenLaw} {n k : Nat} {q : Program} {loose : List Str} {XP : (Str → Option Value) → Heap → Prop} {YP : World → Heap → Prop} {d : DefRec} {K : Params → PySem.W.Frag} {x : Str} {ds : List Df} {L : List FnS} {glv : Nat → Option D} {gl : Nat → Option Str} {dl : Df} {rl : FnS} {jl : Nat}
    (hn : l.most = some n) (hn2 : n ≤ sizeLine) (hdf : d.params.defaults = []) (hr : Room k callerA) (hY : ∀ (w : World) (h : Heap), YP w h → (K w.params).In h)
    (hch : chkAll ds gl 0 ds = true) (hL : ∀ (j : Nat) (d : Df), ds[j]? = some d → L[j]? = some (runFd (tabL glv (L.take j)) d.fd)) (hdl : ds[jl]? = some dl) (hnm : dl.name = d.name) (hps : dl.ps = [x]) (hrl : L[jl]? = some rl) (hk : jl + 1 ≤ k) (hnp : dl.fd.np = 1)
    (hlaw : ∀ ns : List Int, ns.length ≤ n → ∃ S, rl [.d (.scr ns)] [] = .ok (.d (.bl true)) S)
    (hF : ∀ (w : World) (mg : Str → Option Value) (h : Heap), (K w.params).In h → h.Ns mainGlobals mg →
      (∀ (j : Nat) (d : Df), ds[j]? = some d → Stands (K w.params) mg d) ∧ (∀ nm, nm ∈ bltNames → mg nm = none) ∧ (∀ i y v, gl i = some y → glv i = some v → ∃ u z, mg y = some u ∧ RelV z u ∧ ∀ H, RpD ⟨K w.params, fun _ => 0, fun _ => 0⟩ H v z))
    (hB : ∀ (K : PySem.W.Frag) (f : Addr) (fd : FuncData), C8.Fun K dl.name dl.name dl.st f fd → fd.defaults = .none → ∀ (s : Shared) (u : Value), BindsTo s fd ⟨[u], []⟩ [(x, u)]) :
    PySem.W.WalkO q loose XP YP l.row.toRowW d [] (fun f vs => PySem.call f vs) := by
  refine walkG (CX := fun _ => C8.CX0) (x := x) hn hn2 hdf hr hY (fun _ _ _ _ _ h => h) fun w mg fa h KX G hmg => ?_
  obtain ⟨h1, h2, h3⟩ := hF w mg h KX G
  obtain ⟨f, fd, g1, g2, g3, g4, g5⟩ := h1 jl dl hdl
  have e : f = fa := by
    rw [hnm, hmg] at g1
    cases g1
    rfl
  subst e
  refine ⟨fd, spOf ⟨K w.params, fun _ => 0, fun _ => 0⟩ rl 1, hB _ _ _ g4 g5, fun base hb hb2 => ?_, fun H a ns hl hO hS => ?_⟩
  · obtain ⟨r, r1, r2⟩ := all_ok (C := ⟨K w.params, fun _ => 0, fun _ => 0⟩) (CX := C8.CX0) (P := l.prog) (w := w) (base := base) hch hL h1 rfl h2 h3 (fun _ _ _ _ _ _ _ _ _ _ => C8.pass0) (fun _ _ _ _ _ h => h) jl dl hdl f fd g4
    rw [hrl] at r1
    cases r1
    rw [hnp, hps] at r2
    exact r2.mono hk
  · obtain ⟨S, hlw⟩ := hlaw ns hl
    refine ⟨fun _ => 0, [], [.d (.scr ns)], ⟨fun n o h => by simp at h, fun m n hm => by simp at hm⟩, .cons ?_ .nil, rfl, ?_⟩
    · show RpD _ H (.scr ns) (.ref a)
      simp only [RpD]
      exact ⟨a, rfl, hS⟩
    · rw [hlw]
      intro b H' ι' nx r
      exact rp_bl r
end LD
/-! LD28: the end of a proof: how each def stands behind the top. -/
namespace LD
open PySem L2
/-- how the arguments go to the parameters -/
def BindAll (x : Str) (st : Stmt) (ps : List Str) : Prop := ∀ (kV doc pm : Value) (an : Option Addr) (cdv ct : Value) (us : List Value), us.length = ps.length → bindArgs (PySem.W.fnOf x x (C8.fnArgs st) (C8.fnBody st) (C8.fnScope st) .none kV doc pm an cdv ct) ⟨us, []⟩ = pure (ps.zip us)
theorem st_mk {K : PySem.W.Frag} {h : Heap} {mg : Str → Option Value} {d : Df} {f : Addr} {oc : Value} {od : Option Addr} {kV doc pm : Value} {an : Option Addr} {cd ct : Value} {sl : Array (Option Value)} (X : K.In h) (G : h.Ns mainGlobals mg) (hb : BindAll d.name d.st d.ps)
    (a : PySem.W.nsIn K mainGlobals d.name = some (some (.ref f))) (l : K.lookup f = some ⟨oc, od, .func (PySem.W.fnOf d.name d.name (C8.fnArgs d.st) (C8.fnBody d.st) (C8.fnScope d.st) .none kV doc pm an cd ct), sl⟩) (c : PySem.W.codeIn K cd d.name = true) (k : PySem.W.keepIn K (.ref f) = true) : Stands K mg d := by
  have F : C8.Fun K d.name d.name d.st f (PySem.W.fnOf d.name d.name (C8.fnArgs d.st) (C8.fnBody d.st) (C8.fnScope d.st) .none kV doc pm an cd ct) := ⟨_, od, .none, kV, doc, pm, an, cd, ct, sl, rfl, l, c⟩
  exact ⟨f, _, PySem.W.mg_of X G a, k, F.binds rfl hb, F, rfl⟩
theorem bindsTo_mk {x : Str} {K : PySem.W.Frag} {dl : Df} (hps : dl.ps = [x]) (hb : BindAll dl.name dl.st dl.ps) : ∀ (f : Addr) (fd : FuncData), C8.Fun K dl.name dl.name dl.st f fd → fd.defaults = .none → ∀ (s : Shared) (u : Value), BindsTo s fd ⟨[u], []⟩ [(x, u)] := by
  intro f fd F df s u
  obtain ⟨oc, od, dV, kV, doc, pm, an, cdv, ct, osl, rfl, lk, hcd⟩ := F.ex
  have e : dV = .none := df
  subst e
  have := hb kV doc pm an cdv ct [u] (by rw [hps]; rfl)
  rw [hps] at this
  exact .of_eq this
/-- every def of the list stands -/
def AllStand (K : PySem.W.Frag) (mg : Str → Option Value) : List Df → Prop
  | [] => True
  | d :: l => Stands K mg d ∧ AllStand K mg l
theorem AllStand.at {K : PySem.W.Frag} {mg : Str → Option Value} : ∀ {l : List Df}, AllStand K mg l → ∀ (j : Nat) (d : Df), l[j]? = some d → Stands K mg d
  | [], _, j, d, h => by simp at h
  | d0 :: l, ⟨h0, _⟩, 0, d, h => by simp at h; exact h ▸ h0
  | d0 :: l, ⟨_, h1⟩, j + 1, d, h => AllStand.at h1 j d (by simpa using h)
def BltAll (K : PySem.W.Frag) : List Str → Prop
  | [] => True
  | x :: l => PySem.W.nsIn K mainGlobals x = some none ∧ BltAll K l
theorem BltAll.at {K : PySem.W.Frag} {h : Heap} {mg : Str → Option Value} (X : K.In h) (G : h.Ns mainGlobals mg) : ∀ {l : List Str}, BltAll K l → ∀ nm, nm ∈ l → mg nm = none
  | [], _, nm, hm => by simp at hm
  | x :: l, ⟨h0, h1⟩, nm, hm => by
    rcases List.mem_cons.mp hm with e | hm
    · subst e; exact PySem.W.mg_none_of X G h0
    · exact BltAll.at X G h1 nm hm
end LD
/-! PL0: the order of plain data; what is sorted. -/
namespace LD
mutual
/-- ints, texts, None, tuples and lists of these -/
def D.nb : D → Bool
  | .non | .int _ | .str _ => true
  | .tup l | .lst l => D.nbs l
  | _ => false
def D.nbs : List D → Bool
  | [] => true
  | x :: l => D.nb x && D.nbs l
end
def nz (c : Nat) : Int := (c : Int) + 1
mutual
def D.enc : D → List Int
  | .non => [1]
  | .bl _ => [2]
  | .int i => [3, i]
  | .str s => 4 :: (s.map nz ++ [0])
  | .tup l => 5 :: D.encs l
  | .lst l => 6 :: D.encs l
  | .dct _ _ => [7]
  | .fn _ => [8]
  | .scr _ => [9]
def D.encs : List D → List Int
  | [] => [0]
  | x :: l => D.enc x ++ D.encs l
end
theorem D.enc_head (x : D) : ∃ t r, D.enc x = t :: r ∧ 0 < t := by
  cases x <;> simp [D.enc]
theorem nbs_iff {l : List D} : D.nbs l = true ↔ ∀ x ∈ l, D.nb x = true := by
  induction l with
  | nil => simp [D.nbs]
  | cons a l ih => simp [D.nbs, ih]
mutual
theorem D.eqv_eq : ∀ {x y : D}, D.nb x = true → D.nb y = true → (D.eqv x y = true ↔ x = y)
  | .non, y, _, h => by cases y <;> simp [D.eqv, D.nb] at h ⊢
  | .int i, y, _, h => by cases y <;> simp [D.eqv, D.nb] at h ⊢
  | .str s, y, _, h => by cases y <;> simp [D.eqv, D.nb] at h ⊢
  | .tup l, y, hx, h => by
    cases y <;> simp only [D.eqv, D.nb, reduceCtorEq, Bool.false_eq_true] at hx h ⊢
    rw [D.eqvs_eq hx h]; simp
  | .lst l, y, hx, h => by
    cases y <;> simp only [D.eqv, D.nb, reduceCtorEq, Bool.false_eq_true] at hx h ⊢
    rw [D.eqvs_eq hx h]; simp
  | .bl _, _, h, _ => by simp [D.nb] at h
  | .dct _ _, _, h, _ => by simp [D.nb] at h
  | .fn _, _, h, _ => by simp [D.nb] at h
  | .scr _, _, h, _ => by simp [D.nb] at h
theorem D.eqvs_eq : ∀ {x y : List D}, D.nbs x = true → D.nbs y = true → (D.eqvs x y = true ↔ x = y)
  | [], [], _, _ => by simp [D.eqvs]
  | [], _ :: _, _, _ => by simp [D.eqvs]
  | _ :: _, [], _, _ => by simp [D.eqvs]
  | a :: as, b :: bs, h, k => by
    simp only [D.nbs, Bool.and_eq_true] at h k
    simp only [D.eqvs, Bool.and_eq_true, D.eqv_eq h.1 k.1, D.eqvs_eq h.2 k.2, List.cons.injEq]
end
theorem eqv_self {x : D} (h : D.nb x = true) : D.eqv x x = true := (D.eqv_eq h h).mpr rfl
noncomputable instance : DecidableEq D := fun _ _ => Classical.propDecidable _
theorem eqv_beq {x y : D} (h : D.nb x = true) (k : D.nb y = true) : D.eqv x y = decide (x = y) := by
  by_cases e : x = y
  · rw [decide_eq_true e]; exact (D.eqv_eq h k).mpr e
  · rw [decide_eq_false e]; exact Bool.eq_false_iff.mpr fun q => e ((D.eqv_eq h k).mp q)
theorem lt_pre {p a b : List Int} (h : a < b) : p ++ a < p ++ b := by
  induction p with
  | nil => exact h
  | cons x p ih => exact List.cons_lt_cons_self.mpr ih
theorem strLt_lt : ∀ {a b : List Nat} (r s : List Int), strLt a b = true → (a.map nz ++ [0]) ++ r < (b.map nz ++ [0]) ++ s
  | [], [], _, _, h => by simp [strLt] at h
  | [], c :: b, r, s, _ => by
    simp only [List.map_nil, List.nil_append, List.map_cons, List.cons_append]
    exact List.Lex.rel (by unfold nz; omega)
  | _ :: _, [], _, _, h => by simp [strLt] at h
  | a :: as, b :: bs, r, s, h => by
    simp only [strLt] at h
    simp only [List.map_cons, List.cons_append]
    split at h
    · rename_i e
      subst e
      exact List.cons_lt_cons_self.mpr (by simpa using strLt_lt r s h)
    · simp only [decide_eq_true_eq] at h
      exact List.Lex.rel (by unfold nz; omega)
theorem strLt_tri : ∀ (a b : List Nat), strLt a b = false → a = b ∨ strLt b a = true
  | [], [], _ => .inl rfl
  | [], _ :: _, h => by simp [strLt] at h
  | _ :: _, [], _ => .inr (by simp [strLt])
  | a :: as, b :: bs, h => by
    simp only [strLt] at h ⊢
    split at h
    · rename_i e
      subst e
      rcases strLt_tri as bs h with q | q
      · exact .inl (by rw [q])
      · exact .inr (by simp [q])
    · rename_i e
      simp only [decide_eq_false_iff_not] at h
      refine .inr ?_
      rw [if_neg (Ne.symm e)]
      simp only [decide_eq_true_eq]
      omega
mutual
theorem lt_enc : ∀ {x y : D} (r s : List Int), D.nb x = true → D.nb y = true → D.lt? x y = some true → D.enc x ++ r < D.enc y ++ s
  | .int a, y, r, s, _, _, h => by
    cases y <;> simp only [D.lt?, reduceCtorEq, Option.some.injEq, decide_eq_true_eq] at h
    simp only [D.enc, List.cons_append]
    exact List.cons_lt_cons_self.mpr (List.Lex.rel h)
  | .str a, y, r, s, _, _, h => by
    cases y <;> simp only [D.lt?, reduceCtorEq, Option.some.injEq] at h
    simp only [D.enc, List.cons_append]
    exact List.cons_lt_cons_self.mpr (strLt_lt r s h)
  | .tup a, y, r, s, hx, hy, h => by
    cases y <;> simp only [D.lt?, reduceCtorEq] at h
    simp only [D.nb] at hx hy
    simp only [D.enc, List.cons_append]
    exact List.cons_lt_cons_self.mpr (lts_enc r s hx hy h)
  | .non, y, _, _, _, _, h => by cases y <;> simp [D.lt?] at h
  | .lst _, y, _, _, _, _, h => by cases y <;> simp [D.lt?] at h
  | .bl _, _, _, _, h, _, _ => by simp [D.nb] at h
  | .dct _ _, _, _, _, h, _, _ => by simp [D.nb] at h
  | .fn _, _, _, _, h, _, _ => by simp [D.nb] at h
  | .scr _, _, _, _, h, _, _ => by simp [D.nb] at h
theorem lts_enc : ∀ {x y : List D} (r s : List Int), D.nbs x = true → D.nbs y = true → D.lts? x y = some true → D.encs x ++ r < D.encs y ++ s
  | [], [], _, _, _, _, h => by simp [D.lts?] at h
  | [], b :: bs, r, s, _, _, _ => by
    obtain ⟨t, q, e, ht⟩ := D.enc_head b
    simp only [D.encs, e, List.cons_append, List.nil_append]
    exact List.Lex.rel ht
  | _ :: _, [], _, _, _, _, h => by simp [D.lts?] at h
  | a :: as, b :: bs, r, s, hx, hy, h => by
    simp only [D.nbs, Bool.and_eq_true] at hx hy
    simp only [D.lts?] at h
    simp only [D.encs, List.append_assoc]
    split at h
    · rename_i e
      have e := (D.eqv_eq hx.1 hy.1).mp e
      subst e
      exact lt_pre (lts_enc r s hx.2 hy.2 h)
    · exact lt_enc _ _ hx.1 hy.1 h
end
mutual
theorem lt_tri : ∀ {x y : D}, D.nb x = true → D.nb y = true → D.lt? x y = some false → x = y ∨ D.lt? y x = some true
  | .int a, y, _, _, h => by
    cases y <;> simp only [D.lt?, reduceCtorEq, Option.some.injEq, decide_eq_false_iff_not, decide_eq_true_eq, D.int.injEq] at h ⊢
    omega
  | .str a, y, _, _, h => by
    cases y <;> simp only [D.lt?, reduceCtorEq, Option.some.injEq, D.str.injEq] at h ⊢
    exact strLt_tri _ _ h
  | .tup a, y, hx, hy, h => by
    cases y <;> simp only [D.lt?, reduceCtorEq] at h
    simp only [D.nb] at hx hy
    simp only [D.lt?, D.tup.injEq]
    exact lts_tri hx hy h
  | .non, y, _, _, h => by cases y <;> simp [D.lt?] at h
  | .lst _, y, _, _, h => by cases y <;> simp [D.lt?] at h
  | .bl _, _, h, _, _ => by simp [D.nb] at h
  | .dct _ _, _, h, _, _ => by simp [D.nb] at h
  | .fn _, _, h, _, _ => by simp [D.nb] at h
  | .scr _, _, h, _, _ => by simp [D.nb] at h
theorem lts_tri : ∀ {x y : List D}, D.nbs x = true → D.nbs y = true → D.lts? x y = some false → x = y ∨ D.lts? y x = some true
  | [], [], _, _, _ => .inl rfl
  | [], _ :: _, _, _, h => by simp [D.lts?] at h
  | _ :: _, [], _, _, _ => .inr (by simp [D.lts?])
  | a :: as, b :: bs, hx, hy, h => by
    simp only [D.nbs, Bool.and_eq_true] at hx hy
    simp only [D.lts?] at h
    split at h
    · rename_i e
      have e' := (D.eqv_eq hx.1 hy.1).mp e
      subst e'
      rcases lts_tri hx.2 hy.2 h with q | q
      · exact .inl (by rw [q])
      · refine .inr ?_
        simp only [D.lts?, e, if_true]
        exact q
    · rename_i e
      rcases lt_tri hx.1 hy.1 h with q | q
      · exact absurd ((D.eqv_eq hx.1 hy.1).mpr q) e
      · refine .inr ?_
        simp only [D.lts?]
        rw [if_neg ?_]
        · exact q
        · intro z
          exact e ((D.eqv_eq hx.1 hy.1).mpr ((D.eqv_eq hy.1 hx.1).mp z).symm)
end
/-- less, as plain data -/
def D.Lt (x y : D) : Prop := D.enc x < D.enc y
theorem Lt_of {x y : D} (hx : D.nb x = true) (hy : D.nb y = true) (h : D.lt? x y = some true) : D.Lt x y := by
  have := lt_enc [] [] hx hy h
  simpa [D.Lt] using this
theorem D.Lt.irrefl (x : D) : ¬ D.Lt x x := List.lt_irrefl _
theorem D.Lt.trans {x y z : D} (a : D.Lt x y) (b : D.Lt y z) : D.Lt x z := List.lt_trans a b
theorem D.Lt.asymm {x y : D} (a : D.Lt x y) : ¬ D.Lt y x := fun b => D.Lt.irrefl _ (a.trans b)
theorem Lt_iff {x y : D} {b : Bool} (hx : D.nb x = true) (hy : D.nb y = true) (h : D.lt? x y = some b) : b = true ↔ D.Lt x y := by
  cases b with
  | true => exact ⟨fun _ => Lt_of hx hy h, fun _ => rfl⟩
  | false =>
    refine ⟨(fun q => nomatch q), fun q => ?_⟩
    rcases lt_tri hx hy h with e | e
    · subst e; exact (D.Lt.irrefl _ q).elim
    · exact (q.asymm (Lt_of hy hx e)).elim
theorem Lt_tri {x y : D} {b : Bool} (hx : D.nb x = true) (hy : D.nb y = true) (h : D.lt? x y = some b) : D.Lt x y ∨ x = y ∨ D.Lt y x := by
  cases b with
  | true => exact .inl (Lt_of hx hy h)
  | false =>
    rcases lt_tri hx hy h with e | e
    · exact .inr (.inl e)
    · exact .inr (.inr (Lt_of hy hx e))
def leE (x y : D) : Bool := decide (¬ D.enc y < D.enc x)
theorem enc_nlt_trans {a b c : List Int} (h1 : ¬ b < a) (h2 : ¬ c < b) : ¬ c < a := by
  have q1 : a ≤ b := h1
  have q2 : b ≤ c := h2
  exact List.le_trans q1 q2
theorem leE_trans (a b c : D) (h1 : leE a b = true) (h2 : leE b c = true) : leE a c = true := by
  simp only [leE, decide_eq_true_eq] at h1 h2 ⊢
  exact enc_nlt_trans h1 h2
theorem leE_total (a b : D) : (leE a b || leE b a) = true := by
  simp only [leE, Bool.or_eq_true, decide_eq_true_eq]
  by_cases h : D.enc b < D.enc a
  · exact .inr fun q => List.lt_irrefl _ (List.lt_trans h q)
  · exact .inl h
/-- what sorting wants of a list -/
structure Srt (l : List D) : Prop where
  nb : ∀ x ∈ l, D.nb x = true
  ok : ∀ x ∈ l, okD x = true
  kd : oneKind l = true
  cmp : ∀ x ∈ l, ∀ y ∈ l, (D.lt? x y).isSome = true
  len : l.length ≤ 1000000
theorem Srt.leDE {l : List D} (h : Srt l) : ∀ x ∈ l, ∀ y ∈ l, leD x y = leE x y := by
  intro x hx y hy
  have c := h.cmp y hy x hx
  obtain ⟨b, hb⟩ := Option.isSome_iff_exists.mp c
  have k := Lt_iff (h.nb y hy) (h.nb x hx) hb
  show (!((D.lt? y x).getD false)) = decide _
  rw [hb]
  cases b with
  | true => simp only [Option.getD_some, Bool.not_true]; symm; simp only [decide_eq_false_iff_not, Classical.not_not]; exact k.mp rfl
  | false => simp only [Option.getD_some, Bool.not_false]; symm; simp only [decide_eq_true_eq]; exact fun q => by cases k.mpr q
/-- sorted -/
def srt (l : List D) : List D := l.mergeSort leE
theorem Srt.sort {l : List D} (h : Srt l) : sortD l = some (srt l) := by
  have e : l.mergeSort LD.leD = l.mergeSort leE := by
    have t := List.map_mergeSort (f := fun a : D => a) (r := LD.leD) (s := leE) (l := l) h.leDE
    simpa using t
  unfold sortD
  rw [if_pos, e]
  · rfl
  · simp only [Bool.and_eq_true, List.all_eq_true, decide_eq_true_eq, cmpAll]
    exact ⟨⟨⟨h.ok, h.kd⟩, h.cmp⟩, h.len⟩
theorem srt_perm (l : List D) : (srt l).Perm l := List.mergeSort_perm l leE
theorem srt_len (l : List D) : (srt l).length = l.length := (srt_perm l).length_eq
theorem mem_srt {l : List D} {x : D} : x ∈ srt l ↔ x ∈ l := (srt_perm l).mem_iff
theorem srt_le (l : List D) : (srt l).Pairwise fun a b => ¬ D.Lt b a := by
  have := List.pairwise_mergeSort (le := leE) leE_trans leE_total l
  exact this.imp fun {a b} h => by simpa [leE, D.Lt] using h
/-- the things rise -/
def Rising (l : List D) : Prop := l.Pairwise D.Lt
theorem Srt.tri {l : List D} (h : Srt l) {x y : D} (hx : x ∈ l) (hy : y ∈ l) : D.Lt x y ∨ x = y ∨ D.Lt y x := by
  obtain ⟨b, hb⟩ := Option.isSome_iff_exists.mp (h.cmp x hx y hy)
  exact Lt_tri (h.nb x hx) (h.nb y hy) hb
theorem Srt.rising {l : List D} (h : Srt l) (nd : l.Nodup) : Rising (srt l) := by
  have nd2 : (srt l).Nodup := (srt_perm l).nodup_iff.mpr nd
  have p := srt_le l
  unfold Rising
  have := List.Pairwise.and nd2 p
  refine List.Pairwise.imp_of_mem (fun {a b} ha hb q => ?_) this
  rcases h.tri (mem_srt.mp ha) (mem_srt.mp hb) with e | e | e
  · exact e
  · exact absurd e q.1
  · exact absurd e q.2
theorem srt_rising {l : List D} (h : Rising l) : srt l = l := by
  refine List.mergeSort_of_pairwise (h.imp fun {a b} q => ?_)
  simp only [leE, decide_eq_true_eq]
  exact fun z => q.asymm z
theorem rising_nodup {l : List D} (h : Rising l) : l.Nodup := h.imp fun {a b} q e => by subst e; exact D.Lt.irrefl _ q
theorem rising_one : ∀ {l m : List D}, Rising l → Rising m → (∀ x, x ∈ l ↔ x ∈ m) → l = m
  | [], [], _, _, _ => rfl
  | [], y :: m, _, _, h => by simpa using (h y)
  | x :: l, [], _, _, h => by simpa using (h x)
  | x :: l, y :: m, hl, hm, h => by
    have hl' := List.pairwise_cons.mp hl
    have hm' := List.pairwise_cons.mp hm
    have e : x = y := by
      rcases List.mem_cons.mp ((h x).mp (by simp)) with e | e
      · exact e
      · rcases List.mem_cons.mp ((h y).mpr (by simp)) with e2 | e2
        · exact e2.symm
        · exact ((hl'.1 y e2).asymm (hm'.1 x e)).elim
    subst e
    congr 1
    refine rising_one hl'.2 hm'.2 fun z => ⟨fun q => ?_, fun q => ?_⟩
    · rcases List.mem_cons.mp ((h z).mp (by simp [q])) with e | e
      · subst e; exact (D.Lt.irrefl _ (hl'.1 z q)).elim
      · exact e
    · rcases List.mem_cons.mp ((h z).mpr (by simp [q])) with e | e
      · subst e; exact (D.Lt.irrefl _ (hm'.1 z q)).elim
      · exact e
end LD
/-! PL1: what repr asks; sizes. -/
namespace LD
open PySem
/-- small: depth at most n, ints below 10 ^ 25 -/
def D.sm : Nat → D → Bool
  | _, .non | _, .bl _ => true
  | _, .int i => decide (i.natAbs < 10 ^ 25)
  | _, .str s => s.all fun c => decide (c < 1114112)
  | n + 1, .tup l | n + 1, .lst l => l.all (D.sm n)
  | _, _ => false
mutual
/-- how much repr tells of it, at most -/
def D.wt : D → Nat
  | .str s => 10 * s.length + 2
  | .tup l | .lst l => D.wts l + 3
  | _ => 26
def D.wts : List D → Nat
  | [] => 0
  | x :: l => D.wt x + 2 + D.wts l
end
theorem shown_le : ∀ (n : Nat) (x : D), x.sm n = true → x.pd.shown.length ≤ x.wt := by
  have key : ∀ (n : Nat), (∀ x : D, x.sm n = true → x.pd.shown.length ≤ x.wt) → ∀ l : List D, l.all (D.sm n) = true → ((PyData.shownAll (D.pds l)).map (·.length)).sum + 2 * (PyData.shownAll (D.pds l)).length ≤ D.wts l := by
    intro n ih l
    induction l with
    | nil => intro _; exact Nat.zero_le _
    | cons x l il =>
      intro h
      simp only [List.all_cons, Bool.and_eq_true] at h
      have h1 := ih x h.1
      have h2 := il h.2
      simp only [D.pds, PyData.shownAll, List.map_cons, List.sum_cons, List.length_cons, D.wts]
      omega
  have hint : ∀ i : Int, i.natAbs < 10 ^ 25 → (PyData.shown (.int i)).length ≤ 26 := by
    intro i h
    have := int_text_length_le10 (a := i) (k := 25) (by decide) h
    simp only [PyData.shown]
    rw [ofString_length]
    exact this
  have hstr : ∀ s : List Nat, (s.all fun c => decide (c < 1114112)) = true → (PyData.shown (.str ⟨s.toArray⟩)).length ≤ 10 * s.length + 2 := by
    intro s h
    simp only [List.all_eq_true, decide_eq_true_eq] at h
    have := StrLaws.reprText_len ⟨s.toArray⟩ fun c hc => by
      have := h c (by simpa using hc)
      omega
    have e : (⟨s.toArray⟩ : Str).length = s.length := by show s.toArray.size = _; simp
    rw [e] at this
    exact this
  have hnon : (PyData.shown .none).length ≤ 26 := by decide +kernel
  have hbl : ∀ b, (PyData.shown (.bool b)).length ≤ 26 := by decide +kernel
  intro n
  induction n with
  | zero =>
    intro x h
    cases x <;> simp only [D.sm, D.pd, D.wt, Bool.false_eq_true, decide_eq_true_eq] at h ⊢ <;> first | exact hnon | exact hbl _ | exact hint _ h | exact hstr _ h
  | succ n ih =>
    intro x h
    cases x <;> simp only [D.sm, D.pd, D.wt, Bool.false_eq_true, decide_eq_true_eq] at h ⊢ <;> first | exact hnon | exact hbl _ | exact hint _ h | exact hstr _ h | skip
    · rename_i l
      have := key n ih l h
      have h2 := tupleText_len_le (PyData.shownAll (D.pds l))
      simp only [PyData.shown]
      omega
    · rename_i l
      have := key n ih l h
      have h2 := listText_len_le (PyData.shownAll (D.pds l))
      simp only [PyData.shown]
      omega
theorem sm_ok : ∀ (n m : Nat) (x : D), n ≤ m → x.sm n = true → x.ok m = true := by
  intro n
  induction n with
  | zero => intro m x _ h; cases x <;> simp_all [D.sm, D.ok]
  | succ n ih =>
    intro m x hm h
    obtain ⟨m, rfl⟩ : ∃ k, m = k + 1 := ⟨m - 1, by omega⟩
    cases x <;> simp only [D.sm, D.ok, Bool.false_eq_true] at h ⊢
    · simpa using h
    · simp only [List.all_eq_true] at h ⊢
      exact fun y hy => ih m y (by omega) (h y hy)
    · simp only [List.all_eq_true] at h ⊢
      exact fun y hy => ih m y (by omega) (h y hy)
theorem sm_ints : ∀ (n m : Nat) (x : D), n ≤ m → x.sm n = true → x.intsOk m = true := by
  have big : ∀ i : Int, i.natAbs < 10 ^ 25 → i.natAbs < BIG := fun i h => Nat.lt_of_lt_of_le h (by unfold BIG; exact Nat.pow_le_pow_right (by decide) (by decide))
  intro n
  induction n with
  | zero =>
    intro m x _ h
    cases x <;> simp only [D.sm, D.intsOk, Bool.false_eq_true, decide_eq_true_eq] at h ⊢
    exact big _ h
  | succ n ih =>
    intro m x hm h
    obtain ⟨m, rfl⟩ : ∃ k, m = k + 1 := ⟨m - 1, by omega⟩
    cases x <;> simp only [D.sm, D.intsOk, Bool.false_eq_true, decide_eq_true_eq] at h ⊢
    · exact big _ h
    · simp only [List.all_eq_true] at h ⊢
      exact fun y hy => ih m y (by omega) (h y hy)
    · simp only [List.all_eq_true] at h ⊢
      exact fun y hy => ih m y (by omega) (h y hy)
theorem sm_mono : ∀ (n m : Nat) (x : D), n ≤ m → x.sm n = true → x.sm m = true := by
  intro n
  induction n with
  | zero => intro m x _ h; cases x <;> simp_all [D.sm]
  | succ n ih =>
    intro m x hm h
    obtain ⟨m, rfl⟩ : ∃ k, m = k + 1 := ⟨m - 1, by omega⟩
    cases x <;> simp only [D.sm, Bool.false_eq_true] at h ⊢ <;> try exact h
    · simp only [List.all_eq_true] at h ⊢
      exact fun y hy => ih m y (by omega) (h y hy)
    · simp only [List.all_eq_true] at h ⊢
      exact fun y hy => ih m y (by omega) (h y hy)
theorem shown_len (x : D) : x.shown.length = x.pd.shown.length := by
  unfold D.shown
  show _ = x.pd.shown.cps.size
  simp
theorem shown_lim {n : Nat} {x : D} (h : x.sm n = true) (hw : x.wt ≤ LIM) : x.shown.length ≤ LIM := by
  rw [shown_len]
  exact Nat.le_trans (shown_le n x h) hw
/-- what repr gives of a tuple or a list -/
theorem repr_ok {n : Nat} {x : D} {fz : Bool} {S : Sto} (h : x.sm n = true) (hn : n ≤ 30) (hs : isSq x = true) (hw : x.wt ≤ LIM) : builtin .repr fz [.d x] S = .ok (.d (.str x.shown)) S := by
  show (if okD x && x.intsOk 30 && isSq x && decide (x.shown.length ≤ LIM) then R.ok (W.d (D.str x.shown)) S else R.bad) = _
  rw [if_pos]
  simp only [okD, Bool.and_eq_true, decide_eq_true_eq]
  exact ⟨⟨⟨sm_ok n 30 x hn h, sm_ints n 30 x hn h⟩, hs⟩, shown_lim h hw⟩
theorem wts_append : ∀ (a b : List D), D.wts (a ++ b) = D.wts a + D.wts b
  | [], b => by simp [D.wts]
  | x :: a, b => by
    simp only [List.cons_append, D.wts, wts_append a b]
    omega
theorem wts_le : ∀ (l : List D) (k : Nat), (∀ x ∈ l, x.wt ≤ k) → D.wts l ≤ l.length * (k + 2)
  | [], _, _ => by simp [D.wts]
  | x :: l, k, h => by
    have h1 := h x (by simp)
    have h2 := wts_le l k fun y hy => h y (by simp [hy])
    simp only [D.wts, List.length_cons, Nat.add_mul]
    omega
theorem wts_perm {l m : List D} (h : l.Perm m) : D.wts l = D.wts m := by
  induction h with
  | nil => rfl
  | cons x _ ih => simp only [D.wts, ih]
  | swap x y l => simp only [D.wts]; omega
  | trans _ _ a b => exact a.trans b
end LD
/-! PL2: what a run of the interpreter comes to, step by step. -/
namespace LD
abbrev XP := Nat → List (List Nat × W) → Sto → Prop
def noE : XP := fun _ _ _ => False
@[irreducible] def Wp {α : Type} (r : R α) (Q : α → Sto → Prop) (E : XP) : Prop := match r with
  | .ok a S => Q a S
  | .exc c fs S => E c fs S
  | .bad => False
structure Pk where
  nx : Rho → Sto → Prop
  rt : W → Sto → Prop
  br : Rho → Sto → Prop
  ct : Rho → Sto → Prop
  ex : Nat → List (List Nat × W) → Rho → Sto → Prop
@[irreducible] def WpS (r : RS) (K : Pk) : Prop := match r with
  | .nx ρ S => K.nx ρ S
  | .rt w S => K.rt w S
  | .br ρ S => K.br ρ S
  | .ct ρ S => K.ct ρ S
  | .exc c fs ρ S => K.ex c fs ρ S
  | .bad => False
theorem wp_okE {α : Type} {Q : α → Sto → Prop} {E : XP} {a : α} {S : Sto} : Wp (.ok a S) Q E = Q a S := by unfold Wp; rfl
theorem wp_excE {α : Type} {Q : α → Sto → Prop} {E : XP} {c : Nat} {fs : List (List Nat × W)} {S : Sto} : Wp (.exc c fs S) Q E = E c fs S := by unfold Wp; rfl
theorem wp_badE {α : Type} {Q : α → Sto → Prop} {E : XP} : Wp .bad Q E = False := by unfold Wp; rfl
theorem wps_nxE {K : Pk} {ρ : Rho} {S : Sto} : WpS (.nx ρ S) K = K.nx ρ S := by unfold WpS; rfl
theorem wps_rtE {K : Pk} {w : W} {S : Sto} : WpS (.rt w S) K = K.rt w S := by unfold WpS; rfl
theorem wps_brE {K : Pk} {ρ : Rho} {S : Sto} : WpS (.br ρ S) K = K.br ρ S := by unfold WpS; rfl
theorem wps_ctE {K : Pk} {ρ : Rho} {S : Sto} : WpS (.ct ρ S) K = K.ct ρ S := by unfold WpS; rfl
theorem wps_excE {K : Pk} {c : Nat} {fs : List (List Nat × W)} {ρ : Rho} {S : Sto} : WpS (.exc c fs ρ S) K = K.ex c fs ρ S := by unfold WpS; rfl
theorem wps_badE {K : Pk} : WpS .bad K = False := by unfold WpS; rfl
theorem wpr {α : Type} {Q : α → Sto → Prop} {E : XP} {a : α} {S : Sto} (q : Q a S) : Wp (.ok a S) Q E := by rw [wp_okE]; exact q
section
variable {α β : Type} {Q Q' : α → Sto → Prop} {E : XP} {r : R α} {S : Sto} {ρ : Rho} {t : Tab}
theorem Wp.mono (h : Wp r Q E) (i : ∀ a S, Q a S → Q' a S) : Wp r Q' E := by
  unfold Wp at *
  cases r with
  | ok a S => exact i _ _ h
  | exc _ _ _ => exact h
  | bad => exact h
theorem wp_ok {a : α} (h : r = .ok a S) (q : Q a S) : Wp r Q E := by rw [h]; exact wpr q
theorem eq_wp {a : α} (h : Wp r (fun b S' => b = a ∧ S' = S) noE) : r = .ok a S := by
  unfold Wp at h
  cases r with
  | ok b S' => obtain ⟨rfl, rfl⟩ := h; rfl
  | exc _ _ _ => exact h.elim
  | bad => exact h.elim
theorem ex_wp (h : Wp r Q noE) : ∃ a S, r = .ok a S ∧ Q a S := by
  unfold Wp at h
  cases r with
  | ok b S' => exact ⟨b, S', rfl, h⟩
  | exc _ _ _ => exact h.elim
  | bad => exact h.elim
theorem wp_bind {r : R β} {f : β → Sto → R α} (h : Wp r (fun a S => Wp (f a S) Q E) E) : Wp (r.bind f) Q E := by
  unfold Wp at *
  cases r with
  | ok b S' => exact h
  | exc _ _ _ => exact h
  | bad => exact h
theorem wp_noX {r : R α} (h : Wp r Q noE) : Wp r.noX Q E := by
  unfold Wp at *
  cases r with
  | ok b S' => exact h
  | exc _ _ _ => exact h.elim
  | bad => exact h
theorem wp_truth {w : W} {b : Bool} {Q : Bool → Sto → Prop} (h : w = .d (.bl b)) (q : Q b S) : Wp (truth w S) Q E := by rw [h]; exact wpr q
end
section
variable {Q : W → Sto → Prop} {Qs : List W → Sto → Prop} {E : XP} {S : Sto} {ρ : Rho} {t : Tab}
theorem wp_var {i : Nat} {w : W} (h : ρ[i]? = some (some w)) (q : Q w S) : Wp (ev t (.var i) ρ S) Q E := by unfold ev; rw [h]; exact wpr q
theorem wp_int {i : Int} (q : Q (.d (.int i)) S) : Wp (ev t (.int i) ρ S) Q E := by unfold ev; exact wpr q
theorem wp_bl {i : Bool} (q : Q (.d (.bl i)) S) : Wp (ev t (.bl i) ρ S) Q E := by unfold ev; exact wpr q
theorem wp_non (q : Q (.d .non) S) : Wp (ev t .non ρ S) Q E := by unfold ev; exact wpr q
theorem wp_str {s : List Nat} (q : Q (.d (.str s)) S) : Wp (ev t (.str s) ρ S) Q E := by unfold ev; exact wpr q
theorem wp_glob {k : Nat} {x : D} (h : t.glb k = some x) (q : Q (.d x) S) : Wp (ev t (.glob k) ρ S) Q E := by unfold ev; rw [h]; exact wpr q
theorem wp_bin {op : BOp} {fz : Bool} {a b : LD.E} (q : Wp (ev t a ρ S) (fun x S => Wp (ev t b ρ S) (fun y S => Wp (binop op fz x y S) Q E) E) E) : Wp (ev t (.bin op fz a b) ρ S) Q E := by with_unfolding_all
  unfold ev; exact wp_bind (q.mono fun x S q => wp_bind q)
theorem wp_neg {a : LD.E} (q : Wp (ev t a ρ S) (fun x S => ∃ i, x = .d (.int i) ∧ Q (.d (.int (-i))) S) E) : Wp (ev t (.neg a) ρ S) Q E := by with_unfolding_all
  unfold ev; refine wp_bind (q.mono ?_)
  rintro x S ⟨i, rfl, q⟩; exact q
theorem wp_cmp {op : COp} {a b : LD.E} (q : Wp (ev t a ρ S) (fun x S => Wp (ev t b ρ S) (fun y S => Wp (cmpop op x y S) Q E) E) E) : Wp (ev t (.cmp op a b) ρ S) Q E := by with_unfolding_all
  unfold ev; exact wp_bind (q.mono fun x S q => wp_bind q)
theorem wp_evT {c : LD.E} {Q : Bool → Sto → Prop} (q : Wp (ev t c ρ S) (fun w S => ∃ b, w = .d (.bl b) ∧ Q b S) E) : Wp (evT t c ρ S) Q E := by with_unfolding_all
  unfold evT
  refine wp_bind (q.mono ?_)
  rintro x S ⟨b, rfl, q⟩; exact q
theorem wp_chain {op op' : COp} {a b c : LD.E} (q : Wp (ev t a ρ S) (fun x S => Wp (ev t b ρ S) (fun y S => Wp (cmpop op x y S) (fun r S => ∃ k, r = .d (.bl k) ∧ if k = true then Wp (ev t c ρ S) (fun z S => Wp (cmpop op' y z S) Q E) E else Q (.d (.bl false)) S) E) E) E) : Wp (ev t (.chain op op' a b c) ρ S) Q E := by with_unfolding_all
  unfold ev
  refine wp_bind (q.mono fun x S q => wp_bind (q.mono fun y S q => wp_bind (q.mono ?_)))
  rintro r S ⟨k, rfl, q⟩
  refine wp_bind ?_
  show Wp (if k = true then _ else _) Q E
  cases k with
  | true => rw [if_pos rfl] at q ⊢; exact wp_bind q
  | false => rw [if_neg (by simp)] at q ⊢; exact q
theorem wp_and1 {a : LD.E} (q : Wp (ev t a ρ S) Q E) : Wp (ev t (.and [a]) ρ S) Q E := by with_unfolding_all (unfold ev evAnd; exact q)
theorem wp_or1 {a : LD.E} (q : Wp (ev t a ρ S) Q E) : Wp (ev t (.or [a]) ρ S) Q E := by with_unfolding_all (unfold ev evOr; exact q)
theorem wp_and {a b : LD.E} {l : List LD.E} (q : Wp (ev t a ρ S) (fun x S => ∃ k, x = .d (.bl k) ∧ if k = true then Wp (ev t (.and (b :: l)) ρ S) Q E else Q (.d (.bl false)) S) E) : Wp (ev t (.and (a :: b :: l)) ρ S) Q E := by with_unfolding_all
  unfold ev evAnd
  refine wp_bind (q.mono ?_)
  rintro r S ⟨k, rfl, q⟩
  refine wp_bind ?_
  show Wp (if k = true then _ else _) Q E
  cases k with
  | true => rw [if_pos rfl] at q ⊢; unfold ev at q; exact q
  | false => rw [if_neg (by simp)] at q ⊢; exact q
theorem wp_or {a b : LD.E} {l : List LD.E} (q : Wp (ev t a ρ S) (fun x S => ∃ k, x = .d (.bl k) ∧ if k = true then Q (.d (.bl true)) S else Wp (ev t (.or (b :: l)) ρ S) Q E) E) : Wp (ev t (.or (a :: b :: l)) ρ S) Q E := by with_unfolding_all
  unfold ev evOr
  refine wp_bind (q.mono ?_)
  rintro r S ⟨k, rfl, q⟩
  refine wp_bind ?_
  show Wp (if k = true then _ else _) Q E
  cases k with
  | true => rw [if_pos rfl] at q ⊢; exact q
  | false => rw [if_neg (by simp)] at q ⊢; unfold ev at q; exact q
theorem wp_not {a : LD.E} (q : Wp (ev t a ρ S) (fun x S => ∃ k, x = .d (.bl k) ∧ Q (.d (.bl (!k))) S) E) : Wp (ev t (.not a) ρ S) Q E := by with_unfolding_all
  unfold ev
  refine wp_bind (q.mono ?_)
  rintro r S ⟨k, rfl, q⟩; exact q
theorem wp_ite {c a b : LD.E} (q : Wp (ev t c ρ S) (fun x S => ∃ k, x = .d (.bl k) ∧ if k = true then Wp (ev t a ρ S) Q E else Wp (ev t b ρ S) Q E) E) : Wp (ev t (.ite c a b) ρ S) Q E := by with_unfolding_all
  unfold ev
  refine wp_bind (q.mono ?_)
  rintro r S ⟨k, rfl, q⟩
  refine wp_bind ?_
  show Wp (if k = true then _ else _) Q E
  cases k with
  | true => rw [if_pos rfl] at q ⊢; exact q
  | false => rw [if_neg (by simp)] at q ⊢; exact q
theorem wp_tup {l : List LD.E} (q : Wp (evs t l ρ S) (fun ws S => Wp (mkT ws S) Q E) E) : Wp (ev t (.tup l) ρ S) Q E := by with_unfolding_all (unfold ev; exact wp_bind q)
theorem wp_lst {fz : Bool} {l : List LD.E} (q : Wp (evs t l ρ S) (fun ws S => Wp (mkL fz ws S) Q E) E) : Wp (ev t (.lst fz l) ρ S) Q E := by with_unfolding_all (unfold ev; exact wp_bind q)
theorem wp_dict0 {fz : Bool} (q : Wp (mkD fz [] S) Q E) : Wp (ev t (.dict fz [] []) ρ S) Q E := by with_unfolding_all
  unfold ev
  refine wp_bind ?_
  unfold evs
  refine wp_bind ?_
  exact q
theorem wp_dict {fz : Bool} {ks vs : List LD.E} (q : Wp (evs t ks ρ S) (fun ks S => Wp (evs t vs ρ S) (fun vs S => ∃ kk, ((datas ks).bind fun ds => ds.mapM keyOf) = some kk ∧ Wp (mkD fz (putAll [] (kk.zip vs)) S) Q E) E) E) : Wp (ev t (.dict fz ks vs) ρ S) Q E := by with_unfolding_all
  unfold ev
  refine wp_bind (q.mono fun x S q => wp_bind (q.mono ?_))
  rintro ys S ⟨kk, e, q⟩
  rw [e]; exact q
theorem wp_ix {a b : LD.E} (q : Wp (ev t a ρ S) (fun x S => Wp (ev t b ρ S) (fun y S => Wp (index x y S) Q E) E) E) : Wp (ev t (.ix a b) ρ S) Q E := by with_unfolding_all
  unfold ev; exact wp_bind (q.mono fun x S q => wp_bind q)
theorem wp_slFrom {fz : Bool} {a b : LD.E} (q : Wp (ev t a ρ S) (fun x S => Wp (ev t b ρ S) (fun y S => ∃ i, y = .d (.int i) ∧ Wp (slice fz x (some i) none S) Q E) E) E) : Wp (ev t (.slFrom fz a b) ρ S) Q E := by with_unfolding_all
  unfold ev; refine wp_bind (q.mono fun x S q => wp_bind (q.mono ?_))
  rintro y S ⟨i, rfl, q⟩; exact q
theorem wp_slTo {fz : Bool} {a b : LD.E} (q : Wp (ev t a ρ S) (fun x S => Wp (ev t b ρ S) (fun y S => ∃ i, y = .d (.int i) ∧ Wp (slice fz x none (some i) S) Q E) E) E) : Wp (ev t (.slTo fz a b) ρ S) Q E := by with_unfolding_all
  unfold ev; refine wp_bind (q.mono fun x S q => wp_bind (q.mono ?_))
  rintro y S ⟨i, rfl, q⟩; exact q
theorem wp_slMid {fz : Bool} {a b c : LD.E} (q : Wp (ev t a ρ S) (fun x S => Wp (ev t b ρ S) (fun y S => ∃ i, y = .d (.int i) ∧ Wp (ev t c ρ S) (fun z S => ∃ j, z = .d (.int j) ∧ Wp (slice fz x (some i) (some j) S) Q E) E) E) E) : Wp (ev t (.slMid fz a b c) ρ S) Q E := by with_unfolding_all
  unfold ev; refine wp_bind (q.mono fun x S q => wp_bind (q.mono ?_))
  rintro y S ⟨i, rfl, q⟩
  refine wp_bind (q.mono ?_)
  rintro z S ⟨j, rfl, q⟩; exact q
theorem wp_slRev {fz : Bool} {a : LD.E} (q : Wp (ev t a ρ S) (fun x S => ∃ l, binop.lstOf x S = some l ∧ Wp (mkL fz l.reverse S) Q E) E) : Wp (ev t (.slRev fz a) ρ S) Q E := by with_unfolding_all
  unfold ev; refine wp_bind (q.mono ?_)
  rintro y S ⟨i, e, q⟩; rw [e]; exact q
theorem wp_bc {f : BF} {fz : Bool} {l : List LD.E} (q : Wp (evs t l ρ S) (fun ws S => Wp (builtin f fz ws S) Q E) E) : Wp (ev t (.bc f fz l) ρ S) Q E := by with_unfolding_all (unfold ev; exact wp_bind q)
theorem wp_mt {m : MF} {fz : Bool} {o : LD.E} {l : List LD.E} (q : Wp (ev t o ρ S) (fun x S => kindOk m x S = true ∧ Wp (evs t l ρ S) (fun ws S => Wp (method m fz x ws S) Q E) E) E) : Wp (ev t (.mt m fz o l) ρ S) Q E := by with_unfolding_all
  unfold ev; refine wp_bind (q.mono ?_)
  rintro x S ⟨h, q⟩
  show Wp (if kindOk m x S = true then _ else _) Q E
  rw [if_pos h]; exact wp_bind q
theorem wp_callL {i : Nat} {l : List LD.E} {f : FnS} (hf : t.fns i = f) (q : Wp (evs t l ρ S) (fun ws S => Wp (callLoc f ws S) Q E) E) : Wp (ev t (.call true i l) ρ S) Q E := by with_unfolding_all
  subst hf; unfold ev; exact wp_bind q
theorem wp_callG {i : Nat} {l : List LD.E} {f : FnS} (hf : t.fns i = f) (q : Wp (evs t l ρ S) (fun ws S => Wp (f ws S) Q E) E) : Wp (ev t (.call false i l) ρ S) Q E := by with_unfolding_all
  subst hf; unfold ev; exact wp_bind q
theorem wp_frz {a : LD.E} (q : Wp (ev t a ρ S) (fun x S => Wp (frzW x S) Q E) E) : Wp (ev t (.frz a) ρ S) Q E := by with_unfolding_all (unfold ev; exact wp_bind q)
theorem wp_nil (q : Qs [] S) : Wp (evs t [] ρ S) Qs E := by with_unfolding_all (unfold evs; exact wpr q)
theorem wp_cons {e : LD.E} {l : List LD.E} (q : Wp (ev t e ρ S) (fun w S => Wp (evs t l ρ S) (fun ws S => Qs (w :: ws) S) E) E) : Wp (evs t (e :: l) ρ S) Qs E := by with_unfolding_all
  unfold evs; exact wp_bind (q.mono fun x S q => wp_bind q)
/-- the turn of a comprehension -/
def cStep (t : Tab) (p : P) (cs : List LD.E) (e : LD.E) (ρ : Rho) (it : Item) (S : Sto) : R (Option W) := match itemSet p it S (wipeE ρ (patIx p)) with
  | some ρ' => (evConds t cs ρ' S).bind fun b S => if b = true then (ev t e ρ' S).bind fun w S => .ok (some w) S else .ok none S
  | none => .bad
theorem wp_comp {fz : Bool} {p : P} {k : IK} {its cs : List LD.E} {e : LD.E} (q : Wp (evs t its ρ S) (fun ws S => ∃ items, itemsOf k ws S = some items ∧ Wp (compL (cStep t p cs e ρ) items.2 items.1 [] S) (fun r S => Wp (mkL fz r S) Q E) noE) E) : Wp (ev t (.comp fz p k its cs e) ρ S) Q E := by with_unfolding_all
  unfold ev
  refine wp_bind (q.mono ?_)
  rintro ws S ⟨items, e, q⟩
  rw [e]
  exact wp_bind (wp_noX (E := E) q)
theorem wp_conds0 {Q : Bool → Sto → Prop} (q : Q true S) : Wp (evConds t [] ρ S) Q E := by with_unfolding_all (unfold evConds; exact wpr q)
theorem wp_conds {Q : Bool → Sto → Prop} {c : LD.E} {l : List LD.E} (q : Wp (ev t c ρ S) (fun x S => ∃ k, x = .d (.bl k) ∧ if k = true then Wp (evConds t l ρ S) Q E else Q false S) E) : Wp (evConds t (c :: l) ρ S) Q E := by with_unfolding_all
  unfold evConds
  refine wp_bind (q.mono ?_)
  rintro r S ⟨k, rfl, q⟩
  refine wp_bind ?_
  show Wp (if k = true then _ else _) Q E
  cases k with
  | true => rw [if_pos rfl] at q ⊢; exact q
  | false => rw [if_neg (by simp)] at q ⊢; exact q
theorem wp_cstep0 {p : P} {e : LD.E} {it : Item} {Q : Option W → Sto → Prop} {ρ' : Rho} (h : itemSet p it S (wipeE ρ (patIx p)) = some ρ') (q : Wp (ev t e ρ' S) (fun w S => Q (some w) S) E) : Wp (cStep t p [] e ρ it S) Q E := by with_unfolding_all
  unfold cStep
  rw [h]
  exact wp_bind (wp_conds0 (wp_bind q))
theorem wp_cstep {p : P} {c e : LD.E} {it : Item} {Q : Option W → Sto → Prop} {ρ' : Rho} (h : itemSet p it S (wipeE ρ (patIx p)) = some ρ') (q : Wp (ev t c ρ' S) (fun x S => ∃ k, x = .d (.bl k) ∧ if k = true then Wp (ev t e ρ' S) (fun w S => Q (some w) S) E else Q none S) E) : Wp (cStep t p [c] e ρ it S) Q E := by with_unfolding_all
  unfold cStep
  rw [h]
  refine wp_bind (wp_conds (q.mono ?_))
  rintro r S ⟨k, rfl, q⟩
  refine ⟨k, rfl, ?_⟩
  cases k with
  | true => rw [if_pos rfl] at q ⊢; exact wp_conds0 (wp_bind q)
  | false => rw [if_neg (by simp)] at q ⊢; exact q
/-- a comprehension by what holds between its turns -/
theorem wp_compI {step : Item → Sto → R (Option W)} {f : Option (Nat × Nat)} {Qs : List W → Sto → Prop} (I : Nat → List W → Sto → Prop) : ∀ (l : List Item) (i : Nat) (acc : List W) (S : Sto), I i acc S →
    (∀ j it acc S, l[j]? = some it → I (i + j) acc S → Wp (step it S) (fun r S => match r with | some w => acc.length < LIM ∧ I (i + j + 1) (acc ++ [w]) S | none => I (i + j + 1) acc S) E) →
    (∀ acc S, I (i + l.length) acc S → finOk f S = true ∧ Qs acc S) → Wp (compL step f l acc S) Qs E
  | [], i, acc, S, h, _, q => by
    obtain ⟨q1, q2⟩ := q acc S h
    unfold compL
    rw [if_pos q1]; exact wpr q2
  | it :: l, i, acc, S, h, hs, q => by
    unfold compL
    refine wp_bind ((hs 0 it acc S rfl h).mono ?_)
    rintro r S1 q1
    cases r with
    | none =>
      refine wp_compI I l (i + 1) acc S1 q1 (fun j it acc S hj hI => ?_) fun acc S hI => q acc S (by rw [List.length_cons, show i + (l.length + 1) = i + 1 + l.length by omega]; exact hI)
      have := hs (j + 1) it acc S (by simpa using hj) (by rw [show i + (j + 1) = i + 1 + j by omega]; exact hI)
      rw [show i + (j + 1) + 1 = i + 1 + j + 1 by omega] at this
      exact this
    | some w =>
      simp only
      rw [if_pos q1.1]
      refine wp_compI I l (i + 1) _ S1 q1.2 (fun j it acc S hj hI => ?_) fun acc S hI => q acc S (by rw [List.length_cons, show i + (l.length + 1) = i + 1 + l.length by omega]; exact hI)
      have := hs (j + 1) it acc S (by simpa using hj) (by rw [show i + (j + 1) = i + 1 + j by omega]; exact hI)
      rw [show i + (j + 1) + 1 = i + 1 + j + 1 by omega] at this
      exact this
/-- a comprehension that changes nothing -/
theorem wp_compM {α : Type} {step : Item → Sto → R (Option W)} {Qs : List W → Sto → Prop} (item : α → Item) (g : α → Option W) : ∀ (xs : List α) (acc : List W), (∀ x ∈ xs, step (item x) S = .ok (g x) S) → acc.length + xs.length ≤ LIM → Qs (acc ++ xs.filterMap g) S →
    Wp (compL step none (xs.map item) acc S) Qs E
  | [], acc, _, _, q => by
    rw [List.map_nil]
    show Wp (if finOk none S = true then R.ok acc S else R.bad) Qs E
    rw [if_pos (show finOk none S = true from rfl)]
    refine wpr ?_
    simpa using q
  | x :: xs, acc, h, hl, q => by
    rw [List.map_cons]
    unfold compL
    rw [h x (by simp)]
    simp only [R.bind]
    rw [List.length_cons] at hl
    cases hg : g x with
    | none =>
      simp only
      refine wp_compM item g xs acc (fun y hy => h y (by simp [hy])) (by omega) ?_
      rw [List.filterMap_cons, hg] at q; exact q
    | some w =>
      simp only
      rw [if_pos (by omega)]
      refine wp_compM item g xs (acc ++ [w]) (fun y hy => h y (by simp [hy])) (by simp; omega) ?_
      rw [List.filterMap_cons, hg] at q
      simpa using q
end
section
variable {K : Pk} {S : Sto} {ρ : Rho} {t : Tab}
theorem WpS.mono {r : RS} {K K' : Pk} (h : WpS r K) (h1 : ∀ ρ S, K.nx ρ S → K'.nx ρ S) (h2 : ∀ w S, K.rt w S → K'.rt w S) (h3 : ∀ ρ S, K.br ρ S → K'.br ρ S) (h4 : ∀ ρ S, K.ct ρ S → K'.ct ρ S) (h5 : ∀ c fs ρ S, K.ex c fs ρ S → K'.ex c fs ρ S) : WpS r K' := by with_unfolding_all
  cases r with
  | nx ρ S => exact h1 _ _ h
  | rt w S => exact h2 _ _ h
  | br ρ S => exact h3 _ _ h
  | ct ρ S => exact h4 _ _ h
  | exc c fs ρ S => exact h5 _ _ _ _ h
  | bad => exact h
theorem wps_go {α : Type} {r : R α} {f : α → Sto → RS} (q : Wp r (fun a S => WpS (f a S) K) (fun c fs S => K.ex c fs ρ S)) : WpS (r.go ρ f) K := by with_unfolding_all
  cases r with
  | ok b S' => exact q
  | exc _ _ _ => exact q
  | bad => exact q
theorem wps_seq {r : RS} {f : Rho → Sto → RS} (q : WpS r { K with nx := fun ρ S => WpS (f ρ S) K }) : WpS (r.seq f) K := by with_unfolding_all
  cases r <;> exact q
theorem wps_ofO {o : Option Rho} {ρ' : Rho} (h : o = some ρ') (q : K.nx ρ' S) : WpS (RS.ofO o S) K := by with_unfolding_all (rw [h]; exact q)
theorem wps_nil (q : K.nx ρ S) : WpS (exs t [] ρ S) K := by with_unfolding_all (unfold exs; exact q)
theorem wps_cons {s : T} {l : List T} (q : WpS (ex t s ρ S) { K with nx := fun ρ S => WpS (exs t l ρ S) K }) : WpS (exs t (s :: l) ρ S) K := by with_unfolding_all (unfold exs; exact wps_seq q)
theorem wps_name {i : Nat} {e : LD.E} (q : Wp (ev t e ρ S) (fun w S => K.nx (ρ.set i (some w)) S) (fun c fs S => K.ex c fs ρ S)) : WpS (ex t (.asg (.pat (.name i)) e) ρ S) K := by with_unfolding_all
  unfold ex
  refine wps_go (q.mono fun w S q => ?_)
  unfold asgG patSet
  exact q
theorem wps_pat {p : P} {e : LD.E} (q : Wp (ev t e ρ S) (fun w S => ∃ ρ', patSet p w S ρ = some ρ' ∧ K.nx ρ' S) (fun c fs S => K.ex c fs ρ S)) : WpS (ex t (.asg (.pat p) e) ρ S) K := by with_unfolding_all
  unfold ex
  refine wps_go (q.mono ?_)
  rintro w S ⟨ρ', h, q⟩
  unfold asgG
  exact wps_ofO h q
theorem wps_sub {o i e : LD.E} (q : Wp (ev t e ρ S) (fun w S => Wp (ev t o ρ S) (fun x S => Wp (ev t i ρ S) (fun y S => ∃ S', setAt x y w S = some S' ∧ K.nx ρ S') (fun c fs S => K.ex c fs ρ S)) (fun c fs S => K.ex c fs ρ S)) (fun c fs S => K.ex c fs ρ S)) : WpS (ex t (.asg (.sub o i) e) ρ S) K := by with_unfolding_all
  unfold ex
  refine wps_go (q.mono fun w S q => ?_)
  unfold asgG
  refine wps_go (q.mono fun x S q => wps_go (q.mono ?_))
  rintro y S ⟨S', h, q⟩
  rw [h]; exact q
theorem wps_par {is : List Nat} {es : List LD.E} (q : Wp (evs t es ρ S) (fun ws S => ∃ ρ', setMany is ws ρ = some ρ' ∧ K.nx ρ' S) (fun c fs S => K.ex c fs ρ S)) : WpS (ex t (.par is es) ρ S) K := by with_unfolding_all
  unfold ex
  refine wps_go (q.mono ?_)
  rintro w S ⟨ρ', h, q⟩
  exact wps_ofO h q
theorem wps_ex {e : LD.E} (q : Wp (ev t e ρ S) (fun _ S => K.nx ρ S) (fun c fs S => K.ex c fs ρ S)) : WpS (ex t (.ex e) ρ S) K := by with_unfolding_all (unfold ex; exact wps_go q)
theorem wps_ret {e : LD.E} (q : Wp (ev t e ρ S) (fun w S => K.rt w S) (fun c fs S => K.ex c fs ρ S)) : WpS (ex t (.ret e) ρ S) K := by with_unfolding_all (unfold ex; exact wps_go q)
theorem wps_retN (q : K.rt (.d .non) S) : WpS (ex t .retN ρ S) K := by with_unfolding_all (unfold ex; exact q)
theorem wps_ite {c : LD.E} {a b : List T} (q : Wp (ev t c ρ S) (fun x S => ∃ k, x = .d (.bl k) ∧ if k = true then WpS (exs t a ρ S) K else WpS (exs t b ρ S) K) (fun c fs S => K.ex c fs ρ S)) : WpS (ex t (.ite c a b) ρ S) K := by with_unfolding_all
  unfold ex
  refine wps_go (wp_evT (q.mono ?_))
  rintro x S ⟨k, rfl, q⟩
  refine ⟨k, rfl, ?_⟩
  cases k with
  | true => rw [if_pos rfl] at q ⊢; exact q
  | false => rw [if_neg (by simp)] at q ⊢; exact q
theorem wps_brk (q : K.br ρ S) : WpS (ex t .brk ρ S) K := by with_unfolding_all (unfold ex; exact q)
theorem wps_cnt (q : K.ct ρ S) : WpS (ex t .cnt ρ S) K := by with_unfolding_all (unfold ex; exact q)
theorem wps_pass (q : K.nx ρ S) : WpS (ex t .pass ρ S) K := by with_unfolding_all (unfold ex; exact q)
def fTurn (t : Tab) (p : P) (b : List T) (it : Item) (ρ : Rho) (S : Sto) : RS := (RS.ofO (itemSet p it S ρ) S).seq fun ρ S => exs t b ρ S
theorem wps_for {p : P} {k : IK} {its : List LD.E} {b : List T} (q : Wp (evs t its ρ S) (fun ws S => ∃ items, itemsOf k ws S = some items ∧ WpS (forL (fTurn t p b) items.2 items.1 ρ S) K) (fun c fs S => K.ex c fs ρ S)) : WpS (ex t (.for p k its b) ρ S) K := by with_unfolding_all
  unfold ex
  refine wps_go (q.mono ?_)
  rintro w S ⟨items, h, q⟩
  rw [h]; exact q
theorem wps_turn {p : P} {b : List T} {it : Item} {ρ' : Rho} (h : itemSet p it S ρ = some ρ') (q : WpS (exs t b ρ' S) K) : WpS (fTurn t p b it ρ S) K := by with_unfolding_all
  unfold fTurn
  rw [h]; exact wps_seq (K := K) q
/-- a for by what holds between its turns -/
theorem wps_forI {turn : Item → Rho → Sto → RS} {f : Option (Nat × Nat)} (I : Nat → Rho → Sto → Prop) : ∀ (l : List Item) (i : Nat) (ρ : Rho) (S : Sto), I i ρ S →
    (∀ j it ρ S, l[j]? = some it → I (i + j) ρ S → WpS (turn it ρ S) ⟨I (i + j + 1), K.rt, K.nx, I (i + j + 1), K.ex⟩) →
    (∀ ρ S, I (i + l.length) ρ S → finOk f S = true ∧ K.nx ρ S) → WpS (forL turn f l ρ S) K
  | [], i, ρ, S, h, _, q => by
    obtain ⟨q1, q2⟩ := q ρ S h
    unfold forL
    rw [if_pos q1, wps_nxE]; exact q2
  | it :: l, i, ρ, S, h, hs, q => by
    unfold forL
    have h0 := hs 0 it ρ S rfl h
    have next : ∀ ρ S, I (i + 0 + 1) ρ S → WpS (forL turn f l ρ S) K := fun ρ S hI => by
      refine wps_forI I l (i + 1) ρ S hI (fun j it ρ S hj hI => ?_) fun ρ S hI => q ρ S (by rw [List.length_cons, show i + (l.length + 1) = i + 1 + l.length by omega]; exact hI)
      have := hs (j + 1) it ρ S (by simpa using hj) (by rw [show i + (j + 1) = i + 1 + j by omega]; exact hI)
      rw [show i + (j + 1) + 1 = i + 1 + j + 1 by omega] at this
      exact this
    generalize turn it ρ S = r at h0 ⊢
    cases r with
    | nx ρ S => exact next ρ S (by rw [wps_nxE] at h0; exact h0)
    | ct ρ S => exact next ρ S (by rw [wps_ctE] at h0; exact h0)
    | br ρ S => rw [wps_brE] at h0; rw [wps_nxE]; exact h0
    | rt w S => rw [wps_rtE] at h0 ⊢; exact h0
    | exc c fs ρ S => rw [wps_excE] at h0 ⊢; exact h0
    | bad => rw [wps_badE] at h0; exact h0.elim
theorem wps_while {c : LD.E} {b : List T} (I : Nat → Rho → Sto → Prop) : ∀ (n m : Nat) (ρ : Rho) (S : Sto), m < n → I m ρ S →
    (∀ m ρ S, I m ρ S → Wp (ev t c ρ S) (fun x S => ∃ k, x = .d (.bl k) ∧ if k = true then WpS (exs t b ρ S) ⟨fun ρ S => ∃ m', m' < m ∧ I m' ρ S, K.rt, K.nx, fun ρ S => ∃ m', m' < m ∧ I m' ρ S, K.ex⟩ else K.nx ρ S) (fun c fs S => K.ex c fs ρ S)) →
    WpS (whileL (evT t c) (exs t b) n ρ S) K
  | 0, m, ρ, S, h, _, _ => absurd h (Nat.not_lt_zero _)
  | n + 1, m, ρ, S, h, hI, hs => by
    unfold whileL
    refine wps_go (wp_evT ((hs m ρ S hI).mono ?_))
    rintro x S ⟨k, rfl, q⟩
    refine ⟨k, rfl, ?_⟩
    cases k with
    | false => rw [if_neg (by simp)] at q ⊢; rw [wps_nxE]; exact q
    | true =>
      rw [if_pos rfl] at q ⊢
      have next : ∀ ρ S, (∃ m', m' < m ∧ I m' ρ S) → WpS (whileL (evT t c) (exs t b) n ρ S) K := fun ρ S ⟨m', hm, hI⟩ => wps_while I n m' ρ S (by omega) hI hs
      generalize exs t b ρ S = r at q ⊢
      cases r with
      | nx ρ S => exact next ρ S (by rw [wps_nxE] at q; exact q)
      | ct ρ S => exact next ρ S (by rw [wps_ctE] at q; exact q)
      | br ρ S => rw [wps_brE] at q; rw [wps_nxE]; exact q
      | rt w S => rw [wps_rtE] at q ⊢; exact q
      | exc c fs ρ S => rw [wps_excE] at q ⊢; exact q
      | bad => rw [wps_badE] at q; exact q.elim
theorem wps_whl {n : Nat} {c : LD.E} {b : List T} (q : WpS (whileL (evT t c) (exs t b) n ρ S) K) : WpS (ex t (.whl n c b) ρ S) K := by with_unfolding_all (unfold ex; exact q)
/-- a def -/
theorem wp_run {f : Fd} {ws : List W} {Q : W → Sto → Prop} {E : XP} (hn : ws.length = f.np) (q : WpS (exs t f.body (ws.map some ++ List.replicate (f.nl - f.np) none) S) ⟨fun _ S => Q (.d .non) S, Q, fun _ _ => False, fun _ _ => False, fun c fs _ S => E c fs S⟩) : Wp (runFd t f ws S) Q E := by with_unfolding_all
  unfold runFd
  rw [if_pos hn]
  generalize exs t f.body (ws.map some ++ List.replicate (f.nl - f.np) none) S = r at q ⊢
  cases r <;> exact q
end
end LD
/-! PL3: operations; the words of the walk. -/
namespace LD
section
variable {Q : W → Sto → Prop} {E : XP} {S : Sto} {A B : Prop}
/-- a test that may go either way -/
theorem wp_split {P : Prop} [Decidable P] (h1 : P → A) (h2 : ¬ P → B) : ∃ k, W.d (.bl (decide P)) = .d (.bl k) ∧ if k = true then A else B := by
  refine ⟨_, rfl, ?_⟩
  by_cases h : P
  · rw [if_pos (by simpa using h)]; exact h1 h
  · rw [if_neg (by simpa using h)]; exact h2 h
theorem wp_splitN {P : Prop} [Decidable P] (h1 : ¬ P → A) (h2 : P → B) : ∃ k, W.d (.bl (!decide P)) = .d (.bl k) ∧ if k = true then A else B := by
  refine ⟨_, rfl, ?_⟩
  by_cases h : P
  · rw [if_neg (by simpa using h)]; exact h2 h
  · rw [if_pos (by simpa using h)]; exact h1 h
theorem wp_true (h : A) : ∃ k, W.d (.bl true) = .d (.bl k) ∧ if k = true then A else B := ⟨_, rfl, by rw [if_pos rfl]; exact h⟩
theorem wp_false (h : B) : ∃ k, W.d (.bl false) = .d (.bl k) ∧ if k = true then A else B := ⟨_, rfl, by rw [if_neg (by simp)]; exact h⟩
theorem wp_yes {P : Prop} [Decidable P] (p : P) (h : A) : ∃ k, W.d (.bl (decide P)) = .d (.bl k) ∧ if k = true then A else B := wp_split (fun _ => h) fun n => absurd p n
theorem wp_no {P : Prop} [Decidable P] (p : ¬ P) (h : B) : ∃ k, W.d (.bl (decide P)) = .d (.bl k) ∧ if k = true then A else B := wp_split (fun n => absurd n p) fun _ => h
theorem wp_add {fz : Bool} {i j : Int} (q : Q (.d (.int (i + j))) S) : Wp (binop .add fz (.d (.int i)) (.d (.int j)) S) Q E := wpr q
theorem wp_sub {fz : Bool} {i j : Int} (q : Q (.d (.int (i - j))) S) : Wp (binop .sub fz (.d (.int i)) (.d (.int j)) S) Q E := wpr q
theorem wp_mul {fz : Bool} {i j : Int} (h : (bigOk i || bigOk j) = true) (q : Q (.d (.int (i * j))) S) : Wp (binop .mul fz (.d (.int i)) (.d (.int j)) S) Q E := by
  show Wp (if (bigOk i || bigOk j || (decide (i.natAbs < 2 ^ 4000) && decide (j.natAbs < 2 ^ 4000))) = true then _ else _) Q E
  rw [if_pos (by rw [h]; rfl)]; exact wpr q
theorem big_of {i : Int} (h : i.natAbs < 2 ^ 64) : bigOk i = true := by unfold bigOk; exact decide_eq_true h
theorem wp_fdiv {fz : Bool} {i j : Int} (h : 0 < j) (h2 : j.natAbs < 2 ^ 64) (q : Q (.d (.int (i / j))) S) : Wp (binop .fdiv fz (.d (.int i)) (.d (.int j)) S) Q E := by
  show Wp (if (decide (0 < j) && decide (j.natAbs < 2 ^ 4000)) = true then _ else _) Q E
  rw [if_pos (by rw [Bool.and_eq_true, decide_eq_true_eq, decide_eq_true_eq]; exact ⟨h, Nat.lt_of_lt_of_le h2 (Nat.pow_le_pow_right (by decide) (by decide))⟩)]; exact wpr q
theorem wp_mod {fz : Bool} {i j : Int} (h : 0 < j) (q : Q (.d (.int (i % j))) S) : Wp (binop .mod fz (.d (.int i)) (.d (.int j)) S) Q E := by
  show Wp (if 0 < j then _ else _) Q E
  rw [if_pos h]; exact wpr q
theorem wp_pow {fz : Bool} {i j : Int} (h : (bigOk i && decide (0 ≤ j) && decide (j ≤ 1000)) = true) (q : Q (.d (.int (i ^ j.toNat))) S) : Wp (binop .pow fz (.d (.int i)) (.d (.int j)) S) Q E := by
  show Wp (if (bigOk i && decide (0 ≤ j) && decide (j ≤ 1000)) = true then _ else _) Q E
  rw [if_pos h]; exact wpr q
theorem wp_addS {fz : Bool} {a b : List Nat} (h : a.length + b.length ≤ LIM) (q : Q (.d (.str (a ++ b))) S) : Wp (binop .add fz (.d (.str a)) (.d (.str b)) S) Q E := by
  show Wp (if a.length + b.length ≤ LIM then _ else _) Q E
  rw [if_pos h]; exact wpr q
theorem wp_addT {fz : Bool} {a b : List D} (h : a.length + b.length ≤ LIM) (q : Q (.d (.tup (a ++ b))) S) : Wp (binop .add fz (.d (.tup a)) (.d (.tup b)) S) Q E := by
  show Wp (if a.length + b.length ≤ LIM then _ else _) Q E
  rw [if_pos h]; exact wpr q
theorem datas_d : ∀ l : List D, datas (l.map W.d) = some l
  | [] => rfl
  | x :: l => by simp [datas, datas_d l]
theorem wp_mkLF {l : List D} (q : Q (.d (.lst l)) S) : Wp (mkL true (l.map W.d) S) Q E := by
  unfold mkL; rw [if_pos rfl, datas_d]; exact wpr q
theorem wp_mkTF {l : List D} (q : Q (.d (.tup l)) S) : Wp (mkT (l.map W.d) S) Q E := by
  unfold mkT; rw [datas_d]; exact wpr q
theorem wp_addL {a b : List D} (h : a.length + b.length ≤ LIM) (q : Q (.d (.lst (a ++ b))) S) : Wp (binop .add true (.d (.lst a)) (.d (.lst b)) S) Q E := by
  show Wp (if (a.map W.d).length + (b.map W.d).length ≤ LIM then mkL true (a.map W.d ++ b.map W.d) S else .bad) Q E
  rw [if_pos (by simpa using h), ← List.map_append]; exact wp_mkLF q
theorem wp_eqI {i j : Int} (q : Q (.d (.bl (decide (i = j)))) S) : Wp (cmpop .eq (.d (.int i)) (.d (.int j)) S) Q E := by
  have : cmpop .eq (.d (.int i)) (.d (.int j)) S = .ok (.d (.bl (i == j))) S := rfl
  rw [this, show (i == j) = decide (i = j) by by_cases h : i = j <;> simp [h]]; exact wpr q
theorem wp_neI {i j : Int} (q : Q (.d (.bl (!decide (i = j)))) S) : Wp (cmpop .ne (.d (.int i)) (.d (.int j)) S) Q E := by
  have : cmpop .ne (.d (.int i)) (.d (.int j)) S = .ok (.d (.bl (!(i == j)))) S := rfl
  rw [this, show (i == j) = decide (i = j) by by_cases h : i = j <;> simp [h]]; exact wpr q
theorem wp_eqS {a b : List Nat} (q : Q (.d (.bl (decide (a = b)))) S) : Wp (cmpop .eq (.d (.str a)) (.d (.str b)) S) Q E := by
  have : cmpop .eq (.d (.str a)) (.d (.str b)) S = .ok (.d (.bl (a == b))) S := rfl
  rw [this, show (a == b) = decide (a = b) by by_cases h : a = b <;> simp [h]]; exact wpr q
theorem wp_neS {a b : List Nat} (q : Q (.d (.bl (!decide (a = b)))) S) : Wp (cmpop .ne (.d (.str a)) (.d (.str b)) S) Q E := by
  have : cmpop .ne (.d (.str a)) (.d (.str b)) S = .ok (.d (.bl (!(a == b)))) S := rfl
  rw [this, show (a == b) = decide (a = b) by by_cases h : a = b <;> simp [h]]; exact wpr q
theorem wp_ltI {i j : Int} (q : Q (.d (.bl (decide (i < j)))) S) : Wp (cmpop .lt (.d (.int i)) (.d (.int j)) S) Q E := wpr q
theorem wp_gtI {i j : Int} (q : Q (.d (.bl (decide (j < i)))) S) : Wp (cmpop .gt (.d (.int i)) (.d (.int j)) S) Q E := wpr q
theorem wp_leI {i j : Int} (q : Q (.d (.bl (decide (i ≤ j)))) S) : Wp (cmpop .le (.d (.int i)) (.d (.int j)) S) Q E := wpr q
theorem wp_geI {i j : Int} (q : Q (.d (.bl (decide (j ≤ i)))) S) : Wp (cmpop .ge (.d (.int i)) (.d (.int j)) S) Q E := wpr q
/-- == of plain data -/
theorem eqR_nb {x y : D} (hx : D.nb x = true) (hy : D.nb y = true) (kx : okD x = true) (ky : okD y = true) : eqR (.d x) (.d y) S = some (decide (x = y)) := by
  rw [← eqv_beq hx hy]
  have key : (if okD x && okD y then some (D.eqv x y) else none) = some (D.eqv x y) := by rw [kx, ky]; rfl
  cases x <;> cases y <;> first | exact key | rfl | (simp only [D.nb, Bool.false_eq_true] at hx hy)
theorem wp_eqD {x y : D} (hx : D.nb x = true) (hy : D.nb y = true) (kx : okD x = true) (ky : okD y = true) (q : Q (.d (.bl (decide (x = y)))) S) : Wp (cmpop .eq (.d x) (.d y) S) Q E := by
  show Wp (ofB (eqR (.d x) (.d y) S) S) Q E
  rw [eqR_nb hx hy kx ky]; exact wpr q
theorem wp_neD {x y : D} (hx : D.nb x = true) (hy : D.nb y = true) (kx : okD x = true) (ky : okD y = true) (q : Q (.d (.bl (!decide (x = y)))) S) : Wp (cmpop .ne (.d x) (.d y) S) Q E := by
  show Wp (ofB ((eqR (.d x) (.d y) S).map (!·)) S) Q E
  rw [eqR_nb hx hy kx ky]; exact wpr q
/-- in of plain data -/
theorem isin_nb {x : D} {l : List D} (hx : D.nb x = true) (hl : ∀ y ∈ l, D.nb y = true) : (l.any fun z => D.eqv z x) = decide (x ∈ l) := by
  by_cases h : x ∈ l
  · rw [decide_eq_true h]; exact List.any_eq_true.mpr ⟨x, h, eqv_self hx⟩
  · rw [decide_eq_false h]
    exact Bool.eq_false_iff.mpr fun q => by
      obtain ⟨z, hz, e⟩ := List.any_eq_true.mp q
      exact h ((D.eqv_eq (hl z hz) hx).mp e ▸ hz)
theorem isinR_L {x : D} {l : List D} (hx : D.nb x = true) (hl : ∀ y ∈ l, D.nb y = true) (kx : okD x = true) (kl : ∀ y ∈ l, okD y = true) : isinR (.d x) (.d (.lst l)) S = some (decide (x ∈ l)) := by
  show (if okD x && l.all okD then some (l.any fun z => D.eqv z x) else none) = _
  rw [kx, List.all_eq_true.mpr kl, isin_nb hx hl]; rfl
theorem isinR_T {x : D} {l : List D} (hx : D.nb x = true) (hl : ∀ y ∈ l, D.nb y = true) (kx : okD x = true) (kl : ∀ y ∈ l, okD y = true) : isinR (.d x) (.d (.tup l)) S = some (decide (x ∈ l)) := by
  show (if okD x && l.all okD then some (l.any fun z => D.eqv z x) else none) = _
  rw [kx, List.all_eq_true.mpr kl, isin_nb hx hl]; rfl
theorem isinR_C {x : D} {n : Nat} {l : List D} (hS : S[n]? = some (.lst (l.map .d))) (hx : D.nb x = true) (hl : ∀ y ∈ l, D.nb y = true) (kx : okD x = true) (kl : ∀ y ∈ l, okD y = true) : isinR (.d x) (.ref n) S = some (decide (x ∈ l)) := by
  unfold isinR
  simp only [dictOf, hS, W.flat, datas_d, Option.map_some]
  rw [kx, List.all_eq_true.mpr kl, isin_nb hx hl]; rfl
theorem wp_inT {x : D} {l : List D} (hx : D.nb x = true) (hl : ∀ y ∈ l, D.nb y = true) (kx : okD x = true) (kl : ∀ y ∈ l, okD y = true) (q : Q (.d (.bl (decide (x ∈ l)))) S) : Wp (cmpop .isin (.d x) (.d (.tup l)) S) Q E := by
  show Wp (ofB (isinR (.d x) (.d (.tup l)) S) S) Q E
  rw [isinR_T hx hl kx kl]; exact wpr q
theorem wp_inL {x : D} {l : List D} (hx : D.nb x = true) (hl : ∀ y ∈ l, D.nb y = true) (kx : okD x = true) (kl : ∀ y ∈ l, okD y = true) (q : Q (.d (.bl (decide (x ∈ l)))) S) : Wp (cmpop .isin (.d x) (.d (.lst l)) S) Q E := by
  show Wp (ofB (isinR (.d x) (.d (.lst l)) S) S) Q E
  rw [isinR_L hx hl kx kl]; exact wpr q
theorem wp_notinC {x : D} {n : Nat} {l : List D} (hS : S[n]? = some (.lst (l.map .d))) (hx : D.nb x = true) (hl : ∀ y ∈ l, D.nb y = true) (kx : okD x = true) (kl : ∀ y ∈ l, okD y = true) (q : Q (.d (.bl (!decide (x ∈ l)))) S) : Wp (cmpop .notin (.d x) (.ref n) S) Q E := by
  show Wp (ofB ((isinR (.d x) (.ref n) S).map (!·)) S) Q E
  rw [isinR_C hS hx hl kx kl]; exact wpr q
theorem wp_inStr {c : Nat} {b : List Nat} (q : Q (.d (.bl (decide (c ∈ b)))) S) : Wp (cmpop .isin (.d (.str [c])) (.d (.str b)) S) Q E := by
  show Wp (ofB (some (b.contains c)) S) Q E
  have : b.contains c = decide (c ∈ b) := by by_cases h : c ∈ b <;> simp [h]
  rw [this]; exact wpr q
/-- an item -/
theorem ixN_pos {n k : Nat} (h : k < n) : ixN n (k : Int) = some k := by
  unfold ixN
  rw [if_pos (by omega), if_pos (by omega)]
  simp
theorem ix_tup {l : List D} {i : Int} {x : D} (h0 : 0 ≤ i) (h : l[i.toNat]? = some x) : index (.d (.tup l)) (.d (.int i)) S = .ok (.d x) S := by
  have hl : i.toNat < l.length := (List.getElem?_eq_some_iff.mp h).1
  have e : ixN (l.map W.d).length i = some i.toNat := by
    have := ixN_pos (n := (l.map W.d).length) (k := i.toNat) (by simpa using hl)
    rwa [Int.toNat_of_nonneg h0] at this
  show (match ixN (l.map W.d).length i with | some n => (match (l.map W.d)[n]? with | some w => R.ok w S | none => .bad) | none => .bad) = _
  rw [e]
  simp only [List.getElem?_map, h, Option.map_some]
theorem ix_lst {l : List D} {i : Int} {x : D} (h0 : 0 ≤ i) (h : l[i.toNat]? = some x) : index (.d (.lst l)) (.d (.int i)) S = .ok (.d x) S := by
  have hl : i.toNat < l.length := (List.getElem?_eq_some_iff.mp h).1
  have e : ixN (l.map W.d).length i = some i.toNat := by
    have := ixN_pos (n := (l.map W.d).length) (k := i.toNat) (by simpa using hl)
    rwa [Int.toNat_of_nonneg h0] at this
  show (match ixN (l.map W.d).length i with | some n => (match (l.map W.d)[n]? with | some w => R.ok w S | none => .bad) | none => .bad) = _
  rw [e]
  simp only [List.getElem?_map, h, Option.map_some]
theorem wp_ixT {l : List D} {i : Int} {x : D} (h0 : 0 ≤ i) (h : l[i.toNat]? = some x) (q : Q (.d x) S) : Wp (index (.d (.tup l)) (.d (.int i)) S) Q E := by rw [ix_tup h0 h]; exact wpr q
theorem wp_ixL {l : List D} {i : Int} {x : D} (h0 : 0 ≤ i) (h : l[i.toNat]? = some x) (q : Q (.d x) S) : Wp (index (.d (.lst l)) (.d (.int i)) S) Q E := by rw [ix_lst h0 h]; exact wpr q
/-- an item of a written list, by a drawn number -/
theorem wp_ixM {l : List D} {i : Int} (h0 : 0 ≤ i) (h1 : i < l.length) (q : ∀ x, x ∈ l → Q (.d x) S) : Wp (index (.d (.lst l)) (.d (.int i)) S) Q E := by
  have hl : i.toNat < l.length := by omega
  exact wp_ixL h0 (List.getElem?_eq_getElem hl) (q _ (List.getElem_mem hl))
theorem ix_cell {n : Nat} {l : List W} {i : Int} {x : W} (hS : S[n]? = some (.lst l)) (h0 : 0 ≤ i) (h : l[i.toNat]? = some x) : index (.ref n) (.d (.int i)) S = .ok x S := by
  have hl : i.toNat < l.length := (List.getElem?_eq_some_iff.mp h).1
  have e : ixN l.length i = some i.toNat := by
    have := ixN_pos (n := l.length) (k := i.toNat) hl
    rwa [Int.toNat_of_nonneg h0] at this
  unfold index
  simp only [dictOf, hS, seqOf, e, h]
theorem wp_ixC {n : Nat} {l : List W} {i : Int} {x : W} (hS : S[n]? = some (.lst l)) (h0 : 0 ≤ i) (h : l[i.toNat]? = some x) (q : Q x S) : Wp (index (.ref n) (.d (.int i)) S) Q E := by rw [ix_cell hS h0 h]; exact wpr q
theorem setAt_lst {n : Nat} {l : List W} {i : Int} {v : W} (hS : S[n]? = some (.lst l)) (h0 : 0 ≤ i) (h : i.toNat < l.length) : setAt (.ref n) (.d (.int i)) v S = some (S.set n (.lst (l.set i.toNat v))) := by
  have e : ixN l.length i = some i.toNat := by
    have := ixN_pos (n := l.length) (k := i.toNat) h
    rwa [Int.toNat_of_nonneg h0] at this
  unfold setAt
  simp only [cellL, hS, e, Option.map_some]
/-- a call that is handed data alone -/
theorem getAll_nil {S : Sto} : getAll S [] = some [] := rfl
theorem wp_call0 {f : FnS} {ws : List W} {P : D → Prop} (hr : refsOf ws = []) (hn : renum 0 ws = ws) (h : ∃ x T, f ws [] = .ok (.d x) T ∧ P x) (q : ∀ x, P x → Q (.d x) S) : Wp (callLoc f ws S) Q E := by
  obtain ⟨x, T, e, p⟩ := h
  unfold callLoc
  rw [hr, getAll_nil]
  simp only
  rw [if_pos (by simp), hn, e]
  simp only
  rw [if_pos (by simp [refsOf])]
  have e0 : putBack S [] T = S := by cases T <;> rfl
  rw [e0]; exact wpr (q x p)
end
/-- plain data all -/
inductive Ds : List W → List D → Prop where
  | nil : Ds [] []
  | cons {x : D} {ws : List W} {l : List D} : Ds ws l → Ds (.d x :: ws) (x :: l)
theorem Ds.datas {ws : List W} {l : List D} (h : Ds ws l) : datas ws = some l := by
  induction h with
  | nil => rfl
  | cons _ ih => simp [LD.datas, ih]
section
variable {Q : W → Sto → Prop} {E : XP} {S : Sto}
theorem wp_mkL {ws : List W} {l : List D} (h : Ds ws l) (q : Q (.d (.lst l)) S) : Wp (mkL true ws S) Q E := by
  unfold mkL; rw [if_pos rfl, h.datas]; exact wpr q
theorem wp_mkT {ws : List W} {l : List D} (h : Ds ws l) (q : Q (.d (.tup l)) S) : Wp (mkT ws S) Q E := by
  unfold mkT; rw [h.datas]; exact wpr q
theorem wp_mkLC {ws : List W} (q : Q (.ref S.length) (S ++ [.lst ws])) : Wp (mkL false ws S) Q E := wpr q
theorem wp_lenT {fz : Bool} {l : List D} (q : Q (.d (.int l.length)) S) : Wp (builtin .len fz [.d (.tup l)] S) Q E := wp_ok (by unfold builtin; simp [seqOf]) q
theorem wp_lenL {fz : Bool} {l : List D} (q : Q (.d (.int l.length)) S) : Wp (builtin .len fz [.d (.lst l)] S) Q E := wp_ok (by unfold builtin; simp [seqOf]) q
theorem wp_lenS {fz : Bool} {l : List Nat} (q : Q (.d (.int l.length)) S) : Wp (builtin .len fz [.d (.str l)] S) Q E := wp_ok (by unfold builtin; rfl) q
theorem wp_lenC {fz : Bool} {n : Nat} {l : List W} (hS : S[n]? = some (.lst l)) (q : Q (.d (.int l.length)) S) : Wp (builtin .len fz [.ref n] S) Q E := wp_ok (by unfold builtin; simp [seqOf, hS]) q
theorem wp_lenD {fz : Bool} {n : Nat} {l : List (Ky × W)} (hS : S[n]? = some (.dct l)) (q : Q (.d (.int l.length)) S) : Wp (builtin .len fz [.ref n] S) Q E := wp_ok (by unfold builtin; simp [seqOf, hS, dictOf]) q
theorem wp_tupleL {fz : Bool} {l : List D} (q : Q (.d (.tup l)) S) : Wp (builtin .tuple fz [.d (.lst l)] S) Q E := wp_ok (by unfold builtin; simp [seqTup, lsOf, mkT, datas_d]) q
theorem wp_tupleT {fz : Bool} {l : List D} (q : Q (.d (.tup l)) S) : Wp (builtin .tuple fz [.d (.tup l)] S) Q E := wp_ok (by unfold builtin; simp [seqTup]) q
theorem wp_tupleC {fz : Bool} {n : Nat} {l : List D} (hS : S[n]? = some (.lst (l.map .d))) (q : Q (.d (.tup l)) S) : Wp (builtin .tuple fz [.ref n] S) Q E := wp_ok (by unfold builtin; simp [seqTup, lsOf, mkT, datas_d, hS]) q
theorem wp_sortedL {l : List D} (h : Srt l) (q : Q (.d (.lst (srt l))) S) : Wp (builtin .sorted true [.d (.lst l)] S) Q E := wp_ok (by unfold builtin; simp [seqOf, datas_d, h.sort, mkL]) q
theorem wp_sortedT {l : List D} (h : Srt l) (q : Q (.d (.lst (srt l))) S) : Wp (builtin .sorted true [.d (.tup l)] S) Q E := wp_ok (by unfold builtin; simp [seqOf, datas_d, h.sort, mkL]) q
theorem wp_sortedC {n : Nat} {l : List D} (hS : S[n]? = some (.lst (l.map .d))) (h : Srt l) (q : Q (.d (.lst (srt l))) S) : Wp (builtin .sorted true [.ref n] S) Q E := wp_ok (by unfold builtin; simp [seqOf, datas_d, h.sort, mkL, hS]) q
theorem wp_append {fz : Bool} {n : Nat} {l : List W} {x : W} (hS : S[n]? = some (.lst l)) (hl : l.length < LIM) (q : Q (.d .non) (S.set n (.lst (l ++ [x])))) : Wp (method .append fz (.ref n) [x] S) Q E := wp_ok (by unfold method; simp only [cellL, hS]; rw [if_pos hl]; rfl) q
theorem kind_lst {m : MF} {n : Nat} {l : List W} (hS : S[n]? = some (.lst l)) (h : (match m with | .append | .extend | .insert | .pop0 | .pop1 | .remove | .count | .index => true | _ => false) = true) : kindOk m (.ref n) S = true := by
  cases m <;> simp_all [kindOk, lsOf]
theorem kind_dct {m : MF} {n : Nat} {l : List (Ky × W)} (hS : S[n]? = some (.dct l)) (h : (match m with | .get1 | .get2 | .values | .update => true | _ => false) = true) : kindOk m (.ref n) S = true := by
  cases m <;> simp_all [kindOk, dictOf]
theorem frz_lst {n : Nat} {l : List D} (hS : S[n]? = some (.lst (l.map .d))) (q : Q (.d (.lst l)) (S.set n .dead)) : Wp (frzW (.ref n) S) Q E := wp_ok (by unfold frzW; simp only [hS, datas_d]) q
theorem frz_d {x : D} (q : Q (.d x) S) : Wp (frzW (.d x) S) Q E := wpr q
theorem small_of {i : Int} (h : -(2 ^ 60) ≤ i ∧ i < 2 ^ 60) : smallI i = true := by unfold smallI; simp only [Bool.and_eq_true, decide_eq_true_eq]; exact h
theorem items_range1 {n : Int} (h : -(2 ^ 60) ≤ n ∧ n < 2 ^ 60) : itemsOf .range1 [.d (.int n)] S = some ((rangeI 0 n.toNat).map .one, none) := by
  unfold itemsOf; simp only [small_of h, if_true]
theorem items_range2 {a n : Int} (h : -(2 ^ 60) ≤ n ∧ n < 2 ^ 60) (h2 : -(2 ^ 60) ≤ a ∧ a < 2 ^ 60) : itemsOf .range2 [.d (.int a), .d (.int n)] S = some ((rangeI a (n - a).toNat).map .one, none) := by
  unfold itemsOf; simp only [small_of h, small_of h2, Bool.and_self, if_true]
theorem itemSet_live {p : P} {ρ : Rho} {n i len : Nat} {l : List W} {w : W} (hS : S[n]? = some (.lst l)) (hl : l.length = len) (hi : l[i]? = some w) : itemSet p (.live n i len) S ρ = patSet p w S ρ := by
  unfold itemSet
  simp only [hS, hl, if_true, hi]
/-- a comprehension over a list that is a cell -/
theorem wp_compC {step : Item → Sto → R (Option W)} {Qs : List W → Sto → Prop} {n : Nat} {l : List W} (g : Nat → W → Option W) (hf : finOk (some (n, l.length)) S = true) (h : ∀ i w, l[i]? = some w → step (.live n i l.length) S = .ok (g i w) S) (hl : l.length ≤ LIM)
    (q : Qs ((List.range l.length).filterMap fun i => (l[i]?).bind (g i)) S) : Wp (compL step (some (n, l.length)) (liveI n l.length) [] S) Qs E := by
  refine wp_compI (fun i acc S' => S' = S ∧ acc = (List.range i).filterMap (fun i => (l[i]?).bind (g i)) ∧ i ≤ l.length) (liveI n l.length) 0 [] S ⟨rfl, rfl, Nat.zero_le _⟩ (fun j it acc S' hj hI => ?_) fun acc S' hI => ?_
  · obtain ⟨rfl, rfl, hle⟩ := hI
    have hj2 : j < l.length := by
      have := (List.getElem?_eq_some_iff.mp hj).1
      simpa [liveI] using this
    have e : it = .live n j l.length := by
      simp only [liveI, List.getElem?_map, List.getElem?_range hj2, Option.map_some, Option.some.injEq] at hj
      exact hj.symm
    subst e
    obtain ⟨w, hw⟩ : ∃ w, l[j]? = some w := ⟨_, List.getElem?_eq_getElem hj2⟩
    rw [h j w hw]
    have e2 : (List.range (0 + j + 1)).filterMap (fun i => (l[i]?).bind (g i)) = (List.range (0 + j)).filterMap (fun i => (l[i]?).bind (g i)) ++ ((g j w).toList) := by
      rw [List.range_succ, List.filterMap_append, Nat.zero_add]
      simp only [List.filterMap_cons, List.filterMap_nil, hw, Option.bind_some]
      cases g j w <;> rfl
    refine wpr ?_
    cases hg : g j w with
    | none => rw [hg] at e2; exact ⟨rfl, by rw [e2]; simp, by omega⟩
    | some z =>
      rw [hg] at e2
      refine ⟨?_, rfl, by rw [e2]; rfl, by omega⟩
      refine Nat.lt_of_le_of_lt (List.length_filterMap_le _ _) ?_
      rw [List.length_range]; omega
  · obtain ⟨rfl, rfl, hle⟩ := hI
    refine ⟨hf, ?_⟩
    have : (liveI n l.length).length = l.length := by simp [liveI]
    rw [this, Nat.zero_add]; exact q
end
/-- the cells that a law draws from -/
structure Tp where
  cells : List Int
  at' : Int
  rest : Int
  cnt : Int
def Tp.o (tp : Tp) : O := .lst [.d (.lst (tp.cells.map .int)), .d (.int tp.at'), .d (.int tp.rest), .d (.int tp.cnt)]
/-- a def that draws, and hands back a thing with P -/
def TpF (f : FnS) (args : List W) (P : D → Prop) : Prop := ∀ tp : Tp, ∃ (x : D) (tp' : Tp) (R : Sto), f (.ref 0 :: args) [tp.o] = .ok (.d x) (tp'.o :: R) ∧ P x
theorem tp_flat (tp : Tp) : flatO tp.o = true := rfl
theorem wp_tape {Q : W → Sto → Prop} {E : XP} {S : Sto} {f : FnS} {args : List W} {P : D → Prop} {n : Nat} {tp : Tp} (hS : S[n]? = some tp.o) (h : TpF f args P) (hr : refsOf args = []) (hn : renum 1 args = args)
    (q : ∀ (x : D) (tp' : Tp), P x → Q (.d x) (S.set n tp'.o)) : Wp (callLoc f (.ref n :: args) S) Q E := by
  obtain ⟨x, tp', R, e, p⟩ := h tp
  unfold callLoc
  have e1 : refsOf (.ref n :: args) = [n] := by simp [refsOf, hr]
  have e2 : getAll S [n] = some [tp.o] := by simp [getAll, hS, tp_flat]
  rw [e1, e2]
  simp only
  rw [if_pos (by simp)]
  have e3 : renum 0 (.ref n :: args) = .ref 0 :: args := by simp [renum, hn]
  rw [e3, e]
  simp only
  rw [if_pos (by simp [tp_flat])]
  have e0 : putBack S [n] (tp'.o :: R) = S.set n tp'.o := by
    show putBack (S.set n tp'.o) [] R = _
    cases R <;> rfl
  rw [e0]; exact wpr (q x tp' p)
def PickOk (f : FnS) : Prop := ∀ m : Int, 0 < m → m < 2 ^ 60 → TpF f [.d (.int m)] fun x => ∃ v, x = .int v ∧ 0 ≤ v ∧ v < m
theorem wp_pick {Q : W → Sto → Prop} {E : XP} {S : Sto} {f : FnS} (hp : PickOk f) {n : Nat} {tp : Tp} {m : Int} (hS : S[n]? = some tp.o) (h0 : 0 < m) (h1 : m < 2 ^ 60)
    (q : ∀ (v : Int) (tp' : Tp), 0 ≤ v → v < m → Q (.d (.int v)) (S.set n tp'.o)) : Wp (callLoc f [.ref n, .d (.int m)] S) Q E := by
  refine wp_tape hS (hp m h0 h1) rfl rfl ?_
  rintro _ tp' ⟨v, rfl, a, b⟩
  exact q v tp' a b
theorem tpF_of {f : FnS} {args : List W} {P : D → Prop} (h : ∀ tp : Tp, Wp (f (.ref 0 :: args) [tp.o]) (fun w S => ∃ (x : D) (tp' : Tp) (R : Sto), w = .d x ∧ S = Tp.o tp' :: R ∧ P x) noE) : TpF f args P := fun tp => by
  obtain ⟨a, S, e, x, tp', R, rfl, rfl, p⟩ := ex_wp (h tp)
  exact ⟨x, tp', R, e, p⟩
/-! ### the words -/
end LD
local macro_rules | `(tactic| walk_at "l_ds") => `(tactic| (repeat (first | exact LD.Ds.nil | apply LD.Ds.cons)))
local macro_rules | `(tactic| walk_at "l_rfl") => `(tactic| first | with_reducible rfl | rfl)
local macro_rules | `(tactic| walk_at "l_step") => `(tactic| first
  | with_reducible refine LD.wps_cons ?_
  | with_reducible refine LD.wp_cons ?_
  | with_reducible refine LD.wp_nil ?_
  | with_reducible refine LD.wp_var (by with_unfolding_all rfl) ?_
  | with_reducible refine LD.wp_int ?_
  | with_reducible refine LD.wp_str ?_
  | with_reducible refine LD.wp_bl ?_
  | with_reducible refine LD.wp_non ?_
  | with_reducible refine LD.wps_name ?_
  | with_reducible refine LD.wps_ret ?_
  | with_reducible refine LD.wps_ite ?_
  | with_reducible refine LD.wps_sub ?_
  | with_reducible refine LD.wps_ex ?_
  | with_reducible refine LD.wps_nil ?_
  | with_reducible refine LD.wps_par ?_
  | with_reducible refine LD.wps_for ?_
  | with_reducible refine LD.wps_whl ?_
  | with_reducible refine LD.wps_pat ?_
  | with_reducible refine LD.wps_retN ?_
  | with_reducible refine LD.wps_pass ?_
  | with_reducible refine LD.wp_ix ?_
  | with_reducible refine LD.wp_bin ?_
  | with_reducible refine LD.wp_cmp ?_
  | with_reducible refine LD.wp_and1 ?_
  | with_reducible refine LD.wp_or1 ?_
  | with_reducible refine LD.wp_and ?_
  | with_reducible refine LD.wp_or ?_
  | with_reducible refine LD.wp_not ?_
  | with_reducible refine LD.wp_tup ?_
  | with_reducible refine LD.wp_lst ?_
  | with_reducible refine LD.wp_bc ?_
  | with_reducible refine LD.wp_mt ?_
  | with_reducible refine LD.wp_frz ?_
  | with_reducible refine LD.wp_dict0 ?_
  | with_reducible refine LD.wp_comp ?_
  | with_reducible refine LD.wp_slFrom ?_
  | with_reducible refine LD.wp_slTo ?_
  | with_reducible refine LD.wp_slMid ?_
  | with_reducible refine LD.wp_neg ?_
  | with_reducible refine LD.wp_chain ?_
  | with_reducible refine LD.wp_callL (by with_unfolding_all rfl) ?_
  | with_reducible refine LD.wp_callG (by with_unfolding_all rfl) ?_
  | with_reducible refine LD.wp_add ?_
  | with_reducible refine LD.wp_sub ?_
  | with_reducible refine LD.wp_eqI ?_
  | with_reducible refine LD.wp_neI ?_
  | with_reducible refine LD.wp_eqS ?_
  | with_reducible refine LD.wp_neS ?_
  | with_reducible refine LD.wp_ltI ?_
  | with_reducible refine LD.wp_gtI ?_
  | with_reducible refine LD.wp_leI ?_
  | with_reducible refine LD.wp_geI ?_
  | with_reducible refine LD.wp_inStr ?_
  | (with_reducible refine LD.wp_mkL (by with_unfolding_all walk_at "l_ds") ?_)
  | (with_reducible refine LD.wp_mkT (by with_unfolding_all walk_at "l_ds") ?_)
  | with_reducible refine LD.wp_mkLC ?_
  | with_reducible refine LD.wp_lenT ?_
  | with_reducible refine LD.wp_lenL ?_
  | with_reducible refine LD.wp_lenS ?_
  | with_reducible refine LD.wp_tupleL ?_
  | with_reducible refine LD.wp_tupleT ?_
  | with_reducible refine LD.wp_true ?_
  | with_reducible refine LD.wp_false ?_)
local macro_rules | `(tactic| walk_at "l_start") => `(tactic| (refine LD.wp_run (by rfl) ?_; simp only [List.map_cons, List.map_nil, Nat.reduceSub, List.replicate_succ, List.replicate_zero, List.cons_append, List.nil_append]))
local macro_rules | `(tactic| walk_at "l_go") => `(tactic| repeat walk_at "l_step")
/-! PL4: what laws draw. -/
namespace LD
def fdPick : Fd := ⟨2, 6, [.asg (.sub (.var 0) (.int 3)) (.bin .add true (.ix (.var 0) (.int 3)) (.int 1)),
  .ite (.cmp .gt (.ix (.var 0) (.int 2)) (.int 0))
    [.asg (.pat (.name 5)) (.bin .mod true (.ix (.var 0) (.int 2)) (.var 1)),
    .asg (.sub (.var 0) (.int 2)) (.bin .fdiv true (.ix (.var 0) (.int 2)) (.var 1)),
    .ret (.var 5)]
    [],
  .asg (.pat (.name 2)) (.ix (.var 0) (.int 1)),
  .asg (.sub (.var 0) (.int 1)) (.bin .add true (.var 2) (.int 1)),
  .asg (.pat (.name 3)) (.ite (.cmp .ne (.ix (.var 0) (.int 0)) (.lst true [])) (.ix (.ix (.var 0) (.int 0)) (.bin .mod true (.var 2) (.bc .len true [(.ix (.var 0) (.int 0))]))) (.int 14)),
  .ite (.and [(.cmp .ge (.var 3) (.bin .pow true (.int 10) (.int 18))), (.cmp .lt (.var 2) (.bc .len true [(.ix (.var 0) (.int 0))]))])
    [.asg (.sub (.var 0) (.int 2)) (.bin .fdiv true (.var 3) (.var 1)),
    .ret (.bin .mod true (.var 3) (.var 1))]
    [],
  .asg (.pat (.name 4)) (.bin .mod true (.bin .add true (.bin .add true (.bin .mod true (.var 3) (.int 2147483647)) (.bin .mul true (.int 40823) (.ix (.var 0) (.int 3)))) (.int 31)) (.int 2147483629)),
  .asg (.pat (.name 4)) (.bin .mod true (.bin .add true (.bin .add true (.bin .mul true (.var 4) (.var 4)) (.bin .mul true (.int 27011) (.ix (.var 0) (.int 3)))) (.int 3)) (.int 2147483587)),
  .asg (.pat (.name 4)) (.bin .mod true (.bin .add true (.bin .add true (.bin .mul true (.var 4) (.var 4)) (.bin .mul true (.int 13007) (.var 4))) (.int 1)) (.int 2147483579)),
  .ret (.bin .mod true (.bin .fdiv true (.var 4) (.int 256)) (.var 1))]⟩
theorem pick_ok (t : Tab) : PickOk (runFd t fdPick) := by
  intro m h0 h1
  refine tpF_of fun tp => ?_
  obtain ⟨cells, a, r, c⟩ := tp
  unfold fdPick
  walk_at "l_start"
  walk_at "l_go"
  refine wp_ixC rfl (by decide) rfl ?_
  walk_at "l_go"
  refine ⟨_, setAt_lst rfl (by decide) (by simp), ?_⟩
  walk_at "l_go"
  refine wp_ixC rfl (by decide) rfl ?_
  walk_at "l_go"
  refine wp_split (fun hr => ?_) (fun hr => ?_)
  · walk_at "l_go"
    refine wp_ixC rfl (by decide) rfl ?_
    walk_at "l_go"
    refine wp_mod h0 ?_
    walk_at "l_go"
    refine wp_ixC rfl (by decide) rfl ?_
    walk_at "l_go"
    refine wp_fdiv h0 (by omega) ?_
    walk_at "l_go"
    refine ⟨_, setAt_lst rfl (by decide) (by simp), ?_⟩
    walk_at "l_go"
    exact ⟨_, ⟨cells, a, r / m, c + 1⟩, [], rfl, rfl, _, rfl, Int.emod_nonneg _ (by omega), Int.emod_lt_of_pos _ h0⟩
  · walk_at "l_go"
    refine wp_ixC rfl (by decide) rfl ?_
    walk_at "l_go"
    refine ⟨_, setAt_lst rfl (by decide) (by simp), ?_⟩
    walk_at "l_go"
    refine Wp.mono (Q := fun w S' => S' = [Tp.o ⟨cells, a + 1, r, c + 1⟩] ∧ ∃ i, w = .d (.int i)) ?_ ?_
    · refine wp_ite ?_
      walk_at "l_go"
      refine wp_ixC rfl (by decide) rfl ?_
      walk_at "l_go"
      have hn : ∀ l : List Int, D.nb (.lst (l.map .int)) = true := fun l => by
        simp only [D.nb]; exact nbs_iff.mpr fun x hx => by obtain ⟨i, _, rfl⟩ := List.mem_map.mp hx; rfl
      have hk : ∀ l : List Int, okD (.lst (l.map .int)) = true := fun l => by
        simp only [okD, D.ok, List.all_eq_true]; exact fun x hx => by obtain ⟨i, _, rfl⟩ := List.mem_map.mp hx; rfl
      refine wp_neD (hn cells) (hn []) (hk cells) (hk []) ?_
      refine wp_splitN (fun hne => ?_) (fun _ => ?_)
      · walk_at "l_go"
        refine wp_ixC rfl (by decide) rfl ?_
        walk_at "l_go"
        refine wp_ixC rfl (by decide) rfl ?_
        walk_at "l_go"
        have hl : 0 < cells.length := by
          rcases cells with _ | ⟨x, l⟩
          · exact absurd rfl hne
          · simp
        refine wp_mod (by simp; omega) ?_
        refine wp_ixM (Int.emod_nonneg _ (by simp only [List.length_map]; omega)) (by simpa using Int.emod_lt_of_pos a (show (0 : Int) < cells.length by omega)) fun x hx => ?_
        obtain ⟨i, _, rfl⟩ := List.mem_map.mp hx
        exact ⟨rfl, i, rfl⟩
      · walk_at "l_go"
        exact ⟨rfl, _, rfl⟩
    rintro w S ⟨rfl, i, rfl⟩
    walk_at "l_go"
    refine wp_pow (by decide) ?_
    walk_at "l_go"
    have key : WpS (exs t [.asg (.pat (.name 4)) (.bin .mod true (.bin .add true (.bin .add true (.bin .mod true (.var 3) (.int 2147483647)) (.bin .mul true (.int 40823) (.ix (.var 0) (.int 3)))) (.int 31)) (.int 2147483629)),
        .asg (.pat (.name 4)) (.bin .mod true (.bin .add true (.bin .add true (.bin .mul true (.var 4) (.var 4)) (.bin .mul true (.int 27011) (.ix (.var 0) (.int 3)))) (.int 3)) (.int 2147483587)),
        .asg (.pat (.name 4)) (.bin .mod true (.bin .add true (.bin .add true (.bin .mul true (.var 4) (.var 4)) (.bin .mul true (.int 13007) (.var 4))) (.int 1)) (.int 2147483579)),
        .ret (.bin .mod true (.bin .fdiv true (.var 4) (.int 256)) (.var 1))] [some (.ref 0), some (.d (.int m)), some (.d (.int a)), some (.d (.int i)), none, none] [Tp.o ⟨cells, a + 1, r, c + 1⟩])
        ⟨fun _ _ => False, fun w S => ∃ (x : D) (tp' : Tp) (R : Sto), w = .d x ∧ S = Tp.o tp' :: R ∧ ∃ v, x = .int v ∧ 0 ≤ v ∧ v < m, fun _ _ => False, fun _ _ => False, fun _ _ _ _ => False⟩ := by
      have md : ∀ x k : Int, 0 < k → k < 2 ^ 64 → bigOk (x % k) = true := fun x k h h2 => big_of (by
        have h3 := Int.emod_nonneg x (show k ≠ 0 by omega)
        have h4 := Int.emod_lt_of_pos x h
        omega)
      walk_at "l_go"
      refine wp_mod (by decide) ?_
      walk_at "l_go"
      refine wp_ixC rfl (by decide) rfl ?_
      refine wp_mul (by rfl) ?_
      walk_at "l_go"
      refine wp_mod (by decide) ?_
      walk_at "l_go"
      refine wp_mul (by rw [md _ _ (by decide) (by decide)]; rfl) ?_
      walk_at "l_go"
      refine wp_ixC rfl (by decide) rfl ?_
      refine wp_mul (by rfl) ?_
      walk_at "l_go"
      refine wp_mod (by decide) ?_
      walk_at "l_go"
      refine wp_mul (by rw [md _ _ (by decide) (by decide)]; rfl) ?_
      walk_at "l_go"
      refine wp_mul (by rfl) ?_
      walk_at "l_go"
      refine wp_mod (by decide) ?_
      walk_at "l_go"
      refine wp_fdiv (by decide) (by decide) ?_
      walk_at "l_go"
      refine wp_mod h0 ?_
      exact ⟨_, _, [], rfl, rfl, _, rfl, Int.emod_nonneg _ (by omega), Int.emod_lt_of_pos _ h0⟩
    refine wp_split (fun h1 => ?_) (fun h1 => ?_)
    · walk_at "l_go"
      refine wp_ixC rfl (by decide) rfl ?_
      walk_at "l_go"
      refine wp_split (fun h2 => ?_) (fun h2 => ?_)
      · walk_at "l_go"
        refine wp_fdiv h0 (by omega) ?_
        walk_at "l_go"
        refine ⟨_, setAt_lst rfl (by decide) (by simp), ?_⟩
        walk_at "l_go"
        refine wp_mod h0 ?_
        exact ⟨_, ⟨cells, a + 1, i / m, c + 1⟩, [], rfl, rfl, _, rfl, Int.emod_nonneg _ (by omega), Int.emod_lt_of_pos _ h0⟩
      · refine wps_nil ?_
        exact key.mono (fun _ _ h => h.elim) (fun _ _ h => h) (fun _ _ h => h.elim) (fun _ _ h => h.elim) (fun _ _ _ _ h => h.elim)
    · refine wp_false ?_
      refine wps_nil ?_
      exact key.mono (fun _ _ h => h.elim) (fun _ _ h => h) (fun _ _ h => h.elim) (fun _ _ h => h.elim) (fun _ _ _ _ h => h.elim)
end LD
/-! PL5: deeds and pages as data. -/
namespace LD
def tx (s : String) : List Nat := s.toList.map Char.toNat
inductive Dd where
  | brand (o b : List Nat) (p : Int) | drop (o b : List Nat) (p : Int) | put (l p : Int) (st : List (List Nat)) (len gi : Int) | seen (l p : Int) | sink (l p : Int) | rise (l : Int) | sell (l p m : Int)
  | jam (p : Int) | free (p : Int) | shut (p : Int) | opn (p : Int) | tally (rows : List (Int × Int)) | owns (p : Int) (o : List Nat) (m : Int) | cost (p m : Int) | reckon
  deriving DecidableEq
def Dd.word : Dd → List Nat
  | .brand .. => [98, 114, 97, 110, 100] | .drop .. => [100, 114, 111, 112] | .put .. => [112, 117, 116] | .seen .. => [98, 121] | .sink .. => [115, 105, 110, 107] | .rise .. => [114, 105, 115, 101]
  | .sell .. => [115, 101, 108, 108] | .jam .. => [106, 97, 109] | .free .. => [102, 114, 101, 101] | .shut .. => [115, 104, 117, 116] | .opn .. => [111, 112, 101, 110]
  | .tally .. => [116, 97, 108, 108, 121] | .owns .. => [111, 119, 110, 115] | .cost .. => [99, 111, 115, 116] | .reckon => [114, 101, 99, 107, 111, 110]
def pairD (r : Int × Int) : D := .tup [.int r.1, .int r.2]
def Dd.args : Dd → List D
  | .brand o b p => [.str o, .str b, .int p] | .drop o b p => [.str o, .str b, .int p] | .put l p st n g => [.int l, .int p, .tup (st.map .str), .int n, .int g] | .seen l p => [.int l, .int p] | .sink l p => [.int l, .int p] | .rise l => [.int l]
  | .sell l p m => [.int l, .int p, .int m] | .jam p => [.int p] | .free p => [.int p] | .shut p => [.int p] | .opn p => [.int p]
  | .tally rows => [.tup (rows.map pairD)] | .owns p o m => [.int p, .str o, .int m] | .cost p m => [.int p, .int m] | .reckon => []
def Dd.toD (d : Dd) : D := .tup (.str d.word :: d.args)
abbrev Pg := Int × Dd
def pgD (p : Pg) : D := .tup [.int p.1, p.2.toD]

theorem map_inj {α β : Type} {f : α → β} (h : ∀ a b, f a = f b → a = b) : ∀ {l m : List α}, l.map f = m.map f → l = m
  | [], [], _ => rfl
  | [], _ :: _, e => by simp at e
  | _ :: _, [], e => by simp at e
  | a :: l, b :: m, e => by
    simp only [List.map_cons, List.cons.injEq] at e
    rw [h _ _ e.1, map_inj h e.2]
theorem str_inj : ∀ a b : List Nat, D.str a = D.str b → a = b := fun a b h => by injection h
theorem pairD_inj : ∀ a b : Int × Int, pairD a = pairD b → a = b := fun ⟨a, b⟩ ⟨c, d⟩ h => by
  simp only [pairD, D.tup.injEq, List.cons.injEq, D.int.injEq, and_true] at h
  rw [h.1, h.2]
theorem toD_inj {d e : Dd} (h : d.toD = e.toD) : d = e := by
  simp only [Dd.toD, D.tup.injEq, List.cons.injEq, D.str.injEq] at h
  obtain ⟨h1, h2⟩ := h
  cases d <;> cases e <;> first
    | (simp only [Dd.word, List.cons.injEq, reduceCtorEq, Nat.reduceEqDiff, false_and, and_false] at h1; done)
    | (simp only [Dd.args, List.cons.injEq, D.str.injEq, D.int.injEq, D.tup.injEq, and_true] at h2; simp [h2]; done)
    | (simp only [Dd.args, List.cons.injEq, D.str.injEq, D.int.injEq, D.tup.injEq, and_true] at h2; obtain ⟨a, b, c, d, e⟩ := h2; rw [a, b, map_inj str_inj c, d, e])
    | (simp only [Dd.args, List.cons.injEq, D.tup.injEq, and_true] at h2; rw [map_inj pairD_inj h2])
    | rfl
theorem pgD_inj {p q : Pg} (h : pgD p = pgD q) : p = q := by
  obtain ⟨a, b⟩ := p; obtain ⟨c, d⟩ := q
  simp only [pgD, D.tup.injEq, List.cons.injEq, D.int.injEq, and_true] at h
  rw [h.1, toD_inj h.2]
theorem nbs_map {α : Type} {f : α → D} (h : ∀ a, D.nb (f a) = true) (l : List α) : D.nbs (l.map f) = true := nbs_iff.mpr fun x hx => by
  obtain ⟨a, _, rfl⟩ := List.mem_map.mp hx; exact h a
theorem toD_nb (d : Dd) : D.nb d.toD = true := by
  have h1 : ∀ l : List (List Nat), D.nbs (l.map D.str) = true := nbs_map fun _ => rfl
  have h2 : ∀ l : List (Int × Int), D.nbs (l.map pairD) = true := nbs_map fun _ => rfl
  cases d <;> simp [Dd.toD, Dd.args, D.nb, D.nbs, h1, h2]
theorem pgD_nb (p : Pg) : D.nb (pgD p) = true := by simp [pgD, D.nb, D.nbs, toD_nb]
/-! ### any two pages can be compared -/
theorem lts_some {a b : D} {as bs : List D} (h1 : (D.lt? a b).isSome = true) (h2 : (D.lts? as bs).isSome = true) : (D.lts? (a :: as) (b :: bs)).isSome = true := by
  simp only [D.lts?]
  split
  · exact h2
  · exact h1
theorem lts_map {α : Type} {f : α → D} (h : ∀ a b, (D.lt? (f a) (f b)).isSome = true) : ∀ l m : List α, (D.lts? (l.map f) (m.map f)).isSome = true
  | [], [] => rfl
  | [], _ :: _ => rfl
  | _ :: _, [] => rfl
  | a :: l, b :: m => lts_some (h a b) (lts_map h l m)
theorem pairD_some (a b : Int × Int) : (D.lt? (pairD a) (pairD b)).isSome = true := lts_some rfl (lts_some rfl rfl)
theorem toD_some (d e : Dd) : (D.lt? d.toD e.toD).isSome = true := by
  show (D.lts? (.str d.word :: d.args) (.str e.word :: e.args)).isSome = true
  simp only [D.lts?]
  split
  · rename_i h
    have h : d.word = e.word := by simpa [D.eqv] using h
    cases d <;> cases e <;> first
      | (simp only [Dd.word, List.cons.injEq, reduceCtorEq, Nat.reduceEqDiff, false_and, and_false] at h; done)
      | (simp only [Dd.args]; repeat (first | rfl | (refine lts_some (by first | rfl | exact lts_map (fun _ _ => rfl) _ _ | exact lts_map pairD_some _ _) ?_)))
  · rfl
theorem pgD_some (p q : Pg) : (D.lt? (pgD p) (pgD q)).isSome = true := lts_some rfl (lts_some (toD_some _ _) rfl)
/-! ### sizes -/
def txOk (s : List Nat) : Prop := ∀ c ∈ s, c < 1114112
def inOk (i : Int) : Prop := i.natAbs < 10 ^ 25
theorem sm_str {n : Nat} {s : List Nat} (h : txOk s) : D.sm n (.str s) = true := by
  cases n <;> simp only [D.sm, List.all_eq_true, decide_eq_true_eq] <;> exact h
theorem sm_int {n : Nat} {i : Int} (h : inOk i) : D.sm n (.int i) = true := by
  cases n <;> simp only [D.sm, decide_eq_true_eq] <;> exact h
/-- a deed of small things -/
def Dd.small : Dd → Prop
  | .brand o b p => txOk o ∧ txOk b ∧ inOk p | .drop o b p => txOk o ∧ txOk b ∧ inOk p | .put l p st n g => inOk l ∧ inOk p ∧ (∀ s ∈ st, txOk s) ∧ inOk n ∧ inOk g
  | .seen l p => inOk l ∧ inOk p | .sink l p => inOk l ∧ inOk p | .rise l => inOk l
  | .sell l p m => inOk l ∧ inOk p ∧ inOk m | .jam p => inOk p | .free p => inOk p | .shut p => inOk p | .opn p => inOk p
  | .tally rows => ∀ r ∈ rows, inOk r.1 ∧ inOk r.2 | .owns p o m => inOk p ∧ txOk o ∧ inOk m | .cost p m => inOk p ∧ inOk m | .reckon => True
theorem word_ok (d : Dd) : txOk d.word := by cases d <;> (intro c hc; simp [Dd.word] at hc; omega)
theorem toD_sm {d : Dd} (h : d.small) : D.sm 3 d.toD = true := by
  have hw : D.sm 2 (.str d.word) = true := sm_str (word_ok d)
  have h1 : ∀ l : List (List Nat), (∀ s ∈ l, txOk s) → D.sm 2 (.tup (l.map D.str)) = true := fun l hl => by
    simp only [D.sm, List.all_eq_true]; intro x hx; obtain ⟨s, hs, rfl⟩ := List.mem_map.mp hx; exact sm_str (hl s hs)
  have h2 : ∀ l : List (Int × Int), (∀ r ∈ l, inOk r.1 ∧ inOk r.2) → D.sm 2 (.tup (l.map pairD)) = true := fun l hl => by
    simp only [D.sm, List.all_eq_true]; intro x hx; obtain ⟨s, hs, rfl⟩ := List.mem_map.mp hx
    simp only [pairD, D.sm, List.all_cons, List.all_nil, Bool.and_true, Bool.and_eq_true, decide_eq_true_eq]
    exact hl s hs
  unfold Dd.toD
  simp only [D.sm, List.all_cons, Bool.and_eq_true]
  refine ⟨hw, ?_⟩
  cases d <;> simp only [Dd.small, Dd.args, List.all_cons, List.all_nil, Bool.and_true, Bool.and_eq_true] at h ⊢
  · exact ⟨sm_str h.1, sm_str h.2.1, sm_int h.2.2⟩
  · exact ⟨sm_str h.1, sm_str h.2.1, sm_int h.2.2⟩
  · exact ⟨sm_int h.1, sm_int h.2.1, h1 _ h.2.2.1, sm_int h.2.2.2.1, sm_int h.2.2.2.2⟩
  · exact ⟨sm_int h.1, sm_int h.2⟩
  · exact ⟨sm_int h.1, sm_int h.2⟩
  · exact sm_int h
  · exact ⟨sm_int h.1, sm_int h.2.1, sm_int h.2.2⟩
  · exact sm_int h
  · exact sm_int h
  · exact sm_int h
  · exact sm_int h
  · exact h2 _ h
  · exact ⟨sm_int h.1, sm_str h.2.1, sm_int h.2.2⟩
  · exact ⟨sm_int h.1, sm_int h.2⟩
def pgSmall (p : Pg) : Prop := inOk p.1 ∧ p.2.small
theorem pgD_sm {p : Pg} (h : pgSmall p) : D.sm 4 (pgD p) = true := by
  simp only [pgD, D.sm, List.all_cons, List.all_nil, Bool.and_true, Bool.and_eq_true, decide_eq_true_eq]
  exact ⟨h.1, toD_sm h.2⟩
theorem pgD_ok {p : Pg} (h : pgSmall p) : okD (pgD p) = true := sm_ok 4 30 _ (by decide) (pgD_sm h)
theorem toD_ok {d : Dd} (h : d.small) : okD d.toD = true := sm_ok 3 30 _ (by decide) (toD_sm h)
theorem pages_srt {l : List Pg} (h : ∀ p ∈ l, pgSmall p) (hl : l.length ≤ 1000000) : Srt (l.map pgD) := by
  refine ⟨fun x hx => ?_, fun x hx => ?_, ?_, fun x hx y hy => ?_, by simpa using hl⟩
  · obtain ⟨p, _, rfl⟩ := List.mem_map.mp hx; exact pgD_nb p
  · obtain ⟨p, hp, rfl⟩ := List.mem_map.mp hx; exact pgD_ok (h p hp)
  · have : (l.map pgD).all headI = true := by simp [pgD, headI]
    simp [oneKind, this]
  · obtain ⟨p, _, rfl⟩ := List.mem_map.mp hx
    obtain ⟨q, _, rfl⟩ := List.mem_map.mp hy
    exact pgD_some p q
/-- how much repr tells of a deed -/
theorem wts_strs : ∀ (l : List (List Nat)) (k : Nat), (∀ s ∈ l, s.length ≤ k) → D.wts (l.map D.str) ≤ l.length * (10 * k + 4)
  | [], _, _ => by simp [D.wts]
  | x :: l, k, h => by
    have h1 := h x (by simp)
    have h2 := wts_strs l k fun y hy => h y (by simp [hy])
    simp only [List.map_cons, D.wts, D.wt, List.length_cons, Nat.add_mul]
    omega
theorem wts_pairs : ∀ l : List (Int × Int), D.wts (l.map pairD) = l.length * 61
  | [] => by simp [D.wts]
  | x :: l => by
    have h2 := wts_pairs l
    simp only [List.map_cons, D.wts, D.wt, pairD, List.length_cons, Nat.add_mul, h2]
    omega
end LD
/-! PL6: the rivers and pages that laws draw. -/
namespace LD
def fdRiver (ip : Nat) : Fd := ⟨1, 6, [.asg (.pat (.name 1)) (.ix (.lst true [(.int 0), (.int 1), (.int 2), (.int 3), (.int 4), (.int 5), (.int 6), (.int 12)]) (.call true ip [(.var 0), (.int 8)])),
  .asg (.pat (.name 2)) (.call true ip [(.var 0), (.int 3)]),
  .asg (.pat (.name 3)) (.lst false []),
  .for (.name 4) .range1 [(.var 1)]
    [.asg (.pat (.name 5)) (.ite (.or [(.cmp .eq (.var 2) (.int 0)), (.cmp .gt (.call true ip [(.var 0), (.int 3)]) (.int 0))]) (.var 4) (.call true ip [(.var 0), (.bin .add true (.var 4) (.int 1))])),
    .ex (.mt .append true (.var 3) [(.tup [(.var 5), (.bin .add true (.int 1) (.call true ip [(.var 0), (.ix (.lst true [(.int 5), (.int 100)]) (.call true ip [(.var 0), (.int 2)]))]))])])],
  .ret (.bc .tuple true [(.var 3)])]⟩
/-- a river: each place's next one, and the miles -/
abbrev Rv := List (Int × Int)
def rvD (r : Rv) : D := .tup (r.map pairD)
structure RvOk (r : Rv) : Prop where
  len : r.length ≤ 12
  down : ∀ (k : Nat) (p : Int × Int), r[k]? = some p → 0 ≤ p.1 ∧ p.1 ≤ k ∧ 1 ≤ p.2 ∧ p.2 ≤ 100
theorem item_range {n : Int} {j : Nat} {it : Item} (h : ((rangeI 0 n.toNat).map Item.one)[j]? = some it) : it = .one (.d (.int j)) ∧ (j : Int) < n := by
  simp only [rangeI, List.map_map, List.getElem?_map, Option.map_eq_some_iff] at h
  obtain ⟨k, hk, rfl⟩ := h
  have h1 : j < n.toNat := by simpa using (List.getElem?_eq_some_iff.mp hk).1
  rw [List.getElem?_range h1] at hk
  cases hk
  exact ⟨by simp, by omega⟩
theorem river_ok {t : Tab} {ip : Nat} (hp : PickOk (t.fns ip)) : TpF (runFd t (fdRiver ip)) [] fun x => ∃ r, x = rvD r ∧ RvOk r := by
  refine tpF_of fun tp => ?_
  unfold fdRiver
  walk_at "l_start"
  walk_at "l_go"
  refine wp_pick hp rfl (by decide) (by decide) fun v tp1 v0 v1 => ?_
  walk_at "l_go"
  refine wp_ixM v0 (by simpa using v1) fun x hx => ?_
  obtain ⟨n, rfl, n0, n1⟩ : ∃ n : Int, x = .int n ∧ 0 ≤ n ∧ n ≤ 12 := by
    simp only [List.mem_cons, List.not_mem_nil, or_false] at hx
    rcases hx with rfl | rfl | rfl | rfl | rfl | rfl | rfl | rfl <;> exact ⟨_, rfl, by decide, by decide⟩
  walk_at "l_go"
  refine wp_pick hp rfl (by decide) (by decide) fun c tp2 c0 c1 => ?_
  walk_at "l_go"
  refine ⟨_, items_range1 (by omega), ?_⟩
  refine wps_forI (fun i ρ S => ∃ (k d : Option W) (r : Rv) (tp : Tp), ρ = [some (.ref 0), some (.d (.int n)), some (.d (.int c)), some (.ref 1), k, d] ∧ S = [tp.o, .lst ((r.map pairD).map .d)] ∧ RvOk r ∧ r.length = i) _ 0 _ _
    ⟨none, none, [], tp2, rfl, rfl, ⟨by simp, fun k p h => by simp at h⟩, rfl⟩ ?_ ?_
  · rintro j it ρ S hj ⟨k, d, r, tp, rfl, rfl, hr, hl⟩
    obtain ⟨rfl, hjn⟩ := item_range hj
    refine wps_turn (ρ' := [some (.ref 0), some (.d (.int n)), some (.d (.int c)), some (.ref 1), some (.d (.int j)), d]) rfl ?_
    walk_at "l_go"
    refine Wp.mono (Q := fun w S' => ∃ (e : Int) (tp' : Tp), w = .d (.int e) ∧ 0 ≤ e ∧ e ≤ j ∧ S' = [tp'.o, .lst ((r.map pairD).map .d)]) ?_ ?_
    · refine wp_ite ?_
      walk_at "l_go"
      refine wp_split (fun h => ?_) (fun h => ?_)
      · walk_at "l_go"
        exact ⟨j, tp, rfl, by omega, by omega, rfl⟩
      · walk_at "l_go"
        refine wp_pick hp rfl (by decide) (by decide) fun v tp3 v0 v1 => ?_
        walk_at "l_go"
        refine wp_split (fun h => ?_) (fun h => ?_)
        · walk_at "l_go"
          exact ⟨j, tp3, rfl, by omega, by omega, rfl⟩
        · walk_at "l_go"
          refine wp_pick hp rfl (by omega) (by omega) fun v tp4 v0 v1 => ?_
          exact ⟨v, tp4, rfl, v0, by omega, rfl⟩
    rintro w S ⟨e, tp3, rfl, e0, e1, rfl⟩
    walk_at "l_go"
    refine ⟨kind_lst (l := (r.map pairD).map .d) rfl rfl, ?_⟩
    walk_at "l_go"
    refine wp_pick hp rfl (by decide) (by decide) fun v tp4 v0 v1 => ?_
    walk_at "l_go"
    refine wp_ixM v0 (by simpa using v1) fun x hx => ?_
    obtain ⟨m, rfl, m0, m1⟩ : ∃ m : Int, x = .int m ∧ 0 < m ∧ m ≤ 100 := by
      simp only [List.mem_cons, List.not_mem_nil, or_false] at hx
      rcases hx with rfl | rfl <;> exact ⟨_, rfl, by decide, by decide⟩
    walk_at "l_go"
    refine wp_pick hp rfl m0 (by omega) fun v tp5 v0 v1 => ?_
    walk_at "l_go"
    have hln := hr.len
    refine wp_append rfl (by simp [LIM]; omega) ?_
    walk_at "l_go"
    refine ⟨_, _, r ++ [(e, 1 + v)], tp5, rfl, ?_, ⟨by simp; omega, fun q p hq => ?_⟩, by simp [hl]⟩
    · simp [pairD]
    · by_cases h : q < r.length
      · rw [List.getElem?_append_left h] at hq
        exact hr.down q p hq
      · rw [List.getElem?_append_right (by omega)] at hq
        have : q = r.length := by
          have := (List.getElem?_eq_some_iff.mp hq).1
          simp at this; omega
        subst this
        simp at hq
        subst hq
        simp only
        omega
  · rintro ρ S ⟨k, d, r, tp, rfl, rfl, hr, hl⟩
    refine ⟨rfl, ?_⟩
    walk_at "l_go"
    refine wp_tupleC rfl ?_
    exact ⟨_, tp, _, rfl, rfl, r, rfl, hr⟩
def stampsSome : List (List Nat) := [[65], [66], [65, 66], [65, 63], [63], [63, 63], [65, 66, 68, 69], [65, 63, 68, 63], [90], [63, 63, 63, 63]]
def fdStamps (ip : Nat) : Fd := ⟨1, 3, [.asg (.pat (.name 1)) (.lst true [(.str [65]), (.str [66]), (.str [65, 66]), (.str [65, 63]), (.str [63]), (.str [63, 63]), (.str [65, 66, 68, 69]), (.str [65, 63, 68, 63]), (.str [90]), (.str [63, 63, 63, 63])]),
  .ret (.bc .tuple true [(.comp true (.name 2) .range1 [(.call true ip [(.var 0), (.int 4)])] [] (.ix (.var 1) (.call true ip [(.var 0), (.int 10)])))])]⟩
theorem stamps_ok {t : Tab} {ip : Nat} (hp : PickOk (t.fns ip)) : TpF (runFd t (fdStamps ip)) [] fun x => ∃ st : List (List Nat), x = .tup (st.map .str) ∧ st.length ≤ 3 ∧ ∀ s ∈ st, s ∈ stampsSome := by
  refine tpF_of fun tp => ?_
  unfold fdStamps
  walk_at "l_start"
  walk_at "l_go"
  refine wp_pick hp rfl (by decide) (by decide) fun n tp1 n0 n1 => ?_
  walk_at "l_go"
  refine ⟨_, items_range1 (by omega), ?_⟩
  refine wp_compI (fun i acc S => ∃ (st : List (List Nat)) (tp : Tp), acc = (st.map D.str).map .d ∧ S = [tp.o] ∧ st.length = i ∧ ∀ s ∈ st, s ∈ stampsSome) _ 0 _ _ ⟨[], tp1, rfl, rfl, rfl, by simp⟩ ?_ ?_
  · rintro j it acc S hj ⟨st, tp, rfl, rfl, hl, hs⟩
    obtain ⟨rfl, hjn⟩ := item_range hj
    refine wp_cstep0 rfl ?_
    walk_at "l_go"
    refine wp_pick hp rfl (by decide) (by decide) fun v tp2 v0 v1 => ?_
    refine wp_ixM v0 (by simpa using v1) fun x hx => ?_
    obtain ⟨s, rfl, hs2⟩ : ∃ s, x = .str s ∧ s ∈ stampsSome := by
      simp only [List.mem_cons, List.not_mem_nil, or_false] at hx
      rcases hx with rfl | rfl | rfl | rfl | rfl | rfl | rfl | rfl | rfl | rfl <;> exact ⟨_, rfl, by decide⟩
    refine ⟨by simp [LIM]; omega, st ++ [s], tp2, by simp, rfl, by simp [hl], fun z hz => ?_⟩
    rcases List.mem_append.mp hz with h | h
    · exact hs z h
    · simp at h; exact h ▸ hs2
  · rintro acc S ⟨st, tp, rfl, rfl, hl, hs⟩
    refine ⟨rfl, ?_⟩
    refine wp_mkLF ?_
    walk_at "l_go"
    have : st.length ≤ 3 := by
      simp [rangeI] at hl; omega
    exact ⟨_, tp, [], rfl, rfl, st, rfl, this, hs⟩
end LD
/-! PL7: the deeds and pages that laws draw. -/
namespace LD
def ownersSome : List (List Nat) := [[97], [97, 98], [97, 110, 110], [98, 121], [122, 122, 122, 122, 122, 122, 122, 122]]
def brandsSome : List (List Nat) := [[65], [65, 66], [66], [65, 66, 68, 69]]
def numsSome : List Int := [1, 2, 9, 10, 11, 99, 100, 999]
def DdOk (n : Int) : Dd → Prop
  | .brand o b p => o ∈ ownersSome ∧ b ∈ brandsSome ∧ 0 ≤ p ∧ p ≤ n
  | .drop o b p => o ∈ ownersSome ∧ b ∈ brandsSome ∧ 0 ≤ p ∧ p ≤ n
  | .put l p st len gi => l ∈ numsSome ∧ (0 ≤ p ∧ p ≤ n) ∧ st.length ≤ 3 ∧ (∀ s ∈ st, s ∈ stampsSome) ∧ (1 ≤ len ∧ len ≤ 60) ∧ 1 ≤ gi ∧ gi ≤ 200
  | .seen l p => l ∈ numsSome ∧ 0 ≤ p ∧ p ≤ n
  | .sink l p => l ∈ numsSome ∧ 0 ≤ p ∧ p ≤ n
  | .rise l => l ∈ numsSome
  | .sell l p m => l ∈ numsSome ∧ (0 ≤ p ∧ p ≤ n) ∧ 0 ≤ m ∧ m ≤ 1000000
  | .jam p => 0 ≤ p ∧ p ≤ n
  | .free p => 0 ≤ p ∧ p ≤ n
  | .shut p => 0 ≤ p ∧ p ≤ n
  | .opn p => 0 ≤ p ∧ p ≤ n
  | .tally rows => rows ≠ [] ∧ rows.length ≤ 7 ∧ rows.Pairwise (fun a b => a.1 < b.1) ∧ ∀ r ∈ rows, (0 ≤ r.1 ∧ r.1 ≤ n) ∧ 0 ≤ r.2 ∧ r.2 ≤ 3
  | .owns p o m => (0 ≤ p ∧ p ≤ n) ∧ o ∈ ownersSome ∧ 0 ≤ m ∧ m ≤ 3
  | .cost p m => (0 ≤ p ∧ p ≤ n) ∧ 0 ≤ m ∧ m ≤ 1000000
  | .reckon => True
theorem wp_slToL {Q : W → Sto → Prop} {E : XP} {S : Sto} {l : List D} {i : Int} (h : 0 ≤ i) (q : Q (.d (.lst (l.take i.toNat))) S) : Wp (slice true (.d (.lst l)) none (some i) S) Q E := by
  refine wp_ok ?_ q
  show mkL true (cut (l.map W.d) 0 (clip (l.map W.d).length i)) S = _
  have e : cut (l.map W.d) 0 (clip (l.map W.d).length i) = (l.take i.toNat).map W.d := by
    unfold cut clip
    rw [if_pos h, List.drop_zero, List.map_take]
    rw [Nat.min_comm, List.take_eq_take_iff]
    omega
  rw [e]
  unfold mkL; rw [if_pos rfl, datas_d]
def fdSaid (ip : Nat) : Fd := ⟨3, 9, [.asg (.pat (.name 3)) (.ix (.lst true [(.str [97]), (.str [97, 98]), (.str [97, 110, 110]), (.str [98, 121]), (.str [122, 122, 122, 122, 122, 122, 122, 122])]) (.call true ip [(.var 0), (.int 5)])),
  .asg (.pat (.name 4)) (.ix (.lst true [(.str [65]), (.str [65, 66]), (.str [66]), (.str [65, 66, 68, 69])]) (.call true ip [(.var 0), (.int 4)])),
  .asg (.pat (.name 5)) (.ix (.lst true [(.call true ip [(.var 0), (.int 4)]), (.call true ip [(.var 0), (.int 1000001)])]) (.bin .fdiv true (.call true ip [(.var 0), (.int 4)]) (.int 3))),
  .asg (.pat (.name 6)) (.comp true (.name 8) .range1 [(.bin .add true (.bc .len true [(.var 1)]) (.int 1))] [(.or [(.cmp .eq (.var 8) (.var 2)), (.cmp .eq (.call true ip [(.var 0), (.int 4)]) (.int 0))])] (.tup [(.var 8), (.call true ip [(.var 0), (.int 4)])])),
  .asg (.pat (.name 6)) (.bc .tuple true [(.slTo true (.var 6) (.int 7))]),
  .asg (.pat (.name 7)) (.lst true [(.tup [(.str [106, 97, 109]), (.var 2)]), (.tup [(.str [102, 114, 101, 101]), (.var 2)]), (.tup [(.str [115, 104, 117, 116]), (.var 2)]), (.tup [(.str [111, 112, 101, 110]), (.var 2)]), (.tup [(.str [98, 114, 97, 110, 100]), (.var 3), (.var 4), (.var 2)])]),
  .asg (.pat (.name 7)) (.bin .add true (.var 7) (.lst true [(.tup [(.str [100, 114, 111, 112]), (.var 3), (.var 4), (.var 2)]), (.tup [(.str [111, 119, 110, 115]), (.var 2), (.var 3), (.call true ip [(.var 0), (.int 4)])]), (.tup [(.str [99, 111, 115, 116]), (.var 2), (.var 5)])])),
  .ret (.ix (.bin .add true (.var 7) (.lst true [(.tup [(.str [116, 97, 108, 108, 121]), (.var 6)]), (.tup [(.str [114, 101, 99, 107, 111, 110])]), (.tup [(.str [106, 97, 109]), (.var 2)]), (.tup [(.str [98, 114, 97, 110, 100]), (.var 3), (.var 4), (.var 2)])])) (.call true ip [(.var 0), (.int 12)]))]⟩
theorem said_ok {t : Tab} {ip : Nat} (hp : PickOk (t.fns ip)) {r : Rv} (hr : r.length ≤ 12) {p : Int} (p0 : 0 ≤ p) (p1 : p ≤ r.length) : TpF (runFd t (fdSaid ip)) [.d (rvD r), .d (.int p)] fun x => ∃ d : Dd, x = d.toD ∧ DdOk r.length d := by
  refine tpF_of fun tp => ?_
  unfold fdSaid
  walk_at "l_start"
  walk_at "l_go"
  refine wp_pick hp rfl (by decide) (by decide) fun v tp1 v0 v1 => ?_
  refine wp_ixM v0 (by simpa using v1) fun x hx => ?_
  obtain ⟨o, rfl, ho⟩ : ∃ o, x = .str o ∧ o ∈ ownersSome := by
    simp only [List.mem_cons, List.not_mem_nil, or_false] at hx
    rcases hx with rfl | rfl | rfl | rfl | rfl <;> exact ⟨_, rfl, by decide⟩
  clear hx v0 v1 v
  walk_at "l_go"
  refine wp_pick hp rfl (by decide) (by decide) fun v tp2 v0 v1 => ?_
  refine wp_ixM v0 (by simpa using v1) fun x hx => ?_
  obtain ⟨b, rfl, hb⟩ : ∃ o, x = .str o ∧ o ∈ brandsSome := by
    simp only [List.mem_cons, List.not_mem_nil, or_false] at hx
    rcases hx with rfl | rfl | rfl | rfl <;> exact ⟨_, rfl, by decide⟩
  clear hx v0 v1 v
  walk_at "l_go"
  refine wp_pick hp rfl (by decide) (by decide) fun v tp3 v0 v1 => ?_
  walk_at "l_go"
  refine wp_pick hp rfl (by decide) (by decide) fun w tp4 w0 w1 => ?_
  walk_at "l_go"
  refine wp_pick hp rfl (by decide) (by decide) fun z tp5 z0 z1 => ?_
  walk_at "l_go"
  refine wp_fdiv (by decide) (by decide) ?_
  refine wp_ixM (by omega) (by show z / 3 < 2; omega) fun x hx => ?_
  have hm : ∃ m : Int, x = D.int m ∧ (0 ≤ m ∧ m < 1000001) := by
    simp only [List.mem_cons, List.not_mem_nil, or_false] at hx
    rcases hx with e | e
    · exact ⟨_, e, v0, Int.lt_trans v1 (by decide)⟩
    · exact ⟨_, e, w0, w1⟩
  refine Exists.elim hm fun m hm => ?_
  have mb := hm.2
  have hm := hm.1
  subst hm
  clear hx v0 v1 v w0 w1 w z0 z1 z
  walk_at "l_step"; walk_at "l_step"; walk_at "l_step"
  unfold rvD
  walk_at "l_go"
  rw [List.length_map]
  refine ⟨_, items_range1 (by omega), ?_⟩
  refine wp_compI (fun i acc S => ∃ (rows : List (Int × Int)) (tp : Tp), acc = (rows.map pairD).map .d ∧ S = [tp.o] ∧ (p < i → rows ≠ []) ∧ rows.Pairwise (fun a b => a.1 < b.1) ∧ (∀ q ∈ rows, (0 ≤ q.1 ∧ q.1 < i) ∧ 0 ≤ q.2 ∧ q.2 ≤ 3) ∧ rows.length ≤ i) _ 0 _ _
    ⟨[], tp5, rfl, rfl, fun h => by omega, .nil, by simp, by simp⟩ ?_ ?_
  · rintro j it acc S hj ⟨rows, tp, rfl, rfl, h1, h2, h3, h4⟩
    obtain ⟨rfl, hjn⟩ := item_range hj
    refine wp_cstep rfl ?_
    refine Wp.mono (Q := fun w S' => ∃ (b : Bool) (tp' : Tp), w = .d (.bl b) ∧ ((j : Int) = p → b = true) ∧ S' = [tp'.o]) ?_ ?_
    · walk_at "l_go"
      refine wp_split (fun h => ?_) (fun h => ?_)
      · exact ⟨true, tp, rfl, fun _ => rfl, rfl⟩
      · walk_at "l_go"
        refine wp_pick hp rfl (by decide) (by decide) fun v tp6 v0 v1 => ?_
        walk_at "l_go"
        exact ⟨_, tp6, rfl, fun e => absurd e h, rfl⟩
    rintro w S ⟨bb, tp6, rfl, hbb, rfl⟩
    refine ⟨bb, rfl, ?_⟩
    cases bb with
    | false =>
      rw [if_neg (by simp)]
      refine ⟨rows, tp6, rfl, rfl, fun h => h1 (by have : ¬ (j : Int) = p := fun e => by cases hbb e
                                                   omega), h2, fun q hq => ?_, by omega⟩
      have := h3 q hq
      omega
    | true =>
      rw [if_pos rfl]
      walk_at "l_go"
      refine wp_pick hp rfl (by decide) (by decide) fun v tp7 v0 v1 => ?_
      walk_at "l_go"
      refine ⟨by simp [LIM]; omega, rows ++ [((j : Int), v)], tp7, by simp [pairD], rfl, fun _ => by simp, ?_, fun q hq => ?_, by simp; omega⟩
      · refine List.pairwise_append.mpr ⟨h2, by simp, fun a ha c hc => ?_⟩
        simp at hc
        subst hc
        have := (h3 a ha).1.2
        simp only
        omega
      · rcases List.mem_append.mp hq with h | h
        · have := h3 q h; omega
        · simp at h
          subst h
          simp only
          omega
  · rintro acc S ⟨rows, tp, rfl, rfl, h1, h2, h3, h4⟩
    refine ⟨rfl, ?_⟩
    have hlen : (List.map Item.one (rangeI 0 ((r.length : Int) + 1).toNat)).length = r.length + 1 := by
      simp [rangeI]
    rw [hlen] at h1 h3 h4
    refine wp_mkLF ?_
    walk_at "l_go"
    refine ⟨_, rfl, ?_⟩
    refine wp_slToL (by decide) ?_
    walk_at "l_go"
    refine wp_pick hp rfl (by decide) (by decide) fun v tp6 v0 v1 => ?_
    walk_at "l_go"
    refine wp_addL (by simp [LIM]) ?_
    walk_at "l_go"
    refine wp_addL (by simp [LIM]) ?_
    walk_at "l_go"
    refine wp_pick hp rfl (by decide) (by decide) fun w tp7 w0 w1 => ?_
    refine wp_ixM w0 (by simpa using w1) fun x hx => ?_
    walk_at "l_go"
    refine ⟨x, tp7, [], rfl, rfl, ?_⟩
    simp only [List.cons_append, List.nil_append, List.mem_cons, List.not_mem_nil, or_false] at hx
    rcases hx with rfl | rfl | rfl | rfl | rfl | rfl | rfl | rfl | rfl | rfl | rfl | rfl
    · exact ⟨.jam p, rfl, p0, p1⟩
    · exact ⟨.free p, rfl, p0, p1⟩
    · exact ⟨.shut p, rfl, p0, p1⟩
    · exact ⟨.opn p, rfl, p0, p1⟩
    · exact ⟨.brand o b p, rfl, ho, hb, p0, p1⟩
    · exact ⟨.drop o b p, rfl, ho, hb, p0, p1⟩
    · exact ⟨.owns p o v, rfl, ⟨p0, p1⟩, ho, v0, by omega⟩
    · exact ⟨.cost p m, rfl, ⟨p0, p1⟩, mb.1, Int.le_of_lt_add_one mb.2⟩
    · refine ⟨.tally (rows.take 7), by simp [Dd.toD, Dd.word, Dd.args, List.map_take], ?_, by simp; omega, h2.sublist (List.take_sublist _ _), fun q hq => ?_⟩
      · intro h
        have := h1 (by omega)
        cases rows with
        | nil => exact this rfl
        | cons a l => simp at h
      · have := h3 q (List.mem_of_mem_take hq)
        omega
    · exact ⟨.reckon, rfl, trivial⟩
    · exact ⟨.jam p, rfl, p0, p1⟩
    · exact ⟨.brand o b p, rfl, ho, hb, p0, p1⟩
end LD
/-! PL8: the pages that laws draw. -/
namespace LD
def spL (m : List (Int × Int)) : List (Ky × W) := m.map fun q => (.inl q.1, .d (.int q.2))
def spO (m : List (Int × Int)) : O := .dct (spL m)
def putI (m : List (Int × Int)) (k v : Int) : List (Int × Int) := if m.any (fun q => decide (q.1 = k)) = true then m.map (fun q => if q.1 = k then (q.1, v) else q) else m ++ [(k, v)]
theorem putK_sp (m : List (Int × Int)) (k v : Int) : putK (spL m) (.inl k) (.d (.int v)) = spL (putI m k v) := by
  unfold putK putI
  have e : (spL m).any (fun p => decide (p.1 = .inl k)) = m.any (fun q => decide (q.1 = k)) := by
    unfold spL
    rw [List.any_map]
    congr 1
    funext q
    simp
  rw [e]
  split
  · simp only [spL, List.map_map]
    apply List.map_congr_left
    intro q _
    simp only [Function.comp, Sum.inl.injEq]
    split <;> rfl
  · simp [spL]
theorem look_sp : ∀ (m : List (Int × Int)) (k : Int), lookK (spL m) (.inl k) = (m.lookup k).map fun v => W.d (.int v)
  | [], k => rfl
  | (a, b) :: m, k => by
    have ih := look_sp m k
    simp only [spL, List.map_cons, lookK, Sum.inl.injEq, List.lookup_cons] at ih ⊢
    by_cases h : a = k
    · subst h; simp
    · rw [if_neg h, ih]
      have : (k == a) = false := by simpa using fun e => h e.symm
      rw [this]
theorem putI_look (m : List (Int × Int)) (k v : Int) : (putI m k v).lookup k = some v := by
  unfold putI
  split
  · rename_i h
    induction m with
    | nil => simp at h
    | cons q m ih =>
      obtain ⟨a, b⟩ := q
      by_cases e : a = k
      · subst e; simp
      · have e2 : (k == a) = false := by simpa using fun z => e z.symm
        simp only [List.any_cons, Bool.or_eq_true, decide_eq_true_eq, e, false_or] at h
        simp only [List.map_cons, e, if_false, List.lookup_cons, e2]
        exact ih (by simpa using h)
  · rename_i h
    induction m with
    | nil => simp
    | cons q m ih =>
      obtain ⟨a, b⟩ := q
      simp only [List.any_cons, Bool.or_eq_true, decide_eq_true_eq, not_or] at h
      have e2 : (k == a) = false := by simpa using fun z => h.1 z.symm
      simp only [List.cons_append, List.lookup_cons, e2]
      exact ih (by simpa using h.2)
theorem putI_mem {m : List (Int × Int)} {k v : Int} {q : Int × Int} (h : q ∈ putI m k v) : q ∈ m ∨ q = (k, v) := by
  unfold putI at h
  split at h
  · obtain ⟨p, hp, rfl⟩ := List.mem_map.mp h
    split
    · rename_i e; exact .inr (by rw [← e])
    · exact .inl hp
  · rcases List.mem_append.mp h with h | h
    · exact .inl h
    · exact .inr (by simpa using h)
theorem putI_len (m : List (Int × Int)) (k v : Int) : (putI m k v).length ≤ m.length + 1 := by
  unfold putI; split <;> simp
def SpOk (n : Int) (m : List (Int × Int)) : Prop := ∀ q ∈ m, q.1 ∈ numsSome ∧ 0 ≤ q.2 ∧ q.2 ≤ n
theorem SpOk.put {n : Int} {m : List (Int × Int)} {k v : Int} (h : SpOk n m) (hk : k ∈ numsSome) (h0 : 0 ≤ v) (h1 : v ≤ n) : SpOk n (putI m k v) := fun q hq => by
  rcases putI_mem hq with e | e
  · exact h q e
  · subst e; exact ⟨hk, h0, h1⟩
theorem look_mem {m : List (Int × Int)} {k v : Int} (h : m.lookup k = some v) : (k, v) ∈ m := by
  induction m with
  | nil => simp at h
  | cons q m ih =>
    obtain ⟨a, b⟩ := q
    rw [List.lookup_cons] at h
    by_cases e : k = a
    · subst e; simp at h; simp [h]
    · have e2 : (k == a) = false := by simpa using e
      rw [e2] at h
      exact List.mem_cons_of_mem _ (ih h)
theorem look_some {m : List (Int × Int)} {k : Int} (h : k ∈ m.map (·.1)) : ∃ v, m.lookup k = some v := by
  induction m with
  | nil => simp at h
  | cons q m ih =>
    obtain ⟨a, b⟩ := q
    rw [List.lookup_cons]
    by_cases e : k = a
    · subst e; exact ⟨b, by simp⟩
    · have e2 : (k == a) = false := by simpa using e
      rw [e2]
      refine ih ?_
      simpa [e] using h
theorem ints_srt {l : List Int} (hl : l.length ≤ 1000000) : Srt (l.map .int) := by
  refine ⟨fun x hx => ?_, fun x hx => ?_, ?_, fun x hx y hy => ?_, by simpa using hl⟩
  · obtain ⟨p, _, rfl⟩ := List.mem_map.mp hx; rfl
  · obtain ⟨p, hp, rfl⟩ := List.mem_map.mp hx; rfl
  · have : (l.map D.int).all isI = true := by simp [isI]
    simp [oneKind, this]
  · obtain ⟨p, _, rfl⟩ := List.mem_map.mp hx
    obtain ⟨q, _, rfl⟩ := List.mem_map.mp hy
    rfl
section
variable {Q : W → Sto → Prop} {E : XP} {S : Sto}
theorem setAt_dct {n : Nat} {l : List (Ky × W)} {k : D} {kk : Ky} {v : W} (hS : S[n]? = some (.dct l)) (hk : keyOf k = some kk) (hl : l.length < LIM) : setAt (.ref n) (.d k) v S = some (S.set n (.dct (putK l kk v))) := by
  unfold setAt
  simp only [cellL, hS, cellD, hk, Option.bind_some, if_pos hl]
theorem wp_eqE {n : Nat} {l : List (Ky × W)} (hS : S[n]? = some (.dct l)) (q : Q (.d (.bl (decide (l = [])))) S) : Wp (cmpop .eq (.ref n) (.d (.dct [] [])) S) Q E := by
  refine wp_ok ?_ q
  show ofB (eqR (.ref n) (.d (.dct [] [])) S) S = _
  have : eqR (.ref n) (.d (.dct [] [])) S = some (decide (l = [])) := by
    unfold eqR
    simp only [dictOf, hS, List.map_nil, List.zip_nil_right]
    cases l <;> simp
  rw [this]; rfl
theorem wp_listD {n : Nat} {l : List (Ky × W)} (hS : S[n]? = some (.dct l)) (q : Q (.d (.lst (l.map fun kv => keyD kv.1))) S) : Wp (builtin .list true [.ref n] S) Q E := by
  refine wp_ok ?_ q
  unfold builtin
  simp only [seqOf, hS, dictOf, mkL, if_true]
  have := datas_d (l.map fun kv => keyD kv.1)
  rw [List.map_map] at this
  simp only [Function.comp_def] at this
  rw [this]
theorem wp_ixD {n : Nat} {l : List (Ky × W)} {k : D} {kk : Ky} {x : W} (hS : S[n]? = some (.dct l)) (hk : keyOf k = some kk) (h : lookK l kk = some x) (q : Q x S) : Wp (index (.ref n) (.d k) S) Q E := by
  refine wp_ok ?_ q
  unfold index
  simp only [dictOf, hS, hk, h]
end
def fdDeed (ip isd ist : Nat) : Fd := ⟨3, 8, [.asg (.pat (.name 3)) (.lst true [(.int 1), (.int 2), (.int 9), (.int 10), (.int 11), (.int 99), (.int 100), (.int 999)]),
  .par [6, 7] [(.call true ip [(.var 0), (.int 16)]), (.call true ip [(.var 0), (.bin .add true (.bc .len true [(.var 1)]) (.int 1))])],
  .asg (.pat (.name 4)) (.ix (.var 3) (.call true ip [(.var 0), (.int 8)])),
  .ite (.cmp .gt (.var 6) (.int 10))
    [.ret (.call true isd [(.var 0), (.var 1), (.var 7)])]
    [],
  .ite (.or [(.cmp .lt (.var 6) (.int 4)), (.cmp .eq (.var 2) (.dict true [] []))])
    [.asg (.sub (.var 2) (.var 4)) (.var 7),
    .ret (.tup [(.str [112, 117, 116]), (.var 4), (.var 7), (.call true ist [(.var 0)]), (.bin .add true (.int 1) (.call true ip [(.var 0), (.int 60)])), (.bin .add true (.int 1) (.call true ip [(.var 0), (.int 200)]))])]
    [],
  .asg (.pat (.name 4)) (.ix (.bc .sorted true [(.bc .list true [(.var 2)])]) (.call true ip [(.var 0), (.bc .len true [(.var 2)])])),
  .asg (.pat (.name 5)) (.ix (.var 2) (.var 4)),
  .ite (.cmp .lt (.var 6) (.int 8))
    [.asg (.sub (.var 2) (.var 4)) (.ite (.cmp .gt (.var 5) (.int 0)) (.ix (.ix (.var 1) (.bin .sub true (.var 5) (.int 1))) (.int 0)) (.int 0)),
    .ret (.tup [(.str [98, 121]), (.var 4), (.ix (.var 2) (.var 4))])]
    [],
  .ret (.ix (.lst true [(.tup [(.str [115, 105, 110, 107]), (.var 4), (.var 5)]), (.tup [(.str [114, 105, 115, 101]), (.var 4)]), (.tup [(.str [115, 101, 108, 108]), (.var 4), (.var 5), (.call true ip [(.var 0), (.int 1000001)])])]) (.bin .sub true (.var 6) (.int 8)))]⟩
theorem river_at {r : Rv} {k : Int} (hr : RvOk r) (h0 : 0 < k) (h1 : k ≤ r.length) : ∃ p : Int × Int, (r.map pairD)[(k - 1).toNat]? = some (pairD p) ∧ r[(k - 1).toNat]? = some p ∧ 0 ≤ p.1 ∧ p.1 ≤ k - 1 := by
  have hl : (k - 1).toNat < r.length := by omega
  refine ⟨r[(k - 1).toNat], ?_, List.getElem?_eq_getElem hl, ?_⟩
  · rw [List.getElem?_map, List.getElem?_eq_getElem hl]; rfl
  · have := hr.down _ _ (List.getElem?_eq_getElem hl)
    omega
theorem deed_ok {t : Tab} {ip isd ist : Nat} (hp : PickOk (t.fns ip)) {r : Rv} (hr : RvOk r) (hsd : ∀ p : Int, 0 ≤ p → p ≤ r.length → TpF (t.fns isd) [.d (rvD r), .d (.int p)] fun x => ∃ d : Dd, x = d.toD ∧ DdOk r.length d)
    (hst : TpF (t.fns ist) [] fun x => ∃ st : List (List Nat), x = .tup (st.map .str) ∧ st.length ≤ 3 ∧ ∀ s ∈ st, s ∈ stampsSome) (tp : Tp) (m : List (Int × Int)) (hm : SpOk r.length m) (hl : m.length < 1000) :
    Wp (runFd t (fdDeed ip isd ist) [.ref 0, .d (rvD r), .ref 1] [tp.o, spO m]) (fun w S => ∃ (d : Dd) (tp' : Tp) (m' : List (Int × Int)) (R : Sto), w = .d d.toD ∧ S = tp'.o :: spO m' :: R ∧ DdOk r.length d ∧ SpOk r.length m' ∧ m'.length ≤ m.length + 1) noE := by
  have hrl := hr.len
  unfold fdDeed rvD
  walk_at "l_start"
  walk_at "l_go"
  refine wp_pick hp rfl (by decide) (by decide) fun turn tp1 t0 t1 => ?_
  walk_at "l_go"
  rw [List.length_map]
  refine wp_pick hp rfl (by omega) (by omega) fun place tp2 p0 p1 => ?_
  walk_at "l_go"
  refine ⟨_, rfl, ?_⟩
  walk_at "l_go"
  refine wp_pick hp rfl (by decide) (by decide) fun v tp3 v0 v1 => ?_
  refine wp_ixM v0 (by simpa using v1) fun x hx => ?_
  obtain ⟨log, rfl, hlog⟩ : ∃ m : Int, x = .int m ∧ m ∈ numsSome := by
    simp only [List.mem_cons, List.not_mem_nil, or_false] at hx
    rcases hx with rfl | rfl | rfl | rfl | rfl | rfl | rfl | rfl <;> exact ⟨_, rfl, by decide⟩
  walk_at "l_go"
  refine wp_split (fun h => ?_) (fun h => ?_)
  · walk_at "l_go"
    refine wp_tape (tp := tp3) rfl (hsd place p0 (by omega)) rfl rfl ?_
    rintro _ tp4 ⟨d, rfl, hd⟩
    exact ⟨d, tp4, m, [], rfl, rfl, hd, hm, by omega⟩
  have hput : ∀ (tp : Tp), WpS (exs t [.asg (.sub (.var 2) (.var 4)) (.var 7),
    .ret (.tup [(.str [112, 117, 116]), (.var 4), (.var 7), (.call true ist [(.var 0)]), (.bin .add true (.int 1) (.call true ip [(.var 0), (.int 60)])), (.bin .add true (.int 1) (.call true ip [(.var 0), (.int 200)]))])]
    [some (.ref 0), some (.d (rvD r)), some (.ref 1), some (.d (.lst [.int 1, .int 2, .int 9, .int 10, .int 11, .int 99, .int 100, .int 999])), some (.d (.int log)), none, some (.d (.int turn)), some (.d (.int place))] [tp.o, spO m])
      ⟨fun _ _ => False, fun w S => ∃ (d : Dd) (tp' : Tp) (m' : List (Int × Int)) (R : Sto), w = .d d.toD ∧ S = tp'.o :: spO m' :: R ∧ DdOk r.length d ∧ SpOk r.length m' ∧ m'.length ≤ m.length + 1, fun _ _ => False, fun _ _ => False, fun _ _ _ _ => False⟩ := by
    intro tp
    walk_at "l_go"
    refine ⟨_, setAt_dct (l := spL m) rfl rfl (by simp [spL, LIM]; omega), ?_⟩
    rw [putK_sp]
    walk_at "l_go"
    refine wp_tape (tp := tp) rfl hst rfl rfl ?_
    rintro _ tp5 ⟨st, rfl, hs1, hs2⟩
    walk_at "l_go"
    refine wp_pick hp rfl (by decide) (by decide) fun a tp6 a0 a1 => ?_
    walk_at "l_go"
    refine wp_pick hp rfl (by decide) (by decide) fun b tp7 b0 b1 => ?_
    walk_at "l_go"
    exact ⟨.put log place st (1 + a) (1 + b), tp7, putI m log place, [], rfl, rfl, ⟨hlog, ⟨p0, by omega⟩, hs1, hs2, by omega, by omega⟩, hm.put hlog p0 (by omega), putI_len _ _ _⟩
  walk_at "l_go"
  refine wp_split (fun h4 => ?_) (fun h4 => ?_)
  · refine wp_true ?_
    exact (hput tp3).mono (fun _ _ h => h.elim) (fun _ _ h => h) (fun _ _ h => h.elim) (fun _ _ h => h.elim) (fun _ _ _ _ h => h.elim)
  walk_at "l_go"
  refine wp_ok (a := .d (.dct [] [])) rfl ?_
  refine wp_eqE (l := spL m) rfl ?_
  refine wp_split (fun he => ?_) (fun he => ?_)
  · exact (hput tp3).mono (fun _ _ h => h.elim) (fun _ _ h => h) (fun _ _ h => h.elim) (fun _ _ h => h.elim) (fun _ _ _ _ h => h.elim)
  have hpos : 0 < m.length := by
    cases m with
    | nil => exact absurd rfl he
    | cons a l => simp
  walk_at "l_go"
  refine wp_listD (l := spL m) rfl ?_
  walk_at "l_go"
  have ek : ((spL m).map fun kv => keyD kv.1) = (m.map (·.1)).map D.int := by simp [spL, keyD, Function.comp_def]
  rw [ek]
  refine wp_sortedL (ints_srt (by simp; omega)) ?_
  walk_at "l_go"
  refine wp_lenD (l := spL m) rfl ?_
  have el : (spL m).length = m.length := by simp [spL]
  rw [el]
  walk_at "l_go"
  refine wp_pick hp rfl (by omega) (by omega) fun v tp4 v0 v1 => ?_
  refine wp_ixM v0 (by rw [srt_len]; simpa using v1) fun x hx => ?_
  rw [mem_srt] at hx
  obtain ⟨lg, hlg, rfl⟩ := List.mem_map.mp hx
  obtain ⟨here, hh⟩ := look_some hlg
  have hq := hm _ (look_mem hh)
  walk_at "l_go"
  refine wp_ixD (l := spL m) (x := .d (.int here)) rfl rfl (by rw [look_sp, hh]; rfl) ?_
  walk_at "l_go"
  refine wp_split (fun h8 => ?_) (fun h8 => ?_)
  · walk_at "l_step"; walk_at "l_step"
    refine Wp.mono (Q := fun w S' => S' = [tp4.o, spO m] ∧ ∃ e : Int, w = .d (.int e) ∧ 0 ≤ e ∧ e ≤ r.length) ?_ ?_
    · refine wp_ite ?_
      walk_at "l_go"
      refine wp_split (fun hh0 => ?_) (fun hh0 => ?_)
      · obtain ⟨p, q1, q2, q3, q4⟩ := river_at hr hh0 hq.2.2
        walk_at "l_go"
        refine wp_ixT (by omega) q1 ?_
        walk_at "l_go"
        refine wp_ixT (by decide) rfl ?_
        exact ⟨rfl, _, rfl, q3, by omega⟩
      · walk_at "l_go"
        exact ⟨rfl, _, rfl, by decide, by omega⟩
    rintro w S ⟨rfl, e, rfl, e0, e1⟩
    walk_at "l_go"
    refine ⟨_, setAt_dct (l := spL m) rfl rfl (by simp [spL, LIM]; omega), ?_⟩
    rw [putK_sp]
    walk_at "l_go"
    refine wp_ixD (l := spL (putI m lg e)) (x := .d (.int e)) rfl rfl (by rw [look_sp, putI_look]; rfl) ?_
    walk_at "l_go"
    exact ⟨.seen lg e, tp4, putI m lg e, [], rfl, rfl, ⟨hq.1, e0, e1⟩, hm.put hq.1 e0 e1, putI_len _ _ _⟩
  · walk_at "l_go"
    refine wp_pick hp rfl (by decide) (by decide) fun v tp5 v0 v1 => ?_
    walk_at "l_go"
    refine wp_ixM (by omega) (by show turn - 8 < 3; omega) fun x hx => ?_
    have v2 : v ≤ 1000000 := Int.le_of_lt_add_one v1
    simp only [List.mem_cons, List.not_mem_nil, or_false] at hx
    rcases hx with rfl | rfl | rfl
    · exact ⟨.sink lg here, tp5, m, [], rfl, rfl, hq, hm, by omega⟩
    · exact ⟨.rise lg, tp5, m, [], rfl, rfl, hq.1, hm, by omega⟩
    · exact ⟨.sell lg here v, tp5, m, [], rfl, rfl, ⟨hq.1, hq.2, v0, v2⟩, hm, by omega⟩
def fdPages (ip idd : Nat) : Fd := ⟨3, 11, [.par [5, 6, 7] [(.dict false [] []), (.lst false []), (.int 0)],
  .asg (.pat (.name 3)) (.ix (.lst true [(.int 1), (.int 1), (.int 1600)]) (.call true ip [(.var 0), (.int 3)])),
  .for (.name 4) .range1 [(.var 2)]
    [.asg (.pat (.name 7)) (.bin .add true (.var 7) (.bin .mul true (.var 3) (.call true ip [(.var 0), (.int 3)]))),
    .asg (.pat (.name 8)) (.tup [(.var 7), (.call true idd [(.var 0), (.var 1), (.var 5)])]),
    .asg (.pat (.name 9)) (.cmp .lt (.bc .len true [(.comp true (.name 10) .seq [(.var 6)] [(.cmp .eq (.ix (.var 10) (.int 1)) (.tup [(.str [114, 101, 99, 107, 111, 110])]))] (.var 10))]) (.int 4)),
    .ite (.and [(.cmp .notin (.var 8) (.var 6)), (.or [(.var 9), (.cmp .ne (.ix (.var 8) (.int 1)) (.tup [(.str [114, 101, 99, 107, 111, 110])]))])])
      [.ex (.mt .append true (.var 6) [(.var 8)])]
      []],
  .ret (.frz (.var 6))]⟩
section
variable {Q : W → Sto → Prop} {E : XP} {S : Sto}
/-- a call that is handed two cells, with data between them -/
theorem wp_call_rdr {f : FnS} {a b : Nat} {x : D} {oa ob : O} (ha : S[a]? = some oa) (hb : S[b]? = some ob) (hab : a ≠ b) (fa : flatO oa = true) (fb : flatO ob = true)
    (h : Wp (f [.ref 0, .d x, .ref 1] [oa, ob]) (fun w T => ∃ (y : D) (oa' ob' : O) (R : Sto), w = .d y ∧ T = oa' :: ob' :: R ∧ flatO oa' = true ∧ flatO ob' = true ∧ Q (.d y) ((S.set a oa').set b ob')) noE) : Wp (callLoc f [.ref a, .d x, .ref b] S) Q E := by
  obtain ⟨w, T, e, y, oa', ob', R, rfl, rfl, f1, f2, q⟩ := ex_wp h
  unfold callLoc
  have e1 : refsOf [.ref a, .d x, .ref b] = [a, b] := rfl
  have e2 : getAll S [a, b] = some [oa, ob] := by simp [getAll, ha, hb, fa, fb]
  have e3 : renum 0 [.ref a, .d x, .ref b] = [.ref 0, .d x, .ref 1] := rfl
  rw [e1, e2]
  simp only
  rw [if_pos (by simp [hab]), e3, e]
  simp only
  rw [if_pos (by simp [f1, f2])]
  refine wpr ?_
  have e0 : putBack S [a, b] (oa' :: ob' :: R) = (S.set a oa').set b ob' := by
    show putBack ((S.set a oa').set b ob') [] R = _
    cases R <;> rfl
  rw [e0]; exact q
theorem all_d : ∀ {ws : List W}, (∀ w ∈ ws, ∃ x, w = W.d x) → ∃ ds : List D, ws = ds.map .d
  | [], _ => ⟨[], rfl⟩
  | w :: ws, h => by
    obtain ⟨x, rfl⟩ := h w (by simp)
    obtain ⟨ds, e⟩ := all_d (ws := ws) fun v hv => h v (by simp [hv])
    exact ⟨x :: ds, by rw [e]; rfl⟩
def rkW : W → Bool
  | .d (.tup [_, .tup [.str s]]) => decide (s = [114, 101, 99, 107, 111, 110])
  | _ => false
theorem rkW_iff (p : Pg) : rkW (.d (pgD p)) = true ↔ p.2.toD = D.tup [.str [114, 101, 99, 107, 111, 110]] := by
  obtain ⟨h, d⟩ := p
  cases d <;> simp [pgD, Dd.toD, Dd.args, Dd.word, rkW]
theorem spO_flat (m : List (Int × Int)) : flatO (spO m) = true := by
  show (datas ((spL m).map (·.2))).isSome = true
  have : (spL m).map (·.2) = (m.map fun q => D.int q.2).map W.d := by simp [spL, Function.comp_def]
  rw [this, datas_d]; rfl
end
theorem in_small {i : Int} (h0 : 0 ≤ i) (h1 : i ≤ 1000000) : inOk i := by unfold inOk; omega
theorem mem_tx {l : List (List Nat)} (hl : ∀ s ∈ l, ∀ c ∈ s, c < 1000) {s : List Nat} (h : s ∈ l) : txOk s := fun c hc => Nat.lt_trans (hl s h c hc) (by decide)
theorem DdOk.sm {n : Int} {d : Dd} (hn : n ≤ 12) (h : DdOk n d) : d.small := by
  have o1 : ∀ s ∈ ownersSome, ∀ c ∈ s, c < 1000 := by decide
  have o2 : ∀ s ∈ brandsSome, ∀ c ∈ s, c < 1000 := by decide
  have o3 : ∀ s ∈ stampsSome, ∀ c ∈ s, c < 1000 := by decide
  have o4 : ∀ i ∈ numsSome, 0 ≤ i ∧ i ≤ 1000000 := by decide
  have g : ∀ {i : Int}, i ∈ numsSome → inOk i := fun h => in_small (o4 _ h).1 (o4 _ h).2
  have pl : ∀ {p : Int}, 0 ≤ p ∧ p ≤ n → inOk p := fun h => in_small h.1 (by omega)
  cases d <;> simp only [DdOk, Dd.small] at h ⊢
  · exact ⟨mem_tx o1 h.1, mem_tx o2 h.2.1, pl h.2.2⟩
  · exact ⟨mem_tx o1 h.1, mem_tx o2 h.2.1, pl h.2.2⟩
  · exact ⟨g h.1, pl h.2.1, fun s hs => mem_tx o3 (h.2.2.2.1 s hs), in_small (by omega) (by omega), in_small (by omega) (by omega)⟩
  · exact ⟨g h.1, pl h.2⟩
  · exact ⟨g h.1, pl h.2⟩
  · exact g h
  · exact ⟨g h.1, pl h.2.1, in_small h.2.2.1 h.2.2.2⟩
  · exact pl h
  · exact pl h
  · exact pl h
  · exact pl h
  · exact fun r hr => ⟨pl (h.2.2.2 r hr).1, in_small (by have := (h.2.2.2 r hr).2; omega) (by have := (h.2.2.2 r hr).2; omega)⟩
  · exact ⟨pl h.1, mem_tx o1 h.2.1, in_small (by omega) (by omega)⟩
  · exact ⟨pl h.1, in_small h.2.1 h.2.2⟩
structure PgsOk (n : Int) (many : Nat) (l : List Pg) : Prop where
  nd : l.Nodup
  len : l.length ≤ many
  ok : ∀ p ∈ l, (0 ≤ p.1 ∧ p.1 ≤ 3200 * many) ∧ DdOk n p.2
theorem pages_ok {t : Tab} {ip idd : Nat} (hp : PickOk (t.fns ip)) {r : Rv} (hr : RvOk r)
    (hdd : ∀ (tp : Tp) (m : List (Int × Int)), SpOk r.length m → m.length < 1000 → Wp (t.fns idd [.ref 0, .d (rvD r), .ref 1] [tp.o, spO m]) (fun w S => ∃ (d : Dd) (tp' : Tp) (m' : List (Int × Int)) (R : Sto), w = .d d.toD ∧ S = tp'.o :: spO m' :: R ∧ DdOk r.length d ∧ SpOk r.length m' ∧ m'.length ≤ m.length + 1) noE)
    {many : Nat} (hmany : many ≤ 200) : TpF (runFd t (fdPages ip idd)) [.d (rvD r), .d (.int many)] fun x => ∃ l : List Pg, x = .lst (l.map pgD) ∧ PgsOk r.length many l := by
  have hrl := hr.len
  refine tpF_of fun tp => ?_
  unfold fdPages
  walk_at "l_start"
  walk_at "l_go"
  refine wp_ok (a := .ref 1) rfl ?_
  walk_at "l_go"
  refine ⟨_, rfl, ?_⟩
  walk_at "l_go"
  refine wp_pick hp rfl (by decide) (by decide) fun v tp1 v0 v1 => ?_
  refine wp_ixM v0 (by simpa using v1) fun x hx => ?_
  obtain ⟨st, rfl, st0, st1⟩ : ∃ m : Int, x = .int m ∧ 0 ≤ m ∧ m ≤ 1600 := by
    simp only [List.mem_cons, List.not_mem_nil, or_false] at hx
    rcases hx with rfl | rfl | rfl <;> exact ⟨_, rfl, by decide, by decide⟩
  walk_at "l_go"
  refine ⟨_, items_range1 (by omega), ?_⟩
  refine wps_forI (fun i ρ S => ∃ (k pg fw : Option W) (one : Option W) (hour : Int) (l : List Pg) (m : List (Int × Int)) (tp : Tp), ρ = [some (.ref 0), some (.d (rvD r)), some (.d (.int many)), some (.d (.int st)), k, some (.ref 1), some (.ref 2), some (.d (.int hour)), pg, fw, one] ∧
      S = [tp.o, spO m, .lst ((l.map pgD).map .d)] ∧ PgsOk r.length i l ∧ SpOk r.length m ∧ m.length ≤ i ∧ 0 ≤ hour ∧ hour ≤ 3200 * i) _ 0 _ _
    ⟨none, none, none, none, 0, [], [], tp1, rfl, rfl, ⟨by simp, by simp, by simp⟩, fun q hq => by simp at hq, by simp, by decide, by decide⟩ ?_ ?_
  · rintro j it ρ S hj ⟨k, pg, fw, one, hour, l, m, tp, rfl, rfl, hl, hm, hml, h0, h1⟩
    obtain ⟨rfl, hjn⟩ := item_range hj
    refine wps_turn (ρ' := [some (.ref 0), some (.d (rvD r)), some (.d (.int many)), some (.d (.int st)), some (.d (.int j)), some (.ref 1), some (.ref 2), some (.d (.int hour)), pg, fw, one]) rfl ?_
    walk_at "l_go"
    refine wp_pick hp rfl (by decide) (by decide) fun v tp2 v0 v1 => ?_
    refine wp_mul (by rw [big_of (by omega)]; rfl) ?_
    have hh0 : 0 ≤ st * v := Int.mul_nonneg st0 v0
    have hh1 : st * v ≤ 3200 := by
      have := Int.mul_le_mul st1 (show v ≤ 2 by omega) v0 (by decide)
      omega
    generalize st * v = sv at hh0 hh1
    walk_at "l_go"
    refine wp_call_rdr (oa := tp2.o) (ob := spO m) rfl rfl (by decide) (tp_flat _) (spO_flat m) ((hdd tp2 m hm (by omega)).mono ?_)
    rintro w T ⟨d, tp3, m', R, rfl, rfl, hd, hm', hml'⟩
    refine ⟨_, tp3.o, spO m', R, rfl, rfl, tp_flat _, spO_flat _, ?_⟩
    walk_at "l_go"
    have hps : pgSmall (hour + sv, d) := ⟨by unfold inOk; omega, hd.sm (by omega)⟩
    have hls : ∀ p ∈ l, pgSmall p := fun p hpp => ⟨by have := (hl.ok p hpp).1; unfold inOk; omega, (hl.ok p hpp).2.sm (by omega)⟩
    refine ⟨(liveI 2 ((l.map pgD).map W.d).length, some (2, ((l.map pgD).map W.d).length)), rfl, ?_⟩
    have hll := hl.len
    refine wp_compC (fun _ w => if rkW w = true then some w else none) (by simp [finOk]) (fun i w hi => ?_) (by simp [LIM]; omega) ?_
    · have hi' := hi
      rw [List.getElem?_map, List.getElem?_map] at hi
      obtain ⟨y, hy, rfl⟩ := Option.map_eq_some_iff.mp hi
      obtain ⟨p, hpp, rfl⟩ := Option.map_eq_some_iff.mp hy
      have hmem : p ∈ l := List.mem_of_getElem? hpp
      refine eq_wp ?_
      refine wp_cstep (by rw [itemSet_live (l := (l.map pgD).map W.d) rfl rfl hi']; rfl) ?_
      · walk_at "l_go"
        refine wp_ixT (by decide) rfl ?_
        walk_at "l_go"
        refine wp_eqD (toD_nb _) rfl (toD_ok (hls p hmem).2) (by decide) ?_
        refine wp_split (fun h => ?_) (fun h => ?_)
        · walk_at "l_go"
          refine ⟨?_, rfl⟩
          rw [if_pos ((rkW_iff p).mpr h)]
        · refine ⟨?_, rfl⟩
          rw [if_neg (fun z => h ((rkW_iff p).mp z))]
    obtain ⟨ds, hds⟩ := all_d (ws := (List.range ((l.map pgD).map W.d).length).filterMap fun i => (((l.map pgD).map W.d)[i]?).bind (fun w => if rkW w = true then some w else none)) (fun w hw => by
      obtain ⟨i, _, hi⟩ := List.mem_filterMap.mp hw
      obtain ⟨z, hz, hz2⟩ := Option.bind_eq_some_iff.mp hi
      rw [List.getElem?_map] at hz
      obtain ⟨y, _, rfl⟩ := Option.map_eq_some_iff.mp hz
      split at hz2
      · cases hz2; exact ⟨_, rfl⟩
      · cases hz2)
    rw [hds]
    refine wp_mkLF ?_
    walk_at "l_go"
    generalize decide ((ds.length : Int) < 4) = few
    have hb : ∀ p ∈ l, (0 ≤ p.1 ∧ p.1 ≤ 3200 * ((0 + j + 1 : Nat) : Int)) ∧ DdOk r.length p.2 := fun p hpp => by
      have := hl.ok p hpp
      exact ⟨⟨this.1.1, by omega⟩, this.2⟩
    refine wp_notinC (l := l.map pgD) rfl (x := pgD (hour + sv, d)) (pgD_nb _) (fun y hy => by obtain ⟨p, _, rfl⟩ := List.mem_map.mp hy; exact pgD_nb p) (pgD_ok hps) (fun y hy => by obtain ⟨p, hp2, rfl⟩ := List.mem_map.mp hy; exact pgD_ok (hls p hp2)) ?_
    refine wp_splitN (fun hni => ?_) (fun _ => ?_)
    · have hni2 : (hour + sv, d) ∉ l := fun z => hni (List.mem_map.mpr ⟨_, z, rfl⟩)
      refine Wp.mono (Q := fun w S' => S' = [tp3.o, spO m', .lst ((l.map pgD).map W.d)] ∧ ∃ b, w = .d (.bl b)) ?_ ?_
      · walk_at "l_go"
        refine ⟨few, rfl, ?_⟩
        cases few with
        | true => rw [if_pos rfl]; exact ⟨rfl, _, rfl⟩
        | false =>
          rw [if_neg (by simp)]
          walk_at "l_go"
          refine wp_ixT (by decide) rfl ?_
          walk_at "l_go"
          refine wp_neD (toD_nb _) rfl (toD_ok hps.2) (by decide) ?_
          exact ⟨rfl, _, rfl⟩
      rintro w S ⟨rfl, b, rfl⟩
      refine ⟨b, rfl, ?_⟩
      cases b with
      | false =>
        rw [if_neg (by simp)]
        walk_at "l_go"
        exact ⟨_, _, _, one, hour + sv, l, m', tp3, rfl, rfl, ⟨hl.nd, by omega, hb⟩, hm', by omega, by omega, by omega⟩
      | true =>
        rw [if_pos rfl]
        walk_at "l_go"
        refine ⟨kind_lst (l := (l.map pgD).map W.d) rfl rfl, ?_⟩
        walk_at "l_go"
        refine wp_append rfl (by simp [LIM]; omega) ?_
        walk_at "l_go"
        refine ⟨_, _, _, one, hour + sv, l ++ [(hour + sv, d)], m', tp3, rfl, ?_, ⟨?_, by simp; omega, fun p hpp => ?_⟩, hm', by omega, by omega, by omega⟩
        · simp [pgD]
        · exact List.nodup_append.mpr ⟨hl.nd, by simp, fun a ha b hb2 => by simp at hb2; subst hb2; exact fun e => hni2 (e ▸ ha)⟩
        · rcases List.mem_append.mp hpp with h | h
          · exact hb p h
          · simp at h
            subst h
            exact ⟨by simp only; omega, hd⟩
    · walk_at "l_go"
      exact ⟨_, _, _, one, hour + sv, l, m', tp3, rfl, rfl, ⟨hl.nd, by omega, hb⟩, hm', by omega, by omega, by omega⟩
  · rintro ρ S ⟨k, pg, fw, one, hour, l, m, tp, rfl, rfl, hl, hm, hml, h0, h1⟩
    refine ⟨rfl, ?_⟩
    walk_at "l_go"
    refine frz_lst rfl ?_
    have e : 0 + (List.map Item.one (rangeI 0 ((many : Int)).toNat)).length = many := by simp [rangeI]
    rw [e] at hl
    exact ⟨_, tp, _, rfl, rfl, l, rfl, hl⟩
end LD
/-! PL9: frozen dicts, joins, more steps. -/
namespace LD
abbrev Ps := List (Ky × D)
/-- a frozen dict -/
def dictP (ps : Ps) : D := .dct (ps.map (·.1)) (ps.map (·.2))
def pairP (q : Ky × D) : D := .tup [keyD q.1, q.2]
theorem dictOf_P (ps : Ps) (S : Sto) : dictOf (.d (dictP ps)) S = some (ps.map fun q => (q.1, W.d q.2)) := by
  show some ((ps.map (·.1)).zip ((ps.map (·.2)).map W.d)) = _
  congr 1
  induction ps with
  | nil => rfl
  | cons q ps ih => simp only [List.map_cons, List.zip_cons_cons, ih]
theorem look_P : ∀ (ps : Ps) (k : Ky), lookK (ps.map fun q => (q.1, W.d q.2)) k = (lookK ps k).map W.d
  | [], _ => rfl
  | (a, b) :: ps, k => by
    simp only [List.map_cons, lookK]
    split
    · rfl
    · exact look_P ps k
theorem keyOf_keyD (k : Ky) : keyOf (keyD k) = some k := by cases k <;> rfl
theorem pairsOf_P : ∀ (ps : Ps) (S : Sto), pairsOf ((ps.map pairP).map W.d) S = some (ps.map fun q => (q.1, W.d q.2))
  | [], _ => rfl
  | q :: ps, S => by
    simp only [List.map_cons, pairsOf, pairP, seqTup, List.map_nil, keyOf_keyD]
    rw [pairsOf_P ps S]; rfl
theorem putAll_nd : ∀ (m acc : List (Ky × W)), (acc ++ m).map (·.1) |>.Nodup → putAll acc m = acc ++ m
  | [], acc, _ => by simp [putAll]
  | (k, v) :: m, acc, h => by
    have hk : acc.any (fun p => decide (p.1 = k)) = false := by
      rw [List.any_eq_false]
      intro p hp e
      simp only [decide_eq_true_eq] at e
      rw [List.map_append, List.nodup_append] at h
      exact h.2.2 p.1 (List.mem_map.mpr ⟨p, hp, rfl⟩) k (by simp) e
    unfold putAll putK
    rw [hk, if_neg (by simp)]
    rw [putAll_nd m (acc ++ [(k, v)]) (by simpa using h)]
    simp
section
variable {Q : W → Sto → Prop} {E : XP} {S : Sto}
theorem wp_dictT {ps : Ps} (hn : (ps.map (·.1)).Nodup) (q : Q (.d (dictP ps)) S) : Wp (builtin .dict true [.d (.tup (ps.map pairP))] S) Q E := by
  refine wp_ok ?_ q
  unfold builtin
  simp only [dictOf, dctSrc, Option.bind_some, pairsOf_P]
  rw [putAll_nd _ [] (by simpa [Function.comp_def] using hn), List.nil_append]
  unfold mkD
  rw [if_pos rfl]
  have e1 : ((ps.map fun q => (q.1, W.d q.2)).map (·.2)) = (ps.map (·.2)).map W.d := by simp [Function.comp_def]
  have e2 : ((ps.map fun q => (q.1, W.d q.2)).map (·.1)) = ps.map (·.1) := by simp [Function.comp_def]
  rw [e1, e2, datas_d]; rfl
theorem wp_ixP {ps : Ps} {k : D} {kk : Ky} {x : D} (hk : keyOf k = some kk) (h : lookK ps kk = some x) (q : Q (.d x) S) : Wp (index (.d (dictP ps)) (.d k) S) Q E := by
  refine wp_ok ?_ q
  have := dictOf_P ps S
  unfold index
  split
  · rename_i heq _; cases heq
  · rw [this]
    simp only [hk, look_P, h, Option.map_some]
theorem wp_get2P {fz : Bool} {ps : Ps} {k z : D} {kk : Ky} (hk : keyOf k = some kk) (q : Q (.d ((lookK ps kk).getD z)) S) : Wp (method .get2 fz (.d (dictP ps)) [.d k, .d z] S) Q E := by
  refine wp_ok ?_ q
  unfold method
  simp only [dictOf_P, hk, look_P]
  cases lookK ps kk <;> rfl
theorem kind_P {ps : Ps} : kindOk .get2 (.d (dictP ps)) S = true := by
  unfold kindOk
  simp only [dictOf_P]
  rfl
theorem texts_d : ∀ ts : List (List Nat), texts (ts.map fun t => W.d (.str t)) = some ts
  | [] => rfl
  | t :: ts => by simp [texts, texts_d ts]
theorem wp_joinL {fz : Bool} {sep : List Nat} {ts : List (List Nat)} (h : (ts.map List.length).sum + ts.length * sep.length ≤ LIM) (q : Q (.d (.str (TL.joinL sep ts))) S) : Wp (method .join fz (.d (.str sep)) [.d (.lst (ts.map .str))] S) Q E := by
  refine wp_ok ?_ q
  unfold method
  simp only [seqOf, List.map_map, Function.comp_def, Option.bind_some, texts_d, if_pos h]
theorem sum_ones {α : Type} : ∀ l : List α, (l.map fun _ => 1).sum = l.length
  | [] => rfl
  | a :: l => by simp [sum_ones l]; omega
theorem flat_ones {α β : Type} (f : α → β) : ∀ l : List α, (l.map fun c => [f c]).flatten = l.map f
  | [] => rfl
  | a :: l => by simp only [List.map_cons, List.flatten_cons, flat_ones f l]; rfl
theorem joinL_nil : ∀ ts : List (List Nat), TL.joinL [] ts = ts.flatten
  | [] => rfl
  | [p] => by simp [TL.joinL]
  | p :: q :: r => by simp [TL.joinL, joinL_nil (q :: r)]
theorem items_str {s : List Nat} : itemsOf .seq [.d (.str s)] S = some (s.map fun c => .one (.d (.str [c])), none) := rfl
theorem items_tup {l : List D} : itemsOf .seq [.d (.tup l)] S = some (l.map fun x => .one (.d x), none) := by simp [itemsOf, cellL, fixOf]
theorem items_lst {l : List D} : itemsOf .seq [.d (.lst l)] S = some (l.map fun x => .one (.d x), none) := by simp [itemsOf, cellL, fixOf]
/-- a comprehension that changes nothing, each item its thing -/
theorem wp_compD {α : Type} {step : Item → Sto → R (Option W)} {Qs : List W → Sto → Prop} (item : α → Item) (g : α → D) (xs : List α) (h : ∀ x ∈ xs, step (item x) S = .ok (some (.d (g x))) S) (hl : xs.length ≤ LIM) (q : Qs ((xs.map g).map .d) S) :
    Wp (compL step none (xs.map item) [] S) Qs E := by
  refine wp_compM item (fun x => some (.d (g x))) xs [] h (by simpa using hl) ?_
  have : xs.filterMap (fun x => some (W.d (g x))) = (xs.map g).map W.d := by
    rw [List.map_map, ← List.filterMap_eq_map]; rfl
  rw [List.nil_append, this]; exact q
theorem wp_inT' {x : D} {l : List D} (h : (D.nb x && D.nbs l && okD x && l.all okD) = true) (q : Q (.d (.bl (decide (x ∈ l)))) S) : Wp (cmpop .isin (.d x) (.d (.tup l)) S) Q E := by
  simp only [Bool.and_eq_true, List.all_eq_true] at h
  exact wp_inT h.1.1.1 (nbs_iff.mp h.1.1.2) h.1.2 h.2 q
theorem wp_inL' {x : D} {l : List D} (h : (D.nb x && D.nbs l && okD x && l.all okD) = true) (q : Q (.d (.bl (decide (x ∈ l)))) S) : Wp (cmpop .isin (.d x) (.d (.lst l)) S) Q E := by
  simp only [Bool.and_eq_true, List.all_eq_true] at h
  exact wp_inL h.1.1.1 (nbs_iff.mp h.1.1.2) h.1.2 h.2 q
theorem wp_eqD' {x y : D} (h : (D.nb x && D.nb y && okD x && okD y) = true) (q : Q (.d (.bl (decide (x = y)))) S) : Wp (cmpop .eq (.d x) (.d y) S) Q E := by
  simp only [Bool.and_eq_true] at h
  exact wp_eqD h.1.1.1 h.1.1.2 h.1.2 h.2 q
theorem wp_slFromT {fz : Bool} {l : List D} {i : Int} (h : 0 ≤ i) (q : Q (.d (.tup (l.drop i.toNat))) S) : Wp (slice fz (.d (.tup l)) (some i) none S) Q E := by
  refine wp_ok ?_ q
  show R.ok (W.d (.tup (cut l (clip l.length i) l.length))) S = _
  congr 3
  unfold cut clip
  rw [if_pos h, List.take_length]
  rcases Nat.lt_or_ge i.toNat l.length with h2 | h2
  · rw [Nat.min_eq_right (Nat.le_of_lt h2)]
  · rw [Nat.min_eq_left h2, List.drop_length, List.drop_eq_nil_of_le h2]
end
theorem wps_forNil {K : Pk} {turn : Item → Rho → Sto → RS} {f : Option (Nat × Nat)} {ρ : Rho} {S : Sto} (h : finOk f S = true) (q : K.nx ρ S) : WpS (forL turn f [] ρ S) K := by
  unfold forL; rw [if_pos h, wps_nxE]; exact q
theorem wps_forCons {K : Pk} {turn : Item → Rho → Sto → RS} {f : Option (Nat × Nat)} {it : Item} {l : List Item} {ρ : Rho} {S : Sto}
    (h0 : WpS (turn it ρ S) ⟨fun ρ S => WpS (forL turn f l ρ S) K, K.rt, K.nx, fun ρ S => WpS (forL turn f l ρ S) K, K.ex⟩) : WpS (forL turn f (it :: l) ρ S) K := by
  unfold forL
  generalize turn it ρ S = r at h0 ⊢
  cases r with
  | nx ρ S => rw [wps_nxE] at h0; exact h0
  | ct ρ S => rw [wps_ctE] at h0; exact h0
  | br ρ S => rw [wps_brE] at h0; rw [wps_nxE]; exact h0
  | rt w S => rw [wps_rtE] at h0 ⊢; exact h0
  | exc c fs ρ S => rw [wps_excE] at h0 ⊢; exact h0
  | bad => rw [wps_badE] at h0; exact h0.elim
theorem wp_tupleW {Q : W → Sto → Prop} {E : XP} {S : Sto} {fz : Bool} {n : Nat} {ws : List W} {l : List D} (hS : S[n]? = some (.lst ws)) (h : Ds ws l) (q : Q (.d (.tup l)) S) : Wp (builtin .tuple fz [.ref n] S) Q E := wp_ok (by unfold builtin; simp [seqTup, lsOf, mkT, h.datas, hS]) q
end LD
local macro_rules | `(tactic| walk_at "l_dec") => `(tactic| first | (with_reducible refine' LD.wp_yes ?p1 ?_; (case p1 => (simp [LD.Dd.word, LD.Dd.args]; done))) | (with_reducible refine' LD.wp_no ?p1 ?_; (case p1 => (simp [LD.Dd.word, LD.Dd.args]; done))))
local macro_rules | `(tactic| walk_at "l_norm") => `(tactic| try simp only [List.set_cons_succ, List.set_cons_zero, List.nil_append, List.cons_append, List.length_cons, List.length_nil, Nat.zero_add, Nat.reduceAdd])
local macro_rules | `(tactic| walk_at "l_more") => `(tactic| first
  | walk_at "l_step"
  | (with_reducible refine LD.wp_ixT (by decide) (by with_unfolding_all rfl) ?_)
  | (refine LD.wp_ixT (by decide) (by with_unfolding_all rfl) ?_)
  | (with_reducible refine LD.wp_inT' (by with_unfolding_all rfl) ?_)
  | (with_reducible refine LD.wp_slFromT (by decide) ?_)
  | (with_reducible refine LD.wp_addT (by simp [LD.LIM, LD.Dd.args]; try omega) ?_)
  | (refine ⟨_, rfl, ?_⟩; refine LD.wp_slFromT (by decide) ?_)
  | (with_reducible refine LD.wp_eqD' (by with_unfolding_all rfl) ?_)
  | (refine ⟨LD.kind_lst (by with_unfolding_all rfl) rfl, ?_⟩)
  | (with_reducible refine LD.wp_append (by with_unfolding_all rfl) (by simp [LD.LIM]) ?_)
  | ((with_reducible show LD.WpS (LD.forL _ _ _ _ _) _); walk_at "l_norm"; first | refine LD.wps_forCons (LD.wps_turn (by with_unfolding_all rfl) ?_) | refine LD.wps_forNil (by with_unfolding_all rfl) ?_)
  | (with_reducible refine LD.wp_tupleW (by with_unfolding_all rfl) (by with_unfolding_all walk_at "l_ds") ?_)
  | walk_at "l_dec")
namespace K78
open PySem L2 LD
/-- the statements of the program's top -/
def top (i : Nat) : Stmt := PySem.Challenge.pw_logdrive_k78_names_turned.main.body.getD i (.Pass ⟨0, 0, 0, 0⟩)
/-! 0: _law_contrary(_law_renaming_here); names 0=_law_renaming_here 1=_law_some 2=_law_words 3=_law_signs 4=_law_pairs 5=_law_hours 6=_law_one 7=_law_elder 8=_law_newer -/
def fd0 : Fd := ⟨1, 9, [.asg (.pat (.tup [.name 2, .name 3, .name 4, .name 5])) (.var 0),
  .asg (.pat (.name 1)) (.comp true (.name 6) .seq [(.tup [(.var 2), (.var 3), (.var 4)])] [] (.bc .tuple true [(.comp true (.tup [.name 7, .name 8]) .seq [(.var 6)] [] (.tup [(.var 8), (.var 7)]))])),
  .ret (.tup [(.ix (.var 1) (.int 0)), (.ix (.var 1) (.int 1)), (.ix (.var 1) (.int 2)), (.bin .sub true (.int 0) (.var 5))])]⟩
def d0 : Df := ⟨"_law_contrary", top 16, ["_law_renaming_here", "_law_some", "_law_words", "_law_signs", "_law_pairs", "_law_hours", "_law_one", "_law_elder", "_law_newer"], ["_law_renaming_here"], fd0⟩
/-! 1: _law_stamp_by(_law_signs, _law_stamp); names 0=_law_signs 1=_law_stamp 2=_law_called 3=_law_sign -/
def fd1 : Fd := ⟨2, 4, [.asg (.pat (.name 2)) (.bc .dict true [(.var 0)]),
  .ret (.mt .join true (.str []) [(.comp true (.name 3) .seq [(.var 1)] [] (.ite (.cmp .ne (.var 3) (.str [63])) (.ix (.var 2) (.var 3)) (.var 3)))])]⟩
def d1 : Df := ⟨"_law_stamp_by", top 14, ["_law_signs", "_law_stamp", "_law_called", "_law_sign"], ["_law_signs", "_law_stamp"], fd1⟩
/-! 2: _law_page_by(_law_renaming_here, _law_page); names 0=_law_renaming_here 1=_law_page 2=_law_found 3=_law_words 4=_law_signs 5=_law_pairs 6=_law_hours 7=_law_k 8=_law_thing 9=_law_at 10=_law_stamp -/
def fd2 : Fd := ⟨2, 11, [.asg (.pat (.tup [.name 3, .name 4, .name 5, .name 6])) (.var 0),
  .asg (.pat (.name 2)) (.lst false []),
  .for (.tup [.name 7, .name 8]) .enum [(.ix (.var 1) (.int 1))]
    [.asg (.pat (.name 9)) (.tup [(.ix (.ix (.var 1) (.int 1)) (.int 0)), (.var 7)]),
    .ite (.cmp .isin (.var 9) (.tup [(.tup [(.str [98, 114, 97, 110, 100]), (.int 1)]), (.tup [(.str [100, 114, 111, 112]), (.int 1)]), (.tup [(.str [111, 119, 110, 115]), (.int 2)])]))
      [.asg (.pat (.name 8)) (.ix (.bc .dict true [(.var 3)]) (.var 8))]
      [],
    .ite (.cmp .isin (.var 9) (.tup [(.tup [(.str [98, 114, 97, 110, 100]), (.int 2)]), (.tup [(.str [100, 114, 111, 112]), (.int 2)])]))
      [.asg (.pat (.name 8)) (.call true 1 [(.var 4), (.var 8)])]
      [],
    .ite (.cmp .eq (.var 9) (.tup [(.str [112, 117, 116]), (.int 3)]))
      [.asg (.pat (.name 8)) (.bc .tuple true [(.comp true (.name 10) .seq [(.var 8)] [] (.call true 1 [(.var 4), (.var 10)]))])]
      [],
    .ite (.and [(.cmp .eq (.var 7) (.int 1)), (.cmp .isin (.ix (.ix (.var 1) (.int 1)) (.int 0)) (.tup [(.str [112, 117, 116]), (.str [98, 121]), (.str [115, 105, 110, 107]), (.str [114, 105, 115, 101]), (.str [115, 101, 108, 108])]))])
      [.asg (.pat (.name 8)) (.ix (.bc .dict true [(.var 5)]) (.var 8))]
      [],
    .ex (.mt .append true (.var 2) [(.var 8)])],
  .ret (.tup [(.bin .add true (.ix (.var 1) (.int 0)) (.var 6)), (.bc .tuple true [(.var 2)])])]⟩
def d2 : Df := ⟨"_law_page_by", top 15, ["_law_renaming_here", "_law_page", "_law_found", "_law_words", "_law_signs", "_law_pairs", "_law_hours", "_law_k", "_law_thing", "_law_at", "_law_stamp"], ["_law_renaming_here", "_law_page"], fd2⟩
/-! 3: _law_pick(_law_tape_here, _law_many); names 0=_law_tape_here 1=_law_many 2=_law_at 3=_law_cell 4=_law_mixed 5=_law_found -/
def fd3 : Fd := ⟨2, 6, [.asg (.sub (.var 0) (.int 3)) (.bin .add true (.ix (.var 0) (.int 3)) (.int 1)),
  .ite (.cmp .gt (.ix (.var 0) (.int 2)) (.int 0))
    [.asg (.pat (.name 5)) (.bin .mod true (.ix (.var 0) (.int 2)) (.var 1)),
    .asg (.sub (.var 0) (.int 2)) (.bin .fdiv true (.ix (.var 0) (.int 2)) (.var 1)),
    .ret (.var 5)]
    [],
  .asg (.pat (.name 2)) (.ix (.var 0) (.int 1)),
  .asg (.sub (.var 0) (.int 1)) (.bin .add true (.var 2) (.int 1)),
  .asg (.pat (.name 3)) (.ite (.cmp .ne (.ix (.var 0) (.int 0)) (.lst true [])) (.ix (.ix (.var 0) (.int 0)) (.bin .mod true (.var 2) (.bc .len true [(.ix (.var 0) (.int 0))]))) (.int 14)),
  .ite (.and [(.cmp .ge (.var 3) (.bin .pow true (.int 10) (.int 18))), (.cmp .lt (.var 2) (.bc .len true [(.ix (.var 0) (.int 0))]))])
    [.asg (.sub (.var 0) (.int 2)) (.bin .fdiv true (.var 3) (.var 1)),
    .ret (.bin .mod true (.var 3) (.var 1))]
    [],
  .asg (.pat (.name 4)) (.bin .mod true (.bin .add true (.bin .add true (.bin .mod true (.var 3) (.int 2147483647)) (.bin .mul true (.int 40823) (.ix (.var 0) (.int 3)))) (.int 31)) (.int 2147483629)),
  .asg (.pat (.name 4)) (.bin .mod true (.bin .add true (.bin .add true (.bin .mul true (.var 4) (.var 4)) (.bin .mul true (.int 27011) (.ix (.var 0) (.int 3)))) (.int 3)) (.int 2147483587)),
  .asg (.pat (.name 4)) (.bin .mod true (.bin .add true (.bin .add true (.bin .mul true (.var 4) (.var 4)) (.bin .mul true (.int 13007) (.var 4))) (.int 1)) (.int 2147483579)),
  .ret (.bin .mod true (.bin .fdiv true (.var 4) (.int 256)) (.var 1))]⟩
def d3 : Df := ⟨"_law_pick", top 6, ["_law_tape_here", "_law_many", "_law_at", "_law_cell", "_law_mixed", "_law_found"], ["_law_tape_here", "_law_many"], fd3⟩
/-! 4: _law_said(_law_tape_here, _law_river_here, _law_place); names 0=_law_tape_here 1=_law_river_here 2=_law_place 3=_law_owner 4=_law_brand 5=_law_many 6=_law_rows 7=_law_some 8=_law_k -/
def fd4 : Fd := ⟨3, 9, [.asg (.pat (.name 3)) (.ix (.lst true [(.str [97]), (.str [97, 98]), (.str [97, 110, 110]), (.str [98, 121]), (.str [122, 122, 122, 122, 122, 122, 122, 122])]) (.call true 3 [(.var 0), (.int 5)])),
  .asg (.pat (.name 4)) (.ix (.lst true [(.str [65]), (.str [65, 66]), (.str [66]), (.str [65, 66, 68, 69])]) (.call true 3 [(.var 0), (.int 4)])),
  .asg (.pat (.name 5)) (.ix (.lst true [(.call true 3 [(.var 0), (.int 4)]), (.call true 3 [(.var 0), (.int 1000001)])]) (.bin .fdiv true (.call true 3 [(.var 0), (.int 4)]) (.int 3))),
  .asg (.pat (.name 6)) (.comp true (.name 8) .range1 [(.bin .add true (.bc .len true [(.var 1)]) (.int 1))] [(.or [(.cmp .eq (.var 8) (.var 2)), (.cmp .eq (.call true 3 [(.var 0), (.int 4)]) (.int 0))])] (.tup [(.var 8), (.call true 3 [(.var 0), (.int 4)])])),
  .asg (.pat (.name 6)) (.bc .tuple true [(.slTo true (.var 6) (.int 7))]),
  .asg (.pat (.name 7)) (.lst true [(.tup [(.str [106, 97, 109]), (.var 2)]), (.tup [(.str [102, 114, 101, 101]), (.var 2)]), (.tup [(.str [115, 104, 117, 116]), (.var 2)]), (.tup [(.str [111, 112, 101, 110]), (.var 2)]), (.tup [(.str [98, 114, 97, 110, 100]), (.var 3), (.var 4), (.var 2)])]),
  .asg (.pat (.name 7)) (.bin .add true (.var 7) (.lst true [(.tup [(.str [100, 114, 111, 112]), (.var 3), (.var 4), (.var 2)]), (.tup [(.str [111, 119, 110, 115]), (.var 2), (.var 3), (.call true 3 [(.var 0), (.int 4)])]), (.tup [(.str [99, 111, 115, 116]), (.var 2), (.var 5)])])),
  .ret (.ix (.bin .add true (.var 7) (.lst true [(.tup [(.str [116, 97, 108, 108, 121]), (.var 6)]), (.tup [(.str [114, 101, 99, 107, 111, 110])]), (.tup [(.str [106, 97, 109]), (.var 2)]), (.tup [(.str [98, 114, 97, 110, 100]), (.var 3), (.var 4), (.var 2)])])) (.call true 3 [(.var 0), (.int 12)]))]⟩
def d4 : Df := ⟨"_law_said", top 9, ["_law_tape_here", "_law_river_here", "_law_place", "_law_owner", "_law_brand", "_law_many", "_law_rows", "_law_some", "_law_k"], ["_law_tape_here", "_law_river_here", "_law_place"], fd4⟩
/-! 5: _law_stamps(_law_tape_here); names 0=_law_tape_here 1=_law_some 2=_law_k -/
def fd5 : Fd := ⟨1, 3, [.asg (.pat (.name 1)) (.lst true [(.str [65]), (.str [66]), (.str [65, 66]), (.str [65, 63]), (.str [63]), (.str [63, 63]), (.str [65, 66, 68, 69]), (.str [65, 63, 68, 63]), (.str [90]), (.str [63, 63, 63, 63])]),
  .ret (.bc .tuple true [(.comp true (.name 2) .range1 [(.call true 3 [(.var 0), (.int 4)])] [] (.ix (.var 1) (.call true 3 [(.var 0), (.int 10)])))])]⟩
def d5 : Df := ⟨"_law_stamps", top 8, ["_law_tape_here", "_law_some", "_law_k"], ["_law_tape_here"], fd5⟩
/-! 6: _law_page_deed(_law_tape_here, _law_river_here, _law_spots); names 0=_law_tape_here 1=_law_river_here 2=_law_spots 3=_law_numbers_now 4=_law_log 5=_law_here 6=_law_turn 7=_law_place -/
def fd6 : Fd := ⟨3, 8, [.asg (.pat (.name 3)) (.lst true [(.int 1), (.int 2), (.int 9), (.int 10), (.int 11), (.int 99), (.int 100), (.int 999)]),
  .par [6, 7] [(.call true 3 [(.var 0), (.int 16)]), (.call true 3 [(.var 0), (.bin .add true (.bc .len true [(.var 1)]) (.int 1))])],
  .asg (.pat (.name 4)) (.ix (.var 3) (.call true 3 [(.var 0), (.int 8)])),
  .ite (.cmp .gt (.var 6) (.int 10))
    [.ret (.call true 4 [(.var 0), (.var 1), (.var 7)])]
    [],
  .ite (.or [(.cmp .lt (.var 6) (.int 4)), (.cmp .eq (.var 2) (.dict true [] []))])
    [.asg (.sub (.var 2) (.var 4)) (.var 7),
    .ret (.tup [(.str [112, 117, 116]), (.var 4), (.var 7), (.call true 5 [(.var 0)]), (.bin .add true (.int 1) (.call true 3 [(.var 0), (.int 60)])), (.bin .add true (.int 1) (.call true 3 [(.var 0), (.int 200)]))])]
    [],
  .asg (.pat (.name 4)) (.ix (.bc .sorted true [(.bc .list true [(.var 2)])]) (.call true 3 [(.var 0), (.bc .len true [(.var 2)])])),
  .asg (.pat (.name 5)) (.ix (.var 2) (.var 4)),
  .ite (.cmp .lt (.var 6) (.int 8))
    [.asg (.sub (.var 2) (.var 4)) (.ite (.cmp .gt (.var 5) (.int 0)) (.ix (.ix (.var 1) (.bin .sub true (.var 5) (.int 1))) (.int 0)) (.int 0)),
    .ret (.tup [(.str [98, 121]), (.var 4), (.ix (.var 2) (.var 4))])]
    [],
  .ret (.ix (.lst true [(.tup [(.str [115, 105, 110, 107]), (.var 4), (.var 5)]), (.tup [(.str [114, 105, 115, 101]), (.var 4)]), (.tup [(.str [115, 101, 108, 108]), (.var 4), (.var 5), (.call true 3 [(.var 0), (.int 1000001)])])]) (.bin .sub true (.var 6) (.int 8)))]⟩
def d6 : Df := ⟨"_law_page_deed", top 10, ["_law_tape_here", "_law_river_here", "_law_spots", "_law_numbers_now", "_law_log", "_law_here", "_law_turn", "_law_place"], ["_law_tape_here", "_law_river_here", "_law_spots"], fd6⟩
/-! 7: _law_pages(_law_tape_here, _law_river_here, _law_many); names 0=_law_tape_here 1=_law_river_here 2=_law_many 3=_law_step 4=_law_k 5=_law_spots 6=_law_found 7=_law_hour 8=_law_page 9=_law_few 10=_law_one -/
def fd7 : Fd := ⟨3, 11, [.par [5, 6, 7] [(.dict false [] []), (.lst false []), (.int 0)],
  .asg (.pat (.name 3)) (.ix (.lst true [(.int 1), (.int 1), (.int 1600)]) (.call true 3 [(.var 0), (.int 3)])),
  .for (.name 4) .range1 [(.var 2)]
    [.asg (.pat (.name 7)) (.bin .add true (.var 7) (.bin .mul true (.var 3) (.call true 3 [(.var 0), (.int 3)]))),
    .asg (.pat (.name 8)) (.tup [(.var 7), (.call true 6 [(.var 0), (.var 1), (.var 5)])]),
    .asg (.pat (.name 9)) (.cmp .lt (.bc .len true [(.comp true (.name 10) .seq [(.var 6)] [(.cmp .eq (.ix (.var 10) (.int 1)) (.tup [(.str [114, 101, 99, 107, 111, 110])]))] (.var 10))]) (.int 4)),
    .ite (.and [(.cmp .notin (.var 8) (.var 6)), (.or [(.var 9), (.cmp .ne (.ix (.var 8) (.int 1)) (.tup [(.str [114, 101, 99, 107, 111, 110])]))])])
      [.ex (.mt .append true (.var 6) [(.var 8)])]
      []],
  .ret (.frz (.var 6))]⟩
def d7 : Df := ⟨"_law_pages", top 11, ["_law_tape_here", "_law_river_here", "_law_many", "_law_step", "_law_k", "_law_spots", "_law_found", "_law_hour", "_law_page", "_law_few", "_law_one"], ["_law_tape_here", "_law_river_here", "_law_many"], fd7⟩
/-! 8: _law_rising(_law_tape_here, _law_pool, _law_many); names 0=_law_tape_here 1=_law_pool 2=_law_many 3=_law_k 4=_law_left 5=_law_found -/
def fd8 : Fd := ⟨3, 6, [.par [4, 5] [(.bc .list false [(.var 1)]), (.lst false [])],
  .for (.name 3) .range1 [(.var 2)]
    [.ex (.mt .append true (.var 5) [(.mt .pop1 true (.var 4) [(.call true 3 [(.var 0), (.bc .len true [(.var 4)])])])])],
  .ret (.bc .sorted true [(.var 5)])]⟩
def d8 : Df := ⟨"_law_rising", top 12, ["_law_tape_here", "_law_pool", "_law_many", "_law_k", "_law_left", "_law_found"], ["_law_tape_here", "_law_pool", "_law_many"], fd8⟩
/-! 9: _law_renaming(_law_tape_here, _law_drive); names 0=_law_tape_here 1=_law_drive 2=_law_elder 3=_law_pool 4=_law_words 5=_law_signs 6=_law_k 7=_law_pairs 8=_law_least 9=_law_numbers_now 10=_law_found 11=_law_hour 12=_law_deed -/
def fd9 : Fd := ⟨2, 13, [.asg (.pat (.name 2)) (.lst true [(.str [97]), (.str [97, 98]), (.str [97, 110, 110]), (.str [98, 121]), (.str [122, 122, 122, 122, 122, 122, 122, 122])]),
  .asg (.pat (.name 3)) (.lst true [(.str [97]), (.str [97, 97]), (.str [97, 98]), (.str [97, 98, 99, 100, 101, 102, 103, 104]), (.str [97, 110, 110]), (.str [98]), (.str [98, 111, 98]), (.str [98, 121]), (.str [99]), (.str [109]), (.str [112, 117, 116]), (.str [122]), (.str [122, 122]), (.str [122, 122, 122, 122, 122, 122, 122, 122])]),
  .asg (.pat (.name 4)) (.bc .tupZip true [(.var 2), (.call true 8 [(.var 0), (.var 3), (.int 5)])]),
  .asg (.pat (.name 5)) (.bc .tupZip true [(.str [65, 66, 68, 69, 90]), (.call true 8 [(.var 0), (.str [65, 66, 67, 68, 69, 70, 71, 72, 73, 74, 75, 76, 77, 78, 79, 80, 81, 82, 83, 84, 85, 86, 87, 88, 89, 90]), (.int 5)])]),
  .par [9, 10] [(.lst false []), (.int 0)],
  .for (.name 6) .range1 [(.int 8)]
    [.asg (.pat (.name 10)) (.bin .add true (.bin .add true (.var 10) (.int 1)) (.call true 3 [(.var 0), (.ix (.lst true [(.int 1), (.int 120)]) (.call true 3 [(.var 0), (.int 2)]))])),
    .ex (.mt .append true (.var 9) [(.var 10)])],
  .asg (.pat (.name 7)) (.bc .tupZip true [(.lst true [(.int 1), (.int 2), (.int 9), (.int 10), (.int 11), (.int 99), (.int 100), (.int 999)]), (.var 9)]),
  .asg (.pat (.name 8)) (.bc .min1d true [(.comp true (.tup [.name 11, .name 12]) .seq [(.var 1)] [] (.var 11)), (.int 0)]),
  .ret (.tup [(.var 4), (.var 5), (.var 7), (.ix (.lst true [(.int 0), (.int 7), (.int 9000), (.bin .sub true (.int 0) (.var 8))]) (.call true 3 [(.var 0), (.int 4)]))])]⟩
def d9 : Df := ⟨"_law_renaming", top 13, ["_law_tape_here", "_law_drive", "_law_elder", "_law_pool", "_law_words", "_law_signs", "_law_k", "_law_pairs", "_law_least", "_law_numbers_now", "_law_found", "_law_hour", "_law_deed"], ["_law_tape_here", "_law_drive"], fd9⟩
/-! 10: _law_river(_law_tape_here); names 0=_law_tape_here 1=_law_many 2=_law_chain 3=_law_found 4=_law_k 5=_law_down -/
def fd10 : Fd := ⟨1, 6, [.asg (.pat (.name 1)) (.ix (.lst true [(.int 0), (.int 1), (.int 2), (.int 3), (.int 4), (.int 5), (.int 6), (.int 12)]) (.call true 3 [(.var 0), (.int 8)])),
  .asg (.pat (.name 2)) (.call true 3 [(.var 0), (.int 3)]),
  .asg (.pat (.name 3)) (.lst false []),
  .for (.name 4) .range1 [(.var 1)]
    [.asg (.pat (.name 5)) (.ite (.or [(.cmp .eq (.var 2) (.int 0)), (.cmp .gt (.call true 3 [(.var 0), (.int 3)]) (.int 0))]) (.var 4) (.call true 3 [(.var 0), (.bin .add true (.var 4) (.int 1))])),
    .ex (.mt .append true (.var 3) [(.tup [(.var 5), (.bin .add true (.int 1) (.call true 3 [(.var 0), (.ix (.lst true [(.int 5), (.int 100)]) (.call true 3 [(.var 0), (.int 2)]))]))])])],
  .ret (.bc .tuple true [(.var 3)])]⟩
def d10 : Df := ⟨"_law_river", top 7, ["_law_tape_here", "_law_many", "_law_chain", "_law_found", "_law_k", "_law_down"], ["_law_tape_here"], fd10⟩
/-! 11: _law_tape(_law_script); names 0=_law_script -/
def fd11 : Fd := ⟨1, 1, [.ret (.lst false [(.bc .list true [(.slTo true (.var 0) (.int 63))]), (.int 0), (.int 0), (.int 0)])]⟩
def d11 : Df := ⟨"_law_tape", top 5, ["_law_script"], ["_law_script"], fd11⟩
/-! 12: otherwise(stamp, called); names 0=stamp 1=called 2=sign -/
def fd12 : Fd := ⟨2, 3, [.ret (.mt .join true (.str []) [(.comp true (.name 2) .seq [(.var 0)] [] (.mt .get2 true (.var 1) [(.var 2), (.var 2)]))])]⟩
def d12 : Df := ⟨"otherwise", top 1, ["stamp", "called", "sign"], ["stamp", "called"], fd12⟩
/-! 13: deed_renamed(deed, words, signs, logs); names 0=deed 1=words 2=signs 3=logs 4=word 5=stamps 6=stamp -/
def fd13 : Fd := ⟨4, 7, [.asg (.pat (.name 4)) (.ix (.var 0) (.int 0)),
  .ite (.cmp .isin (.var 4) (.tup [(.str [98, 114, 97, 110, 100]), (.str [100, 114, 111, 112])]))
    [.ret (.tup [(.var 4), (.ix (.var 1) (.ix (.var 0) (.int 1))), (.call true 12 [(.ix (.var 0) (.int 2)), (.var 2)]), (.ix (.var 0) (.int 3))])]
    [],
  .ite (.cmp .eq (.var 4) (.str [112, 117, 116]))
    [.asg (.pat (.name 5)) (.bc .tuple true [(.comp true (.name 6) .seq [(.ix (.var 0) (.int 3))] [] (.call true 12 [(.var 6), (.var 2)]))]),
    .ret (.bin .add true (.tup [(.var 4), (.ix (.var 3) (.ix (.var 0) (.int 1))), (.ix (.var 0) (.int 2)), (.var 5)]) (.slFrom true (.var 0) (.int 4)))]
    [],
  .ite (.cmp .isin (.var 4) (.tup [(.str [98, 121]), (.str [115, 105, 110, 107]), (.str [114, 105, 115, 101]), (.str [115, 101, 108, 108])]))
    [.ret (.bin .add true (.tup [(.var 4), (.ix (.var 3) (.ix (.var 0) (.int 1)))]) (.slFrom true (.var 0) (.int 2)))]
    [],
  .ite (.cmp .eq (.var 4) (.str [111, 119, 110, 115]))
    [.ret (.tup [(.var 4), (.ix (.var 0) (.int 1)), (.ix (.var 1) (.ix (.var 0) (.int 2))), (.ix (.var 0) (.int 3))])]
    [],
  .ret (.var 0)]⟩
def d13 : Df := ⟨"deed_renamed", top 2, ["deed", "words", "signs", "logs", "word", "stamps", "stamp"], ["deed", "words", "signs", "logs"], fd13⟩
/-! 14: renamed(drive, words, signs, logs, hours); names 0=drive 1=words 2=signs 3=logs 4=hours 5=hour 6=deed -/
def fd14 : Fd := ⟨5, 7, [.asg (.pat (.tup [.name 1, .name 2, .name 3])) (.tup [(.bc .dict true [(.var 1)]), (.bc .dict true [(.var 2)]), (.bc .dict true [(.var 3)])]),
  .ret (.bc .tuple true [(.bc .sorted true [(.comp true (.tup [.name 5, .name 6]) .seq [(.var 0)] [] (.tup [(.bin .add true (.var 5) (.var 4)), (.call true 13 [(.var 6), (.var 1), (.var 2), (.var 3)])]))])])]⟩
def d14 : Df := ⟨"renamed", top 3, ["drive", "words", "signs", "logs", "hours", "hour", "deed"], ["drive", "words", "signs", "logs", "hours"], fd14⟩
/-! 15: law(_law_script); names 0=_law_script 1=_law_tape_here 2=_law_most 3=_law_river_here 4=_law_drive 5=_law_some 6=_law_handed 7=_law_renaming_here 8=_law_same 9=_law_due 10=_law_told 11=_law_k 12=_law_words 13=_law_signs 14=_law_pairs 15=_law_hours 16=_law_one 17=_law_page 18=_law_elder 19=_law_newer -/
def fd15 : Fd := ⟨1, 20, [.asg (.pat (.name 1)) (.call false 11 [(.var 0)]),
  .asg (.pat (.name 2)) (.ite (.cmp .eq (.call true 3 [(.var 1), (.int 8)]) (.int 0)) (.int 24) (.bin .add true (.int 1) (.call true 3 [(.var 1), (.int 16)]))),
  .asg (.pat (.name 3)) (.call true 10 [(.var 1)]),
  .asg (.pat (.name 4)) (.bc .tuple true [(.bc .sorted true [(.call true 7 [(.var 1), (.var 3), (.var 2)])])]),
  .asg (.pat (.name 5)) (.comp true (.name 11) .range1 [(.int 2)] [] (.call true 9 [(.var 1), (.var 4)])),
  .asg (.pat (.name 6)) (.bc .repr true [(.tup [(.var 4), (.var 5)])]),
  .for (.name 7) .seq [(.bin .add true (.var 5) (.slTo true (.var 5) (.int 1)))]
    [.asg (.pat (.tup [.name 12, .name 13, .name 14, .name 15])) (.var 7),
    .asg (.pat (.name 9)) (.bc .tuple true [(.comp true (.name 17) .seq [(.var 4)] [] (.call true 2 [(.var 7), (.var 17)]))]),
    .asg (.pat (.name 10)) (.call true 14 [(.var 4), (.var 12), (.var 13), (.var 14), (.var 15)]),
    .ite (.or [(.not (.bc .isTup true [(.var 10)])), (.cmp .ne (.bc .repr true [(.var 10)]) (.bc .repr true [(.var 9)])), (.cmp .ne (.bc .list true [(.var 9)]) (.bc .sorted true [(.var 9)]))])
      [.ret (.bl false)]
      [],
    .asg (.pat (.tup [.name 12, .name 13, .name 14, .name 15])) (.call true 0 [(.var 7)]),
    .ite (.cmp .ne (.bc .repr true [(.call true 14 [(.var 10), (.var 12), (.var 13), (.var 14), (.var 15)])]) (.bc .repr true [(.var 4)]))
      [.ret (.bl false)]
      []],
  .asg (.pat (.name 8)) (.comp true (.name 16) .seq [(.slTo true (.ix (.var 5) (.int 0)) (.int 3))] [] (.bc .tuple true [(.comp true (.tup [.name 18, .name 19]) .seq [(.var 16)] [] (.tup [(.var 18), (.var 18)]))])),
  .ite (.cmp .ne (.bc .repr true [(.call true 14 [(.var 4), (.ix (.var 8) (.int 0)), (.ix (.var 8) (.int 1)), (.ix (.var 8) (.int 2)), (.int 0)])]) (.bc .repr true [(.var 4)]))
    [.ret (.bl false)]
    [],
  .ret (.and [(.cmp .eq (.bc .repr true [(.tup [(.var 4), (.var 5)])]) (.var 6)), (.cmp .eq (.bc .repr true [(.call true 14 [(.tup []), (.tup []), (.tup []), (.tup []), (.int 5)])]) (.bc .repr true [(.tup [])]))])]⟩
def d15 : Df := ⟨"law", top 17, ["_law_script", "_law_tape_here", "_law_most", "_law_river_here", "_law_drive", "_law_some", "_law_handed", "_law_renaming_here", "_law_same", "_law_due", "_law_told", "_law_k", "_law_words", "_law_signs", "_law_pairs", "_law_hours", "_law_one", "_law_page", "_law_elder", "_law_newer"], ["_law_script"], fd15⟩
def ds : List Df := [d0, d1, d2, d3, d4, d5, d6, d7, d8, d9, d10, d11, d12, d13, d14, d15]
def glN : Nat → Option Str
  | _ => none
def glV : Nat → Option D
  | _ => none
def r0 : FnS := runFd (tabL glV []) fd0
def r1 : FnS := runFd (tabL glV [r0]) fd1
def r2 : FnS := runFd (tabL glV [r0, r1]) fd2
def r3 : FnS := runFd (tabL glV [r0, r1, r2]) fd3
def r4 : FnS := runFd (tabL glV [r0, r1, r2, r3]) fd4
def r5 : FnS := runFd (tabL glV [r0, r1, r2, r3, r4]) fd5
def r6 : FnS := runFd (tabL glV [r0, r1, r2, r3, r4, r5]) fd6
def r7 : FnS := runFd (tabL glV [r0, r1, r2, r3, r4, r5, r6]) fd7
def r8 : FnS := runFd (tabL glV [r0, r1, r2, r3, r4, r5, r6, r7]) fd8
def r9 : FnS := runFd (tabL glV [r0, r1, r2, r3, r4, r5, r6, r7, r8]) fd9
def r10 : FnS := runFd (tabL glV [r0, r1, r2, r3, r4, r5, r6, r7, r8, r9]) fd10
def r11 : FnS := runFd (tabL glV [r0, r1, r2, r3, r4, r5, r6, r7, r8, r9, r10]) fd11
def r12 : FnS := runFd (tabL glV [r0, r1, r2, r3, r4, r5, r6, r7, r8, r9, r10, r11]) fd12
def r13 : FnS := runFd (tabL glV [r0, r1, r2, r3, r4, r5, r6, r7, r8, r9, r10, r11, r12]) fd13
def r14 : FnS := runFd (tabL glV [r0, r1, r2, r3, r4, r5, r6, r7, r8, r9, r10, r11, r12, r13]) fd14
def r15 : FnS := runFd (tabL glV [r0, r1, r2, r3, r4, r5, r6, r7, r8, r9, r10, r11, r12, r13, r14]) fd15
def L : List FnS := [r0, r1, r2, r3, r4, r5, r6, r7, r8, r9, r10, r11, r12, r13, r14, r15]
end K78

namespace K78
open PySem L2 LD
set_option maxHeartbeats 8000000 in
theorem chk : chkAll ds glN 0 ds = true := by decide +kernel
theorem b0 : BindAll d0.name d0.st d0.ps := fun _ _ _ _ _ _ us hl => match us, hl with | [_], _ => rfl
theorem b1 : BindAll d1.name d1.st d1.ps := fun _ _ _ _ _ _ us hl => match us, hl with | [_, _], _ => rfl
theorem b2 : BindAll d2.name d2.st d2.ps := fun _ _ _ _ _ _ us hl => match us, hl with | [_, _], _ => rfl
theorem b3 : BindAll d3.name d3.st d3.ps := fun _ _ _ _ _ _ us hl => match us, hl with | [_, _], _ => rfl
theorem b4 : BindAll d4.name d4.st d4.ps := fun _ _ _ _ _ _ us hl => match us, hl with | [_, _, _], _ => rfl
theorem b5 : BindAll d5.name d5.st d5.ps := fun _ _ _ _ _ _ us hl => match us, hl with | [_], _ => rfl
theorem b6 : BindAll d6.name d6.st d6.ps := fun _ _ _ _ _ _ us hl => match us, hl with | [_, _, _], _ => rfl
theorem b7 : BindAll d7.name d7.st d7.ps := fun _ _ _ _ _ _ us hl => match us, hl with | [_, _, _], _ => rfl
theorem b8 : BindAll d8.name d8.st d8.ps := fun _ _ _ _ _ _ us hl => match us, hl with | [_, _, _], _ => rfl
theorem b9 : BindAll d9.name d9.st d9.ps := fun _ _ _ _ _ _ us hl => match us, hl with | [_, _], _ => rfl
theorem b10 : BindAll d10.name d10.st d10.ps := fun _ _ _ _ _ _ us hl => match us, hl with | [_], _ => rfl
theorem b11 : BindAll d11.name d11.st d11.ps := fun _ _ _ _ _ _ us hl => match us, hl with | [_], _ => rfl
theorem b12 : BindAll d12.name d12.st d12.ps := fun _ _ _ _ _ _ us hl => match us, hl with | [_, _], _ => rfl
theorem b13 : BindAll d13.name d13.st d13.ps := fun _ _ _ _ _ _ us hl => match us, hl with | [_, _, _, _], _ => rfl
theorem b14 : BindAll d14.name d14.st d14.ps := fun _ _ _ _ _ _ us hl => match us, hl with | [_, _, _, _, _], _ => rfl
theorem b15 : BindAll d15.name d15.st d15.ps := fun _ _ _ _ _ _ us hl => match us, hl with | [_], _ => rfl
theorem allL : ∀ (j : Nat) (d : Df), ds[j]? = some d → L[j]? = some (runFd (tabL glV (L.take j)) d.fd)
  | 0, _, h => by cases h; rfl
  | 1, _, h => by cases h; rfl
  | 2, _, h => by cases h; rfl
  | 3, _, h => by cases h; rfl
  | 4, _, h => by cases h; rfl
  | 5, _, h => by cases h; rfl
  | 6, _, h => by cases h; rfl
  | 7, _, h => by cases h; rfl
  | 8, _, h => by cases h; rfl
  | 9, _, h => by cases h; rfl
  | 10, _, h => by cases h; rfl
  | 11, _, h => by cases h; rfl
  | 12, _, h => by cases h; rfl
  | 13, _, h => by cases h; rfl
  | 14, _, h => by cases h; rfl
  | 15, _, h => by cases h; rfl
  | k + 16, _, h => by simp [ds] at h
end K78
/-! Q78a: names called otherwise keep the order. -/
namespace LD
/-- two pairs that compare alike -/
def Sim2 (a b a' b' : D) : Prop := D.eqv a b = D.eqv a' b' ∧ D.lt? a b = D.lt? a' b'
def Sim2s (a b a' b' : List D) : Prop := D.eqvs a b = D.eqvs a' b' ∧ D.lts? a b = D.lts? a' b'
theorem sim2_nil : Sim2s [] [] [] [] := ⟨rfl, rfl⟩
theorem sim2_nc {b b' : D} {bs bs' : List D} : Sim2s [] (b :: bs) [] (b' :: bs') := ⟨by simp [D.eqvs], by simp [D.lts?]⟩
theorem sim2_cn {b b' : D} {bs bs' : List D} : Sim2s (b :: bs) [] (b' :: bs') [] := ⟨by simp [D.eqvs], by simp [D.lts?]⟩
theorem sim2_cons {a b a' b' : D} {as bs as' bs' : List D} (h : Sim2 a b a' b') (t : Sim2s as bs as' bs') : Sim2s (a :: as) (b :: bs) (a' :: as') (b' :: bs') := by
  obtain ⟨h1, h2⟩ := h
  obtain ⟨t1, t2⟩ := t
  exact ⟨by simp only [D.eqvs, h1, t1], by simp only [D.lts?, h1, h2, t2]⟩
theorem sim2_tup {as bs as' bs' : List D} (t : Sim2s as bs as' bs') : Sim2 (.tup as) (.tup bs) (.tup as') (.tup bs') := ⟨by simp only [D.eqv, t.1], by simp only [D.lt?, t.2]⟩
theorem sim2_self (a b : D) : Sim2 a b a b := ⟨rfl, rfl⟩
theorem sim2_int {a b a' b' : Int} (h1 : a = b ↔ a' = b') (h2 : a < b ↔ a' < b') : Sim2 (.int a) (.int b) (.int a') (.int b') := by
  refine ⟨?_, ?_⟩
  · have e1 : D.eqv (.int a) (.int b) = decide (a = b) := by rw [eqv_beq (x := .int a) (y := .int b) rfl rfl]; simp
    have e2 : D.eqv (.int a') (.int b') = decide (a' = b') := by rw [eqv_beq (x := .int a') (y := .int b') rfl rfl]; simp
    rw [e1, e2]; exact decide_eq_decide.mpr h1
  · simp only [D.lt?]; rw [decide_eq_decide.mpr h2]
theorem sim2_str {a b a' b' : List Nat} (h1 : a = b ↔ a' = b') (h2 : strLt a b = strLt a' b') : Sim2 (.str a) (.str b) (.str a') (.str b') := by
  refine ⟨?_, ?_⟩
  · have e1 : D.eqv (.str a) (.str b) = decide (a = b) := by rw [eqv_beq (x := .str a) (y := .str b) rfl rfl]; simp
    have e2 : D.eqv (.str a') (.str b') = decide (a' = b') := by rw [eqv_beq (x := .str a') (y := .str b') rfl rfl]; simp
    rw [e1, e2]; exact decide_eq_decide.mpr h1
  · simp only [D.lt?, h2]
theorem sim2_head {w v : List Nat} (h : w ≠ v) (as bs as' bs' : List D) : Sim2s (.str w :: as) (.str v :: bs) (.str w :: as') (.str v :: bs') := by
  have e : D.eqv (.str w) (.str v) = false := by rw [eqv_beq rfl rfl]; simpa using h
  exact ⟨by simp only [D.eqvs, e, Bool.false_and], by simp only [D.lts?, e, Bool.false_eq_true, if_false]⟩
/-- signs called otherwise, rising as they do -/
def MonoOn (f : Nat → Nat) (P : Nat → Prop) : Prop := ∀ a b, P a → P b → (a < b ↔ f a < f b)
theorem MonoOn.eq {f : Nat → Nat} {P : Nat → Prop} (h : MonoOn f P) {a b : Nat} (ha : P a) (hb : P b) : a = b ↔ f a = f b := by
  have h1 := h a b ha hb
  have h2 := h b a hb ha
  omega
theorem map_str {f : Nat → Nat} {P : Nat → Prop} (h : MonoOn f P) : ∀ {a b : List Nat}, (∀ c ∈ a, P c) → (∀ c ∈ b, P c) → (a = b ↔ a.map f = b.map f) ∧ strLt a b = strLt (a.map f) (b.map f)
  | [], [], _, _ => by simp [strLt]
  | [], _ :: _, _, _ => by simp [strLt]
  | _ :: _, [], _, _ => by simp [strLt]
  | a :: as, b :: bs, ha, hb => by
    obtain ⟨i1, i2⟩ := map_str h (a := as) (b := bs) (fun c hc => ha c (by simp [hc])) fun c hc => hb c (by simp [hc])
    have e := h.eq (ha a (by simp)) (hb b (by simp))
    have l := h a b (ha a (by simp)) (hb b (by simp))
    refine ⟨by simp only [List.map_cons, List.cons.injEq, e, i1], ?_⟩
    simp only [strLt, List.map_cons]
    by_cases q : a = b
    · rw [if_pos q, if_pos (e.mp q), i2]
    · rw [if_neg q, if_neg fun z => q (e.mpr z)]
      exact decide_eq_decide.mpr l
theorem sim2_strs {f : List Nat → List Nat} {P : List Nat → Prop} (h : ∀ a b, P a → P b → (a = b ↔ f a = f b) ∧ strLt a b = strLt (f a) (f b)) : ∀ {l m : List (List Nat)}, (∀ s ∈ l, P s) → (∀ s ∈ m, P s) → Sim2s (l.map .str) (m.map .str) ((l.map f).map .str) ((m.map f).map .str)
  | [], [], _, _ => sim2_nil
  | [], _ :: _, _, _ => sim2_nc
  | _ :: _, [], _, _ => sim2_cn
  | a :: l, b :: m, hl, hm => by
    simp only [List.map_cons]
    refine sim2_cons ?_ (sim2_strs h (fun s hs => hl s (by simp [hs])) fun s hs => hm s (by simp [hs]))
    have := h a b (hl a (by simp)) (hm b (by simp))
    exact sim2_str this.1 this.2
/-! ### a renaming -/
structure Rn where
  w : List Nat → List Nat
  s : Nat → Nat
  l : Int → Int
  h : Int
def Rn.st (R : Rn) (x : List Nat) : List Nat := x.map R.s
def Rn.dd (R : Rn) : Dd → Dd
  | .brand o b p => .brand (R.w o) (R.st b) p
  | .drop o b p => .drop (R.w o) (R.st b) p
  | .put l p st n g => .put (R.l l) p (st.map R.st) n g
  | .seen l p => .seen (R.l l) p
  | .sink l p => .sink (R.l l) p
  | .rise l => .rise (R.l l)
  | .sell l p m => .sell (R.l l) p m
  | .owns p o m => .owns p (R.w o) m
  | d => d
def Rn.pg (R : Rn) (p : Pg) : Pg := (p.1 + R.h, R.dd p.2)
/-- its names are of those given -/
def Dd.inN (W' : List Nat → Prop) (S' : Nat → Prop) (L' : Int → Prop) : Dd → Prop
  | .brand o b _ => W' o ∧ ∀ c ∈ b, S' c
  | .drop o b _ => W' o ∧ ∀ c ∈ b, S' c
  | .put l _ st _ _ => L' l ∧ ∀ s ∈ st, ∀ c ∈ s, S' c
  | .seen l _ => L' l
  | .sink l _ => L' l
  | .rise l => L' l
  | .sell l _ _ => L' l
  | .owns _ o _ => W' o
  | _ => True
structure RnMono (R : Rn) (W' : List Nat → Prop) (S' : Nat → Prop) (L' : Int → Prop) : Prop where
  w : ∀ a b, W' a → W' b → (a = b ↔ R.w a = R.w b) ∧ strLt a b = strLt (R.w a) (R.w b)
  s : MonoOn R.s S'
  l : ∀ a b, L' a → L' b → (a < b ↔ R.l a < R.l b)
theorem dd_sim {R : Rn} {W' : List Nat → Prop} {S' : Nat → Prop} {L' : Int → Prop} (m : RnMono R W' S' L') {d e : Dd} (hd : d.inN W' S' L') (he : e.inN W' S' L') : Sim2 d.toD e.toD (R.dd d).toD (R.dd e).toD := by
  have wd : ∀ d : Dd, (R.dd d).word = d.word := fun d => by cases d <;> rfl
  have ss : ∀ a b : List Nat, (∀ c ∈ a, S' c) → (∀ c ∈ b, S' c) → Sim2 (.str a) (.str b) (.str (R.st a)) (.str (R.st b)) := fun a b ha hb => sim2_str (map_str m.s ha hb).1 (map_str m.s ha hb).2
  have ws : ∀ a b : List Nat, W' a → W' b → Sim2 (.str a) (.str b) (.str (R.w a)) (.str (R.w b)) := fun a b ha hb => sim2_str (m.w a b ha hb).1 (m.w a b ha hb).2
  have ls : ∀ a b : Int, L' a → L' b → Sim2 (.int a) (.int b) (.int (R.l a)) (.int (R.l b)) := fun a b ha hb => by
    have h1 := m.l a b ha hb
    have h2 := m.l b a hb ha
    exact sim2_int (by omega) h1
  unfold Dd.toD
  rw [wd, wd]
  refine sim2_tup ?_
  by_cases hw : d.word = e.word
  · refine sim2_cons (by rw [hw]; exact sim2_self _ _) ?_
    cases d <;> cases e <;> first
      | (simp only [Dd.word, List.cons.injEq, reduceCtorEq, Nat.reduceEqDiff, false_and, and_false] at hw; done)
      | (simp only [Dd.inN] at hd he; simp only [Dd.args, Rn.dd]
         repeat (first | exact sim2_nil | (refine sim2_cons (by first | exact sim2_self _ _ | exact ls _ _ hd he | exact ls _ _ hd.1 he.1 | exact ws _ _ hd.1 he.1 | exact ws _ _ hd he | exact ss _ _ hd.2 he.2 | exact sim2_tup (sim2_strs (fun a b ha hb => map_str m.s ha hb) hd.2 he.2)) ?_)))
  · exact sim2_head hw _ _ _ _
theorem pg_sim {R : Rn} {W' : List Nat → Prop} {S' : Nat → Prop} {L' : Int → Prop} (m : RnMono R W' S' L') {p q : Pg} (hp : p.2.inN W' S' L') (hq : q.2.inN W' S' L') : Sim2 (pgD p) (pgD q) (pgD (R.pg p)) (pgD (R.pg q)) := by
  refine sim2_tup (sim2_cons ?_ (sim2_cons (dd_sim m hp hq) sim2_nil))
  exact sim2_int (by simp only [Rn.pg]; omega) (by simp only [Rn.pg]; omega)
theorem pg_lt {R : Rn} {W' : List Nat → Prop} {S' : Nat → Prop} {L' : Int → Prop} (m : RnMono R W' S' L') {p q : Pg} (hp : p.2.inN W' S' L') (hq : q.2.inN W' S' L') (h : D.Lt (pgD p) (pgD q)) : D.Lt (pgD (R.pg p)) (pgD (R.pg q)) := by
  have e := (pg_sim m hp hq).2
  obtain ⟨b, hb⟩ := Option.isSome_iff_exists.mp (pgD_some p q)
  have h1 := (Lt_iff (pgD_nb p) (pgD_nb q) hb).mpr h
  subst h1
  rw [hb] at e
  exact (Lt_iff (pgD_nb _) (pgD_nb _) e.symm).mp rfl
theorem ren_rising {R : Rn} {W' : List Nat → Prop} {S' : Nat → Prop} {L' : Int → Prop} (m : RnMono R W' S' L') : ∀ {l : List Pg}, (∀ p ∈ l, p.2.inN W' S' L') → Rising (l.map pgD) → Rising ((l.map R.pg).map pgD)
  | [], _, _ => .nil
  | p :: l, h, r => by
    simp only [List.map_cons] at r ⊢
    have r' := List.pairwise_cons.mp r
    refine List.pairwise_cons.mpr ⟨fun x hx => ?_, ren_rising m (fun q hq => h q (by simp [hq])) r'.2⟩
    obtain ⟨q', hq', rfl⟩ := List.mem_map.mp hx
    obtain ⟨q, hq, rfl⟩ := List.mem_map.mp hq'
    exact pg_lt m (h p (by simp)) (h q (by simp [hq])) (r'.1 _ (List.mem_map.mpr ⟨q, hq, rfl⟩))
end LD
/-! Q78b: the walks of k78. -/
namespace LD
structure Ren where
  w : List (List Nat × List Nat)
  s : List (Nat × Nat)
  l : List (Int × Int)
  h : Int
def psW (w : List (List Nat × List Nat)) : Ps := w.map fun q => (.inr q.1, .str q.2)
def psS (s : List (Nat × Nat)) : Ps := s.map fun q => (.inr [q.1], .str [q.2])
def psL (l : List (Int × Int)) : Ps := l.map fun q => (.inl q.1, .int q.2)
def Ren.toD (R : Ren) : D := .tup [.tup ((psW R.w).map pairP), .tup ((psS R.s).map pairP), .tup ((psL R.l).map pairP), .int R.h]
def Ren.rn (R : Ren) : Rn := ⟨fun o => (R.w.lookup o).getD o, fun c => (R.s.lookup c).getD c, fun i => (R.l.lookup i).getD i, R.h⟩
def Ren.W' (R : Ren) (o : List Nat) : Prop := (R.w.lookup o).isSome = true
def Ren.S' (R : Ren) (c : Nat) : Prop := c = 63 ∨ (R.s.lookup c).isSome = true
def Ren.L' (R : Ren) (i : Int) : Prop := (R.l.lookup i).isSome = true
theorem lookK_map {α β : Type} [BEq α] [LawfulBEq α] {kf : α → Ky} (inj : ∀ a b, kf a = kf b → a = b) (vf : β → D) : ∀ (l : List (α × β)) (a : α), lookK (l.map fun q => (kf q.1, vf q.2)) (kf a) = (l.lookup a).map vf
  | [], _ => rfl
  | (b, v) :: l, a => by
    simp only [List.map_cons, lookK, List.lookup_cons]
    by_cases h : a = b
    · subst h; simp
    · have : (a == b) = false := by simpa using h
      rw [this, if_neg fun e => h (inj _ _ e).symm]
      exact lookK_map inj vf l a
theorem look_W (R : Ren) (o : List Nat) : lookK (psW R.w) (.inr o) = (R.w.lookup o).map D.str := lookK_map (fun a b h => by injection h) D.str R.w o
theorem look_S (R : Ren) (c : Nat) : lookK (psS R.s) (.inr [c]) = (R.s.lookup c).map fun c => D.str [c] := lookK_map (kf := fun c => .inr [c]) (fun a b h => by injection h with h; injection h) (fun c => D.str [c]) R.s c
theorem look_L (R : Ren) (i : Int) : lookK (psL R.l) (.inl i) = (R.l.lookup i).map D.int := lookK_map (fun a b h => by injection h) D.int R.l i
theorem W'_look {R : Ren} {o : List Nat} (h : R.W' o) : lookK (psW R.w) (.inr o) = some (.str (R.rn.w o)) := by
  obtain ⟨v, hv⟩ := Option.isSome_iff_exists.mp h
  rw [look_W, hv]
  simp [Ren.rn, hv]
theorem L'_look {R : Ren} {i : Int} (h : R.L' i) : lookK (psL R.l) (.inl i) = some (.int (R.rn.l i)) := by
  obtain ⟨v, hv⟩ := Option.isSome_iff_exists.mp h
  rw [look_L, hv]
  simp [Ren.rn, hv]
section
variable {S : Sto} {t : Tab} {R : Ren}
theorem otherwise_ok (st : List Nat) (hl : st.length ≤ 100) : Wp (runFd t K78.fd12 [.d (.str st), .d (dictP (psS R.s))] []) (fun w S => w = .d (.str (R.rn.st st))) noE := by
  unfold K78.fd12
  walk_at "l_start"
  walk_at "l_go"
  refine ⟨rfl, ?_⟩
  walk_at "l_go"
  refine ⟨_, items_str, ?_⟩
  refine wp_compD (fun c => Item.one (.d (.str [c]))) (fun c => D.str [R.rn.s c]) st (fun c hc => ?_) (by simp [LIM]; omega) ?_
  · refine eq_wp (wp_cstep0 rfl ?_)
    walk_at "l_go"
    refine ⟨kind_P, ?_⟩
    walk_at "l_go"
    refine wp_get2P (kk := .inr [c]) rfl ?_
    refine ⟨?_, rfl⟩
    rw [look_S]
    show some (W.d (((R.s.lookup c).map fun c => D.str [c]).getD (.str [c]))) = some (.d (.str [(R.s.lookup c).getD c]))
    cases R.s.lookup c <;> rfl
  · refine wp_mkLF ?_
    walk_at "l_go"
    have e : st.map (fun c => D.str [R.rn.s c]) = (st.map fun c => [R.rn.s c]).map D.str := by simp [Function.comp_def]
    rw [e]
    refine wp_joinL (by simp only [List.map_map, Function.comp_def, List.length_cons, List.length_nil, Nat.zero_add, sum_ones]; simp [LIM]; omega) ?_
    rw [joinL_nil, flat_ones]
    rfl
theorem call_of {f : FnS} {ws : List W} {x : D} (h : Wp (f ws []) (fun w _ => w = .d x) noE) : ∃ y T, f ws [] = .ok (.d y) T ∧ y = x := by
  obtain ⟨w, T, e, rfl⟩ := ex_wp h
  exact ⟨x, T, e, rfl⟩
theorem wp_callE {Q : W → Sto → Prop} {E : XP} {f : FnS} {ws : List W} {x : D} (h : Wp (f ws []) (fun w _ => w = .d x) noE) (hr : refsOf ws = []) (hn : renum 0 ws = ws) (q : Q (.d x) S) : Wp (callLoc f ws S) Q E := by
  refine wp_call0 hr hn (call_of h) ?_
  rintro _ rfl
  exact q
/-- lengths that a renaming keeps -/
def Dd.fits : Dd → Prop
  | .brand o b _ => o.length ≤ 8 ∧ b.length ≤ 4
  | .drop o b _ => o.length ≤ 8 ∧ b.length ≤ 4
  | .put _ _ st _ _ => st.length ≤ 3 ∧ ∀ s ∈ st, s.length ≤ 4
  | .owns _ o _ => o.length ≤ 8
  | .tally rows => rows.length ≤ 7
  | _ => True
theorem deed_ren (h12 : t.fns 12 = runFd t12 K78.fd12) {d : Dd} (hd : d.inN R.W' R.S' R.L') (hf : d.fits) :
    Wp (runFd t K78.fd13 [.d d.toD, .d (dictP (psW R.w)), .d (dictP (psS R.s)), .d (dictP (psL R.l))] []) (fun w S => w = .d (R.rn.dd d).toD) noE := by
  unfold K78.fd13
  have hj : ∀ {S : Sto} {Q : W → Sto → Prop} {E : XP} (st : List Nat), st.length ≤ 100 → Q (.d (.str (R.rn.st st))) S → Wp (callLoc (t.fns 12) [.d (.str st), .d (dictP (psS R.s))] S) Q E := fun st hl q => wp_callE (by rw [h12]; exact otherwise_ok st hl) rfl rfl q
  cases d <;> simp only [Dd.inN, Dd.fits] at hd hf <;> walk_at "l_start"
  case brand o b p =>
    repeat walk_at "l_more"
    refine wp_ixP (kk := .inr o) rfl (W'_look hd.1) ?_
    repeat walk_at "l_more"
    refine hj b (by omega) ?_
    repeat walk_at "l_more"
    rfl
  case drop o b p =>
    repeat walk_at "l_more"
    refine wp_ixP (kk := .inr o) rfl (W'_look hd.1) ?_
    repeat walk_at "l_more"
    refine hj b (by omega) ?_
    repeat walk_at "l_more"
    rfl
  case put l p st n g =>
    repeat walk_at "l_more"
    refine ⟨_, items_tup, ?_⟩
    have e : (st.map D.str).map (fun x => Item.one (.d x)) = st.map fun s => Item.one (.d (.str s)) := by simp [Function.comp_def]
    show Wp (compL _ none ((st.map D.str).map (fun x => Item.one (.d x))) [] []) _ _
    rw [e]
    refine wp_compD (fun s => Item.one (.d (.str s))) (fun s => D.str (R.rn.st s)) st (fun s hs => ?_) (by simp [LIM]; omega) ?_
    · refine eq_wp (wp_cstep0 rfl ?_)
      walk_at "l_go"
      refine hj s (by have := hf.2 s hs; omega) ?_
      exact ⟨rfl, rfl⟩
    refine wp_mkLF ?_
    repeat walk_at "l_more"
    refine wp_ixP (kk := .inl l) rfl (L'_look hd.1) ?_
    repeat walk_at "l_more"
    show W.d (.tup _) = W.d (.tup _)
    simp [Dd.args, Rn.dd, Dd.word, Function.comp_def, Dd.toD]
  case seen l p =>
    repeat walk_at "l_more"
    refine wp_ixP (kk := .inl l) rfl (L'_look hd) ?_
    repeat walk_at "l_more"
    rfl
  case sink l p =>
    repeat walk_at "l_more"
    refine wp_ixP (kk := .inl l) rfl (L'_look hd) ?_
    repeat walk_at "l_more"
    rfl
  case rise l =>
    repeat walk_at "l_more"
    refine wp_ixP (kk := .inl l) rfl (L'_look hd) ?_
    repeat walk_at "l_more"
    rfl
  case sell l p m =>
    repeat walk_at "l_more"
    refine wp_ixP (kk := .inl l) rfl (L'_look hd) ?_
    repeat walk_at "l_more"
    rfl
  case owns p o m =>
    repeat walk_at "l_more"
    refine wp_ixP (kk := .inr o) rfl (W'_look hd) ?_
    repeat walk_at "l_more"
    rfl
  all_goals (repeat walk_at "l_more") <;> rfl
end
end LD
/-! Q78c: renamed, and the law's own table. -/
namespace LD
structure RenOk (R : Ren) : Prop where
  w : (R.w.map (·.1)).Nodup
  s : (R.s.map (·.1)).Nodup
  l : (R.l.map (·.1)).Nodup
  q : R.s.lookup 63 = none
theorem RenOk.pw {R : Ren} (h : RenOk R) : ((psW R.w).map (·.1)).Nodup := by
  have e : (psW R.w).map (·.1) = (R.w.map (·.1)).map Sum.inr := by simp [psW, Function.comp_def]
  rw [e]; exact List.Pairwise.map _ (fun a b n e => n (by injection e)) h.w
theorem RenOk.ps {R : Ren} (h : RenOk R) : ((psS R.s).map (·.1)).Nodup := by
  have e : (psS R.s).map (·.1) = (R.s.map (·.1)).map fun c => (.inr [c] : Ky) := by simp [psS, Function.comp_def]
  rw [e]; exact List.Pairwise.map _ (fun a b n e => n (by injection e with e; injection e)) h.s
theorem RenOk.pl {R : Ren} (h : RenOk R) : ((psL R.l).map (·.1)).Nodup := by
  have e : (psL R.l).map (·.1) = (R.l.map (·.1)).map Sum.inl := by simp [psL, Function.comp_def]
  rw [e]; exact List.Pairwise.map _ (fun a b n e => n (by injection e)) h.l
section
variable {S : Sto} {t t12 t13 : Tab} {R : Ren}
/-- what a page has to be -/
structure PgIn (R : Ren) (p : Pg) : Prop where
  inN : p.2.inN R.W' R.S' R.L'
  fits : p.2.fits
  sm : pgSmall (R.rn.pg p)
theorem renamed_ok (h12 : t13.fns 12 = runFd t12 K78.fd12) (h13 : t.fns 13 = runFd t13 K78.fd13) (hR : RenOk R) {l : List Pg} (hl : l.length ≤ 1000) (hp : ∀ p ∈ l, PgIn R p) :
    Wp (runFd t K78.fd14 [.d (.tup (l.map pgD)), .d (.tup ((psW R.w).map pairP)), .d (.tup ((psS R.s).map pairP)), .d (.tup ((psL R.l).map pairP)), .d (.int R.h)] []) (fun w _ => w = .d (.tup (srt ((l.map R.rn.pg).map pgD)))) noE := by
  unfold K78.fd14
  walk_at "l_start"
  walk_at "l_go"
  refine wp_dictT hR.pw ?_
  walk_at "l_go"
  refine wp_dictT hR.ps ?_
  walk_at "l_go"
  refine wp_dictT hR.pl ?_
  walk_at "l_go"
  refine ⟨_, rfl, ?_⟩
  walk_at "l_go"
  refine ⟨_, items_tup, ?_⟩
  have e : (l.map pgD).map (fun x => Item.one (.d x)) = l.map fun p => Item.one (.d (pgD p)) := by simp [Function.comp_def]
  show Wp (compL _ none ((l.map pgD).map (fun x => Item.one (.d x))) [] []) _ _
  rw [e]
  refine wp_compD (fun p => Item.one (.d (pgD p))) (fun p => pgD (R.rn.pg p)) l (fun p hpm => ?_) (by simp [LIM]; omega) ?_
  · refine eq_wp (wp_cstep0 (ρ' := [some (.d (.tup (l.map pgD))), some (.d (dictP (psW R.w))), some (.d (dictP (psS R.s))), some (.d (dictP (psL R.l))), some (.d (.int R.h)), some (.d (.int p.1)), some (.d p.2.toD)]) rfl ?_)
    walk_at "l_go"
    refine wp_callE (by rw [h13]; exact deed_ren h12 (hp p hpm).inN (hp p hpm).fits) rfl rfl ?_
    walk_at "l_go"
    exact ⟨rfl, rfl⟩
  refine wp_mkLF ?_
  walk_at "l_go"
  have e2 : (l.map fun p => pgD (R.rn.pg p)) = (l.map R.rn.pg).map pgD := by simp [Function.comp_def]
  rw [e2]
  refine wp_sortedL (pages_srt (fun q hq => ?_) (by simp; omega)) ?_
  · obtain ⟨p, hpm, rfl⟩ := List.mem_map.mp hq
    exact (hp p hpm).sm
  walk_at "l_go"
  rfl
/-- the law's own stamps -/
theorem stamp_by_ok (hR : RenOk R) (st : List Nat) (hl : st.length ≤ 100) (hk : ∀ c ∈ st, R.S' c) : Wp (runFd t K78.fd1 [.d (.tup ((psS R.s).map pairP)), .d (.str st)] []) (fun w S => w = .d (.str (R.rn.st st))) noE := by
  unfold K78.fd1
  walk_at "l_start"
  walk_at "l_go"
  refine wp_dictT hR.ps ?_
  walk_at "l_go"
  refine ⟨rfl, ?_⟩
  walk_at "l_go"
  refine ⟨_, items_str, ?_⟩
  refine wp_compD (fun c => Item.one (.d (.str [c]))) (fun c => D.str [R.rn.s c]) st (fun c hc => ?_) (by simp [LIM]; omega) ?_
  · refine eq_wp (wp_cstep0 rfl ?_)
    refine wp_ite ?_
    walk_at "l_go"
    refine wp_splitN (fun h => ?_) (fun h => ?_)
    · walk_at "l_go"
      have hc2 : (R.s.lookup c).isSome = true := by
        rcases hk c hc with e | e
        · subst e; exact absurd rfl h
        · exact e
      obtain ⟨v, hv⟩ := Option.isSome_iff_exists.mp hc2
      refine wp_ixP (kk := .inr [c]) (x := .str [v]) rfl (by rw [look_S, hv]; rfl) ?_
      exact ⟨by simp [Ren.rn, hv], rfl⟩
    · walk_at "l_go"
      simp only [List.cons.injEq, and_true] at h
      subst h
      exact ⟨by simp [Ren.rn, hR.q], rfl⟩
  · refine wp_mkLF ?_
    walk_at "l_go"
    have e : st.map (fun c => D.str [R.rn.s c]) = (st.map fun c => [R.rn.s c]).map D.str := by simp [Function.comp_def]
    rw [e]
    refine wp_joinL (by simp only [List.map_map, Function.comp_def, List.length_cons, List.length_nil, Nat.zero_add, sum_ones]; simp [LIM]; omega) ?_
    rw [joinL_nil, flat_ones]
    rfl
end
section
variable {S : Sto} {t t1 : Tab} {R : Ren}
set_option maxHeartbeats 2000000 in
theorem page_by_ok (h1 : t.fns 1 = runFd t1 K78.fd1) (hR : RenOk R) {p : Pg} (hp : p.2.inN R.W' R.S' R.L') (hf : p.2.fits) : Wp (runFd t K78.fd2 [.d R.toD, .d (pgD p)] []) (fun w _ => w = .d (pgD (R.rn.pg p))) noE := by
  have hj : ∀ {S : Sto} {Q : W → Sto → Prop} {E : XP} (st : List Nat), st.length ≤ 100 → (∀ c ∈ st, R.S' c) → Q (.d (.str (R.rn.st st))) S → Wp (callLoc (t.fns 1) [.d (.tup ((psS R.s).map pairP)), .d (.str st)] S) Q E := fun st hl hk q => wp_callE (by rw [h1]; exact stamp_by_ok hR st hl hk) rfl rfl q
  obtain ⟨h, d⟩ := p
  unfold K78.fd2
  cases d <;> simp only [Dd.inN, Dd.fits] at hp hf <;> walk_at "l_start" <;> walk_at "l_go" <;> refine ⟨_, rfl, ?_⟩ <;> walk_at "l_go" <;> refine wp_ixT (by decide) (by with_unfolding_all rfl) ?_ <;> walk_at "l_go" <;> refine ⟨_, rfl, ?_⟩
  case rise l =>
    repeat walk_at "l_more"
    refine wp_dictT hR.pl ?_
    repeat walk_at "l_more"
    refine wp_ixP (kk := .inl l) rfl (L'_look hp) ?_
    repeat walk_at "l_more"
    rfl
  case brand o b p =>
    repeat walk_at "l_more"
    refine wp_dictT hR.pw ?_
    repeat walk_at "l_more"
    refine wp_ixP (kk := .inr o) rfl (W'_look hp.1) ?_
    repeat walk_at "l_more"
    refine hj b (by omega) hp.2 ?_
    repeat walk_at "l_more"
    rfl
  case drop o b p =>
    repeat walk_at "l_more"
    refine wp_dictT hR.pw ?_
    repeat walk_at "l_more"
    refine wp_ixP (kk := .inr o) rfl (W'_look hp.1) ?_
    repeat walk_at "l_more"
    refine hj b (by omega) hp.2 ?_
    repeat walk_at "l_more"
    rfl
  case seen l p =>
    repeat walk_at "l_more"
    refine wp_dictT hR.pl ?_
    repeat walk_at "l_more"
    refine wp_ixP (kk := .inl l) rfl (L'_look hp) ?_
    repeat walk_at "l_more"
    rfl
  case sink l p =>
    repeat walk_at "l_more"
    refine wp_dictT hR.pl ?_
    repeat walk_at "l_more"
    refine wp_ixP (kk := .inl l) rfl (L'_look hp) ?_
    repeat walk_at "l_more"
    rfl
  case sell l p m =>
    repeat walk_at "l_more"
    refine wp_dictT hR.pl ?_
    repeat walk_at "l_more"
    refine wp_ixP (kk := .inl l) rfl (L'_look hp) ?_
    repeat walk_at "l_more"
    rfl
  case owns p o m =>
    repeat walk_at "l_more"
    refine wp_dictT hR.pw ?_
    repeat walk_at "l_more"
    refine wp_ixP (kk := .inr o) rfl (W'_look hp) ?_
    repeat walk_at "l_more"
    rfl
  case put l p st n g =>
    repeat walk_at "l_more"
    refine wp_dictT hR.pl ?_
    repeat walk_at "l_more"
    refine wp_ixP (kk := .inl l) rfl (L'_look hp.1) ?_
    repeat walk_at "l_more"
    refine ⟨_, items_tup, ?_⟩
    have e : (st.map D.str).map (fun x => Item.one (.d x)) = st.map fun s => Item.one (.d (.str s)) := by simp [Function.comp_def]
    simp only
    rw [e]
    refine wp_compD (fun s => Item.one (.d (.str s))) (fun s => D.str (R.rn.st s)) st (fun s hs => ?_) (by simp [LIM]; omega) ?_
    · refine eq_wp (wp_cstep0 (by with_unfolding_all rfl) ?_)
      walk_at "l_go"
      refine hj s (by have := hf.2 s hs; omega) (hp.2 s hs) ?_
      exact ⟨rfl, rfl⟩
    refine wp_mkLF ?_
    repeat walk_at "l_more"
    show W.d (.tup _) = W.d (.tup _)
    simp [Dd.args, Rn.dd, Dd.word, Function.comp_def, Dd.toD, pgD, Rn.pg, Ren.rn]
  all_goals (repeat walk_at "l_more") <;> rfl
end
end LD
/-! Q78d: what holds of a drawn renaming. -/
namespace LD
theorem pw_tri {α : Type} {r : α → α → Prop} : ∀ {l : List α}, l.Pairwise r → ∀ {a b : α}, a ∈ l → b ∈ l → a = b ∨ r a b ∨ r b a
  | x :: l, h, a, b, ha, hb => by
    have h' := List.pairwise_cons.mp h
    rcases List.mem_cons.mp ha with e | ha
    · rcases List.mem_cons.mp hb with e2 | hb
      · exact .inl (by rw [e, e2])
      · exact .inr (.inl (by rw [e]; exact h'.1 b hb))
    · rcases List.mem_cons.mp hb with e2 | hb
      · exact .inr (.inr (by rw [e2]; exact h'.1 a ha))
      · exact pw_tri h'.2 ha hb
theorem strLt_irrefl (a : List Nat) : strLt a a = false := by
  cases h : strLt a a with
  | false => rfl
  | true =>
    have := strLt_lt [] [] h
    exact (List.lt_irrefl _ this).elim
theorem strLt_asymm {a b : List Nat} (h : strLt a b = true) : strLt b a = false := by
  cases k : strLt b a with
  | false => rfl
  | true =>
    have h1 := strLt_lt [] [] h
    have h2 := strLt_lt [] [] k
    exact (List.lt_irrefl _ (List.lt_trans h1 h2)).elim
theorem lookup_mem {α β : Type} [BEq α] [LawfulBEq α] : ∀ {l : List (α × β)} {a : α} {b : β}, l.lookup a = some b → (a, b) ∈ l
  | [], _, _, h => by simp at h
  | (x, y) :: l, a, b, h => by
    rw [List.lookup_cons] at h
    by_cases e : a = x
    · subst e; simp at h; simp [h]
    · have e2 : (a == x) = false := by simpa using e
      rw [e2] at h
      exact List.mem_cons_of_mem _ (lookup_mem h)
theorem mem_lookup {α β : Type} [BEq α] [LawfulBEq α] : ∀ {l : List (α × β)} {a : α} {b : β}, (l.map (·.1)).Nodup → (a, b) ∈ l → l.lookup a = some b
  | (x, y) :: l, a, b, hn, h => by
    rw [List.lookup_cons]
    rw [List.map_cons, List.nodup_cons] at hn
    rcases List.mem_cons.mp h with e | h
    · cases e; simp
    · have : a ≠ x := fun e => hn.1 (e ▸ List.mem_map.mpr ⟨_, h, rfl⟩)
      have e2 : (a == x) = false := by simpa using this
      rw [e2]
      exact mem_lookup hn.2 h
structure RenG (R : Ren) : Prop where
  w : R.w.Pairwise fun a b => strLt a.1 b.1 = true ∧ strLt a.2 b.2 = true
  s : R.s.Pairwise fun a b => a.1 < b.1 ∧ a.2 < b.2
  l : R.l.Pairwise fun a b => a.1 < b.1 ∧ a.2 < b.2
  wc : ∀ q ∈ R.w, ((∀ c ∈ q.1, c < 1000) ∧ q.1.length ≤ 8) ∧ (∀ c ∈ q.2, c < 1000) ∧ q.2.length ≤ 8
  sc : ∀ q ∈ R.s, (63 < q.1 ∧ q.1 < 1000) ∧ 63 < q.2 ∧ q.2 < 1000
  lc : ∀ q ∈ R.l, (0 ≤ q.1 ∧ q.1 ≤ 100000) ∧ 0 ≤ q.2 ∧ q.2 ≤ 100000
  h : -100000 ≤ R.h ∧ R.h ≤ 100000
  n : R.w.length ≤ 10 ∧ R.s.length ≤ 10 ∧ R.l.length ≤ 10
def Ren.swap (R : Ren) : Ren := ⟨R.w.map fun q => (q.2, q.1), R.s.map fun q => (q.2, q.1), R.l.map fun q => (q.2, q.1), 0 - R.h⟩
def Ren.same (R : Ren) : Ren := ⟨R.w.map fun q => (q.1, q.1), R.s.map fun q => (q.1, q.1), R.l.map fun q => (q.1, q.1), 0⟩
theorem RenG.sw {R : Ren} (g : RenG R) : RenG R.swap := by
  refine ⟨?_, ?_, ?_, ?_, ?_, ?_, by simp only [Ren.swap]; have := g.h; omega, by simpa [Ren.swap] using g.n⟩
  · exact List.Pairwise.map _ (fun a b h => ⟨h.2, h.1⟩) g.w
  · exact List.Pairwise.map _ (fun a b h => ⟨h.2, h.1⟩) g.s
  · exact List.Pairwise.map _ (fun a b h => ⟨h.2, h.1⟩) g.l
  · intro q hq; obtain ⟨p, hp, rfl⟩ := List.mem_map.mp hq; exact ⟨(g.wc p hp).2, (g.wc p hp).1⟩
  · intro q hq; obtain ⟨p, hp, rfl⟩ := List.mem_map.mp hq; exact ⟨(g.sc p hp).2, (g.sc p hp).1⟩
  · intro q hq; obtain ⟨p, hp, rfl⟩ := List.mem_map.mp hq; exact ⟨(g.lc p hp).2, (g.lc p hp).1⟩
theorem RenG.sa {R : Ren} (g : RenG R) : RenG R.same := by
  refine ⟨?_, ?_, ?_, ?_, ?_, ?_, by simp [Ren.same], by simpa [Ren.same] using g.n⟩
  · exact List.Pairwise.map _ (fun a b h => ⟨h.1, h.1⟩) g.w
  · exact List.Pairwise.map _ (fun a b h => ⟨h.1, h.1⟩) g.s
  · exact List.Pairwise.map _ (fun a b h => ⟨h.1, h.1⟩) g.l
  · intro q hq; obtain ⟨p, hp, rfl⟩ := List.mem_map.mp hq; exact ⟨(g.wc p hp).1, (g.wc p hp).1⟩
  · intro q hq; obtain ⟨p, hp, rfl⟩ := List.mem_map.mp hq; exact ⟨(g.sc p hp).1, (g.sc p hp).1⟩
  · intro q hq; obtain ⟨p, hp, rfl⟩ := List.mem_map.mp hq; exact ⟨(g.lc p hp).1, (g.lc p hp).1⟩
theorem RenG.ok {R : Ren} (g : RenG R) : RenOk R := by
  refine ⟨?_, ?_, ?_, ?_⟩
  · exact List.Pairwise.map _ (fun a b h e => by rw [e, strLt_irrefl] at h; cases h.1) g.w
  · exact List.Pairwise.map _ (fun a b h e => by omega) g.s
  · exact List.Pairwise.map _ (fun a b h e => by omega) g.l
  · cases h : R.s.lookup 63 with
    | none => rfl
    | some v => have := (g.sc _ (lookup_mem h)).1.1; simp only at this; omega
theorem RenG.wm {R : Ren} (g : RenG R) {o : List Nat} (h : R.W' o) : (o, R.rn.w o) ∈ R.w := by
  obtain ⟨v, hv⟩ := Option.isSome_iff_exists.mp h
  have : R.rn.w o = v := by simp [Ren.rn, hv]
  rw [this]; exact lookup_mem hv
theorem RenG.lm {R : Ren} (g : RenG R) {i : Int} (h : R.L' i) : (i, R.rn.l i) ∈ R.l := by
  obtain ⟨v, hv⟩ := Option.isSome_iff_exists.mp h
  have : R.rn.l i = v := by simp [Ren.rn, hv]
  rw [this]; exact lookup_mem hv
theorem RenG.sm {R : Ren} (g : RenG R) {c : Nat} (h : R.S' c) : (c = 63 ∧ R.rn.s c = 63) ∨ (c, R.rn.s c) ∈ R.s := by
  rcases h with rfl | h
  · exact .inl ⟨rfl, by simp [Ren.rn, g.ok.q]⟩
  · obtain ⟨v, hv⟩ := Option.isSome_iff_exists.mp h
    have : R.rn.s c = v := by simp [Ren.rn, hv]
    rw [this]; exact .inr (lookup_mem hv)
theorem RenG.mono {R : Ren} (g : RenG R) : RnMono R.rn R.W' R.S' R.L' := by
  refine ⟨fun a b ha hb => ?_, fun a b ha hb => ?_, fun a b ha hb => ?_⟩
  · rcases pw_tri g.w (g.wm ha) (g.wm hb) with e | ⟨e1, e2⟩ | ⟨e1, e2⟩
    · have h1 : a = b := congrArg Prod.fst e
      subst h1
      exact ⟨⟨fun _ => rfl, fun _ => rfl⟩, by rw [strLt_irrefl, strLt_irrefl]⟩
    · refine ⟨⟨fun h => ?_, fun h => ?_⟩, by rw [e1, e2]⟩
      · subst h; exact absurd e1 (by rw [strLt_irrefl]; decide)
      · simp only at e2; rw [h, strLt_irrefl] at e2; cases e2
    · refine ⟨⟨fun h => ?_, fun h => ?_⟩, by rw [strLt_asymm e1, strLt_asymm e2]⟩
      · subst h; exact absurd e1 (by rw [strLt_irrefl]; decide)
      · simp only at e2; rw [h, strLt_irrefl] at e2; cases e2
  · rcases g.sm ha with ⟨h1, h2⟩ | h1
    · rcases g.sm hb with ⟨h3, h4⟩ | h3
      · omega
      · have q : 63 < b := (g.sc _ h3).1.1
        have q2 : 63 < R.rn.s b := (g.sc _ h3).2.1
        omega
    · rcases g.sm hb with ⟨h3, h4⟩ | h3
      · have q : 63 < a := (g.sc _ h1).1.1
        have q2 : 63 < R.rn.s a := (g.sc _ h1).2.1
        omega
      · rcases pw_tri g.s h1 h3 with e | e | e
        · have h1 : a = b := congrArg Prod.fst e
          subst h1; omega
        · simp only at e; omega
        · simp only at e; omega
  · rcases pw_tri g.l (g.lm ha) (g.lm hb) with e | e | e
    · have h1 : a = b := congrArg Prod.fst e
      subst h1; omega
    · simp only at e; omega
    · simp only at e; omega
/-! ### there and back -/
theorem RenG.wb {R : Ren} (g : RenG R) {o : List Nat} (h : R.W' o) : R.swap.rn.w (R.rn.w o) = o ∧ R.swap.W' (R.rn.w o) := by
  have hm : (R.rn.w o, o) ∈ R.swap.w := List.mem_map.mpr ⟨_, g.wm h, rfl⟩
  have := mem_lookup g.sw.ok.w hm
  exact ⟨by show ((R.swap.w.lookup _).getD _) = o; rw [this]; rfl, by show (R.swap.w.lookup _).isSome = true; rw [this]; rfl⟩
theorem RenG.lb {R : Ren} (g : RenG R) {i : Int} (h : R.L' i) : R.swap.rn.l (R.rn.l i) = i ∧ R.swap.L' (R.rn.l i) := by
  have hm : (R.rn.l i, i) ∈ R.swap.l := List.mem_map.mpr ⟨_, g.lm h, rfl⟩
  have := mem_lookup g.sw.ok.l hm
  exact ⟨by show ((R.swap.l.lookup _).getD _) = i; rw [this]; rfl, by show (R.swap.l.lookup _).isSome = true; rw [this]; rfl⟩
theorem RenG.sb {R : Ren} (g : RenG R) {c : Nat} (h : R.S' c) : R.swap.rn.s (R.rn.s c) = c ∧ R.swap.S' (R.rn.s c) := by
  rcases g.sm h with ⟨h1, h2⟩ | h1
  · rw [h2, h1]
    exact ⟨by simp [Ren.rn, g.sw.ok.q], .inl rfl⟩
  · have hm : (R.rn.s c, c) ∈ R.swap.s := List.mem_map.mpr ⟨_, h1, rfl⟩
    have := mem_lookup g.sw.ok.s hm
    exact ⟨by show ((R.swap.s.lookup _).getD _) = c; rw [this]; rfl, .inr (by rw [this]; rfl)⟩
theorem RenG.stb {R : Ren} (g : RenG R) {st : List Nat} (h : ∀ c ∈ st, R.S' c) : R.swap.rn.st (R.rn.st st) = st ∧ ∀ c ∈ R.rn.st st, R.swap.S' c := by
  refine ⟨?_, fun c hc => ?_⟩
  · unfold Rn.st
    rw [List.map_map]
    calc st.map (R.swap.rn.s ∘ R.rn.s) = st.map id := List.map_congr_left fun c hc => (g.sb (h c hc)).1
      _ = st := by simp
  · obtain ⟨d, hd, rfl⟩ := List.mem_map.mp hc
    exact (g.sb (h d hd)).2
theorem RenG.ddb {R : Ren} (g : RenG R) {d : Dd} (h : d.inN R.W' R.S' R.L') : R.swap.rn.dd (R.rn.dd d) = d ∧ (R.rn.dd d).inN R.swap.W' R.swap.S' R.swap.L' := by
  cases d <;> simp only [Dd.inN, Rn.dd] at h ⊢
  · exact ⟨by rw [(g.wb h.1).1, (g.stb h.2).1], (g.wb h.1).2, (g.stb h.2).2⟩
  · exact ⟨by rw [(g.wb h.1).1, (g.stb h.2).1], (g.wb h.1).2, (g.stb h.2).2⟩
  · rename_i l p st n gi
    refine ⟨?_, (g.lb h.1).2, fun s hs => ?_⟩
    · rw [(g.lb h.1).1]
      congr 1
      rw [List.map_map]
      calc st.map (R.swap.rn.st ∘ R.rn.st) = st.map id := List.map_congr_left fun s hs => (g.stb (h.2 s hs)).1
        _ = st := by simp
    · obtain ⟨s0, h0, rfl⟩ := List.mem_map.mp hs
      exact (g.stb (h.2 s0 h0)).2
  · exact ⟨by rw [(g.lb h).1], (g.lb h).2⟩
  · exact ⟨by rw [(g.lb h).1], (g.lb h).2⟩
  · exact ⟨by rw [(g.lb h).1], (g.lb h).2⟩
  · exact ⟨by rw [(g.lb h).1], (g.lb h).2⟩
  all_goals first | exact ⟨trivial, trivial⟩ | exact ⟨rfl, trivial⟩ | exact ⟨by rw [(g.wb h).1], (g.wb h).2⟩
theorem RenG.pgb {R : Ren} (g : RenG R) {p : Pg} (h : p.2.inN R.W' R.S' R.L') : R.swap.rn.pg (R.rn.pg p) = p := by
  obtain ⟨t, d⟩ := p
  show (t + R.h + (0 - R.h), R.swap.rn.dd (R.rn.dd d)) = (t, d)
  rw [(g.ddb h).1, show t + R.h + (0 - R.h) = t by omega]
/-- nothing turned -/
theorem lookup_same {α : Type} [BEq α] [LawfulBEq α] {β : Type} : ∀ (l : List (α × β)) (a : α), ((l.map fun q => (q.1, q.1)).lookup a).getD a = a ∧ ((l.map fun q => (q.1, q.1)).lookup a).isSome = (l.lookup a).isSome
  | [], a => ⟨rfl, rfl⟩
  | (x, y) :: l, a => by
    simp only [List.map_cons, List.lookup_cons]
    by_cases e : a = x
    · subst e; simp
    · have e2 : (a == x) = false := by simpa using e
      rw [e2]
      exact lookup_same l a
theorem same_dd (R : Ren) (d : Dd) : R.same.rn.dd d = d := by
  have hw : ∀ o, R.same.rn.w o = o := fun o => (lookup_same R.w o).1
  have hs : ∀ o, R.same.rn.s o = o := fun o => (lookup_same R.s o).1
  have hl : ∀ o, R.same.rn.l o = o := fun o => (lookup_same R.l o).1
  have hst : ∀ o, R.same.rn.st o = o := fun o => by
    unfold Rn.st
    calc o.map R.same.rn.s = o.map id := List.map_congr_left fun c _ => hs c
      _ = o := by simp
  have hsts : ∀ o : List (List Nat), o.map R.same.rn.st = o := fun o => by
    calc o.map R.same.rn.st = o.map id := List.map_congr_left fun c _ => hst c
      _ = o := by simp
  cases d <;> simp only [Rn.dd, hw, hl, hst, hsts]
theorem same_pg (R : Ren) (p : Pg) : R.same.rn.pg p = p := by
  obtain ⟨t, d⟩ := p
  show (t + 0, R.same.rn.dd d) = (t, d)
  rw [same_dd, show t + 0 = t by omega]
theorem same_in {R : Ren} {d : Dd} (h : d.inN R.W' R.S' R.L') : d.inN R.same.W' R.same.S' R.same.L' := by
  have hw : ∀ o, R.W' o → R.same.W' o := fun o h => by unfold Ren.W' Ren.same at *; rw [(lookup_same R.w o).2]; exact h
  have hl : ∀ o, R.L' o → R.same.L' o := fun o h => by unfold Ren.L' Ren.same at *; rw [(lookup_same R.l o).2]; exact h
  have hs : ∀ o, R.S' o → R.same.S' o := fun o h => by unfold Ren.S' Ren.same at *; rw [(lookup_same R.s o).2]; exact h
  cases d <;> simp only [Dd.inN] at h ⊢
  · exact ⟨hw _ h.1, fun c hc => hs _ (h.2 c hc)⟩
  · exact ⟨hw _ h.1, fun c hc => hs _ (h.2 c hc)⟩
  · exact ⟨hl _ h.1, fun s hss c hc => hs _ (h.2 s hss c hc)⟩
  all_goals first | exact hl _ h | exact hw _ h
/-! ### sizes -/
theorem RenG.fits {R : Ren} (g : RenG R) {d : Dd} (h : d.inN R.W' R.S' R.L') (hf : d.fits) : (R.rn.dd d).fits := by
  have hst : ∀ s, (R.rn.st s).length = s.length := fun s => by simp [Rn.st]
  cases d <;> simp only [Dd.inN, Dd.fits, Rn.dd, hst, List.length_map] at h hf ⊢
  · exact ⟨(g.wc _ (g.wm h.1)).2.2, hf.2⟩
  · exact ⟨(g.wc _ (g.wm h.1)).2.2, hf.2⟩
  · refine ⟨hf.1, fun s hs => ?_⟩
    obtain ⟨s0, h0, rfl⟩ := List.mem_map.mp hs
    rw [hst]; exact hf.2 s0 h0
  · exact hf
  · exact (g.wc _ (g.wm h)).2.2
theorem RenG.small {R : Ren} (g : RenG R) {d : Dd} (h : d.inN R.W' R.S' R.L') (hs : d.small) : (R.rn.dd d).small := by
  have big : ∀ {l : List Nat}, (∀ c ∈ l, c < 1000) → txOk l := fun h c hc => Nat.lt_trans (h c hc) (by decide)
  have hst : ∀ s : List Nat, (∀ c ∈ s, R.S' c) → txOk (R.rn.st s) := fun s hk c hc => by
    obtain ⟨d, hd, rfl⟩ := List.mem_map.mp hc
    rcases g.sm (hk d hd) with ⟨_, e⟩ | e
    · rw [e]; decide
    · have := (g.sc _ e).2.2; simp only at this; omega
  have hll : ∀ i, R.L' i → inOk (R.rn.l i) := fun i hi => by have := (g.lc _ (g.lm hi)).2; simp only at this; unfold inOk; omega
  cases d <;> simp only [Dd.inN, Dd.small, Rn.dd] at h hs ⊢
  · exact ⟨big (g.wc _ (g.wm h.1)).2.1, hst _ h.2, hs.2.2⟩
  · exact ⟨big (g.wc _ (g.wm h.1)).2.1, hst _ h.2, hs.2.2⟩
  · refine ⟨hll _ h.1, hs.2.1, fun s hss => ?_, hs.2.2.2⟩
    obtain ⟨s0, h0, rfl⟩ := List.mem_map.mp hss
    exact hst s0 (h.2 s0 h0)
  · exact ⟨hll _ h, hs.2⟩
  · exact ⟨hll _ h, hs.2⟩
  · exact hll _ h
  · exact ⟨hll _ h, hs.2⟩
  · exact hs
  · exact hs
  · exact hs
  · exact hs
  · exact hs
  · exact ⟨hs.1, big (g.wc _ (g.wm h)).2.1, hs.2.2⟩
  · exact hs
theorem dd_wt {d : Dd} (h : d.fits) : d.toD.wt ≤ 700 := by
  have h1 : ∀ st : List (List Nat), st.length ≤ 3 → (∀ s ∈ st, s.length ≤ 4) → D.wts (st.map D.str) ≤ 132 := fun st hl hs => by
    have := wts_strs st 4 hs
    have := Nat.mul_le_mul_right (10 * 4 + 4) hl
    omega
  cases d <;> simp only [Dd.fits, Dd.toD, Dd.word, Dd.args, D.wt, D.wts, List.length_cons, List.length_nil, wts_pairs] at h ⊢ <;> first | omega | skip
  have := h1 _ h.1 h.2
  omega
theorem pgs_wt {l : List Pg} (hl : l.length ≤ 50) (h : ∀ p ∈ l, p.2.fits) : D.wts (l.map pgD) ≤ 50 * 740 := by
  have := wts_le (l.map pgD) 735 fun x hx => by
    obtain ⟨p, hp, rfl⟩ := List.mem_map.mp hx
    have := dd_wt (h p hp)
    simp only [pgD, D.wt, D.wts]
    omega
  rw [List.length_map] at this
  have := Nat.mul_le_mul_right (735 + 2) hl
  omega
end LD
/-! Q78e: the renamings that the law draws. -/
namespace LD
theorem map_erase {α β : Type} (f : α → β) : ∀ (l : List α) (k : Nat), (l.eraseIdx k).map f = (l.map f).eraseIdx k
  | [], _ => rfl
  | a :: l, 0 => rfl
  | a :: l, k + 1 => by simp [map_erase f l k]
theorem erase_perm {α : Type} : ∀ (l : List α) (k : Nat) (h : k < l.length), (l[k] :: l.eraseIdx k).Perm l
  | a :: l, 0, _ => .refl _
  | a :: l, k + 1, h => by
    have := erase_perm l k (by simpa using h)
    simp only [List.getElem_cons_succ, List.eraseIdx_cons_succ]
    exact (List.Perm.swap _ _ _).trans (this.cons a)
section
variable {Q : W → Sto → Prop} {E : XP} {S : Sto}
theorem wp_slToT {fz : Bool} {l : List D} {i : Int} (h : 0 ≤ i) (q : Q (.d (.tup (l.take i.toNat))) S) : Wp (slice fz (.d (.tup l)) none (some i) S) Q E := by
  refine wp_ok ?_ q
  show R.ok (W.d (.tup (cut l 0 (clip l.length i)))) S = _
  congr 3
  unfold cut clip
  rw [if_pos h, List.drop_zero, Nat.min_comm, List.take_eq_take_iff]
  omega
theorem wp_slToScr {ns : List Int} {i : Int} (h : 0 ≤ i) (q : Q (.d (.lst ((ns.take i.toNat).map .int))) S) : Wp (slice true (.d (.scr ns)) none (some i) S) Q E := by
  refine wp_ok ?_ q
  show mkL true (cut (ns.map fun i => W.d (.int i)) 0 (clip (ns.map fun i => W.d (.int i)).length i)) S = _
  have e : cut (ns.map fun i => W.d (.int i)) 0 (clip (ns.map fun i => W.d (.int i)).length i) = ((ns.take i.toNat).map D.int).map W.d := by
    unfold cut clip
    rw [if_pos h, List.drop_zero, List.map_map, List.map_take, Nat.min_comm]
    rw [show (W.d ∘ D.int) = fun i => W.d (.int i) from rfl, List.take_eq_take_iff]
    omega
  rw [e]
  unfold mkL; rw [if_pos rfl, datas_d]
theorem wp_listL {l : List D} (q : Q (.d (.lst l)) S) : Wp (builtin .list true [.d (.lst l)] S) Q E := by
  refine wp_ok ?_ q
  unfold builtin
  simp only [seqOf]
  unfold mkL; rw [if_pos rfl, datas_d]
theorem wp_listT {l : List D} (q : Q (.d (.lst l)) S) : Wp (builtin .list true [.d (.tup l)] S) Q E := by
  refine wp_ok ?_ q
  unfold builtin
  simp only [seqOf]
  unfold mkL; rw [if_pos rfl, datas_d]
theorem wp_listLC {l : List D} (q : Q (.ref S.length) (S ++ [.lst (l.map .d)])) : Wp (builtin .list false [.d (.lst l)] S) Q E := wp_ok (by unfold builtin; simp only [seqOf]; rfl) q
theorem wp_listSC {s : List Nat} (q : Q (.ref S.length) (S ++ [.lst ((s.map fun c => D.str [c]).map .d)])) : Wp (builtin .list false [.d (.str s)] S) Q E := wp_ok (by unfold builtin; simp only [List.map_map]; rfl) q
theorem wp_pop1 {fz : Bool} {n : Nat} {l : List W} {i : Int} {x : W} (hS : S[n]? = some (.lst l)) (h0 : 0 ≤ i) (h : l[i.toNat]? = some x) (q : Q x (S.set n (.lst (l.eraseIdx i.toNat)))) : Wp (method .pop1 fz (.ref n) [.d (.int i)] S) Q E := by
  refine wp_ok ?_ q
  have hl : i.toNat < l.length := (List.getElem?_eq_some_iff.mp h).1
  have e : ixN l.length i = some i.toNat := by
    have := ixN_pos (n := l.length) (k := i.toNat) hl
    rwa [Int.toNat_of_nonneg h0] at this
  unfold method
  simp only [cellL, hS, e, h]
theorem pairDs_zip : ∀ a b : List D, a.length = b.length → pairDs (a.map W.d) (b.map W.d) = some (List.zipWith (fun x y => D.tup [x, y]) a b)
  | [], [], _ => rfl
  | x :: a, y :: b, h => by simp [pairDs, pairDs_zip a b (by simpa using h)]
  | [], _ :: _, h => by simp at h
  | _ :: _, [], h => by simp at h
theorem wp_tupZip {fz : Bool} {a b : List D} (h : a.length = b.length) (q : Q (.d (.tup (List.zipWith (fun x y => D.tup [x, y]) a b))) S) : Wp (builtin .tupZip fz [.d (.lst a), .d (.lst b)] S) Q E := by
  refine wp_ok ?_ q
  unfold builtin
  simp only [zipSrc, seqOf, pairDs_zip a b h]
theorem wp_tupZipS {fz : Bool} {s : List Nat} {b : List D} (h : s.length = b.length) (q : Q (.d (.tup (List.zipWith (fun x y => D.tup [x, y]) (s.map fun c => D.str [c]) b))) S) : Wp (builtin .tupZip fz [.d (.str s), .d (.lst b)] S) Q E := by
  refine wp_ok ?_ q
  have := pairDs_zip (s.map fun c => D.str [c]) b (by simpa using h)
  rw [List.map_map] at this
  unfold builtin
  simp only [zipSrc, seqOf]
  simp only [Function.comp_def] at this
  rw [this]
theorem wp_tupZipC {fz : Bool} {n : Nat} {a b : List D} (hS : S[n]? = some (.lst (b.map .d))) (h : a.length = b.length) (q : Q (.d (.tup (List.zipWith (fun x y => D.tup [x, y]) a b))) S) : Wp (builtin .tupZip fz [.d (.lst a), .ref n] S) Q E := by
  refine wp_ok ?_ q
  unfold builtin
  simp only [zipSrc, seqOf, hS, pairDs_zip a b h]
end
section
variable {t : Tab}
theorem tape_ok (ns : List Int) : Wp (runFd t K78.fd11 [.d (.scr ns)] []) (fun w S => w = .ref 0 ∧ ∃ tp : Tp, S = [tp.o]) noE := by
  unfold K78.fd11
  walk_at "l_start"
  walk_at "l_go"
  refine ⟨_, rfl, ?_⟩
  refine wp_slToScr (by decide) ?_
  walk_at "l_go"
  refine wp_listL ?_
  walk_at "l_go"
  exact ⟨rfl, ⟨ns.take 63, 0, 0, 0⟩, rfl⟩
/-- things drawn out of a pool, rising -/
theorem rising_core (hp : PickOk (t.fns 3)) {P : List D} (hP : Srt P) (nd : P.Nodup) {many : Nat} (hm : many ≤ P.length) (hl : P.length ≤ 100) {pool : W} (tp : Tp) :
    WpS (exs t [.for (.name 3) .range1 [(.var 2)] [.ex (.mt .append true (.var 5) [(.mt .pop1 true (.var 4) [(.call true 3 [(.var 0), (.bc .len true [(.var 4)])])])])], .ret (.bc .sorted true [(.var 5)])]
      [some (.ref 0), some pool, some (.d (.int many)), none, some (.ref 1), some (.ref 2)] [tp.o, .lst (P.map .d), .lst []])
      ⟨fun _ _ => False, fun w S => ∃ (x : D) (tp' : Tp) (R : Sto), w = .d x ∧ S = Tp.o tp' :: R ∧ ∃ ys, x = .lst ys ∧ Rising ys ∧ (∀ y ∈ ys, y ∈ P) ∧ ys.length = many, fun _ _ => False, fun _ _ => False, fun _ _ _ _ => False⟩ := by
  walk_at "l_go"
  refine ⟨_, items_range1 (by omega), ?_⟩
  refine wps_forI (fun i ρ S => ∃ (k : Option W) (left found : List D) (tp : Tp), ρ = [some (.ref 0), some pool, some (.d (.int many)), k, some (.ref 1), some (.ref 2)] ∧ S = [tp.o, .lst (left.map .d), .lst (found.map .d)] ∧ (found ++ left).Perm P ∧ found.length = i) _ 0 _ _
    ⟨none, P, [], tp, rfl, rfl, .refl _, rfl⟩ ?_ ?_
  · rintro j it ρ S hj ⟨k, left, found, tp, rfl, rfl, hperm, hf⟩
    obtain ⟨rfl, hjn⟩ := item_range hj
    have hlen : found.length + left.length = P.length := by rw [← hperm.length_eq]; simp
    refine wps_turn (ρ' := [some (.ref 0), some pool, some (.d (.int many)), some (.d (.int j)), some (.ref 1), some (.ref 2)]) rfl ?_
    walk_at "l_go"
    refine ⟨kind_lst (l := found.map .d) rfl rfl, ?_⟩
    walk_at "l_go"
    refine ⟨kind_lst (l := left.map .d) rfl rfl, ?_⟩
    walk_at "l_go"
    refine wp_lenC rfl ?_
    walk_at "l_go"
    rw [List.length_map]
    refine wp_pick hp rfl (by omega) (by omega) fun v tp1 v0 v1 => ?_
    walk_at "l_go"
    have hv : v.toNat < left.length := by omega
    refine wp_pop1 (l := left.map .d) (x := .d left[v.toNat]) rfl v0 (by rw [List.getElem?_map, List.getElem?_eq_getElem hv]; rfl) ?_
    walk_at "l_go"
    refine wp_append rfl (by simp [LIM]; omega) ?_
    walk_at "l_go"
    refine ⟨_, left.eraseIdx v.toNat, found ++ [left[v.toNat]], tp1, rfl, ?_, ?_, by simp [hf]⟩
    · have e : (left.eraseIdx v.toNat).map W.d = (left.map W.d).eraseIdx v.toNat := map_erase _ _ _
      rw [e]; simp
    · refine List.Perm.trans ?_ hperm
      rw [List.append_assoc]
      refine List.Perm.append_left _ ?_
      exact erase_perm _ _ hv
  · rintro ρ S ⟨k, left, found, tp, rfl, rfl, hperm, hf⟩
    refine ⟨rfl, ?_⟩
    walk_at "l_go"
    have hsub : ∀ y ∈ found, y ∈ P := fun y hy => hperm.mem_iff.mp (by simp [hy])
    have hlen : found.length + left.length = P.length := by rw [← hperm.length_eq]; simp
    have hS : Srt found := by
      refine ⟨fun x hx => hP.nb x (hsub x hx), fun x hx => hP.ok x (hsub x hx), ?_, fun x hx y hy => hP.cmp x (hsub x hx) y (hsub y hy), by omega⟩
      have := hP.kd
      unfold oneKind at this ⊢
      simp only [Bool.or_eq_true, List.all_eq_true] at this ⊢
      rcases this with ((h | h) | h) | h
      · exact .inl (.inl (.inl fun x hx => h x (hsub x hx)))
      · exact .inl (.inl (.inr fun x hx => h x (hsub x hx)))
      · exact .inl (.inr fun x hx => h x (hsub x hx))
      · exact .inr fun x hx => h x (hsub x hx)
    refine wp_sortedC (l := found) rfl hS ?_
    have nd2 : found.Nodup := (List.nodup_append.mp (hperm.nodup_iff.mpr nd)).1
    have e : (List.map Item.one (rangeI 0 ((many : Int)).toNat)).length = many := by simp [rangeI]
    refine ⟨_, tp, _, rfl, rfl, srt found, rfl, hS.rising nd2, fun y hy => hsub y (mem_srt.mp hy), ?_⟩
    rw [srt_len, hf]
    show 0 + (List.map Item.one (rangeI 0 ((many : Int)).toNat)).length = many
    omega
theorem rising_lst (hp : PickOk (t.fns 3)) {P : List D} (hP : Srt P) (nd : P.Nodup) {many : Nat} (hm : many ≤ P.length) (hl : P.length ≤ 100) :
    TpF (runFd t K78.fd8) [.d (.lst P), .d (.int many)] fun x => ∃ ys, x = .lst ys ∧ Rising ys ∧ (∀ y ∈ ys, y ∈ P) ∧ ys.length = many := by
  refine tpF_of fun tp => ?_
  unfold K78.fd8
  walk_at "l_start"
  walk_at "l_step"
  walk_at "l_go"
  refine wp_listLC ?_
  walk_at "l_go"
  refine ⟨_, rfl, ?_⟩
  exact (rising_core hp hP nd hm hl tp).mono (fun _ _ h => h.elim) (fun _ _ h => h) (fun _ _ h => h.elim) (fun _ _ h => h.elim) (fun _ _ _ _ h => h.elim)
theorem rising_str (hp : PickOk (t.fns 3)) {s : List Nat} (hP : Srt (s.map fun c => D.str [c])) (nd : (s.map fun c => D.str [c]).Nodup) {many : Nat} (hm : many ≤ s.length) (hl : s.length ≤ 100) :
    TpF (runFd t K78.fd8) [.d (.str s), .d (.int many)] fun x => ∃ ys, x = .lst ys ∧ Rising ys ∧ (∀ y ∈ ys, y ∈ s.map fun c => D.str [c]) ∧ ys.length = many := by
  refine tpF_of fun tp => ?_
  unfold K78.fd8
  walk_at "l_start"
  walk_at "l_step"
  walk_at "l_go"
  refine wp_listSC ?_
  walk_at "l_go"
  refine ⟨_, rfl, ?_⟩
  exact (rising_core hp hP nd (by simpa using hm) (by simpa using hl) tp).mono (fun _ _ h => h.elim) (fun _ _ h => h) (fun _ _ h => h.elim) (fun _ _ h => h.elim) (fun _ _ _ _ h => h.elim)
end
end LD
/-! Q78f: a renaming as drawn; the contrary one. -/
namespace LD
theorem all_str {pool : List (List Nat)} : ∀ {ys : List D}, (∀ y ∈ ys, y ∈ pool.map D.str) → ∃ vs : List (List Nat), ys = vs.map D.str ∧ ∀ v ∈ vs, v ∈ pool
  | [], _ => ⟨[], rfl, by simp⟩
  | y :: ys, h => by
    obtain ⟨vs, e, hv⟩ := all_str (ys := ys) fun z hz => h z (by simp [hz])
    obtain ⟨v, hvp, rfl⟩ := List.mem_map.mp (h y (by simp))
    exact ⟨v :: vs, by rw [e]; rfl, fun z hz => by rcases List.mem_cons.mp hz with e | e; exact e ▸ hvp; exact hv z e⟩
theorem all_sgn {pool : List Nat} : ∀ {ys : List D}, (∀ y ∈ ys, y ∈ pool.map fun c => D.str [c]) → ∃ vs : List Nat, ys = vs.map (fun c => D.str [c]) ∧ ∀ v ∈ vs, v ∈ pool
  | [], _ => ⟨[], rfl, by simp⟩
  | y :: ys, h => by
    obtain ⟨vs, e, hv⟩ := all_sgn (ys := ys) fun z hz => h z (by simp [hz])
    obtain ⟨v, hvp, rfl⟩ := List.mem_map.mp (h y (by simp))
    exact ⟨v :: vs, by rw [e]; rfl, fun z hz => by rcases List.mem_cons.mp hz with e | e; exact e ▸ hvp; exact hv z e⟩
theorem pw_zip {α β : Type} {r : α → α → Prop} {s : β → β → Prop} : ∀ {a : List α} {b : List β}, a.Pairwise r → b.Pairwise s → (a.zip b).Pairwise fun p q => r p.1 q.1 ∧ s p.2 q.2
  | [], _, _, _ => by simp
  | _ :: _, [], _, _ => by simp
  | x :: a, y :: b, ha, hb => by
    have ha' := List.pairwise_cons.mp ha
    have hb' := List.pairwise_cons.mp hb
    rw [List.zip_cons_cons]
    refine List.pairwise_cons.mpr ⟨fun q hq => ?_, pw_zip ha'.2 hb'.2⟩
    have := List.of_mem_zip (show (q.1, q.2) ∈ a.zip b from hq)
    exact ⟨ha'.1 _ this.1, hb'.1 _ this.2⟩
theorem zipW {α β : Type} (kf : α → Ky) (vf : β → D) : ∀ (a : List α) (b : List β), ((a.zip b).map fun q => (kf q.1, vf q.2)).map pairP = List.zipWith (fun x y => D.tup [x, y]) (a.map fun x => keyD (kf x)) (b.map vf)
  | [], _ => by simp
  | _ :: _, [] => by simp
  | x :: a, y :: b => by
    have := zipW kf vf a b
    simp only [List.zip_cons_cons, List.map_cons, List.zipWith_cons_cons, this]
    rfl
theorem Lt_str {a b : List Nat} : D.Lt (.str a) (.str b) ↔ strLt a b = true := (Lt_iff (x := .str a) (y := .str b) rfl rfl rfl).symm
theorem str1 {a b : Nat} : strLt [a] [b] = true ↔ a < b := by
  simp only [strLt]
  by_cases h : a = b
  · subst h; simp [strLt]
  · simp [h]
theorem rising_strs {vs : List (List Nat)} (h : Rising (vs.map D.str)) : vs.Pairwise fun a b => strLt a b = true := by
  have := List.pairwise_map.mp h
  exact this.imp fun {a b} q => Lt_str.mp q
theorem rising_sgns {vs : List Nat} (h : Rising (vs.map fun c => D.str [c])) : vs.Pairwise fun a b => a < b := by
  have := List.pairwise_map.mp h
  exact this.imp fun {a b} q => str1.mp (Lt_str.mp q)
theorem strs_srt {l : List (List Nat)} (hl : l.length ≤ 1000000) (h : ∀ s ∈ l, ∀ c ∈ s, c < 1114112) : Srt (l.map .str) := by
  refine ⟨fun x hx => ?_, fun x hx => ?_, ?_, fun x hx y hy => ?_, by simpa using hl⟩
  · obtain ⟨p, _, rfl⟩ := List.mem_map.mp hx; rfl
  · obtain ⟨p, hp, rfl⟩ := List.mem_map.mp hx
    simp only [okD, D.ok, List.all_eq_true, decide_eq_true_eq]; exact h p hp
  · have : (l.map D.str).all isS = true := by simp [isS]
    simp [oneKind, this]
  · obtain ⟨p, _, rfl⟩ := List.mem_map.mp hx
    obtain ⟨q, _, rfl⟩ := List.mem_map.mp hy
    rfl
theorem minI_mem : ∀ (m : Int) (l : List Int), minI m l = m ∨ minI m l ∈ l
  | m, [] => .inl rfl
  | m, i :: l => by
    unfold minI
    rcases minI_mem (if i < m then i else m) l with h | h
    · rw [h]
      split
      · exact .inr (by simp)
      · exact .inl rfl
    · exact .inr (by simp [h])
theorem intsOf_d : ∀ l : List Int, intsOf ((l.map D.int).map W.d) = some l
  | [] => rfl
  | i :: l => by simp only [List.map_cons, intsOf, intsOf_d l, Option.map_some]
theorem wp_min1d {Q : W → Sto → Prop} {E : XP} {S : Sto} {fz : Bool} {l : List Int} {z : Int} (q : ∀ m, m = z ∨ m ∈ l → Q (.d (.int m)) S) : Wp (builtin .min1d fz [.d (.lst (l.map .int)), .d (.int z)] S) Q E := by
  cases l with
  | nil => exact wp_ok (a := .d (.int z)) rfl (q z (.inl rfl))
  | cons i l =>
    refine wp_ok (a := .d (.int (minI i l))) ?_ (q _ (.inr ?_))
    · unfold builtin
      have e : (binop.lstOf (.d (.lst ((i :: l).map D.int))) S).bind intsOf = some (i :: l) := by
        show intsOf (((i :: l).map D.int).map W.d) = _
        exact intsOf_d _
      simp only [e]
    · rcases minI_mem i l with h | h
      · rw [h]; simp
      · simp [h]
def pool14 : List (List Nat) := [[97], [97, 97], [97, 98], [97, 98, 99, 100, 101, 102, 103, 104], [97, 110, 110], [98], [98, 111, 98], [98, 121], [99], [109], [112, 117, 116], [122], [122, 122], [122, 122, 122, 122, 122, 122, 122, 122]]
def caps : List Nat := [65, 66, 67, 68, 69, 70, 71, 72, 73, 74, 75, 76, 77, 78, 79, 80, 81, 82, 83, 84, 85, 86, 87, 88, 89, 90]
structure RenK (R : Ren) : Prop where
  g : RenG R
  w : R.w.map (·.1) = ownersSome
  s : R.s.map (·.1) = [65, 66, 68, 69, 90]
  l : R.l.map (·.1) = numsSome
theorem renaming_ok {t t8 : Tab} (hp : PickOk (t.fns 3)) (h8 : t.fns 8 = runFd t8 K78.fd8) (hp8 : PickOk (t8.fns 3)) {pgs : List Pg} (hpg : ∀ p ∈ pgs, 0 ≤ p.1 ∧ p.1 ≤ 80000) (hl : pgs.length ≤ 50) :
    TpF (runFd t K78.fd9) [.d (.tup (pgs.map pgD))] fun x => ∃ R : Ren, x = R.toD ∧ RenK R := by
  refine tpF_of fun tp => ?_
  unfold K78.fd9
  walk_at "l_start"
  walk_at "l_go"
  have q1 : TpF (t.fns 8) [.d (.lst (pool14.map D.str)), .d (.int 5)] fun x => ∃ ys, x = .lst ys ∧ Rising ys ∧ (∀ y ∈ ys, y ∈ pool14.map D.str) ∧ ys.length = 5 := by
    rw [h8]
    refine rising_lst (many := 5) hp8 (strs_srt (by decide) (by decide)) ?_ (by decide) (by decide)
    exact List.Pairwise.map _ (fun a b n e => n (by injection e)) (show pool14.Nodup by decide)
  refine wp_tape (tp := tp) rfl q1 rfl rfl ?_
  rintro _ tp1 ⟨ys, rfl, r1, m1, n1⟩
  obtain ⟨vs, rfl, hvs⟩ := all_str m1
  walk_at "l_go"
  refine wp_tupZip (by simpa using n1.symm) ?_
  generalize hW : D.tup (List.zipWith (fun x y => D.tup [x, y]) _ (vs.map D.str)) = Wd
  walk_at "l_go"
  have q2 : TpF (t.fns 8) [.d (.str caps), .d (.int 5)] fun x => ∃ ys, x = .lst ys ∧ Rising ys ∧ (∀ y ∈ ys, y ∈ caps.map fun c => D.str [c]) ∧ ys.length = 5 := by
    rw [h8]
    have e : (caps.map fun c => D.str [c]) = (caps.map fun c => [c]).map D.str := by simp [Function.comp_def]
    refine rising_str (many := 5) hp8 (by rw [e]; exact strs_srt (by decide) (by decide)) ?_ (by decide) (by decide)
    exact List.Pairwise.map _ (fun a b n e => n (by injection e with e; injection e)) (show caps.Nodup by decide)
  refine wp_tape (tp := tp1) rfl q2 rfl rfl ?_
  rintro _ tp2 ⟨zs, rfl, r2, m2, n2⟩
  obtain ⟨cs, rfl, hcs⟩ := all_sgn m2
  walk_at "l_go"
  refine wp_tupZipS (by simpa using n2.symm) ?_
  generalize hG : D.tup (List.zipWith (fun x y => D.tup [x, y]) _ (cs.map fun c => D.str [c])) = Gd
  walk_at "l_go"
  refine ⟨_, rfl, ?_⟩
  walk_at "l_go"
  refine ⟨_, items_range1 (by decide), ?_⟩
  generalize hEl : (W.d (.lst [D.str [97], .str [97, 98], .str [97, 110, 110], .str [98, 121], .str [122, 122, 122, 122, 122, 122, 122, 122]])) = El
  generalize hPl : (W.d (.lst [D.str [97], .str [97, 97], .str [97, 98], .str [97, 98, 99, 100, 101, 102, 103, 104], .str [97, 110, 110], .str [98], .str [98, 111, 98], .str [98, 121], .str [99], .str [109], .str [112, 117, 116], .str [122], .str [122, 122], .str [122, 122, 122, 122, 122, 122, 122, 122]])) = Pl
  refine wps_forI (fun i ρ S => ∃ (k : Option W) (ns : List Int) (last : Int) (tp : Tp), ρ = [some (.ref 0), some (.d (.tup (pgs.map pgD))), some El, some Pl, some (.d Wd), some (.d Gd), k, none, none, some (.ref 1), some (.d (.int last)), none, none] ∧
      S = [tp.o, .lst ((ns.map .int).map .d)] ∧ ns.length = i ∧ ns.Pairwise (· < ·) ∧ (∀ n ∈ ns, 0 ≤ n ∧ n ≤ last) ∧ 0 ≤ last ∧ last ≤ 121 * i) _ 0 _ _ ⟨none, [], 0, tp2, rfl, rfl, rfl, .nil, by simp, by decide, by decide⟩ ?_ ?_
  · rintro j it ρ S hj ⟨k, ns, last, tp, rfl, rfl, hn, hpw, hb, h0, h1⟩
    obtain ⟨rfl, hjn⟩ := item_range hj
    refine wps_turn (ρ' := [some (.ref 0), some (.d (.tup (pgs.map pgD))), some El, some Pl, some (.d Wd), some (.d Gd), some (.d (.int j)), none, none, some (.ref 1), some (.d (.int last)), none, none]) rfl ?_
    walk_at "l_go"
    refine wp_pick hp rfl (by decide) (by decide) fun v tp3 v0 v1 => ?_
    refine wp_ixM v0 (by simpa using v1) fun x hx => ?_
    obtain ⟨st, rfl, st0, st1⟩ : ∃ m : Int, x = .int m ∧ 0 < m ∧ m ≤ 120 := by
      simp only [List.mem_cons, List.not_mem_nil, or_false] at hx
      rcases hx with rfl | rfl <;> exact ⟨_, rfl, by decide, by decide⟩
    walk_at "l_go"
    refine wp_pick hp rfl st0 (by omega) fun u tp4 u0 u1 => ?_
    walk_at "l_go"
    refine ⟨kind_lst (l := (ns.map D.int).map W.d) rfl rfl, ?_⟩
    walk_at "l_go"
    refine wp_append rfl (by simp [LIM]; omega) ?_
    walk_at "l_go"
    refine ⟨_, ns ++ [last + 1 + u], last + 1 + u, tp4, rfl, by simp, by simp [hn], List.pairwise_append.mpr ⟨hpw, by simp, fun a ha b hb2 => ?_⟩, fun n hn2 => ?_, by omega, by omega⟩
    · simp at hb2
      have := hb a ha
      omega
    · rcases List.mem_append.mp hn2 with h | h
      · have := hb n h; omega
      · simp at h; omega
  · rintro ρ S ⟨k, ns, last, tp, rfl, rfl, hn, hpw, hb, h0, h1⟩
    refine ⟨rfl, ?_⟩
    have hn : ns.length = 8 := by simpa [rangeI] using hn
    have hlast : last ≤ 968 := by simp [rangeI] at h1; omega
    walk_at "l_go"
    refine wp_tupZipC rfl (by simpa using hn.symm) ?_
    walk_at "l_go"
    refine ⟨_, items_tup, ?_⟩
    have e : (pgs.map pgD).map (fun x => Item.one (.d x)) = pgs.map fun p => Item.one (.d (pgD p)) := by simp [Function.comp_def]
    simp only
    rw [e]
    refine wp_compD (fun p => Item.one (.d (pgD p))) (fun p : Pg => D.int p.1) pgs (fun p hpm => ?_) (by simp [LIM]; omega) ?_
    · refine eq_wp (wp_cstep0 (by with_unfolding_all rfl) ?_)
      walk_at "l_go"
      exact ⟨rfl, rfl⟩
    refine wp_mkLF ?_
    walk_at "l_go"
    have e2 : (pgs.map fun p : Pg => D.int p.1) = (pgs.map (·.1)).map D.int := by simp [Function.comp_def]
    rw [e2]
    refine wp_min1d fun m hm => ?_
    have hm2 : 0 ≤ m ∧ m ≤ 80000 := by
      rcases hm with rfl | hm
      · decide
      · obtain ⟨p, hpp, rfl⟩ := List.mem_map.mp hm
        exact hpg p hpp
    walk_at "l_go"
    refine wp_pick hp rfl (by decide) (by decide) fun u tp4 u0 u1 => ?_
    refine wp_ixM u0 (by simpa using u1) fun x hx => ?_
    obtain ⟨hh, rfl, hb0, hb1⟩ : ∃ m : Int, x = .int m ∧ -80000 ≤ m ∧ m ≤ 9000 := by
      simp only [List.mem_cons, List.not_mem_nil, or_false] at hx
      rcases hx with rfl | rfl | rfl | rfl <;> exact ⟨_, rfl, by omega, by omega⟩
    walk_at "l_go"
    have lv : vs.length = 5 := by simpa using n1
    have lc : cs.length = 5 := by simpa using n2
    refine ⟨_, tp4, _, rfl, rfl, ⟨ownersSome.zip vs, ([65, 66, 68, 69, 90] : List Nat).zip cs, numsSome.zip ns, hh⟩, ?_, ⟨⟨?_, ?_, ?_, fun q hq => ?_, fun q hq => ?_, fun q hq => ?_, by show -100000 ≤ hh ∧ hh ≤ 100000; omega, ?_⟩, ?_, ?_, ?_⟩⟩
    · have e1 := zipW (fun o : List Nat => (.inr o : Ky)) (fun o => D.str o) ownersSome vs
      have e2 := zipW (fun c : Nat => (.inr [c] : Ky)) (fun c => D.str [c]) [65, 66, 68, 69, 90] cs
      have e3 := zipW (fun i : Int => (.inl i : Ky)) (fun i => D.int i) numsSome ns
      show _ = D.tup [.tup (((ownersSome.zip vs).map fun q => ((.inr q.1 : Ky), D.str q.2)).map pairP), .tup (((([65, 66, 68, 69, 90] : List Nat).zip cs).map fun q => ((.inr [q.1] : Ky), D.str [q.2])).map pairP), .tup (((numsSome.zip ns).map fun q => ((.inl q.1 : Ky), D.int q.2)).map pairP), .int hh]
      rw [e1, e2, e3, ← hW, ← hG]
      rfl
    · exact pw_zip (show ownersSome.Pairwise fun a b => strLt a b = true by decide) (rising_strs r1)
    · exact pw_zip (show ([65, 66, 68, 69, 90] : List Nat).Pairwise (· < ·) by decide) (rising_sgns r2)
    · exact pw_zip (show numsSome.Pairwise (· < ·) by decide) hpw
    · have := List.of_mem_zip (show (q.1, q.2) ∈ ownersSome.zip vs from hq)
      have h1 : ∀ s ∈ ownersSome, (∀ c ∈ s, c < 1000) ∧ s.length ≤ 8 := by decide
      have h2 : ∀ s ∈ pool14, (∀ c ∈ s, c < 1000) ∧ s.length ≤ 8 := by decide
      exact ⟨h1 _ this.1, h2 _ (hvs _ this.2)⟩
    · have := List.of_mem_zip (show (q.1, q.2) ∈ ([65, 66, 68, 69, 90] : List Nat).zip cs from hq)
      have h1 : ∀ s ∈ ([65, 66, 68, 69, 90] : List Nat), 63 < s ∧ s < 1000 := by decide
      have h2 : ∀ s ∈ caps, 63 < s ∧ s < 1000 := by decide
      exact ⟨h1 _ this.1, h2 _ (hcs _ this.2)⟩
    · have := List.of_mem_zip (show (q.1, q.2) ∈ numsSome.zip ns from hq)
      have h1 : ∀ s ∈ numsSome, 0 ≤ s ∧ s ≤ 100000 := by decide
      have h2 := hb _ this.2
      exact ⟨h1 _ this.1, h2.1, by omega⟩
    · refine ⟨?_, ?_, ?_⟩ <;> simp only [List.length_zip] <;> omega
    · exact List.map_fst_zip (by rw [lv]; decide)
    · exact List.map_fst_zip (by rw [lc]; decide)
    · exact List.map_fst_zip (by rw [hn]; decide)
/-- what a drawn page has of names -/
theorem lookup_of {α β : Type} [BEq α] [LawfulBEq α] {l : List (α × β)} {a : α} (h : a ∈ l.map (·.1)) : (l.lookup a).isSome = true := by
  induction l with
  | nil => simp at h
  | cons q l ih =>
    obtain ⟨x, y⟩ := q
    rw [List.lookup_cons]
    by_cases e : a = x
    · subst e; simp
    · have e2 : (a == x) = false := by simpa using e
      rw [e2]
      exact ih (by simpa [e] using h)
theorem RenK.inN {R : Ren} (k : RenK R) {n : Int} {d : Dd} (h : DdOk n d) : d.inN R.W' R.S' R.L' := by
  have hw : ∀ o, o ∈ ownersSome → R.W' o := fun o h => lookup_of (by rw [k.w]; exact h)
  have hl : ∀ o, o ∈ numsSome → R.L' o := fun o h => lookup_of (by rw [k.l]; exact h)
  have hs : ∀ c, c = 63 ∨ c ∈ ([65, 66, 68, 69, 90] : List Nat) → R.S' c := fun c h => by
    rcases h with h | h
    · exact .inl h
    · exact .inr (lookup_of (by rw [k.s]; exact h))
  have hb : ∀ b ∈ brandsSome, ∀ c ∈ b, c = 63 ∨ c ∈ ([65, 66, 68, 69, 90] : List Nat) := by decide
  have ht : ∀ b ∈ stampsSome, ∀ c ∈ b, c = 63 ∨ c ∈ ([65, 66, 68, 69, 90] : List Nat) := by decide
  cases d <;> simp only [DdOk, Dd.inN] at h ⊢
  · exact ⟨hw _ h.1, fun c hc => hs c (hb _ h.2.1 c hc)⟩
  · exact ⟨hw _ h.1, fun c hc => hs c (hb _ h.2.1 c hc)⟩
  · exact ⟨hl _ h.1, fun s hss c hc => hs c (ht _ (h.2.2.2.1 s hss) c hc)⟩
  · exact hl _ h.1
  · exact hl _ h.1
  · exact hl _ h
  · exact hl _ h.1
  · exact hw _ h.2.1
theorem DdOk.fits {n : Int} {d : Dd} (h : DdOk n d) : d.fits := by
  have o1 : ∀ s ∈ ownersSome, s.length ≤ 8 := by decide
  have o2 : ∀ s ∈ brandsSome, s.length ≤ 4 := by decide
  have o3 : ∀ s ∈ stampsSome, s.length ≤ 4 := by decide
  cases d <;> simp only [DdOk, Dd.fits] at h ⊢
  · exact ⟨o1 _ h.1, o2 _ h.2.1⟩
  · exact ⟨o1 _ h.1, o2 _ h.2.1⟩
  · exact ⟨h.2.2.1, fun s hs => o3 s (h.2.2.2.1 s hs)⟩
  · exact h.2.1
  · exact o1 _ h.2.1
end LD
/-! Q78g: the contrary renaming; sizes; the law. -/
namespace LD
theorem wp_noN {A B : Prop} {P : Prop} [Decidable P] (p : P) (h : B) : ∃ k, W.d (.bl (!decide P)) = .d (.bl k) ∧ if k = true then A else B := wp_splitN (fun n => absurd p n) fun _ => h
section
variable {t : Tab} {R : Ren}
theorem contrary_ok (g : RenG R) : Wp (runFd t K78.fd0 [.d R.toD] []) (fun w _ => w = .d R.swap.toD) noE := by
  have hlen : ∀ ps ∈ [psW R.w, psS R.s, psL R.l], ps.length ≤ 10 := by
    intro ps hps
    have := g.n
    simp only [List.mem_cons, List.not_mem_nil, or_false] at hps
    rcases hps with rfl | rfl | rfl <;> simp [psW, psS, psL, this]
  unfold K78.fd0
  walk_at "l_start"
  walk_at "l_go"
  refine ⟨_, rfl, ?_⟩
  walk_at "l_go"
  refine ⟨_, items_tup, ?_⟩
  refine wp_compD (fun ps : Ps => Item.one (.d (.tup (ps.map pairP)))) (fun ps : Ps => D.tup (ps.map fun q => .tup [q.2, keyD q.1])) [psW R.w, psS R.s, psL R.l] (fun ps hps => ?_) (by simp [LIM]) ?_
  · refine eq_wp (wp_cstep0 rfl ?_)
    walk_at "l_go"
    refine ⟨_, items_tup, ?_⟩
    have e : (ps.map pairP).map (fun x => Item.one (.d x)) = ps.map fun q => Item.one (.d (pairP q)) := by simp [Function.comp_def]
    simp only
    rw [e]
    refine wp_compD (fun q : Ky × D => Item.one (.d (pairP q))) (fun q : Ky × D => D.tup [q.2, keyD q.1]) ps (fun q hq => ?_) (by have := hlen ps hps; simp [LIM]; omega) ?_
    · refine eq_wp (wp_cstep0 (by with_unfolding_all rfl) ?_)
      walk_at "l_go"
      exact ⟨rfl, rfl⟩
    refine wp_mkLF ?_
    walk_at "l_go"
    exact ⟨rfl, rfl⟩
  refine wp_mkLF ?_
  walk_at "l_go"
  refine wp_ixL (by decide) (by with_unfolding_all rfl) ?_
  walk_at "l_go"
  refine wp_ixL (by decide) (by with_unfolding_all rfl) ?_
  walk_at "l_go"
  refine wp_ixL (by decide) (by with_unfolding_all rfl) ?_
  walk_at "l_go"
  show W.d _ = W.d _
  simp [Ren.toD, Ren.swap, psW, psS, psL, pairP, keyD, Function.comp_def]
end
/-! ### sizes -/
theorem pairs_sm {ps : Ps} (h : ∀ q ∈ ps, D.sm 0 (keyD q.1) = true ∧ D.sm 0 q.2 = true) : D.sm 2 (.tup (ps.map pairP)) = true := by
  simp only [D.sm, List.all_eq_true]
  intro x hx
  obtain ⟨q, hq, rfl⟩ := List.mem_map.mp hx
  simp only [pairP, D.sm, List.all_cons, List.all_nil, Bool.and_true, Bool.and_eq_true]
  exact h q hq
theorem RenG.sm3 {R : Ren} (g : RenG R) : D.sm 3 R.toD = true := by
  have big : ∀ {l : List Nat}, (∀ c ∈ l, c < 1000) → txOk l := fun h c hc => Nat.lt_trans (h c hc) (by decide)
  have one : ∀ {c : Nat}, c < 1000 → txOk [c] := fun h c hc => by simp at hc; omega
  have h1 : D.sm 2 (.tup ((psW R.w).map pairP)) = true := pairs_sm fun q hq => by
    obtain ⟨p, hp, rfl⟩ := List.mem_map.mp hq
    have := g.wc p hp
    exact ⟨sm_str (big this.1.1), sm_str (big this.2.1)⟩
  have h2 : D.sm 2 (.tup ((psS R.s).map pairP)) = true := pairs_sm fun q hq => by
    obtain ⟨p, hp, rfl⟩ := List.mem_map.mp hq
    have := g.sc p hp
    exact ⟨sm_str (one this.1.2), sm_str (one this.2.2)⟩
  have h3 : D.sm 2 (.tup ((psL R.l).map pairP)) = true := pairs_sm fun q hq => by
    obtain ⟨p, hp, rfl⟩ := List.mem_map.mp hq
    have := g.lc p hp
    exact ⟨sm_int (by unfold inOk; omega), sm_int (by unfold inOk; omega)⟩
  unfold Ren.toD
  show (D.sm 2 _ && (D.sm 2 _ && (D.sm 2 _ && (D.sm 2 _ && true)))) = true
  rw [h1, h2, h3, sm_int (by have := g.h; unfold inOk; omega)]
  rfl
theorem pairs_wt {ps : Ps} (hl : ps.length ≤ 10) (h : ∀ q ∈ ps, (keyD q.1).wt ≤ 82 ∧ q.2.wt ≤ 82) : D.wts (ps.map pairP) ≤ 1800 := by
  have := wts_le (ps.map pairP) 171 fun x hx => by
    obtain ⟨q, hq, rfl⟩ := List.mem_map.mp hx
    have := h q hq
    simp only [pairP, D.wt, D.wts]
    omega
  rw [List.length_map] at this
  have := Nat.mul_le_mul_right (171 + 2) hl
  omega
theorem RenG.wt {R : Ren} (g : RenG R) : R.toD.wt ≤ 6000 := by
  have h1 := pairs_wt (ps := psW R.w) (by simpa [psW] using g.n.1) fun q hq => by
    obtain ⟨p, hp, rfl⟩ := List.mem_map.mp hq
    have := g.wc p hp
    simp only [keyD, D.wt]; omega
  have h2 := pairs_wt (ps := psS R.s) (by simpa [psS] using g.n.2.1) fun q hq => by
    obtain ⟨p, hp, rfl⟩ := List.mem_map.mp hq
    simp only [keyD, D.wt, List.length_cons, List.length_nil]; omega
  have h3 := pairs_wt (ps := psL R.l) (by simpa [psL] using g.n.2.2) fun q hq => by
    obtain ⟨p, hp, rfl⟩ := List.mem_map.mp hq
    simp only [keyD, D.wt]; omega
  simp only [Ren.toD, D.wt, D.wts]
  omega
theorem drive_sm {l : List Pg} (h : ∀ p ∈ l, pgSmall p) : D.sm 5 (.tup (l.map pgD)) = true := by
  simp only [D.sm, List.all_eq_true]
  intro x hx
  obtain ⟨p, hp, rfl⟩ := List.mem_map.mp hx
  exact pgD_sm (h p hp)
/-- a sorted list of pages -/
theorem srt_pages {l : List Pg} (h : ∀ p ∈ l, pgSmall p) (hl : l.length ≤ 1000) (nd : l.Nodup) : ∃ m : List Pg, srt (l.map pgD) = m.map pgD ∧ m.Perm l ∧ Rising (m.map pgD) := by
  have hS := pages_srt h (by omega)
  have nd2 : (l.map pgD).Nodup := List.Pairwise.map _ (fun a b n e => n (pgD_inj e)) nd
  have key : ∀ (xs : List D), (∀ x ∈ xs, ∃ p ∈ l, x = pgD p) → ∃ m : List Pg, xs = m.map pgD := by
    intro xs
    induction xs with
    | nil => intro _; exact ⟨[], rfl⟩
    | cons x xs ih =>
      intro h
      obtain ⟨m, e⟩ := ih fun y hy => h y (by simp [hy])
      obtain ⟨p, _, rfl⟩ := h x (by simp)
      exact ⟨p :: m, by rw [e]; rfl⟩
  obtain ⟨m, e⟩ := key (srt (l.map pgD)) fun x hx => by
    obtain ⟨p, hp, rfl⟩ := List.mem_map.mp (mem_srt.mp hx)
    exact ⟨p, hp, rfl⟩
  refine ⟨m, e, ?_, e ▸ hS.rising nd2⟩
  have hp : (m.map pgD).Perm (l.map pgD) := e ▸ srt_perm _
  have ndm : m.Nodup := by
    have := (rising_nodup (e ▸ hS.rising nd2) : (m.map pgD).Nodup)
    exact (List.pairwise_map.mp this).imp fun {a b} q e => q (by rw [e])
  refine (List.perm_ext_iff_of_nodup ndm nd).mpr fun p => ⟨fun hm => ?_, fun hm => ?_⟩
  · obtain ⟨q, hq, e⟩ := List.mem_map.mp (hp.mem_iff.mp (List.mem_map.mpr ⟨p, hm, rfl⟩))
    exact pgD_inj e ▸ hq
  · obtain ⟨q, hq, e⟩ := List.mem_map.mp (hp.mem_iff.mpr (List.mem_map.mpr ⟨p, hm, rfl⟩))
    exact pgD_inj e ▸ hq
/-- the pages of the law's drive -/
structure DrOk (n : Int) (l : List Pg) : Prop where
  n12 : n ≤ 12
  len : l.length ≤ 50
  ri : Rising (l.map pgD)
  ok : ∀ p ∈ l, (0 ≤ p.1 ∧ p.1 ≤ 80000) ∧ DdOk n p.2
theorem DrOk.small {n : Int} {l : List Pg} (h : DrOk n l) : ∀ p ∈ l, pgSmall p := fun p hp => ⟨by have := (h.ok p hp).1; unfold inOk; omega, (h.ok p hp).2.sm h.n12⟩
theorem DrOk.pin {n : Int} {l : List Pg} (h : DrOk n l) {R : Ren} (k : RenK R) : ∀ p ∈ l, PgIn R p := fun p hp => by
  have q := h.ok p hp
  refine ⟨k.inN q.2, q.2.fits, ?_, k.g.small (k.inN q.2) (q.2.sm h.n12)⟩
  show inOk (p.1 + R.h)
  have := k.g.h; unfold inOk; omega
theorem DrOk.pinS {n : Int} {l : List Pg} (h : DrOk n l) {R : Ren} (k : RenK R) : ∀ p ∈ l.map R.rn.pg, PgIn R.swap p := fun p hp => by
  obtain ⟨p0, h0, rfl⟩ := List.mem_map.mp hp
  have q := h.ok p0 h0
  refine ⟨(k.g.ddb (k.inN q.2)).2, k.g.fits (k.inN q.2) q.2.fits, ?_⟩
  rw [k.g.pgb (k.inN q.2)]
  exact h.small p0 h0
theorem DrOk.pinI {n : Int} {l : List Pg} (h : DrOk n l) {R : Ren} (k : RenK R) : ∀ p ∈ l, PgIn R.same p := fun p hp => by
  have q := h.ok p hp
  refine ⟨same_in (k.inN q.2), q.2.fits, ?_⟩
  rw [same_pg]
  exact h.small p hp
theorem DrOk.back {n : Int} {l : List Pg} (h : DrOk n l) {R : Ren} (k : RenK R) : (l.map R.rn.pg).map R.swap.rn.pg = l := by
  rw [List.map_map]
  calc l.map (R.swap.rn.pg ∘ R.rn.pg) = l.map id := List.map_congr_left fun p hp => k.g.pgb (k.inN (h.ok p hp).2)
    _ = l := by simp
theorem same_map (R : Ren) (l : List Pg) : l.map R.same.rn.pg = l := by
  calc l.map R.same.rn.pg = l.map id := List.map_congr_left fun p _ => same_pg R p
    _ = l := by simp
end LD
/-! Q78h: the law. -/
namespace K78
open LD
theorem hp3 : PickOk r3 := pick_ok _
theorem sd {r : Rv} (hr : RvOk r) {p : Int} (p0 : 0 ≤ p) (p1 : p ≤ r.length) : TpF r4 [.d (rvD r), .d (.int p)] fun x => ∃ d : Dd, x = d.toD ∧ DdOk r.length d := said_ok (ip := 3) hp3 hr.len p0 p1
theorem st5 : TpF r5 [] fun x => ∃ st : List (List Nat), x = .tup (st.map .str) ∧ st.length ≤ 3 ∧ ∀ s ∈ st, s ∈ stampsSome := stamps_ok (ip := 3) hp3
theorem dd6 {r : Rv} (hr : RvOk r) (tp : Tp) (m : List (Int × Int)) (hm : SpOk r.length m) (hl : m.length < 1000) :
    Wp (r6 [.ref 0, .d (rvD r), .ref 1] [tp.o, spO m]) (fun w S => ∃ (d : Dd) (tp' : Tp) (m' : List (Int × Int)) (R : Sto), w = .d d.toD ∧ S = tp'.o :: spO m' :: R ∧ DdOk r.length d ∧ SpOk r.length m' ∧ m'.length ≤ m.length + 1) noE :=
  deed_ok (ip := 3) (isd := 4) (ist := 5) hp3 hr (fun p a b => sd hr a b) st5 tp m hm hl
theorem pg7 {r : Rv} (hr : RvOk r) {many : Nat} (hm : many ≤ 200) : TpF r7 [.d (rvD r), .d (.int many)] fun x => ∃ l : List Pg, x = .lst (l.map pgD) ∧ PgsOk r.length many l := pages_ok (ip := 3) (idd := 6) hp3 hr (fun tp m a b => dd6 hr tp m a b) hm
theorem rv10 : TpF r10 [] fun x => ∃ r, x = rvD r ∧ RvOk r := river_ok (ip := 3) hp3
theorem ren9 {pgs : List Pg} (hpg : ∀ p ∈ pgs, 0 ≤ p.1 ∧ p.1 ≤ 80000) (hl : pgs.length ≤ 50) : TpF r9 [.d (.tup (pgs.map pgD))] fun x => ∃ R : Ren, x = R.toD ∧ RenK R := renaming_ok (t := tabL glV [r0, r1, r2, r3, r4, r5, r6, r7, r8]) (t8 := tabL glV [r0, r1, r2, r3, r4, r5, r6, r7]) hp3 rfl hp3 hpg hl
theorem renamed14 {R : Ren} (hR : RenOk R) {l : List Pg} (hl : l.length ≤ 1000) (hp : ∀ p ∈ l, PgIn R p) :
    Wp (r14 [.d (.tup (l.map pgD)), .d (.tup ((psW R.w).map pairP)), .d (.tup ((psS R.s).map pairP)), .d (.tup ((psL R.l).map pairP)), .d (.int R.h)] []) (fun w _ => w = .d (.tup (srt ((l.map R.rn.pg).map pgD)))) noE :=
  renamed_ok (t := tabL glV [r0, r1, r2, r3, r4, r5, r6, r7, r8, r9, r10, r11, r12, r13]) (t13 := tabL glV [r0, r1, r2, r3, r4, r5, r6, r7, r8, r9, r10, r11, r12]) (t12 := tabL glV [r0, r1, r2, r3, r4, r5, r6, r7, r8, r9, r10, r11]) rfl rfl hR hl hp
theorem page2 {R : Ren} (hR : RenOk R) {p : Pg} (hp : p.2.inN R.W' R.S' R.L') (hf : p.2.fits) : Wp (r2 [.d R.toD, .d (pgD p)] []) (fun w _ => w = .d (pgD (R.rn.pg p))) noE := page_by_ok (t := tabL glV [r0, r1]) (t1 := tabL glV [r0]) rfl hR hp hf
theorem cont0 {R : Ren} (g : RenG R) : Wp (r0 [.d R.toD] []) (fun w _ => w = .d R.swap.toD) noE := contrary_ok g
theorem tape11 (ns : List Int) : Wp (r11 [.d (.scr ns)] []) (fun w S => w = .ref 0 ∧ ∃ tp : Tp, S = [tp.o]) noE := tape_ok ns
set_option maxHeartbeats 8000000 in
theorem law_wp (ns : List Int) : Wp (r15 [.d (.scr ns)] []) (fun w _ => w = .d (.bl true)) noE := by
  show Wp (runFd (tabL glV [r0, r1, r2, r3, r4, r5, r6, r7, r8, r9, r10, r11, r12, r13, r14]) fd15 [.d (.scr ns)] []) _ _
  unfold fd15
  walk_at "l_start"
  walk_at "l_go"
  refine (tape11 ns).mono ?_
  rintro w S ⟨rfl, tp, rfl⟩
  walk_at "l_go"
  refine Wp.mono (Q := fun w S => ∃ (m : Nat) (tp : Tp), w = .d (.int m) ∧ m ≤ 24 ∧ S = [tp.o]) ?_ ?_
  · refine wp_ite ?_
    walk_at "l_go"
    refine wp_pick hp3 rfl (by decide) (by decide) fun v tp1 v0 v1 => ?_
    walk_at "l_go"
    refine wp_split (fun h => ?_) (fun h => ?_)
    · walk_at "l_go"
      exact ⟨24, tp1, rfl, by decide, rfl⟩
    · walk_at "l_go"
      refine wp_pick hp3 rfl (by decide) (by decide) fun u tp2 u0 u1 => ?_
      walk_at "l_go"
      exact ⟨(1 + u).toNat, tp2, by rw [Int.toNat_of_nonneg (by omega)], by omega, rfl⟩
  rintro w S ⟨most, tp1, rfl, hmost, rfl⟩
  walk_at "l_go"
  refine wp_tape (tp := tp1) rfl rv10 rfl rfl ?_
  rintro _ tp2 ⟨r, rfl, hr⟩
  walk_at "l_go"
  refine wp_tape (tp := tp2) rfl (pg7 hr (many := most) (by omega)) rfl rfl ?_
  rintro _ tp3 ⟨pgs, rfl, hpgs⟩
  have hrl := hr.len
  have hpl := hpgs.len
  walk_at "l_go"
  have hsm : ∀ p ∈ pgs, pgSmall p := fun p hp => ⟨by have := (hpgs.ok p hp).1; unfold inOk; omega, (hpgs.ok p hp).2.sm (by omega)⟩
  refine wp_sortedL (pages_srt hsm (by omega)) ?_
  obtain ⟨l, el, hperm, hri⟩ := srt_pages hsm (by omega) hpgs.nd
  rw [el]
  have hd : DrOk r.length l := ⟨by omega, by rw [hperm.length_eq]; omega, hri, fun p hp => by
    have := hpgs.ok p (hperm.mem_iff.mp hp)
    exact ⟨⟨this.1.1, by omega⟩, this.2⟩⟩
  have hll : l.length ≤ 50 := hd.len
  walk_at "l_go"
  refine ⟨_, items_range1 (by decide), ?_⟩
  refine wp_compI (fun i acc S => ∃ (Rs : List Ren) (tp : Tp), acc = (Rs.map Ren.toD).map .d ∧ S = [tp.o] ∧ Rs.length = i ∧ ∀ R ∈ Rs, RenK R) _ 0 _ _ ⟨[], tp3, rfl, rfl, rfl, by simp⟩ ?_ ?_
  · rintro j it acc S hj ⟨Rs, tp, rfl, rfl, hl, hs⟩
    obtain ⟨rfl, hjn⟩ := item_range hj
    refine wp_cstep0 (by with_unfolding_all rfl) ?_
    walk_at "l_go"
    refine wp_tape (tp := tp) rfl (ren9 (fun p hp => (hd.ok p hp).1) hll) rfl rfl ?_
    rintro _ tp4 ⟨R, rfl, hk⟩
    refine ⟨by simp [LIM]; omega, Rs ++ [R], tp4, by simp, rfl, by simp [hl], fun z hz => ?_⟩
    rcases List.mem_append.mp hz with h | h
    · exact hs z h
    · simp at h; exact h ▸ hk
  rintro acc S ⟨Rs, tp4, rfl, rfl, hRl, hRk⟩
  refine ⟨rfl, ?_⟩
  have hRl : Rs.length = 2 := by simpa [rangeI] using hRl
  obtain ⟨R1, R2, rfl⟩ : ∃ R1 R2, Rs = [R1, R2] := by
    match Rs, hRl with
    | [a, b], _ => exact ⟨a, b, rfl⟩
  have k1 := hRk R1 (by simp)
  have k2 := hRk R2 (by simp)
  refine wp_mkLF ?_
  simp only [List.map_cons, List.map_nil]
  walk_at "l_go"
  have hrep : ∀ {S : Sto} {Q : W → Sto → Prop} {E : XP} (x : D), D.sm 6 x = true → isSq x = true → x.wt ≤ LIM → Q (.d (.str x.shown)) S → Wp (builtin .repr true [.d x] S) Q E := fun x a b c q => wp_ok (repr_ok a (by decide) b c) q
  have hpair : D.sm 6 (.tup [.tup (l.map pgD), .lst [R1.toD, R2.toD]]) = true ∧ (D.tup [.tup (l.map pgD), .lst [R1.toD, R2.toD]]).wt ≤ LIM := by
    constructor
    · have h1 := drive_sm hd.small
      have h2 := sm_mono 3 4 _ (by decide) k1.g.sm3
      have h3 := sm_mono 3 4 _ (by decide) k2.g.sm3
      show (D.sm 5 _ && (D.sm 5 (.lst _) && true)) = true
      rw [h1]
      show (true && ((D.sm 4 _ && (D.sm 4 _ && true)) && true)) = true
      rw [h2, h3]; rfl
    · have h1 := pgs_wt hll fun p hp => (hd.ok p hp).2.fits
      have h2 := k1.g.wt
      have h3 := k2.g.wt
      simp only [D.wt, D.wts, LIM]
      omega
  refine hrep _ hpair.1 rfl hpair.2 ?_
  generalize hH : (D.tup [.tup (l.map pgD), .lst [R1.toD, R2.toD]]).shown = H
  walk_at "l_go"
  refine ⟨_, rfl, ?_⟩
  refine wp_slToL (by decide) ?_
  refine wp_addL (by simp [LIM]) ?_
  walk_at "l_go"
  refine ⟨_, items_lst, ?_⟩
  refine wps_forI (fun i ρ S => ∃ a7 a9 a10 a12 a13 a14 a15 : Option W, ρ = [some (.d (.scr ns)), some (.ref 0), some (.d (.int most)), some (.d (rvD r)), some (.d (.tup (l.map pgD))), some (.d (.lst [R1.toD, R2.toD])), some (.d (.str H)), a7, none, a9, a10, none, a12, a13, a14, a15, none, none, none, none] ∧ S = [tp4.o]) _ 0 _ _
    ⟨none, none, none, none, none, none, none, rfl, rfl⟩ ?_ ?_
  · rintro j it ρ S hj ⟨a7, a9, a10, a12, a13, a14, a15, rfl, rfl⟩
    obtain ⟨R, rfl, k⟩ : ∃ R, it = .one (.d R.toD) ∧ RenK R := by
      obtain ⟨x, hx, rfl⟩ := List.mem_map.mp (List.mem_of_getElem? hj)
      simp only [List.take_succ_cons, List.take_zero, Int.toNat_one, List.cons_append, List.nil_append, List.mem_cons, List.not_mem_nil, or_false] at hx
      rcases hx with rfl | rfl | rfl
      · exact ⟨R1, rfl, k1⟩
      · exact ⟨R2, rfl, k2⟩
      · exact ⟨R1, rfl, k1⟩
    refine wps_turn (by with_unfolding_all rfl) ?_
    walk_at "l_go"
    refine ⟨_, rfl, ?_⟩
    walk_at "l_go"
    refine ⟨_, items_tup, ?_⟩
    have e : (l.map pgD).map (fun x => Item.one (.d x)) = l.map fun p => Item.one (.d (pgD p)) := by simp [Function.comp_def]
    simp only
    rw [e]
    refine wp_compD (fun p => Item.one (.d (pgD p))) (fun p => pgD (R.rn.pg p)) l (fun p hpm => ?_) (by simp [LIM]; omega) ?_
    · refine eq_wp (wp_cstep0 (by with_unfolding_all rfl) ?_)
      walk_at "l_go"
      refine wp_callE (page2 k.g.ok (k.inN (hd.ok p hpm).2) (hd.ok p hpm).2.fits) rfl rfl ?_
      exact ⟨rfl, rfl⟩
    refine wp_mkLF ?_
    walk_at "l_go"
    have e2 : (l.map fun p => pgD (R.rn.pg p)) = (l.map R.rn.pg).map pgD := by simp [Function.comp_def]
    rw [e2]
    have hri2 := ren_rising k.g.mono (fun p hp => k.inN (hd.ok p hp).2) hri
    refine wp_callE (renamed14 k.g.ok (by omega) (hd.pin k)) rfl rfl ?_
    rw [srt_rising hri2]
    have hsm2 : ∀ p ∈ l.map R.rn.pg, pgSmall p := fun p hp => by
      obtain ⟨q, hq, rfl⟩ := List.mem_map.mp hp
      exact (hd.pin k q hq).sm
    have hd2 : D.sm 6 (.tup ((l.map R.rn.pg).map pgD)) = true := sm_mono 5 6 _ (by decide) (drive_sm hsm2)
    have hw2 : (D.tup ((l.map R.rn.pg).map pgD)).wt ≤ LIM := by
      have := pgs_wt (l := l.map R.rn.pg) (by simpa using hll) fun p hp => by
        obtain ⟨q, hq, rfl⟩ := List.mem_map.mp hp
        exact k.g.fits (k.inN (hd.ok q hq).2) (hd.ok q hq).2.fits
      simp only [D.wt, LIM]; omega
    have hd1 : D.sm 6 (.tup (l.map pgD)) = true := sm_mono 5 6 _ (by decide) (drive_sm hd.small)
    have hw1 : (D.tup (l.map pgD)).wt ≤ LIM := by
      have := pgs_wt hll fun p hp => (hd.ok p hp).2.fits
      simp only [D.wt, LIM]; omega
    walk_at "l_go"
    refine wp_ok (a := .d (.bl true)) rfl ?_
    refine ⟨_, rfl, ?_⟩
    refine wp_false ?_
    walk_at "l_go"
    refine hrep _ hd2 rfl hw2 ?_
    walk_at "l_go"
    refine hrep _ hd2 rfl hw2 ?_
    walk_at "l_go"
    refine wp_noN rfl ?_
    walk_at "l_go"
    refine wp_listT ?_
    walk_at "l_go"
    refine wp_sortedT (pages_srt hsm2 (by simp; omega)) ?_
    rw [srt_rising hri2]
    have hnb : D.nb (.lst ((l.map R.rn.pg).map pgD)) = true := by simp only [D.nb]; exact nbs_map pgD_nb _
    have hok : okD (.lst ((l.map R.rn.pg).map pgD)) = true := sm_ok 6 30 _ (by decide) hd2
    refine wp_neD hnb hnb hok hok ?_
    refine wp_noN rfl ?_
    walk_at "l_go"
    refine wp_callE (cont0 k.g) rfl rfl ?_
    refine ⟨_, rfl, ?_⟩
    walk_at "l_go"
    refine wp_callE (renamed14 k.g.sw.ok (by simp; omega) (hd.pinS k)) rfl rfl ?_
    rw [hd.back k, srt_rising hri]
    walk_at "l_go"
    refine hrep _ hd1 rfl hw1 ?_
    walk_at "l_go"
    refine hrep _ hd1 rfl hw1 ?_
    walk_at "l_go"
    refine wp_noN rfl ?_
    walk_at "l_go"
    exact ⟨_, _, _, _, _, _, _, rfl, rfl⟩
  · rintro ρ S ⟨a7, a9, a10, a12, a13, a14, a15, rfl, rfl⟩
    refine ⟨rfl, ?_⟩
    have hd1 : D.sm 6 (.tup (l.map pgD)) = true := sm_mono 5 6 _ (by decide) (drive_sm hd.small)
    have hw1 : (D.tup (l.map pgD)).wt ≤ LIM := by
      have := pgs_wt hll fun p hp => (hd.ok p hp).2.fits
      simp only [D.wt, LIM]; omega
    walk_at "l_go"
    refine wp_ixL (x := R1.toD) (by decide) rfl ?_
    walk_at "l_go"
    refine ⟨_, rfl, ?_⟩
    refine wp_slToT (l := [.tup ((psW R1.w).map pairP), .tup ((psS R1.s).map pairP), .tup ((psL R1.l).map pairP), .int R1.h]) (by decide) ?_
    walk_at "l_go"
    refine ⟨_, items_tup, ?_⟩
    have hlen : ∀ ps ∈ [psW R1.w, psS R1.s, psL R1.l], ps.length ≤ 10 := by
      intro ps hps
      have := k1.g.n
      simp only [List.mem_cons, List.not_mem_nil, or_false] at hps
      rcases hps with rfl | rfl | rfl <;> simp [psW, psS, psL, this]
    refine wp_compD (fun ps : Ps => Item.one (.d (.tup (ps.map pairP)))) (fun ps : Ps => D.tup (ps.map fun q => .tup [keyD q.1, keyD q.1])) [psW R1.w, psS R1.s, psL R1.l] (fun ps hps => ?_) (by simp [LIM]) ?_
    · refine eq_wp (wp_cstep0 (by with_unfolding_all rfl) ?_)
      walk_at "l_go"
      refine ⟨_, items_tup, ?_⟩
      have e : (ps.map pairP).map (fun x => Item.one (.d x)) = ps.map fun q => Item.one (.d (pairP q)) := by simp [Function.comp_def]
      simp only
      rw [e]
      refine wp_compD (fun q : Ky × D => Item.one (.d (pairP q))) (fun q : Ky × D => D.tup [keyD q.1, keyD q.1]) ps (fun q hq => ?_) (by have := hlen ps hps; simp [LIM]; omega) ?_
      · refine eq_wp (wp_cstep0 (by with_unfolding_all rfl) ?_)
        walk_at "l_go"
        exact ⟨rfl, rfl⟩
      refine wp_mkLF ?_
      walk_at "l_go"
      exact ⟨rfl, rfl⟩
    refine wp_mkLF ?_
    have e1 : (psW R1.w).map (fun q => D.tup [keyD q.1, keyD q.1]) = (psW R1.same.w).map pairP := by simp [Ren.same, psW, pairP, keyD, Function.comp_def]
    have e2 : (psS R1.s).map (fun q => D.tup [keyD q.1, keyD q.1]) = (psS R1.same.s).map pairP := by simp [Ren.same, psS, pairP, keyD, Function.comp_def]
    have e3 : (psL R1.l).map (fun q => D.tup [keyD q.1, keyD q.1]) = (psL R1.same.l).map pairP := by simp [Ren.same, psL, pairP, keyD, Function.comp_def]
    simp only [List.map_cons, List.map_nil]
    rw [e1, e2, e3]
    walk_at "l_go"
    refine wp_ixL (x := .tup ((psW R1.same.w).map pairP)) (by decide) rfl ?_
    walk_at "l_go"
    refine wp_ixL (x := .tup ((psS R1.same.s).map pairP)) (by decide) rfl ?_
    walk_at "l_go"
    refine wp_ixL (x := .tup ((psL R1.same.l).map pairP)) (by decide) rfl ?_
    walk_at "l_go"
    refine wp_callE (renamed14 k1.g.sa.ok (by omega) (hd.pinI k1)) rfl rfl ?_
    rw [same_map, srt_rising hri]
    walk_at "l_go"
    refine hrep _ hd1 rfl hw1 ?_
    walk_at "l_go"
    refine hrep _ hd1 rfl hw1 ?_
    walk_at "l_go"
    refine wp_noN rfl ?_
    walk_at "l_go"
    refine hrep _ hpair.1 rfl hpair.2 ?_
    walk_at "l_go"
    refine wp_yes hH ?_
    walk_at "l_go"
    have hz : RenOk (⟨[], [], [], 5⟩ : Ren) := ⟨.nil, .nil, .nil, rfl⟩
    refine wp_callE (renamed14 (R := ⟨[], [], [], 5⟩) (l := []) hz (by decide) (by simp)) rfl rfl ?_
    rw [show srt ((([] : List Pg).map (Ren.rn ⟨[], [], [], 5⟩).pg).map pgD) = [] from srt_rising .nil]
    walk_at "l_go"
    refine hrep _ rfl rfl (by decide) ?_
    walk_at "l_go"
    refine hrep _ rfl rfl (by decide) ?_
    walk_at "l_go"
    simp
theorem law_true (ns : List Int) (_ : ns.length ≤ 63) : ∃ S, r15 [.d (.scr ns)] [] = .ok (.d (.bl true)) S := by
  obtain ⟨w, S, e, rfl⟩ := ex_wp (law_wp ns)
  exact ⟨S, e⟩
end K78
open PySem PySem.W PyProof.Rows in
set_option maxRecDepth 100000 in
set_option maxHeartbeats 0 in
theorem PySem.Challenge.cw_logdrive_k78_names_turned_holds : PySem.Challenge.rw_logdrive_k78_names_turned.Holds := by
  w_on; o_law; k_head; (case hw => w_witness2)
  k_fill
  refine LD.law_end (l := PySem.Challenge.rw_logdrive_k78_names_turned) (n := 63) (k := 17) (x := "_law_script") (ds := K78.ds) (L := K78.L) (glv := K78.glV) (gl := K78.glN) (dl := K78.d15) (rl := K78.r15) (jl := 15) rfl (by decide) rfl ⟨rfl, by decide, by decide⟩ (fun w h Y => PySem.W.kIn_of Y) K78.chk K78.allL rfl rfl rfl rfl (by decide) rfl K78.law_true ?F (fun K => LD.bindsTo_mk rfl K78.b15)
  case F =>
    intro w mg h KX G
    refine ⟨LD.AllStand.at ?st, LD.BltAll.at KX G ?bl, ?gl⟩
    case st =>
      refine ⟨?s0, ?s1, ?s2, ?s3, ?s4, ?s5, ?s6, ?s7, ?s8, ?s9, ?s10, ?s11, ?s12, ?s13, ?s14, ?s15, trivial⟩
      (case s0 => refine' LD.st_mk KX G K78.b0 ?a ?l ?c ?k; (case a => show PySem.W.nsIn _ _ "_law_contrary" = _; k_is); (case l => k_is); (case c => show PySem.W.codeIn _ _ "_law_contrary" = _; k_is); (case k => k_is))
      (case s1 => refine' LD.st_mk KX G K78.b1 ?a ?l ?c ?k; (case a => show PySem.W.nsIn _ _ "_law_stamp_by" = _; k_is); (case l => k_is); (case c => show PySem.W.codeIn _ _ "_law_stamp_by" = _; k_is); (case k => k_is))
      (case s2 => refine' LD.st_mk KX G K78.b2 ?a ?l ?c ?k; (case a => show PySem.W.nsIn _ _ "_law_page_by" = _; k_is); (case l => k_is); (case c => show PySem.W.codeIn _ _ "_law_page_by" = _; k_is); (case k => k_is))
      (case s3 => refine' LD.st_mk KX G K78.b3 ?a ?l ?c ?k; (case a => show PySem.W.nsIn _ _ "_law_pick" = _; k_is); (case l => k_is); (case c => show PySem.W.codeIn _ _ "_law_pick" = _; k_is); (case k => k_is))
      (case s4 => refine' LD.st_mk KX G K78.b4 ?a ?l ?c ?k; (case a => show PySem.W.nsIn _ _ "_law_said" = _; k_is); (case l => k_is); (case c => show PySem.W.codeIn _ _ "_law_said" = _; k_is); (case k => k_is))
      (case s5 => refine' LD.st_mk KX G K78.b5 ?a ?l ?c ?k; (case a => show PySem.W.nsIn _ _ "_law_stamps" = _; k_is); (case l => k_is); (case c => show PySem.W.codeIn _ _ "_law_stamps" = _; k_is); (case k => k_is))
      (case s6 => refine' LD.st_mk KX G K78.b6 ?a ?l ?c ?k; (case a => show PySem.W.nsIn _ _ "_law_page_deed" = _; k_is); (case l => k_is); (case c => show PySem.W.codeIn _ _ "_law_page_deed" = _; k_is); (case k => k_is))
      (case s7 => refine' LD.st_mk KX G K78.b7 ?a ?l ?c ?k; (case a => show PySem.W.nsIn _ _ "_law_pages" = _; k_is); (case l => k_is); (case c => show PySem.W.codeIn _ _ "_law_pages" = _; k_is); (case k => k_is))
      (case s8 => refine' LD.st_mk KX G K78.b8 ?a ?l ?c ?k; (case a => show PySem.W.nsIn _ _ "_law_rising" = _; k_is); (case l => k_is); (case c => show PySem.W.codeIn _ _ "_law_rising" = _; k_is); (case k => k_is))
      (case s9 => refine' LD.st_mk KX G K78.b9 ?a ?l ?c ?k; (case a => show PySem.W.nsIn _ _ "_law_renaming" = _; k_is); (case l => k_is); (case c => show PySem.W.codeIn _ _ "_law_renaming" = _; k_is); (case k => k_is))
      (case s10 => refine' LD.st_mk KX G K78.b10 ?a ?l ?c ?k; (case a => show PySem.W.nsIn _ _ "_law_river" = _; k_is); (case l => k_is); (case c => show PySem.W.codeIn _ _ "_law_river" = _; k_is); (case k => k_is))
      (case s11 => refine' LD.st_mk KX G K78.b11 ?a ?l ?c ?k; (case a => show PySem.W.nsIn _ _ "_law_tape" = _; k_is); (case l => k_is); (case c => show PySem.W.codeIn _ _ "_law_tape" = _; k_is); (case k => k_is))
      (case s12 => refine' LD.st_mk KX G K78.b12 ?a ?l ?c ?k; (case a => show PySem.W.nsIn _ _ "otherwise" = _; k_is); (case l => k_is); (case c => show PySem.W.codeIn _ _ "otherwise" = _; k_is); (case k => k_is))
      (case s13 => refine' LD.st_mk KX G K78.b13 ?a ?l ?c ?k; (case a => show PySem.W.nsIn _ _ "deed_renamed" = _; k_is); (case l => k_is); (case c => show PySem.W.codeIn _ _ "deed_renamed" = _; k_is); (case k => k_is))
      (case s14 => refine' LD.st_mk KX G K78.b14 ?a ?l ?c ?k; (case a => show PySem.W.nsIn _ _ "renamed" = _; k_is); (case l => k_is); (case c => show PySem.W.codeIn _ _ "renamed" = _; k_is); (case k => k_is))
      (case s15 => refine' LD.st_mk KX G K78.b15 ?a ?l ?c ?k; (case a => show PySem.W.nsIn _ _ "law" = _; k_is); (case l => k_is); (case c => show PySem.W.codeIn _ _ "law" = _; k_is); (case k => k_is))
    case bl =>
      refine ⟨?b0, ?b1, ?b2, ?b3, ?b4, ?b5, ?b6, ?b7, ?b8, ?b9, ?b10, ?b11, ?b12, ?b13, ?b14, ?b15, ?b16, ?b17, ?b18, ?b19, trivial⟩
      (case b0 => k_is)
      (case b1 => k_is)
      (case b2 => k_is)
      (case b3 => k_is)
      (case b4 => k_is)
      (case b5 => k_is)
      (case b6 => k_is)
      (case b7 => k_is)
      (case b8 => k_is)
      (case b9 => k_is)
      (case b10 => k_is)
      (case b11 => k_is)
      (case b12 => k_is)
      (case b13 => k_is)
      (case b14 => k_is)
      (case b15 => k_is)
      (case b16 => k_is)
      (case b17 => k_is)
      (case b18 => k_is)
      (case b19 => k_is)
    case gl =>
      intro i y v h1 h2; cases h1
