import PyProof.Rows.All
import Wide.All
import OpenK.AllK
import Wide.FinOn
import KE.KStateDown
import HandS.Base
import HandS.Call
import HandS.Ends
import HandS.More
import HandS.Words
import HandS.WordsExc
import HandS.Defaults
import HandS.Head0
import HandS.Head1
import HandS.Head2
import HandS.HeadEnd
import HandS.HeadHook1
import HandS.HeadHook2
import HandS.ForMost
import HandS.ForExc
import HandS.Walk
import HandS.TupAny
import HandS.TupMul
import HandS.Deep
import HandS.Text
import PyProof.StrOps2
import KE.KEqNest
import PyProof.DictFindH
import PyProof.NeKinds
import KE.GoesMore
import KE.GoesNew
import KE.KDictWalk
import HandS.IsInst
import HandS.TupLen
import HandS.Conv
import KE.KDictCopyH
import HandS.DictComp
import HandS.Style
import HandS.Small
import KE.SortKeyed
import KE.DataMinMax
import KE.OsSortAny
import HandS.Strs
import KE.KDictZip
import HandS.LawCells
import HandS.Wide
import PySem.Challenge.RW_wordends_k65_new_shapes
set_option Elab.async false
set_option linter.all false
set_option autoImplicit false
set_option maxRecDepth 100000
set_option maxHeartbeats 8000000
/-! W1: Python values as plain data, and the plain evaluator of the small syntax. -/
namespace W
/-- Python values as plain data -/
inductive D where
  | non | bl (b : Bool) | int (i : Int) | str (s : List Nat)
  | tup (l : List D) | lst (l : List D) | dct (ks vs : List D) | set (l : List D)
  /-- the law's draw; a dict that calls share -/
  | drw | cel (i : Nat)
  deriving Inhabited
/-- what calls share: the number of draws so far, shared dicts -/
structure MS where
  n : Nat
  cs : List (List D × List D)
/-- results, with what is shared behind -/
inductive R (α : Type) where
  | ok (a : α) (s : MS) | exc (c : Nat) (x : D) (s : MS) | stuck
abbrev M (α : Type) := MS → R α
namespace M
@[inline] def pure {α : Type} (a : α) : M α := fun s => .ok a s
@[inline] def bind {α β : Type} (m : M α) (f : α → M β) : M β := fun n => match m n with
  | .ok a n' => f a n'
  | .exc c x n' => .exc c x n'
  | .stuck => .stuck
def stuck {α : Type} : M α := fun _ => .stuck
def exc {α : Type} (c : Nat) (x : D) : M α := fun n => .exc c x n
def ofO {α : Type} : Option α → M α
  | some a => M.pure a
  | none => stuck
/-- where no exception may leave -/
def nox {α : Type} (m : M α) : M α := fun n => match m n with
  | .exc _ _ _ => .stuck
  | r => r
end M
instance : Monad M := { pure := M.pure, bind := M.bind }
/-! ### operations on data -/
def line : Nat := 16777216
def b2i : Bool → Int
  | true => 1
  | false => 0
def eqL : List Nat → List Nat → Bool
  | [], [] => true
  | a :: l, b :: m => Nat.beq a b && eqL l m
  | _, _ => false
def ltL : List Nat → List Nat → Bool
  | [], _ :: _ => true
  | a :: l, b :: m => bif Nat.beq a b then ltL l m else Nat.blt a b
  | _, [] => false
def eqI (i j : Int) : Bool := decide (i = j)
def ltI (i j : Int) : Bool := decide (i < j)
def leI (i j : Int) : Bool := decide (i ≤ j)
/-- flat keys -/
def keq1 : D → D → Bool
  | .int i, .int j => eqI i j
  | .str s, .str t => eqL s t
  | _, _ => false
def keqs : List D → List D → Bool
  | [], [] => true
  | a :: l, b :: m => keq1 a b && keqs l m
  | _, _ => false
/-- equal keys: ints, texts, tuples of such -/
def keq : D → D → Bool
  | .int i, .int j => eqI i j
  | .str s, .str t => eqL s t
  | .tup l, .tup m => keqs l m
  | _, _ => false
def isKey1 : D → Bool
  | .int _ => true
  | .str _ => true
  | _ => false
def isKeyT : D → Bool
  | .tup l => l.all isKey1
  | _ => false
def look (k : D) : List D → List D → Option D
  | k' :: ks, v :: vs => bif keq k k' then some v else look k ks vs
  | _, _ => none
def has (k : D) : List D → Bool
  | k' :: ks => bif keq k k' then true else has k ks
  | [] => false
/-- a key that suits the keys that are there -/
def kOk (k : D) : List D → Bool
  | k' :: _ => bif isKeyT k' then isKeyT k else isKey1 k
  | [] => isKey1 k || isKeyT k
/-- d[k] = v: the values behind (the key is there) -/
def putV (k v : D) : List D → List D → List D
  | k' :: ks, v' :: vs => bif keq k k' then v :: vs else v' :: putV k v ks vs
  | _, vs => vs
def put (k v : D) (ks vs : List D) : List D × List D :=
  bif has k ks then (ks, putV k v ks vs) else (ks ++ [k], vs ++ [v])
def puts : List D → List D → List D → List D → List D × List D
  | k :: ks', v :: vs', ks, vs => puts ks' vs' (put k v ks vs).1 (put k v ks vs).2
  | _, _, ks, vs => (ks, vs)
/-- pair by pair, every pair asked -/
def eqZ (f : D → D → Option Bool) : List D → List D → Option Bool
  | a :: l, b :: m => match f a b with
    | some c => match eqZ f l m with
      | some r => some (c && r)
      | none => none
    | none => none
  | _, _ => some true
def eqLs (f : D → D → Option Bool) (l m : List D) : Option Bool := match eqZ f l m with
  | some c => some (c && Nat.beq l.length m.length)
  | none => none
/-- each entry of the one stands in the other -/
def eqDs (f : D → D → Option Bool) (ks' vs' : List D) : List D → List D → Option Bool
  | k :: ks, v :: vs => match eqDs f ks' vs' ks vs with
    | some r => match look k ks' vs' with
      | none => some false
      | some v' => match f v v' with
        | some c => some (c && r)
        | none => none
    | none => none
  | _, _ => some true
/-- keys of one kind (no keys: of either) -/
def kindK : List D → Bool
  | k :: _ => isKeyT k
  | [] => false
/-- == ; none where it is not served -/
def eqN : Nat → D → D → Option Bool
  | 0, _, _ => none
  | n + 1, .tup l, .tup m => eqLs (eqN n) l m
  | n + 1, .lst l, .lst m => bif Nat.beq l.length m.length then eqLs (eqN n) l m else some false
  | n + 1, .dct ks vs, .dct ks' vs' => bif kindK ks == kindK ks' || ks.isEmpty || ks'.isEmpty then (bif Nat.beq ks.length ks'.length then eqDs (eqN n) ks' vs' ks vs else some false) else none
  | _, .non, .non => some true
  | _, .bl a, .bl b => some (a == b)
  | _, .bl a, .int j => some (eqI (b2i a) j)
  | _, .int i, .bl b => some (eqI i (b2i b))
  | _, .int i, .int j => some (eqI i j)
  | _, .str s, .str t => some (eqL s t)
  | _, .dct _ _, _ => none
  | _, _, .dct _ _ => none
  | _, .set _, _ => none
  | _, _, .set _ => none
  | _, .drw, _ => none
  | _, _, .drw => none
  | _, .cel _, _ => none
  | _, _, .cel _ => none
  | _, _, _ => some false
def D.eq (d e : D) : Option Bool := eqN 9 d e
mutual
/-- == of data that are alike -/
def eqD : D → D → Bool
  | .int i, e => match e with
    | .int j => eqI i j
    | _ => false
  | .str s, e => match e with
    | .str t => eqL s t
    | _ => false
  | .bl a, e => match e with
    | .bl b => a == b
    | _ => false
  | .non, e => match e with
    | .non => true
    | _ => false
  | .tup l, e => match e with
    | .tup m => eqDl l m
    | _ => false
  | .lst l, e => match e with
    | .lst m => eqDl l m
    | _ => false
  | _, _ => false
def eqDl : List D → List D → Bool
  | [], m => match m with
    | [] => true
    | _ :: _ => false
  | a :: l, m => match m with
    | [] => false
    | b :: m => eqD a b && eqDl l m
end
mutual
/-- < of data that are alike -/
def ltD : D → D → Bool
  | .int i, e => match e with
    | .int j => ltI i j
    | _ => false
  | .str s, e => match e with
    | .str t => ltL s t
    | _ => false
  | .bl a, e => match e with
    | .bl b => !a && b
    | _ => false
  | .tup l, e => match e with
    | .tup m => ltDl l m
    | _ => false
  | .lst l, e => match e with
    | .lst m => ltDl l m
    | _ => false
  | _, _ => false
def ltDl : List D → List D → Bool
  | [], m => match m with
    | [] => false
    | _ :: _ => true
  | a :: l, m => match m with
    | [] => false
    | b :: m => bif eqD a b then ltDl l m else ltD a b
end
mutual
/-- place by place of one kind -/
def alikeD : D → D → Bool
  | .int _, e => match e with
    | .int _ => true
    | _ => false
  | .str _, e => match e with
    | .str _ => true
    | _ => false
  | .bl _, e => match e with
    | .bl _ => true
    | _ => false
  | .non, e => match e with
    | .non => true
    | _ => false
  | .tup l, e => match e with
    | .tup m => alikeDl l m
    | _ => false
  | .lst l, e => match e with
    | .lst m => alikeDl l m
    | _ => false
  | _, _ => false
def alikeDl : List D → List D → Bool
  | [], _ => true
  | a :: l, m => match m with
    | [] => true
    | b :: m => alikeD a b && alikeDl l m
end
mutual
/-- at most n deep -/
def shal : D → Nat → Bool
  | .tup l, n => match n with
    | 0 => false
    | n + 1 => shals l n
  | .lst l, n => match n with
    | 0 => false
    | n + 1 => shals l n
  | _, _ => true
def shals : List D → Nat → Bool
  | [], _ => true
  | a :: l, n => shal a n && shals l n
end
def alikeAll : List D → Bool
  | [] => true
  | d :: l => alikeD d d && (l.all (alikeD d) && alikeAll l)
def isTupNE : D → Bool
  | .tup (_ :: _) => true
  | _ => false
def notTN : D → Bool
  | .tup _ => false
  | .non => false
  | _ => true
/-- what sorted is served for -/
def sortOk (l : List D) : Bool := alikeAll l && (l.all isTupNE || l.all notTN) && shals l 8
def isPre : List Nat → List Nat → Bool
  | [], _ => true
  | a :: l, b :: m => Nat.beq a b && isPre l m
  | _ :: _, [] => false
/-- one text within another -/
def isSub (s : List Nat) : List Nat → Bool
  | [] => isPre s []
  | a :: t => bif isPre s (a :: t) then true else isSub s t
/-- how often, none upon another -/
def cntSub (s : List Nat) : Nat → List Nat → Nat
  | 0, _ => 0
  | _ + 1, [] => 0
  | f + 1, a :: t => bif isPre s (a :: t) then cntSub s f ((a :: t).drop s.length) + 1 else cntSub s f t
mutual
/-- no dict within -/
def noD : D → Bool
  | .tup l => noDs l
  | .lst l => noDs l
  | .non => true
  | .bl _ => true
  | .int _ => true
  | .str _ => true
  | _ => false
def noDs : List D → Bool
  | [] => true
  | d :: l => noD d && noDs l
end
def inL (x : D) : List D → Option Bool
  | [] => some false
  | a :: l => match D.eq a x with
    | some b => match inL x l with
      | some c => some (b || c)
      | none => none
    | none => none
def inS (x : D) (l : List D) : Option Bool := bif noD x && noDs l then inL x l else none
/-- the place that an index of any sign means -/
def ixN (n : Nat) (i : Int) : Option Nat := if 0 ≤ i then (if i < n then some i.toNat else none) else if -(n : Int) ≤ i then some (i + n).toNat else none
def atI {α : Type} (xs : List α) (i : Int) : Option α := (ixN xs.length i).bind fun j => xs[j]?
/-- a slice's bound as a place among n -/
def sIx (n d : Nat) : Option Int → Nat
  | none => d
  | some i => if i < 0 then (i + n).toNat else min i.toNat n
def cutL {α : Type} (xs : List α) (lo hi : Option Int) : List α := (xs.drop (sIx xs.length 0 lo)).take (sIx xs.length xs.length hi - sIx xs.length 0 lo)
/-- one item into an ordered list, ahead of what is not less: pairs of a key and an item -/
def insP (x : D × D) : List (D × D) → List (D × D)
  | [] => [x]
  | y :: l => bif ltD y.1 x.1 then y :: insP x l else x :: y :: l
/-- sorted by keys, stable -/
def srtP : List (D × D) → List (D × D)
  | [] => []
  | x :: l => insP x (srtP l)
/-- the first of the least by keys -/
def minP : D × D → List (D × D) → D × D
  | b, [] => b
  | b, x :: l => minP (bif ltD x.1 b.1 then x else b) l
/-- the first of the greatest -/
def maxP : D × D → List (D × D) → D × D
  | b, [] => b
  | b, x :: l => maxP (bif ltD b.1 x.1 then x else b) l
def self2 (l : List D) : List (D × D) := l.map fun d => (d, d)
def seqO : D → Option (List D)
  | .tup l => some l
  | .lst l => some l
  | _ => none
/-- lists, tuples, texts -/
def seqS : D → Option (List D)
  | .tup l => some l
  | .lst l => some l
  | .str s => some (s.map fun c => .str [c])
  | _ => none
/-- what a walk yields -/
def iterO : D → Option (List D)
  | .tup l => some l
  | .lst l => some l
  | .str s => some (s.map fun c => .str [c])
  | .dct ks _ => some ks
  | _ => none
def enumL : Int → List D → List D
  | _, [] => []
  | i, d :: l => .tup [.int i, d] :: enumL (i + 1) l
def zipL : List D → List D → List D
  | a :: l, b :: m => .tup [a, b] :: zipL l m
  | _, _ => []
def zip3L : List D → List D → List D → List D
  | a :: l, b :: m, c :: n => .tup [a, b, c] :: zip3L l m n
  | _, _, _ => []
def rangeL : Nat → Int → Int → List D
  | 0, _, _ => []
  | n + 1, i, c => .int i :: rangeL n (i + c) c
def strsO : List D → Option (List (List Nat))
  | [] => some []
  | .str s :: l => match strsO l with
    | some r => some (s :: r)
    | none => none
  | _ :: _ => none
def intsO : List D → Option (List Int)
  | [] => some []
  | .int i :: l => match intsO l with
    | some r => some (i :: r)
    | none => none
  | _ :: _ => none
def blsO : List D → Option (List Bool)
  | [] => some []
  | .bl b :: l => match blsO l with
    | some r => some (b :: r)
    | none => none
  | _ :: _ => none
def lstsO : List D → Option (List (List D))
  | [] => some []
  | .lst x :: l => match lstsO l with
    | some r => some (x :: r)
    | none => none
  | _ :: _ => none
def joinL (sep : List Nat) : List (List Nat) → List Nat
  | [] => []
  | [s] => s
  | s :: l => s ++ sep ++ joinL sep l
def sumI : List Int → Int
  | [] => 0
  | i :: l => i + sumI l
def allB : List Bool → Bool
  | [] => true
  | b :: l => b && allB l
def anyB : List Bool → Bool
  | [] => false
  | b :: l => b || anyB l
def catL : List (List D) → List D
  | [] => []
  | x :: l => x ++ catL l
def repL {α : Type} (xs : List α) : Nat → List α
  | 0 => []
  | n + 1 => xs ++ repL xs n
/-- distinct items, by ==, in order -/
def dedup : List D → List D → List D
  | acc, [] => acc
  | acc, a :: l => bif has a acc then dedup acc l else dedup (acc ++ [a]) l
def indexL (x : D) : Nat → List D → Option Nat
  | _, [] => none
  | i, a :: l => match D.eq a x with
    | some true => some i
    | some false => indexL x (i + 1) l
    | none => none
def findL (s : List Nat) : Nat → List Nat → Option Nat
  | i, [] => bif isPre s [] then some i else none
  | i, a :: t => bif isPre s (a :: t) then some i else findL s (i + 1) t
def removeL (x : D) : List D → Option (List D)
  | [] => none
  | a :: l => match D.eq a x with
    | some true => some l
    | some false => match removeL x l with
      | some r => some (a :: r)
      | none => none
    | none => none
def bothD : D → D → Bool
  | .dct _ _, .dct _ _ => true
  | _, _ => false
inductive Bop where | add | sub | mul | fdiv | mod
inductive Cop where | eq | ne | lt | le | gt | ge | isin | notin | is | isnt
inductive Prim where
  | len | all | any | sum | sumL | min | max | min2 | max2 | sorted | tuple | list | dict | set | abs | int | repr
  | isT (ts : List Nat)
inductive Meth where
  | join | index | count | startswith | endswith | replace | upper | get
  deriving DecidableEq
def Bop.run : Bop → D → D → Option D
  | .add, .int i, .int j => some (.int (i + j))
  | .add, .str s, .str t => bif Nat.ble (s.length + t.length) line then some (.str (s ++ t)) else none
  | .add, .tup s, .tup t => bif Nat.ble (s.length + t.length) line then some (.tup (s ++ t)) else none
  | .add, .lst s, .lst t => bif Nat.ble (s.length + t.length) line then some (.lst (s ++ t)) else none
  | .sub, .int i, .int j => some (.int (i - j))
  | .mul, .int i, .int j => bif Nat.blt i.natAbs 18446744073709551616 || Nat.blt j.natAbs 18446744073709551616 then some (.int (i * j)) else none
  | .mul, .str s, .int j => bif Nat.ble j.natAbs 1000000 && Nat.ble (s.length * j.toNat) line then some (.str (repL s j.toNat)) else none
  | .mul, .tup s, .int j => bif leI 1 j && leI j 1000 && Nat.ble 1 s.length && Nat.ble s.length 1000 then some (.tup (repL s j.toNat)) else none
  | .mul, .lst s, .int j => bif Nat.ble j.natAbs 1000000 && Nat.ble (s.length * j.toNat) line then some (.lst (repL s j.toNat)) else none
  | .fdiv, .int i, .int j => bif ltI 0 j && ltI j 1073741824 then some (.int (i / j)) else none
  | .mod, .int i, .int j => bif ltI 0 j then some (.int (i % j)) else none
  | _, _, _ => none
def notO : Option Bool → Option Bool
  | some b => some (!b)
  | none => none
/-- x in y -/
def D.isin : D → D → Option Bool
  | .str s, .str t => some (isSub s t)
  | x, .tup l => inS x l
  | x, .lst l => inS x l
  | x, .dct ks _ => bif kOk x ks then some (has x ks) else none
  | _, _ => none
def isNon : D → Bool
  | .non => true
  | _ => false
def Cop.run : Cop → D → D → Option Bool
  | .eq, a, b => D.eq a b
  | .ne, a, b => bif bothD a b || (noD a && noD b) then notO (D.eq a b) else none
  | .lt, .int i, .int j => some (ltI i j)
  | .lt, .str s, .str t => some (ltL s t)
  | .gt, .int i, .int j => some (ltI j i)
  | .gt, .str s, .str t => some (ltL t s)
  | .le, .int i, .int j => some (leI i j)
  | .le, .str s, .str t => some (!ltL t s)
  | .ge, .int i, .int j => some (leI j i)
  | .ge, .str s, .str t => some (!ltL s t)
  | .isin, a, b => D.isin a b
  | .notin, a, b => notO (D.isin a b)
  | .is, a, .non => some (isNon a)
  | .isnt, a, .non => some (!isNon a)
  | _, _, _ => none
/-- 0 int, 1 bool, 2 str, 3 tuple, 4 list, 5 dict -/
def tyIs : Nat → D → Option Bool
  | _, .set _ => none
  | _, .drw => none
  | _, .cel _ => none
  | 0, .int _ => some true
  | 0, .bl _ => some true
  | 1, .bl _ => some true
  | 2, .str _ => some true
  | 3, .tup _ => some true
  | 4, .lst _ => some true
  | 5, .dct _ _ => some true
  | _, _ => some false
def anyTy : List Nat → D → Option Bool
  | [], _ => some false
  | t :: ts, d => match tyIs t d with
    | some true => some true
    | some false => anyTy ts d
    | none => none
def lenO : D → Option Nat
  | .str s => some s.length
  | .tup l => some l.length
  | .lst l => some l.length
  | .dct ks _ => some ks.length
  | .set l => some l.length
  | _ => none
def items2 : List (D × D) → List D
  | [] => []
  | (_, x) :: l => x :: items2 l
def someSeq (d : D) : Option (List D) := match d with
  | .set l => some l
  | d => iterO d
def sortL (l : List D) : List D := items2 (srtP (self2 l))
def sortO (l : List D) : Option D := bif sortOk l && Nat.ble l.length line then some (.lst (sortL l)) else none
def keyOk (T : Bool) (k : D) : Bool := bif T then isKeyT k else isKey1 k
def pairsK (T : Bool) : List D → Option (List D × List D)
  | [] => some ([], [])
  | .tup [k, v] :: l => bif keyOk T k then match pairsK T l with
    | some (ks, vs) => some (k :: ks, v :: vs)
    | none => none else none
  | _ :: _ => none
def Prim.run : Prim → List D → Option D
  | .len, [d] => match lenO d with | some n => some (.int n) | none => none
  | .all, [.lst l] => match blsO l with | some bs => some (.bl (allB bs)) | none => none
  | .any, [.lst l] => match blsO l with | some bs => some (.bl (anyB bs)) | none => none
  | .sum, [d] => match seqO d with
    | some l => (match intsO l with | some is => some (.int (sumI is)) | none => none)
    | none => none
  | .sumL, [.lst l, .lst a] => match lstsO l with
    | some ls => bif Nat.ble (a ++ catL ls).length line then some (.lst (a ++ catL ls)) else none
    | none => none
  | .min, [d] => match iterO d with
    | some (a :: l) => bif alikeAll (a :: l) && shals (a :: l) 8 then some (minP (a, a) (self2 l)).2 else none
    | _ => none
  | .max, [d] => match iterO d with
    | some (a :: l) => bif alikeAll (a :: l) && shals (a :: l) 8 then some (maxP (a, a) (self2 l)).2 else none
    | _ => none
  | .max2, [.int i, .int j] => some (.int (bif ltI i j then j else i))
  | .min2, [.int i, .int j] => some (.int (bif ltI j i then j else i))
  | .sorted, [d] => match someSeq d with
    | some l => sortO l
    | none => none
  | .tuple, [.lst l] => some (.tup l)
  | .tuple, [.tup l] => some (.tup l)
  | .list, [.lst l] => some (.lst l)
  | .list, [.tup l] => some (.lst l)
  | .list, [.dct ks _] => some (.lst ks)
  | .set, [d] => match iterO d with | some l => bif l.all (fun k => isKey1 k || isKeyT k) then some (.set (dedup [] l)) else none | none => none
  | .dict, [.dct ks vs] => bif ks.all isKey1 && !ks.isEmpty then some (.dct ks vs) else none
  | .dict, [.lst l] => match pairsK false l with | some (ks, vs) => some (.dct (puts ks vs [] []).1 (puts ks vs [] []).2) | none => none
  | .abs, [.int i] => some (.int (bif ltI i 0 then -i else i))
  | .int, [.int i] => some (.int i)
  | .isT ts, [d] => match anyTy ts d with | some b => some (.bl b) | none => none
  | _, _ => none
def upC (c : Nat) : Nat := bif Nat.ble 97 c && Nat.ble c 122 then c - 32 else c
def ascii : List Nat → Bool
  | [] => true
  | c :: l => Nat.blt c 128 && ascii l
def Meth.run : Meth → D → List D → Option D
  | .join, .str sep, [d] => match iterO d with
    | some l => match strsO l with | some xs => some (.str (joinL sep xs)) | none => none
    | none => none
  | .index, .str s, [.str t] => match findL t 0 s with | some i => some (.int i) | none => none
  | .index, .tup l, [x] => match indexL x 0 l with | some i => some (.int i) | none => none
  | .index, .lst l, [x] => match indexL x 0 l with | some i => some (.int i) | none => none
  | .count, .str s, [.str t] => match t with | [] => none | t => some (.int (cntSub t s.length s))
  | .startswith, .str s, [.str t] => some (.bl (isPre t s))
  | .endswith, .str s, [.str t] => some (.bl (isPre t.reverse s.reverse))
  | .upper, .str s, [] => bif ascii s then some (.str (s.map upC)) else none
  | .get, .dct ks vs, [k] => bif kOk k ks then match look k ks vs with | some v => some v | none => some .non else none
  | .get, .dct ks vs, [k, x] => bif kOk k ks then match look k ks vs with | some v => some v | none => some x else none
  | _, _, _ => none
def D.idx : D → D → Option D
  | .tup l, .int i => atI l i
  | .lst l, .int i => atI l i
  | .str s, .int i => match atI s i with | some c => some (.str [c]) | none => none
  | .dct ks vs, k => bif kOk k ks then look k ks vs else none
  | _, _ => none
def D.cut (d : D) (lo hi : Option Int) : Option D := match d with
  | .tup l => some (.tup (cutL l lo hi))
  | .lst l => some (.lst (cutL l lo hi))
  | .str s => some (.str (cutL s lo hi))
  | _ => none
def D.rev : D → Option D
  | .tup l => some (.tup l.reverse)
  | .lst l => some (.lst l.reverse)
  | .str s => some (.str s.reverse)
  | _ => none
/-! ### the small syntax -/
inductive E where
  | var (i : Nat) | non | bl (b : Bool) | int (i : Int) | str (s : List Nat)
  | glob (x : Nat) (d : D)
  | bin (op : Bop) (a b : E) | cmp (op : Cop) (a b : E) | cmp2 (op op' : Cop) (a b c : E)
  | and (a b : E) | or (a b : E) | not (a : E) | neg (a : E) | ite (c a b : E)
  | call (f : Nat) (as : E) | prim (p : Prim) (as : E) | meth (m : Meth) (o : E) (as : E)
  | idx (a b : E) | cut (a lo hi : E) | rev (a : E)
  | nil | cons (a r : E) | star (a r : E)
  | tup (as : E) | lst (as : E)
  /-- a dict's display: nil, kv, dstar -/
  | dct (T : Bool) (as : E) | kv (k v r : E) | dstar (a r : E)
  /-- comprehensions: target (slots, as a tree), iterable, test -/
  | lc (e : E) (tg : E) (it : E) (c : E)
  | lc2 (e : E) (tg : E) (it : E) (c : E) (tg' : E) (it' : E) (c' : E)
  | dc (T : Bool) (k v : E) (tg : E) (it : E) (c : E)
  | dc2 (T : Bool) (k v : E) (tg : E) (it : E) (c : E) (tg' : E) (it' : E) (c' : E)
  /-- a target's tree -/
  | tname (i : Nat) | ttup (ts : E)
  /-- iterables -/
  | itv (a : E) | itl (a : E) | itq (a : E) | itr1 (a : E) | itr2 (a b : E) | itr3 (a b c : E) | ite1 (a : E) | itz (a b : E) | itz3 (a b c : E) | iti (a : E) | itvs (a : E)
  | ittup (a : E) | itlst (a : E) | itdct (T : Bool) (a : E) | itsrt (a : E) | itmax (a : E)
  /-- sorted, min with a key: the slot of the lambda's name, its body -/
  | srtK (a : E) (i : Nat) (k : E) | minK (a : E) (i : Nat) (k : E)
  | lam (e : E) | drw | vals (a : E)
  /-- a new shared dict; what a shared dict holds -/
  | ncel | deref (a : E)
abbrev Env := List (Option D)
def getS : Env → Nat → Option D
  | [], _ => none
  | x :: _, 0 => x
  | _ :: l, i + 1 => getS l i
def setS : Env → Nat → Option D → Env
  | [], _, _ => []
  | _ :: l, 0, v => v :: l
  | x :: l, i + 1, v => x :: setS l i v
/-- a target takes a value -/
def tgt : E → D → Env → Option Env
  | .tname i, d, σ => some (setS σ i (some d))
  | .ttup ts, d, σ => match d with
    | .tup l => tgt ts (.lst l) σ
    | _ => none
  | .nil, d, σ => match d with
    | .lst [] => some σ
    | _ => none
  | .cons t r, d, σ => match d with
    | .lst (x :: l) => match tgt t x σ with
      | some σ' => tgt r (.lst l) σ'
      | none => none
    | _ => none
  | _, _, _ => none
/-- over all items, in order -/
def mapL (f : D → M (List D)) : List D → M (List D)
  | [] => M.pure []
  | d :: l => M.bind (f d) fun x => M.bind (mapL f l) fun r => M.pure (x ++ r)
def foldD (f : D → List D × List D → M (List D × List D)) : List D → List D × List D → M (List D × List D)
  | [], acc => M.pure acc
  | d :: l, acc => M.bind (f d acc) fun acc' => foldD f l acc'
def asBl : D → M Bool
  | .bl b => M.pure b
  | _ => M.stuck
def asInt : D → M Int
  | .int i => M.pure i
  | _ => M.stuck
def asTup : D → M (List D)
  | .tup l => M.pure l
  | _ => M.stuck
def asLst : D → M (List D)
  | .lst l => M.pure l
  | _ => M.stuck
def asDct : D → M (List D × List D)
  | .dct ks vs => M.pure (ks, vs)
  | _ => M.stuck
def isNonE : E → Bool
  | .non => true
  | _ => false
def rangeN (a b c : Int) : Nat := if 0 < c then ((b - a + c - 1) / c).toNat else ((a - b + (-c) - 1) / (-c)).toNat
def small (i : Int) : Bool := Nat.ble i.natAbs 1000000000
def size (l : List D) : Bool := Nat.ble l.length line
def roomy (l : List D) : Bool := Nat.blt l.length line
/-- the slots of a target -/
def slotsT : E → List Nat
  | .tname i => [i]
  | .ttup ts => slotsT ts
  | .cons t r => slotsT t ++ slotsT r
  | _ => []
/-- slots emptied -/
def wipeL (σ : Env) : List Nat → Env
  | [] => σ
  | v :: vs => setS (wipeL σ vs) v none
def nthC : List (List D × List D) → Nat → Option (List D × List D)
  | [], _ => none
  | x :: _, 0 => some x
  | _ :: l, i + 1 => nthC l i
def setC : List (List D × List D) → Nat → List D × List D → List (List D × List D)
  | [], _, _ => []
  | _ :: l, 0, v => v :: l
  | x :: l, i + 1, v => x :: setC l i v
/-- pairs of a key and an item -/
def pairsP : List D → List (D × D)
  | [] => []
  | .tup [y, d] :: l => (y, d) :: pairsP l
  | d :: l => (d, d) :: pairsP l
def derefM : D → M D
  | .cel i => fun s => match nthC s.cs i with
    | some kv => .ok (.dct kv.1 kv.2) s
    | none => .stuck
  | _ => M.stuck
/-- the evaluator: F tells what the defs do -/
def den (F : Nat → List D → M D) : E → Env → M D
  | .var i, σ => M.ofO (getS σ i)
  | .non, _ => M.pure .non
  | .bl b, _ => M.pure (.bl b)
  | .int i, _ => M.pure (.int i)
  | .str s, _ => M.pure (.str s)
  | .glob _ d, _ => M.pure d
  | .bin op a b, σ => M.bind (den F a σ) fun x => M.bind (den F b σ) fun y => M.ofO (op.run x y)
  | .cmp op a b, σ => M.bind (den F a σ) fun x => M.bind (den F b σ) fun y => match op.run x y with
    | some c => M.pure (.bl c)
    | none => M.stuck
  | .cmp2 op op' a b c, σ => M.bind (den F a σ) fun x => M.bind (den F b σ) fun y => match op.run x y with
    | some true => M.bind (den F c σ) fun z => match op'.run y z with
      | some c => M.pure (.bl c)
      | none => M.stuck
    | some false => M.pure (.bl false)
    | none => M.stuck
  | .and a b, σ => M.bind (den F a σ) fun x => match x with
    | .bl true => M.bind (den F b σ) fun y => M.bind (asBl y) fun c => M.pure (.bl c)
    | .bl false => M.pure (.bl false)
    | _ => M.stuck
  | .or a b, σ => M.bind (den F a σ) fun x => match x with
    | .bl false => M.bind (den F b σ) fun y => M.bind (asBl y) fun c => M.pure (.bl c)
    | .bl true => M.pure (.bl true)
    | _ => M.stuck
  | .not a, σ => M.bind (den F a σ) fun x => M.bind (asBl x) fun c => M.pure (.bl (!c))
  | .neg a, σ => M.bind (den F a σ) fun x => M.bind (asInt x) fun i => M.pure (.int (-i))
  | .ite c a b, σ => M.bind (den F c σ) fun x => match x with
    | .bl true => den F a σ
    | .bl false => den F b σ
    | _ => M.stuck
  | .call f as, σ => M.bind (den F as σ) fun x => M.bind (asLst x) fun l => F f l
  | .prim p as, σ => M.bind (den F as σ) fun x => M.bind (asLst x) fun l => M.ofO (p.run l)
  | .meth m o as, σ => M.bind (den F o σ) fun x => M.bind (den F as σ) fun y => M.bind (asLst y) fun l => M.ofO (m.run x l)
  | .idx a b, σ => M.bind (den F a σ) fun x => M.bind (den F b σ) fun y => M.ofO (D.idx x y)
  | .cut a lo hi, σ => M.bind (den F a σ) fun x => M.bind (bif isNonE lo then M.pure none else M.bind (den F lo σ) fun y => M.bind (asInt y) fun i => M.pure (some i)) fun l => M.bind (bif isNonE hi then M.pure none else M.bind (den F hi σ) fun y => M.bind (asInt y) fun i => M.pure (some i)) fun h => M.ofO (D.cut x l h)
  | .rev a, σ => M.bind (den F a σ) fun x => M.ofO (D.rev x)
  | .nil, _ => M.pure (.lst [])
  | .cons a r, σ => M.bind (den F a σ) fun x => M.bind (den F r σ) fun y => M.bind (asLst y) fun l => M.pure (.lst (x :: l))
  | .star a r, σ => M.bind (den F a σ) fun x => M.bind (M.ofO (seqO x)) fun xs => M.bind (den F r σ) fun y => M.bind (asLst y) fun l => M.pure (.lst (xs ++ l))
  | .tup as, σ => M.bind (den F as σ) fun x => M.bind (asLst x) fun l => bif size l then M.pure (.tup l) else M.stuck
  | .lst as, σ => M.bind (den F as σ) fun x => M.bind (asLst x) fun l => bif size l then M.pure (.lst l) else M.stuck
  | .dct T as, σ => M.bind (den F as σ) fun x => M.bind (asLst x) fun l => match pairsK T l with
    | some (ks, vs) => M.pure (.dct (puts ks vs [] []).1 (puts ks vs [] []).2)
    | none => M.stuck
  | .kv k v r, σ => M.bind (den F k σ) fun x => M.bind (den F v σ) fun y => M.bind (den F r σ) fun z => M.bind (asLst z) fun l => M.pure (.lst (.tup [x, y] :: l))
  | .dstar a r, σ => M.bind (den F a σ) fun x => M.bind (asDct x) fun kvs => M.bind (den F r σ) fun z => M.bind (asLst z) fun l => M.pure (.lst (zipL kvs.1 kvs.2 ++ l))
  | .lc e tg it c, σ => M.nox (M.bind (den F it σ) fun x => M.bind (asLst x) fun xs => M.bind (mapL (fun d => match tgt tg d (wipeL σ (slotsT tg)) with
      | some σ' => M.bind (den F c σ') fun b => match b with
        | .bl true => M.bind (den F e σ') fun y => M.pure [y]
        | .bl false => M.pure []
        | _ => M.stuck
      | none => M.stuck) xs) fun l => bif size l then M.pure (.lst l) else M.stuck)
  | .lc2 e tg it c tg' it' c', σ => M.nox (M.bind (den F it σ) fun x => M.bind (asLst x) fun xs => M.bind (mapL (fun d => match tgt tg d (wipeL σ (slotsT tg ++ slotsT tg')) with
      | some σ' => M.bind (den F c σ') fun b => match b with
        | .bl true => M.bind (den F it' σ') fun x' => M.bind (asLst x') fun xs' => mapL (fun d' => match tgt tg' d' (wipeL σ' (slotsT tg')) with
          | some σ2 => M.bind (den F c' σ2) fun b' => match b' with
            | .bl true => M.bind (den F e σ2) fun y => M.pure [y]
            | .bl false => M.pure []
            | _ => M.stuck
          | none => M.stuck) xs'
        | .bl false => M.pure []
        | _ => M.stuck
      | none => M.stuck) xs) fun l => bif size l then M.pure (.lst l) else M.stuck)
  | .dc T k v tg it c, σ => M.nox (M.bind (den F it σ) fun x => M.bind (asLst x) fun xs => M.bind (foldD (fun d acc => match tgt tg d (wipeL σ (slotsT tg)) with
      | some σ' => M.bind (den F c σ') fun b => match b with
        | .bl true => M.bind (den F k σ') fun y => M.bind (den F v σ') fun z => bif keyOk T y && roomy acc.1 then M.pure (put y z acc.1 acc.2) else M.stuck
        | .bl false => M.pure acc
        | _ => M.stuck
      | none => M.stuck) xs ([], [])) fun kvs => M.pure (.dct kvs.1 kvs.2))
  | .dc2 T k v tg it c tg' it' c', σ => M.nox (M.bind (den F it σ) fun x => M.bind (asLst x) fun xs => M.bind (foldD (fun d acc => match tgt tg d (wipeL σ (slotsT tg ++ slotsT tg')) with
      | some σ' => M.bind (den F c σ') fun b => match b with
        | .bl true => M.bind (den F it' σ') fun x' => M.bind (asLst x') fun xs' => foldD (fun d' acc => match tgt tg' d' (wipeL σ' (slotsT tg')) with
          | some σ2 => M.bind (den F c' σ2) fun b' => match b' with
            | .bl true => M.bind (den F k σ2) fun y => M.bind (den F v σ2) fun z => bif keyOk T y && roomy acc.1 then M.pure (put y z acc.1 acc.2) else M.stuck
            | .bl false => M.pure acc
            | _ => M.stuck
          | none => M.stuck) xs' acc
        | .bl false => M.pure acc
        | _ => M.stuck
      | none => M.stuck) xs ([], [])) fun kvs => M.pure (.dct kvs.1 kvs.2))
  | .tname _, _ => M.stuck
  | .ttup _, _ => M.stuck
  | .itv a, σ => M.bind (den F a σ) fun x => match iterO x with
    | some l => M.pure (.lst l)
    | none => M.stuck
  | .itq a, σ => M.bind (den F a σ) fun x => match seqS x with
    | some l => M.pure (.lst l)
    | none => M.stuck
  | .itl a, σ => M.bind (den F a σ) fun x => match seqO x with
    | some l => M.pure (.lst l)
    | none => M.stuck
  | .itr1 a, σ => M.bind (den F a σ) fun x => M.bind (asInt x) fun i => bif small i then M.pure (.lst (rangeL i.toNat 0 1)) else M.stuck
  | .itr2 a b, σ => M.bind (den F a σ) fun x => M.bind (asInt x) fun i => M.bind (den F b σ) fun y => M.bind (asInt y) fun j => bif small i && small j then M.pure (.lst (rangeL (j - i).toNat i 1)) else M.stuck
  | .itr3 a b c, σ => M.bind (den F a σ) fun x => M.bind (asInt x) fun i => M.bind (den F b σ) fun y => M.bind (asInt y) fun j => M.bind (den F c σ) fun z => M.bind (asInt z) fun k =>
      bif small i && small j && small k && !eqI k 0 then M.pure (.lst (rangeL (rangeN i j k) i k)) else M.stuck
  | .ite1 a, σ => M.bind (den F a σ) fun x => M.bind (asLst x) fun l => M.pure (.lst (enumL 0 l))
  | .itz a b, σ => M.bind (den F a σ) fun x => M.bind (asLst x) fun l => M.bind (den F b σ) fun y => M.bind (asLst y) fun m => M.pure (.lst (zipL l m))
  | .itz3 a b c, σ => M.bind (den F a σ) fun x => M.bind (asLst x) fun l => M.bind (den F b σ) fun y => M.bind (asLst y) fun m => M.bind (den F c σ) fun z => M.bind (asLst z) fun o => M.pure (.lst (zip3L l m o))
  | .iti a, σ => M.bind (den F a σ) fun x => M.bind (asDct x) fun kvs => M.pure (.lst (zipL kvs.1 kvs.2))
  | .itvs a, σ => M.bind (den F a σ) fun x => M.bind (asDct x) fun kvs => M.pure (.lst kvs.2)
  | .ittup a, σ => M.bind (den F a σ) fun x => M.bind (asLst x) fun l => M.pure (.tup l)
  | .itlst a, σ => M.bind (den F a σ) fun x => M.bind (asLst x) fun l => bif size l then M.pure (.lst l) else M.stuck
  | .itdct T a, σ => M.bind (den F a σ) fun x => M.bind (asLst x) fun l => match pairsK T l with
    | some (ks, vs) => M.pure (.dct (puts ks vs [] []).1 (puts ks vs [] []).2)
    | none => M.stuck
  | .itsrt a, σ => M.bind (den F a σ) fun x => M.ofO (Prim.run .sorted [x])
  | .itmax a, σ => M.bind (den F a σ) fun x => M.ofO (Prim.run .max [x])
  | .srtK a i k, σ => M.nox (M.bind (den F a σ) fun x => M.bind (asLst x) fun l => M.bind (mapL (fun d => M.bind (den F k (setS σ i (some d))) fun y => M.pure [.tup [y, d]]) l) fun ps =>
      bif sortOk ((pairsP ps).map (·.1)) then M.pure (.lst (items2 (srtP (pairsP ps)))) else M.stuck)
  | .minK a i k, σ => M.nox (M.bind (den F a σ) fun x => M.bind (M.ofO (seqO x)) fun l => M.bind (mapL (fun d => M.bind (den F k (setS σ i (some d))) fun y => M.pure [.tup [y, d]]) l) fun ps =>
      match pairsP ps with
      | p :: ps => bif alikeAll (p.1 :: ps.map (·.1)) && shals (p.1 :: ps.map (·.1)) 8 then M.pure (minP p ps).2 else M.stuck
      | [] => M.stuck)
  | .lam _, _ => M.stuck
  | .drw, _ => M.pure .drw
  | .ncel, _ => fun s => .ok (.cel s.cs.length) ⟨s.n, s.cs ++ [([], [])]⟩
  | .deref a, σ => M.bind (den F a σ) derefM
  | .vals a, σ => M.bind (den F a σ) fun x => M.bind (asDct x) fun kvs => M.pure (.lst kvs.2)
inductive S where
  | skip | seq (s r : S) | asg (tg : E) (e : E)
  | put (i : Nat) (k e : E) | augk (i : Nat) (k : E) (op : Bop) (e : E) | aug (i : Nat) (op : Bop) (e : E)
  | put2 (i : Nat) (k : E) (j : Nat) (l : E) (e : E)
  | app (i : Nat) (e : E) | ext (i : Nat) (e : E) | upd (i : Nat) (e : E) | rem (i : Nat) (e : E) | clr (i : Nat)
  | ex (e : E) | ite (c : E) (s r : S) | for (tg : E) (it : E) (b : S) | while (c : E) (b : S)
  | ret (e : E) | raise (c : Nat) (e : E) | mov (i j : Nat) | brk | never
  /-- a new list or dict of one's own; pairs, triples (b: of one's own) -/
  | new (i : Nat) (e : E) | par2 (b c : Bool) (i j : Nat) (x y : E) | par3 (b c d : Bool) (i j l : Nat) (x y z : E)
inductive Out where
  | nx (σ : Env) | ret (d : D) | brk (σ : Env)
def forL (f : D → Env → M Out) : List D → Env → M Out
  | [], σ => M.pure (.nx σ)
  | d :: l, σ => M.bind (f d σ) fun o => match o with
    | .nx σ' => forL f l σ'
    | .ret x => M.pure (.ret x)
    | .brk σ' => M.pure (.nx σ')
def whileL (c : Env → M D) (b : Env → M Out) : Nat → Env → M Out
  | 0, _ => M.stuck
  | n + 1, σ => M.bind (c σ) fun x => match x with
    | .bl true => M.bind (b σ) fun o => match o with
      | .nx σ' => whileL c b n σ'
      | .ret x => M.pure (.ret x)
      | .brk σ' => M.pure (.nx σ')
    | .bl false => M.pure (.nx σ)
    | _ => M.stuck
def dkOk (d k : D) : Bool := match d with
  | .dct ks _ => kOk k ks
  | _ => false
/-- x[k] = v -/
def putO (d k v : D) : Option D := match d with
  | .dct ks vs => bif dkOk d k && Nat.blt ks.length line then some (.dct (W.put k v ks vs).1 (W.put k v ks vs).2) else none
  | .lst l => match k with
    | .int i => match ixN l.length i with
      | some j => some (.lst (l.set j v))
      | none => none
    | _ => none
  | _ => none
/-- x[k] = v, x in a slot -/
def putM (i : Nat) (k v : D) (σ : Env) : M Out := match getS σ i with
  | some (.cel j) => fun s => match nthC s.cs j with
    | some kv => (match putO (.dct kv.1 kv.2) k v with
      | some (.dct ks vs) => .ok (.nx σ) ⟨s.n, setC s.cs j (ks, vs)⟩
      | _ => .stuck)
    | none => .stuck
  | some d => (match putO d k v with
    | some d' => M.pure (.nx (setS σ i (some d')))
    | none => M.stuck)
  | none => M.stuck
/-- a list or a dict -/
def isCont : D → Bool
  | .lst _ => true
  | .dct _ _ => true
  | _ => false
/-- of one's own: a list or a dict -/
def contOk (b : Bool) (d : D) : Bool := bif b then isCont d else true
def denS (F : Nat → List D → M D) : S → Env → M Out
  | .skip, σ => M.pure (.nx σ)
  | .seq s r, σ => M.bind (denS F s σ) fun o => match o with
    | .nx σ' => denS F r σ'
    | .ret x => M.pure (.ret x)
    | .brk σ' => M.pure (.brk σ')
  | .asg tg e, σ => M.bind (den F e σ) fun x => match tgt tg x σ with
    | some σ' => M.pure (.nx σ')
    | none => M.stuck
  | .put i k e, σ => match getS σ i with
    | some _ => M.bind (den F e σ) fun v => M.bind (den F k σ) fun y => putM i y v σ
    | none => M.stuck
  | .put2 i k j l e, σ => M.bind (den F e σ) fun v => match v with
    | .tup [x, y] => M.bind (den F k σ) fun a => M.bind (putM i a x σ) fun o => match o with
      | .nx σ' => M.bind (den F l σ') fun b => putM j b y σ'
      | _ => M.stuck
    | _ => M.stuck
  | .augk i k op e, σ => match getS σ i with
    | some d => M.bind (den F k σ) fun y => M.bind (M.ofO (D.idx d y)) fun x => M.bind (den F e σ) fun v => M.bind (M.ofO (op.run x v)) fun z => match putO d y z with
      | some d' => M.pure (.nx (setS σ i (some d')))
      | none => M.stuck
    | none => M.stuck
  | .aug i op e, σ => match getS σ i with
    | some x => M.bind (den F e σ) fun v => M.bind (M.ofO (op.run x v)) fun z => M.pure (.nx (setS σ i (some z)))
    | none => M.stuck
  | .app i e, σ => match getS σ i with
    | some (.lst l) => M.bind (den F e σ) fun v => bif Nat.blt l.length line then M.pure (.nx (setS σ i (some (.lst (l ++ [v]))))) else M.stuck
    | _ => M.stuck
  | .ext i e, σ => match getS σ i with
    | some (.lst l) => M.bind (den F e σ) fun v => match v with
      | .lst m => bif Nat.ble (l.length + m.length) line then M.pure (.nx (setS σ i (some (.lst (l ++ m))))) else M.stuck
      | _ => M.stuck
    | _ => M.stuck
  | .upd i e, σ => match getS σ i with
    | some (.dct ks vs) => M.bind (den F e σ) fun v => match v with
      | .dct ks' vs' => bif (ks'.all fun k => dkOk (.dct ks vs) k) && Nat.ble (ks.length + ks'.length) line then M.pure (.nx (setS σ i (some (.dct (puts ks' vs' ks vs).1 (puts ks' vs' ks vs).2)))) else M.stuck
      | _ => M.stuck
    | _ => M.stuck
  | .rem i e, σ => match getS σ i with
    | some (.lst l) => M.bind (den F e σ) fun v => match removeL v l with
      | some r => M.pure (.nx (setS σ i (some (.lst r))))
      | none => M.stuck
    | _ => M.stuck
  | .clr i, σ => match getS σ i with
    | some (.dct _ _) => M.pure (.nx (setS σ i (some (.dct [] []))))
    | _ => M.stuck
  | .ex e, σ => M.bind (den F e σ) fun _ => M.pure (.nx σ)
  | .ite c s r, σ => M.bind (den F c σ) fun x => match x with
    | .bl true => denS F s σ
    | .bl false => denS F r σ
    | _ => M.stuck
  | .for tg it b, σ => M.bind (den F it σ) fun x => M.bind (asLst x) fun l => forL (fun d σ => match tgt tg d σ with
    | some σ' => denS F b σ'
    | none => M.stuck) l σ
  | .while c b, σ => whileL (den F c) (denS F b) 1000000 σ
  | .ret e, σ => M.bind (den F e σ) fun x => M.pure (.ret x)
  | .raise c e, σ => M.bind (den F e σ) fun x => M.exc c x
  | .mov i j, σ => match getS σ j with
    | some d => M.pure (.nx (setS (setS σ j none) i (some d)))
    | none => M.stuck
  | .brk, σ => M.pure (.brk σ)
  | .never, _ => M.stuck
  | .new i e, σ => M.bind (den F e σ) fun x => bif isCont x then M.pure (.nx (setS σ i (some x))) else M.stuck
  | .par2 b c i j x y, σ => M.bind (den F x σ) fun u => M.bind (den F y σ) fun v => bif contOk b u && contOk c v then M.pure (.nx (setS (setS σ i (some u)) j (some v))) else M.stuck
  | .par3 b c d i j l x y z, σ => M.bind (den F x σ) fun u => M.bind (den F y σ) fun v => M.bind (den F z σ) fun w => bif contOk b u && (contOk c v && contOk d w) then M.pure (.nx (setS (setS (setS σ i (some u)) j (some v)) l (some w))) else M.stuck
structure Fd where
  np : Nat
  nl : Nat
  body : S
def nones : Nat → Env
  | 0 => []
  | n + 1 => none :: nones n
def somes : List D → Env → Env
  | [], r => r
  | d :: l, r => some d :: somes l r
def nthF : List Fd → Nat → Option Fd
  | [], _ => none
  | f :: _, 0 => some f
  | _ :: l, i + 1 => nthF l i
/-- a def's body on its arguments -/
def runF (F : Nat → List D → M D) (fd : Fd) (as : List D) : M D :=
  bif Nat.beq as.length fd.np then M.bind (denS F fd.body (somes as (nones fd.nl))) fun o => match o with
    | .nx _ => M.pure .non
    | .ret d => M.pure d
    | .brk _ => M.stuck
  else M.stuck
/-- the program's defs, by the depth of calls; def nx is _law_next by an oracle -/
def FN (o : Nat → Int → Option Int) (nxt : Nat) (p : List Fd) : Nat → Nat → List D → M D
  | 0, _, _ => M.stuck
  | n + 1, f, as => bif Nat.beq f nxt then (match as with
      | [.drw, .int b] => fun k => match o (k.n + 1) b with
        | some v => .ok (.int v) ⟨k.n + 1, k.cs⟩
        | none => .stuck
      | _ => M.stuck)
    else match nthF p f with
      | some fd => runF (FN o nxt p n) fd as
      | none => M.stuck
def isT : R D → Bool
  | .ok (.bl true) _ => true
  | _ => false
end W
/-! W2: what stands for what: plain data and the abstract heap; readings by the evaluator. -/
namespace W
open PySem L2
/-! ### masks -/
def msk (L : List Addr) (H : Hp) : Hp := fun a => if a ∈ L then none else H a
theorem msk_some {L : List Addr} {H : Hp} {a : Addr} {o : HO} (h : msk L H a = some o) : a ∉ L ∧ H a = some o := by
  unfold msk at h
  split at h
  · cases h
  · rename_i n
    exact ⟨n, h⟩
theorem msk_of {L : List Addr} {H : Hp} {a : Addr} {o : HO} (n : a ∉ L) (h : H a = some o) : msk L H a = some o := by
  unfold msk
  rw [if_neg n]
  exact h
/-! ### data in a heap -/
def kO : D → Option Key
  | .int i => some (.inl i)
  | .str s => if s.length ≤ sizeLine then some (.inr ⟨s.toArray⟩) else none
  | _ => none
theorem kO_inv {d : D} {k : Key} (h : kO d = some k) : (∃ i, d = .int i ∧ k = .inl i) ∨ ∃ s, d = .str s ∧ k = .inr ⟨s.toArray⟩ ∧ s.length ≤ sizeLine := by
  cases d with
  | int i => cases h; exact .inl ⟨i, rfl, rfl⟩
  | str s =>
    change (if s.length ≤ sizeLine then some (Sum.inr ⟨s.toArray⟩ : Key) else none) = some k at h
    split at h
    · rename_i q
      cases h; exact .inr ⟨s, rfl, rfl, q⟩
    · cases h
  | _ => cases h
def ksO : List D → Option (List Key)
  | [] => some []
  | d :: l => match kO d, ksO l with
    | some k, some ks => some (k :: ks)
    | _, _ => none
def kTO : D → Option (List Key)
  | .tup l => ksO l
  | _ => none
/-- keys told by data -/
def KsR {κ : Type} (f : D → Option κ) : List D → List κ → Prop
  | [], ks => ks = []
  | d :: l, ks => ∃ k r, ks = k :: r ∧ f d = some k ∧ KsR f l r
mutual
/-- v stands for the data d; dA the draw's object, ca the shared dicts -/
def Rep (dA : Addr) (ca : List Addr) (H : Hp) : D → V → Prop
  | .non, v => v = .non
  | .bl b, v => v = .bl b
  | .int i, v => v = .int i
  | .str s, v => v = .str ⟨s.toArray⟩ ∧ s.length ≤ sizeLine
  | .tup l, v => ∃ a xs, v = .ref a ∧ H a = some (.tup xs) ∧ Reps dA ca H l xs
  | .lst l, v => ∃ a xs, v = .ref a ∧ H a = some (.lst xs) ∧ Reps dA ca H l xs
  | .dct ks vs, v => ∃ a, v = .ref a ∧
      ((∃ kvs : List (Key × V), Rd H a (.dK kvs) ∧ KsR kO ks (kvs.map (·.1)) ∧ Reps dA ca H vs (kvs.map (·.2))) ∨
       (∃ kvs : List (List Key × V), Rd H a (.dT kvs) ∧ KsR kTO ks (kvs.map (·.1)) ∧ Reps dA ca H vs (kvs.map (·.2))))
  | .set _, _ => False
  | .drw, v => v = .ref dA
  | .cel i, v => ∃ a, ca[i]? = some a ∧ v = .ref a
def Reps (dA : Addr) (ca : List Addr) (H : Hp) : List D → List V → Prop
  | [], xs => xs = []
  | d :: l, xs => ∃ x ys, xs = x :: ys ∧ Rep dA ca H d x ∧ Reps dA ca H l ys
end
/-- what can be read in the one can be read in the other -/
structure Le (H1 H2 : Hp) : Prop where
  t : ∀ a xs, H1 a = some (.tup xs) → H2 a = some (.tup xs)
  l : ∀ a xs, H1 a = some (.lst xs) → H2 a = some (.lst xs)
  k : ∀ a kvs, Rd H1 a (.dK kvs) → Rd H2 a (.dK kvs)
  kt : ∀ a kvs, Rd H1 a (.dT kvs) → Rd H2 a (.dT kvs)
  z : ∀ a o u, H1 a = some (.frz o u) → H2 a = some (.frz o u)
theorem Le.refl (H : Hp) : Le H H := ⟨fun _ _ h => h, fun _ _ h => h, fun _ _ h => h, fun _ _ h => h, fun _ _ _ h => h⟩
theorem Le.trans {H1 H2 H3 : Hp} (a : Le H1 H2) (b : Le H2 H3) : Le H1 H3 :=
  ⟨fun p x h => b.t p x (a.t p x h), fun p x h => b.l p x (a.l p x h), fun p x h => b.k p x (a.k p x h), fun p x h => b.kt p x (a.kt p x h), fun p o u h => b.z p o u (a.z p o u h)⟩
theorem Le.of {H1 H2 : Hp} (h : ∀ a o, H1 a = some o → H2 a = some o) : Le H1 H2 :=
  ⟨fun a xs e => h a _ e, fun a xs e => h a _ e, fun a xs e => e.elim (fun e => .inl (h a _ e)) fun ⟨o, e⟩ => .inr ⟨o, h a _ e⟩, fun a xs e => e.elim (fun e => .inl (h a _ e)) fun ⟨o, e⟩ => .inr ⟨o, h a _ e⟩, fun a o u e => h a _ e⟩
/-- the same, or a dict that is locked now -/
def isDct : HO → Bool
  | .dK _ => true
  | .dT _ => true
  | _ => false
def Sm (o o' : HO) : Prop := o' = o ∨ (isDct o = true ∧ ∃ od, o' = .frz od o)
theorem Sm.refl (o : HO) : Sm o o := .inl rfl
theorem Sm.trans {o o1 o2 : HO} (a : Sm o o1) (b : Sm o1 o2) : Sm o o2 := by
  rcases a with rfl | ⟨h, od, rfl⟩
  · exact b
  · rcases b with rfl | ⟨h', _⟩
    · exact .inr ⟨h, od, rfl⟩
    · cases h'
theorem Sm.same {o o' : HO} (a : Sm o o') (h : isDct o = false) : o' = o := by
  rcases a with rfl | ⟨h', _⟩
  · rfl
  · rw [h] at h'; cases h'
theorem Le.ofSm {H1 H2 : Hp} (h : ∀ a o, H1 a = some o → ∃ o', H2 a = some o' ∧ Sm o o') : Le H1 H2 := by
  have rd : ∀ a u, isDct u = true → Rd H1 a u → Rd H2 a u := fun a u hu e => by
    rcases e with e | ⟨o, e⟩
    · obtain ⟨o', e', s⟩ := h a _ e
      rcases s with rfl | ⟨_, od, rfl⟩
      · exact .inl e'
      · exact .inr ⟨od, e'⟩
    · obtain ⟨o', e', s⟩ := h a _ e
      have := s.same rfl
      subst this
      exact .inr ⟨o, e'⟩
  refine ⟨fun a xs e => ?_, fun a xs e => ?_, fun a xs => rd a _ rfl, fun a xs => rd a _ rfl, fun a o u e => ?_⟩ <;>
  · obtain ⟨o', e', s⟩ := h a _ e
    have := s.same rfl
    subst this
    exact e'
/-- a longer list of shared dicts -/
def Pre (ca ca' : List Addr) : Prop := ∃ m, ca' = ca ++ m
theorem Pre.refl (ca : List Addr) : Pre ca ca := ⟨[], by simp⟩
theorem Pre.get {ca ca' : List Addr} (p : Pre ca ca') {i : Nat} {a : Addr} (h : ca[i]? = some a) : ca'[i]? = some a := by
  obtain ⟨m, rfl⟩ := p
  have hi : i < ca.length := (List.getElem?_eq_some_iff.mp h).1
  rw [List.getElem?_append_left hi]
  exact h
mutual
theorem Rep.le {dA : Addr} {ca ca' : List Addr} {H H' : Hp} (p : Pre ca ca') (le : Le H H') : ∀ (d : D) (v : V), Rep dA ca H d v → Rep dA ca' H' d v
  | .non, _, h => h
  | .bl _, _, h => h
  | .int _, _, h => h
  | .str _, _, h => h
  | .tup l, _, h => by
    obtain ⟨a, xs, e, h1, h2⟩ := h
    exact ⟨a, xs, e, le.t _ _ h1, Reps.le p le l xs h2⟩
  | .lst l, _, h => by
    obtain ⟨a, xs, e, h1, h2⟩ := h
    exact ⟨a, xs, e, le.l _ _ h1, Reps.le p le l xs h2⟩
  | .dct ks vs, _, h => by
    obtain ⟨a, e, h⟩ := h
    refine ⟨a, e, ?_⟩
    rcases h with ⟨kvs, h1, h2, h3⟩ | ⟨kvs, h1, h2, h3⟩
    · exact .inl ⟨kvs, le.k _ _ h1, h2, Reps.le p le vs _ h3⟩
    · exact .inr ⟨kvs, le.kt _ _ h1, h2, Reps.le p le vs _ h3⟩
  | .set _, _, h => h
  | .drw, _, h => h
  | .cel _, _, h => by
    obtain ⟨a, e, h⟩ := h
    exact ⟨a, p.get e, h⟩
theorem Reps.le {dA : Addr} {ca ca' : List Addr} {H H' : Hp} (p : Pre ca ca') (le : Le H H') : ∀ (l : List D) (xs : List V), Reps dA ca H l xs → Reps dA ca' H' l xs
  | [], _, h => h
  | d :: l, _, h => by
    obtain ⟨x, ys, e, h1, h2⟩ := h
    exact ⟨x, ys, e, Rep.le p le d x h1, Reps.le p le l ys h2⟩
end
section
variable {dA : Addr} {ca : List Addr} {H : Hp}
theorem Reps.length : ∀ {l : List D} {xs : List V}, Reps dA ca H l xs → xs.length = l.length
  | [], _, h => by cases h; rfl
  | _ :: _, _, h => by
    obtain ⟨x, ys, rfl, _, h2⟩ := h
    simp [Reps.length h2]
theorem Reps.get : ∀ {l : List D} {xs : List V} {i : Nat} {d : D}, Reps dA ca H l xs → l[i]? = some d → ∃ x, xs[i]? = some x ∧ Rep dA ca H d x
  | _ :: _, _, 0, _, h, e => by
    obtain ⟨x, ys, rfl, h1, _⟩ := h
    simp at e
    subst e
    exact ⟨x, rfl, h1⟩
  | _ :: _, _, i + 1, _, h, e => by
    obtain ⟨x, ys, rfl, _, h2⟩ := h
    obtain ⟨y, e2, r⟩ := Reps.get (i := i) h2 (by simpa using e)
    exact ⟨y, by simpa using e2, r⟩
theorem Reps.getv : ∀ {l : List D} {xs : List V} {i : Nat} {x : V}, Reps dA ca H l xs → xs[i]? = some x → ∃ d, l[i]? = some d ∧ Rep dA ca H d x
  | [], _, _, _, h, e => by cases h; simp at e
  | d :: _, _, 0, _, h, e => by
    obtain ⟨x, ys, rfl, h1, _⟩ := h
    simp at e
    subst e
    exact ⟨d, rfl, h1⟩
  | _ :: _, _, i + 1, _, h, e => by
    obtain ⟨x, ys, rfl, _, h2⟩ := h
    obtain ⟨y, e2, r⟩ := Reps.getv (i := i) h2 (by simpa using e)
    exact ⟨y, by simpa using e2, r⟩
theorem Reps.append : ∀ {l m : List D} {xs ys : List V}, Reps dA ca H l xs → Reps dA ca H m ys → Reps dA ca H (l ++ m) (xs ++ ys)
  | [], _, _, _, h, k => by cases h; exact k
  | _ :: _, _, _, _, h, k => by
    obtain ⟨x, zs, rfl, h1, h2⟩ := h
    exact ⟨x, _, rfl, h1, h2.append k⟩
theorem Reps.one {d : D} {v : V} (h : Rep dA ca H d v) : Reps dA ca H [d] [v] := ⟨v, [], rfl, h, rfl⟩
theorem Reps.take : ∀ {l : List D} {xs : List V} (n : Nat), Reps dA ca H l xs → Reps dA ca H (l.take n) (xs.take n)
  | _, _, 0, _ => rfl
  | [], _, n + 1, h => by cases h; rfl
  | _ :: _, _, n + 1, h => by
    obtain ⟨x, ys, rfl, h1, h2⟩ := h
    exact ⟨x, _, rfl, h1, h2.take n⟩
theorem Reps.drop : ∀ {l : List D} {xs : List V} (n : Nat), Reps dA ca H l xs → Reps dA ca H (l.drop n) (xs.drop n)
  | _, _, 0, h => h
  | [], _, n + 1, h => by cases h; rfl
  | _ :: _, _, n + 1, h => by
    obtain ⟨x, ys, rfl, h1, h2⟩ := h
    exact h2.drop n
theorem Reps.set {d : D} {v : V} (r : Rep dA ca H d v) : ∀ {l : List D} {xs : List V} (n : Nat), Reps dA ca H l xs → Reps dA ca H (l.set n d) (xs.set n v)
  | [], _, n, h => by cases h; rfl
  | _ :: _, _, 0, h => by
    obtain ⟨x, ys, rfl, h1, h2⟩ := h
    exact ⟨v, ys, rfl, r, h2⟩
  | _ :: _, _, n + 1, h => by
    obtain ⟨x, ys, rfl, h1, h2⟩ := h
    exact ⟨x, _, rfl, h1, h2.set r n⟩
end
/-! ### what is shared -/
/-- what stays fixed through the law: the written part, the draw's object, the script's slice and its ints -/
structure Gd where
  K : PySem.W.Frag
  dA : Addr
  sl : Addr
  sc : List Int
  /-- exceptions are served -/
  ex : Bool
/-- a dict's content, told exactly -/
def DctAt (dA : Addr) (ca : List Addr) (Hm H : Hp) (a : Addr) (ks vs : List D) : Prop :=
  (∃ kvs : List (Key × V), H a = some (.dK kvs) ∧ KsR kO ks (kvs.map (·.1)) ∧ Reps dA ca Hm vs (kvs.map (·.2))) ∨
  (∃ kvs : List (List Key × V), H a = some (.dT kvs) ∧ KsR kTO ks (kvs.map (·.1)) ∧ Reps dA ca Hm vs (kvs.map (·.2)))
/-- .. as it may be read -/
def DctR (dA : Addr) (ca : List Addr) (Hm H : Hp) (a : Addr) (ks vs : List D) : Prop :=
  (∃ kvs : List (Key × V), Rd H a (.dK kvs) ∧ KsR kO ks (kvs.map (·.1)) ∧ Reps dA ca Hm vs (kvs.map (·.2))) ∨
  (∃ kvs : List (List Key × V), Rd H a (.dT kvs) ∧ KsR kTO ks (kvs.map (·.1)) ∧ Reps dA ca Hm vs (kvs.map (·.2)))
def flat : D → Bool
  | .non => true
  | .bl _ => true
  | .int _ => true
  | .str _ => true
  | _ => false
structure SRel (g : Gd) (ca : List Addr) (H : Hp) (s : MS) : Prop where
  dr : H g.dA = some (.lst [.ref g.sl, .int 0, .int s.n])
  scr : H g.sl = some (.lst (g.sc.map .int))
  nsl : g.sl ∉ g.dA :: ca
  cs : ca.length = s.cs.length
  ce : ∀ (i : Nat) (a : Addr) (kv : List D × List D), ca[i]? = some a → s.cs[i]? = some kv → DctAt g.dA ca (fun _ => none) H a kv.1 kv.2
  nd : (g.dA :: ca).Nodup
/-- a def's call: addresses that others hold, the heap at the entry, the shared dicts at the entry -/
structure Fm where
  A0 : List Addr
  H0 : Hp
  ca0 : List Addr
def isTup : HO → Bool
  | .tup _ => true
  | _ => false
/-- the mask of a place in a def -/
abbrev bad (g : Gd) (f : Fm) (ca A : List Addr) : List Addr := g.dA :: (ca ++ (f.A0 ++ A))
/-- an owned container at a -/
def Own (g : Gd) (f : Fm) (ca A : List Addr) (H : Hp) (a : Addr) : D → Prop
  | .lst l => ∃ xs, H a = some (.lst xs) ∧ Reps g.dA ca (msk (bad g f ca A) H) l xs
  | .dct ks vs => DctAt g.dA ca (msk (bad g f ca A) H) H a ks vs
  | _ => False
structure EOk (g : Gd) (f : Fm) (O : Nat → Bool) (σ : St) (H : Hp) (e : Env) (s : MS) (ca A : List Addr) : Prop where
  len : σ.length = e.length
  sr : SRel g ca H s
  kp : ∀ i d, getS e i = some d → O i = false → ∃ v, σ[i]? = some (some v) ∧ Rep g.dA ca (msk (bad g f ca A) H) d v
  ow : ∀ i d, getS e i = some d → O i = true → ∃ a, σ[i]? = some (some (.ref a)) ∧ a ∈ A ∧ Own g f ca A H a d
  od : ∀ i j d d' a, i ≠ j → O i = true → O j = true → getS e i = some d → getS e j = some d' → σ[i]? = some (some (.ref a)) → σ[j]? ≠ some (some (.ref a))
  fr : ∀ a o, a ∉ g.dA :: f.ca0 → f.H0 a = some o → ∃ o', H a = some o' ∧ Sm o o'
  fx : ∀ a o, a ∈ f.A0 → f.H0 a = some o → H a = some o
  a0 : ∀ a ∈ f.A0, f.H0 a ≠ none ∧ a ∉ g.dA :: ca
  an : ∀ a ∈ A, f.H0 a = none ∧ a ∉ g.dA :: ca
  pre : ∃ m, ca = f.ca0 ++ m ∧ ∀ a ∈ m, f.H0 a = none
  nt : ∀ a ∈ bad g f ca A, ∃ o, H a = some o ∧ isTup o = false
  ns : g.sl ∉ A
/-- a step of the heap: nothing tracked changes but what is shared; dicts outside L may be locked -/
structure Stp (g : Gd) (L ca : List Addr) (H : Hp) (ca' : List Addr) (H' : Hp) (s' : MS) : Prop where
  sr : SRel g ca' H' s'
  pre : ∃ m, ca' = ca ++ m ∧ ∀ a ∈ m, H a = none
  fr : ∀ a o, a ∉ g.dA :: ca → H a = some o → ∃ o', H' a = some o' ∧ Sm o o'
  ex : ∀ a o, a ∈ L → a ∉ g.dA :: ca → H a = some o → H' a = some o
theorem Stp.refl {g : Gd} {L ca : List Addr} {H : Hp} {s : MS} (r : SRel g ca H s) : Stp g L ca H ca H s := ⟨r, ⟨[], by simp, by simp⟩, fun _ _ _ h => ⟨_, h, .refl _⟩, fun _ _ _ _ h => h⟩
theorem pre_out {g : Gd} {ca m : List Addr} {H : Hp} (hm : ∀ a ∈ m, H a = none) {p : Addr} {o : HO} (hp : p ∉ g.dA :: ca) (e : H p = some o) : p ∉ g.dA :: (ca ++ m) := fun z => by
  simp only [List.mem_cons, List.mem_append, not_or] at hp z
  rcases z with z | z | z
  · exact hp.1 z
  · exact hp.2 z
  · rw [hm p z] at e; cases e
theorem pre_new {g : Gd} {ca m m2 : List Addr} {H H1 : Hp} (hm : ∀ a ∈ m, H a = none) (fr : ∀ a o, a ∉ g.dA :: ca → H a = some o → ∃ o', H1 a = some o' ∧ Sm o o') (hm2 : ∀ a ∈ m2, H1 a = none) (nd : (g.dA :: ((ca ++ m) ++ m2)).Nodup) : ∀ a ∈ m ++ m2, H a = none := fun p hp => by
  rcases List.mem_append.mp hp with z | z
  · exact hm p z
  · cases e : H p with
    | none => rfl
    | some o =>
      have n2 := hm2 p z
      by_cases hq : p ∈ g.dA :: ca
      · exfalso
        simp only [List.mem_cons] at hq
        rw [List.nodup_cons, List.nodup_append] at nd
        rcases hq with q | q
        · exact nd.1 (by rw [← q]; exact List.mem_append_right _ z)
        · exact nd.2.2.2 p (List.mem_append_left _ q) p z rfl
      · obtain ⟨o', h', _⟩ := fr p o hq e
        rw [h'] at n2; cases n2
theorem Stp.trans {g : Gd} {L ca ca1 ca2 : List Addr} {H H1 H2 : Hp} {s1 s2 : MS} (a : Stp g L ca H ca1 H1 s1) (b : Stp g L ca1 H1 ca2 H2 s2) : Stp g L ca H ca2 H2 s2 := by
  obtain ⟨m, rfl, hm⟩ := a.pre
  obtain ⟨m2, rfl, hm2⟩ := b.pre
  refine ⟨b.sr, ⟨m ++ m2, by simp, pre_new hm a.fr hm2 b.sr.nd⟩, fun p o hp e => ?_, fun p o hL hp e => ?_⟩
  · obtain ⟨o1, e1, s1⟩ := a.fr p o hp e
    obtain ⟨o2, e2, s2⟩ := b.fr p o1 (pre_out hm hp e) e1
    exact ⟨o2, e2, s1.trans s2⟩
  · exact b.ex p o hL (pre_out hm hp e) (a.ex p o hL hp e)
theorem Stp.pre' {g : Gd} {L ca ca' : List Addr} {H H' : Hp} {s : MS} (a : Stp g L ca H ca' H' s) : Pre ca ca' := let ⟨m, e, _⟩ := a.pre; ⟨m, e⟩
theorem Stp.mono {g : Gd} {L L' ca ca' : List Addr} {H H' : Hp} {s : MS} (a : Stp g L ca H ca' H' s) (h : ∀ p ∈ L', p ∈ L) : Stp g L' ca H ca' H' s := ⟨a.sr, a.pre, a.fr, fun p o hp => a.ex p o (h p hp)⟩
section
variable {g : Gd} {f : Fm} {O : Nat → Bool} {σ : St} {H H' : Hp} {e : Env} {s s' : MS} {ca ca' A : List Addr}
/-- masked heaps grow along a step -/
theorem Stp.le {L : List Addr} (st : Stp g L ca H ca' H' s') (B : List Addr) : Le (msk (g.dA :: (ca ++ B)) H) (msk (g.dA :: (ca' ++ B)) H') := by
  obtain ⟨m, rfl, hm⟩ := st.pre
  refine Le.ofSm fun a o h => ?_
  obtain ⟨n, h⟩ := msk_some h
  have n1 : a ∉ g.dA :: ca := fun z => n (by
    simp only [List.mem_cons, List.mem_append] at z ⊢
    rcases z with z | z
    · exact .inl z
    · exact .inr (.inl z))
  obtain ⟨o', h', sm⟩ := st.fr a o n1 h
  refine ⟨o', msk_of (fun z => ?_) h', sm⟩
  simp only [List.mem_cons, List.mem_append] at z n
  rcases z with z | (z | z) | z
  · exact n (.inl z)
  · exact n (.inr (.inl z))
  · rw [hm a z] at h; cases h
  · exact n (.inr (.inr z))
theorem DctAt.ok_notTup {dA : Addr} {Hm : Hp} {a : Addr} {ks vs : List D} (h : DctAt dA ca Hm H a ks vs) : ∃ o, H a = some o ∧ isTup o = false := by
  rcases h with ⟨kvs, h, _⟩ | ⟨kvs, h, _⟩
  · exact ⟨_, h, rfl⟩
  · exact ⟨_, h, rfl⟩
theorem SRel.notTup (r : SRel g ca H s) : ∀ a ∈ g.dA :: ca, ∃ o, H a = some o ∧ isTup o = false := fun a ha => by
  rcases List.mem_cons.mp ha with rfl | ha
  · exact ⟨_, r.dr, rfl⟩
  · obtain ⟨i, hi, e⟩ := List.getElem_of_mem ha
    have hi' : i < s.cs.length := by rw [← r.cs]; exact hi
    exact (r.ce i a s.cs[i] (by rw [List.getElem?_eq_getElem hi, e]) (List.getElem?_eq_getElem hi')).ok_notTup
theorem EOk.step (k : EOk g f O σ H e s ca A) (st : Stp g (f.A0 ++ A) ca H ca' H' s') : EOk g f O σ H' e s' ca' A := by
  obtain ⟨m, rfl, hm⟩ := st.pre
  have le := st.le (f.A0 ++ A)
  have p := st.pre'
  have inb : ∀ a, a ∈ f.A0 ++ A → ∃ o, H a = some o ∧ isTup o = false := fun a ha => k.nt a (by
    simp only [List.mem_cons, List.mem_append] at ha ⊢
    exact .inr (.inr ha))
  have out : ∀ a, a ∈ f.A0 ++ A → a ∉ g.dA :: ca := fun a ha => (List.mem_append.mp ha).elim (fun z => (k.a0 a z).2) fun z => (k.an a z).2
  refine ⟨k.len, st.sr, fun i d h o => ?_, fun i d h o => ?_, k.od, fun a o hn h => ?_, fun a o ha h => ?_, fun a ha => ⟨(k.a0 a ha).1, ?_⟩, fun a ha => ⟨(k.an a ha).1, ?_⟩, ?_, fun a ha => ?_, k.ns⟩
  · obtain ⟨v, e1, r⟩ := k.kp i d h o
    exact ⟨v, e1, Rep.le p le _ _ r⟩
  · obtain ⟨a, e1, ha, r⟩ := k.ow i d h o
    refine ⟨a, e1, ha, ?_⟩
    have keep : ∀ o, H a = some o → H' a = some o := fun o => st.ex a o (List.mem_append_right _ ha) (k.an a ha).2
    cases d with
    | lst l =>
      obtain ⟨xs, h1, h2⟩ := r
      exact ⟨xs, keep _ h1, Reps.le p le _ _ h2⟩
    | dct ks vs =>
      rcases r with ⟨kvs, h1, h2, h3⟩ | ⟨kvs, h1, h2, h3⟩
      · exact .inl ⟨kvs, keep _ h1, h2, Reps.le p le _ _ h3⟩
      · exact .inr ⟨kvs, keep _ h1, h2, Reps.le p le _ _ h3⟩
    | _ => exact r
  · obtain ⟨o1, h1, s1⟩ := k.fr a o hn h
    obtain ⟨m0, e0, hm0⟩ := k.pre
    have hca : a ∉ g.dA :: ca := by
      rw [e0]
      exact pre_out hm0 hn h
    obtain ⟨o2, h2, s2⟩ := st.fr a o1 hca h1
    exact ⟨o2, h2, s1.trans s2⟩
  · exact st.ex a o (List.mem_append_left _ ha) (k.a0 a ha).2 (k.fx a o ha h)
  · obtain ⟨o, ho, _⟩ := inb a (List.mem_append_left _ ha)
    exact pre_out hm (k.a0 a ha).2 ho
  · obtain ⟨o, ho, _⟩ := inb a (List.mem_append_right _ ha)
    exact pre_out hm (k.an a ha).2 ho
  · obtain ⟨m0, e0, hm0⟩ := k.pre
    subst e0
    exact ⟨m0 ++ m, by rw [List.append_assoc], pre_new hm0 k.fr hm st.sr.nd⟩
  · simp only [List.mem_cons, List.mem_append] at ha
    rcases ha with z | (z | z) | z
    · exact st.sr.notTup a (by simp [z])
    · exact st.sr.notTup a (by simp [z])
    · exact st.sr.notTup a (by simp [z])
    · obtain ⟨o, h1, h2⟩ := inb a (List.mem_append.mpr z)
      exact ⟨o, st.ex a o (List.mem_append.mpr z) (out a (List.mem_append.mpr z)) h1, h2⟩
end
/-! ### readings -/
/-- a result: kept (k), or its items are -/
def RepK (g : Gd) (f : Fm) (ca A : List Addr) (H : Hp) (k : Bool) (d : D) (v : V) : Prop :=
  if k = true then Rep g.dA ca (msk (bad g f ca A) H) d v else match d with
    | .lst l => ∃ a xs, v = .ref a ∧ H a = some (.lst xs) ∧ Reps g.dA ca (msk (bad g f ca A) H) l xs
    | .dct ks vs => ∃ a, v = .ref a ∧ DctR g.dA ca (msk (bad g f ca A) H) H a ks vs
    | d => Rep g.dA ca (msk (bad g f ca A) H) d v
/-- a new list or dict that nothing else knows; any other value kept -/
def RepN (g : Gd) (f : Fm) (ca A : List Addr) (H0 H : Hp) (d : D) (v : V) : Prop := match d with
  | .lst l => ∃ a xs, v = .ref a ∧ H0 a = none ∧ a ∉ bad g f ca A ∧ H a = some (.lst xs) ∧ Reps g.dA ca (msk (bad g f ca (a :: A)) H) l xs
  | .dct ks vs => ∃ a, v = .ref a ∧ H0 a = none ∧ a ∉ bad g f ca A ∧ DctAt g.dA ca (msk (bad g f ca (a :: A)) H) H a ks vs
  | d => Rep g.dA ca (msk (bad g f ca A) H) d v
/-- what has an object of its own -/
def isObjD : D → Bool
  | .tup _ => true
  | .lst _ => true
  | .dct _ _ => true
  | _ => false
/-- its items are kept -/
def RepI (g : Gd) (f : Fm) (ca A : List Addr) (H : Hp) (d : D) (v : V) : Prop := RepK g f ca A H false d v ∧ ∀ a, v = .ref a → isObjD d = true → a ∉ g.dA :: ca ∧ (a ∈ A ∨ a ∉ bad g f ca A)
inductive Kd where | I | K | N
  deriving DecidableEq
def RepD (g : Gd) (f : Fm) (ca A : List Addr) (H0 H : Hp) : Kd → D → V → Prop
  | .I => RepI g f ca A H
  | .K => RepK g f ca A H true
  | .N => RepN g f ca A H0 H
/-- an exception of the text: its class, its own dict -/
abbrev XR := Nat → D → Value → Option Addr → Hp → List Addr → Prop
/-- the end of an expression -/
def PostE (g : Gd) (xr : XR) (f : Fm) (ca A : List Addr) (σ : St) (H0 H : Hp) (k : Kd) (W : WX) (r : R D) (Q : VK) : Prop := match r with
  | .ok d s' => ∀ v H' ca', Stp g (f.A0 ++ A) ca H ca' H' s' → RepD g f ca' A H0 H' k d v → Q v H'
  | .exc c x s' => g.ex = true ∧ ∀ cls od H' ca', Stp g (f.A0 ++ A) ca H ca' H' s' → xr c x cls od H' ca' → W cls od σ H'
  | .stuck => False
def tE (g : Gd) (xr : XR) (F : Nat → List D → M D) (O : Nat → Bool) (k : Kd) (W : WX) (m : E) : TE := fun σ H Q =>
  ∃ f e s ca A, EOk g f O σ H e s ca A ∧ PostE g xr f ca A σ H H k W (den F m e s) Q
/-- .. of a test -/
def PostT (g : Gd) (xr : XR) (L ca : List Addr) (σ : St) (H : Hp) (W : WX) (r : R D) (Q : Bool → Hp → Prop) : Prop := match r with
  | .ok (.bl b) s' => ∀ H' ca', Stp g L ca H ca' H' s' → Q b H'
  | .ok _ _ => False
  | .exc c x s' => g.ex = true ∧ ∀ cls od H' ca', Stp g L ca H ca' H' s' → xr c x cls od H' ca' → W cls od σ H'
  | .stuck => False
def tT (g : Gd) (xr : XR) (F : Nat → List D → M D) (O : Nat → Bool) (W : WX) (m : E) : TT := fun σ H Q =>
  ∃ f e s ca A, EOk g f O σ H e s ca A ∧ PostT g xr (f.A0 ++ A) ca σ H W (den F m e s) Q
/-- .. of arguments -/
def PostA (g : Gd) (xr : XR) (f : Fm) (ca A : List Addr) (σ : St) (H : Hp) (W : WX) (r : R D) (Q : List V → Hp → Prop) : Prop := match r with
  | .ok (.lst l) s' => ∀ vs H' ca', Stp g (f.A0 ++ A) ca H ca' H' s' → Reps g.dA ca' (msk (bad g f ca' A) H') l vs → Q vs H'
  | .ok _ _ => False
  | .exc c x s' => g.ex = true ∧ ∀ cls od H' ca', Stp g (f.A0 ++ A) ca H ca' H' s' → xr c x cls od H' ca' → W cls od σ H'
  | .stuck => False
def tA (g : Gd) (xr : XR) (F : Nat → List D → M D) (O : Nat → Bool) (W : WX) (m : E) : TA := fun σ H Q =>
  ∃ f e s ca A, EOk g f O σ H e s ca A ∧ PostA g xr f ca A σ H W (den F m e s) Q
theorem _root_.L2.PE.imp {X : Cx} {e : Expr} {t t' : TE} (h : PE X e t) (i : ∀ σ H Q, t' σ H Q → t σ H Q) : PE X e t' := ⟨fun pins s σ H Q I q => h.run pins s σ H Q I (i σ H Q q)⟩
theorem _root_.L2.PT.imp {X : Cx} {e : Expr} {t t' : TT} (h : PT X e t) (i : ∀ σ H Q, t' σ H Q → t σ H Q) : PT X e t' := ⟨fun pins s σ H Q I q => h.run pins s σ H Q I (i σ H Q q)⟩
theorem _root_.L2.PW.imp {X : Cx} {e : Expr} {t t' : TT} (h : PW X e t) (i : ∀ σ H Q, t' σ H Q → t σ H Q) : PW X e t' := ⟨fun wh pins s σ H Q I q => h.run wh pins s σ H Q I (i σ H Q q)⟩
theorem _root_.L2.PA.imp {X : Cx} {es : List Expr} {t t' : TA} (h : PA X es t) (i : ∀ σ H Q, t' σ H Q → t σ H Q) : PA X es t' := ⟨fun pos pins s σ H Q I q => h.run pos pins s σ H Q I (i σ H Q q)⟩
end W
/-! W3: steps of readings. -/
namespace W
open PySem L2
section
variable {g : Gd} {xr : XR} {F : Nat → List D → M D} {O : Nat → Bool} {W : WX} {f : Fm} {L ca ca1 A : List Addr} {σ : St} {H0 H H1 : Hp} {s s1 : MS} {k : Kd} {r : R D} {Q : VK} {e : Env}
theorem PostE.from (st : Stp g (f.A0 ++ A) ca H ca1 H1 s1) (p : PostE g xr f ca A σ H0 H k W r Q) : PostE g xr f ca1 A σ H0 H1 k W r Q := by
  cases r with
  | ok d s' => exact fun v H' ca' t q => p v H' ca' (st.trans t) q
  | exc c x s' => exact ⟨p.1, fun cls od H' ca' t q => p.2 cls od H' ca' (st.trans t) q⟩
  | stuck => exact p
theorem PostT.from {Q : Bool → Hp → Prop} (st : Stp g L ca H ca1 H1 s1) (p : PostT g xr L ca σ H W r Q) : PostT g xr L ca1 σ H1 W r Q := by
  cases r with
  | ok d s' =>
    cases d with
    | bl b => exact fun H' ca' t => p H' ca' (st.trans t)
    | _ => exact p
  | exc c x s' => exact ⟨p.1, fun cls od H' ca' t q => p.2 cls od H' ca' (st.trans t) q⟩
  | stuck => exact p
theorem PostA.from {Q : List V → Hp → Prop} (st : Stp g (f.A0 ++ A) ca H ca1 H1 s1) (p : PostA g xr f ca A σ H W r Q) : PostA g xr f ca1 A σ H1 W r Q := by
  cases r with
  | ok d s' =>
    cases d with
    | lst b => exact fun v H' ca' t q => p v H' ca' (st.trans t) q
    | _ => exact p
  | exc c x s' => exact ⟨p.1, fun cls od H' ca' t q => p.2 cls od H' ca' (st.trans t) q⟩
  | stuck => exact p
theorem SRel.some (r : SRel g ca H s) {a : Addr} (h : a ∈ g.dA :: ca) : H a ≠ none := fun z => by
  obtain ⟨o, e, _⟩ := r.notTup a h
  rw [z] at e; cases e
/-- what is new later is new -/
theorem Stp.back (r : SRel g ca H s) (st : Stp g L ca H ca1 H1 s1) {p : Addr} (h : H1 p = none) : H p = none := by
  cases e : H p with
  | none => rfl
  | some o =>
    exfalso
    by_cases hp : p ∈ g.dA :: ca
    · refine st.sr.some (a := p) ?_ h
      obtain ⟨m, rfl, _⟩ := st.pre
      rcases List.mem_cons.mp hp with rfl | z
      · exact List.mem_cons_self
      · exact List.mem_cons_of_mem _ (List.mem_append_left _ z)
    · obtain ⟨o', e', _⟩ := st.fr p o hp e
      rw [h] at e'; cases e'
/-- a part in front -/
theorem tE.front {a : E} {m : D → M D} {Q' : VK} {k' : Kd} (ok : EOk g f O σ H e s ca A) (p : PostE g xr f ca A σ H0 H k W (M.bind (den F a e) m s) Q)
    (h : ∀ d s1 v H1 ca1, EOk g f O σ H1 e s1 ca1 A → Stp g (f.A0 ++ A) ca H ca1 H1 s1 → RepD g f ca1 A H H1 k' d v → PostE g xr f ca1 A σ H0 H1 k W (m d s1) Q → Q' v H1) : tE g xr F O k' W a σ H Q' := by
  refine ⟨f, e, s, ca, A, ok, ?_⟩
  unfold M.bind at p
  cases q : den F a e s with
  | ok d s1 =>
    rw [q] at p
    exact fun v H1 ca1 st r => h d s1 v H1 ca1 (ok.step st) st r (p.from st)
  | exc c x s1 => rw [q] at p; exact p
  | stuck => rw [q] at p; exact p
/-- the last part -/
theorem tE.last (ok : EOk g f O σ H e s ca A) {a : E} (p : PostE g xr f ca A σ H H k W (den F a e s) Q) : tE g xr F O k W a σ H Q := ⟨f, e, s, ca, A, ok, p⟩
theorem tE.frontT {a : E} {m : D → M D} {Q' : Bool → Hp → Prop} (ok : EOk g f O σ H e s ca A) (p : PostE g xr f ca A σ H0 H k W (M.bind (den F a e) m s) Q)
    (hb : ∀ d s1, m d s1 = R.stuck ∨ ∃ b, d = .bl b)
    (h : ∀ b s1 H1 ca1, EOk g f O σ H1 e s1 ca1 A → Stp g (f.A0 ++ A) ca H ca1 H1 s1 → PostE g xr f ca1 A σ H0 H1 k W (m (.bl b) s1) Q → Q' b H1) : tT g xr F O W a σ H Q' := by
  refine ⟨f, e, s, ca, A, ok, ?_⟩
  unfold M.bind at p
  cases q : den F a e s with
  | ok d s1 =>
    rw [q] at p
    rcases hb d s1 with z | ⟨b, rfl⟩
    · change PostE g xr f ca A σ H0 H k W (m d s1) Q at p
      rw [z] at p
      exact p.elim
    · exact fun H1 ca1 st => h b s1 H1 ca1 (ok.step st) st (p.from st)
  | exc c x s1 => rw [q] at p; exact p
  | stuck => rw [q] at p; exact p
theorem tE.frontA {a : E} {m : D → M D} {Q' : List V → Hp → Prop} (ok : EOk g f O σ H e s ca A) (p : PostE g xr f ca A σ H0 H k W (M.bind (den F a e) m s) Q)
    (hb : ∀ d s1, m d s1 = R.stuck ∨ ∃ b, d = .lst b)
    (h : ∀ l s1 vs H1 ca1, EOk g f O σ H1 e s1 ca1 A → Stp g (f.A0 ++ A) ca H ca1 H1 s1 → Reps g.dA ca1 (msk (bad g f ca1 A) H1) l vs → PostE g xr f ca1 A σ H0 H1 k W (m (.lst l) s1) Q → Q' vs H1) : tA g xr F O W a σ H Q' := by
  refine ⟨f, e, s, ca, A, ok, ?_⟩
  unfold M.bind at p
  cases q : den F a e s with
  | ok d s1 =>
    rw [q] at p
    rcases hb d s1 with z | ⟨b, rfl⟩
    · change PostE g xr f ca A σ H0 H k W (m d s1) Q at p
      rw [z] at p
      exact p.elim
    · exact fun vs H1 ca1 st r => h b s1 vs H1 ca1 (ok.step st) st r (p.from st)
  | exc c x s1 => rw [q] at p; exact p
  | stuck => rw [q] at p; exact p
/-- a value that needs no heap -/
theorem flat_rep {dA : Addr} {ca ca' : List Addr} {H H' : Hp} {d : D} {v : V} (fl : flat d = true) (r : Rep dA ca H d v) : Rep dA ca' H' d v := by
  cases d <;> first | exact r | cases fl
theorem RepD.flat {H' H0' : Hp} {ca' A' : List Addr} {f' : Fm} {k' : Kd} {d : D} {v : V} (fl : _root_.W.flat d = true) (r : RepD g f ca1 A H0 H1 k d v) : RepD g f' ca' A' H0' H' k' d v := by
  cases k <;> cases k' <;> cases d <;> first | (cases fl; done) | exact r | exact ⟨r, fun _ _ z => nomatch z⟩ | exact r.1 | exact ⟨r.1, fun _ _ z => nomatch z⟩
theorem repK_true {d : D} {v : V} : RepK g f ca A H true d v = Rep g.dA ca (msk (bad g f ca A) H) d v := rfl
/-- kept: items kept too -/
theorem RepK.weak {d : D} {v : V} (r : RepK g f ca A H true d v) : RepK g f ca A H false d v := by
  unfold RepK at r ⊢
  cases d with
  | lst l =>
    obtain ⟨a, xs, e, h1, h2⟩ := r
    exact ⟨a, xs, e, (msk_some h1).2, h2⟩
  | dct ks vs =>
    obtain ⟨a, e, h⟩ := r
    have rd : ∀ u, Rd (msk (bad g f ca A) H) a u → Rd H a u := fun u z => z.elim (fun z => .inl (msk_some z).2) fun ⟨o, z⟩ => .inr ⟨o, (msk_some z).2⟩
    rcases h with ⟨kvs, h1, h2, h3⟩ | ⟨kvs, h1, h2, h3⟩
    · exact ⟨a, e, .inl ⟨kvs, rd _ h1, h2, h3⟩⟩
    · exact ⟨a, e, .inr ⟨kvs, rd _ h1, h2, h3⟩⟩
  | _ => exact r
theorem le_more (a : Addr) (H : Hp) : Le (msk (bad g f ca (a :: A)) H) (msk (bad g f ca A) H) := Le.of fun b o h => by
  obtain ⟨n, h⟩ := msk_some h
  refine msk_of (fun z => n ?_) h
  simp only [List.mem_cons, List.mem_append] at z ⊢
  rcases z with z | z | z | z
  · exact .inl z
  · exact .inr (.inl z)
  · exact .inr (.inr (.inl z))
  · exact .inr (.inr (.inr (.inr z)))
theorem RepN.keep {d : D} {v : V} (r : RepN g f ca A H0 H d v) : RepK g f ca A H true d v := by
  cases d with
  | lst l =>
    obtain ⟨a, xs, e, _, h1, h2, h3⟩ := r
    exact ⟨a, xs, e, msk_of h1 h2, Reps.le (.refl _) (le_more a H) _ _ h3⟩
  | dct ks vs =>
    obtain ⟨a, e, _, h1, h⟩ := r
    refine ⟨a, e, ?_⟩
    rcases h with ⟨kvs, h2, h3, h4⟩ | ⟨kvs, h2, h3, h4⟩
    · exact .inl ⟨kvs, .inl (msk_of h1 h2), h3, Reps.le (.refl _) (le_more a H) _ _ h4⟩
    · exact .inr ⟨kvs, .inl (msk_of h1 h2), h3, Reps.le (.refl _) (le_more a H) _ _ h4⟩
  | _ => exact r
theorem RepK.out {d : D} {v : V} (r : RepK g f ca A H true d v) : ∀ a, v = .ref a → isObjD d = true → a ∉ bad g f ca A := by
  intro a e o
  subst e
  cases d with
  | tup l =>
    obtain ⟨b, xs, z, h1, _⟩ := r
    cases z
    exact (msk_some h1).1
  | lst l =>
    obtain ⟨b, xs, z, h1, _⟩ := r
    cases z
    exact (msk_some h1).1
  | dct ks vs =>
    obtain ⟨b, z, h⟩ := r
    cases z
    rcases h with ⟨kvs, h1, _⟩ | ⟨kvs, h1, _⟩ <;> rcases h1 with h1 | ⟨o, h1⟩ <;> exact (msk_some h1).1
  | _ => cases o
theorem bad_out {a : Addr} (h : a ∉ bad g f ca A) : a ∉ g.dA :: ca := fun z => h (by
  simp only [List.mem_cons, List.mem_append] at z ⊢
  rcases z with z | z
  · exact .inl z
  · exact .inr (.inl z))
theorem RepK.toI {d : D} {v : V} (r : RepK g f ca A H true d v) : RepI g f ca A H d v := ⟨r.weak, fun a e o => ⟨bad_out (r.out a e o), .inr (r.out a e o)⟩⟩
theorem RepD.items {d : D} {v : V} (r : RepD g f ca A H0 H k d v) : RepK g f ca A H false d v := by
  cases k with
  | I => exact r.1
  | K => exact RepK.weak r
  | N => exact (RepN.keep r).weak
theorem RepD.toI {d : D} {v : V} (r : RepD g f ca A H0 H k d v) : RepI g f ca A H d v := by
  cases k with
  | I => exact r
  | K => exact RepK.toI r
  | N => exact (RepN.keep r).toI
theorem RepD.kept {d : D} {v : V} (r : RepD g f ca A H0 H k d v) (h : k ≠ .I) : RepK g f ca A H true d v := by
  cases k with
  | I => exact absurd rfl h
  | K => exact r
  | N => exact RepN.keep r
/-- a stronger kind serves -/
theorem RepD.to {k' : Kd} {d : D} {v : V} (h : k = k' ∨ k' = .I ∨ (k = .N ∧ k' = .K)) (r : RepD g f ca A H0 H k d v) : RepD g f ca A H0 H k' d v := by
  rcases h with rfl | rfl | ⟨rfl, rfl⟩
  · exact r
  · exact r.toI
  · exact RepN.keep r
theorem PostE.weak {k' : Kd} (h : k = k' ∨ k' = .I ∨ (k = .N ∧ k' = .K)) (p : PostE g xr f ca A σ H0 H k' W r Q) : PostE g xr f ca A σ H0 H k W r Q := by
  cases r with
  | ok d s' => exact fun v H' ca' t q => p v H' ca' t (q.to h)
  | exc c x s' => exact p
  | stuck => exact p
theorem tE.weak {m : E} {k' : Kd} (h : k = k' ∨ k' = .I ∨ (k = .N ∧ k' = .K)) (p : tE g xr F O k' W m σ H Q) : tE g xr F O k W m σ H Q := by
  obtain ⟨f, e, s, ca, A, ok, p⟩ := p
  exact ⟨f, e, s, ca, A, ok, p.weak h⟩
/-- an expression that gives a bool or nothing, as a test -/
theorem tT.val {m : E} {Q : Bool → Hp → Prop} (p : tT g xr F O W m σ H Q) : tE g xr F O .K W m σ H (fun v H' => ∃ c, v = .bl c ∧ Q c H') := by
  obtain ⟨f, e, s, ca, A, ok, p⟩ := p
  refine ⟨f, e, s, ca, A, ok, ?_⟩
  cases q : den F m e s with
  | ok d s1 =>
    rw [q] at p
    cases d with
    | bl b => exact fun v H' ca' t r => ⟨b, r, p H' ca' t⟩
    | _ => exact p.elim
  | exc c x s1 => rw [q] at p; exact p
  | stuck => rw [q] at p; exact p
end
section
variable {g : Gd} {f : Fm} {ca ca' A : List Addr} {H H' : Hp} {s' : MS} {d : D} {v : V}
theorem Rep.stp (st : Stp g (f.A0 ++ A) ca H ca' H' s') (r : Rep g.dA ca (msk (bad g f ca A) H) d v) : Rep g.dA ca' (msk (bad g f ca' A) H') d v := Rep.le st.pre' (st.le (f.A0 ++ A)) _ _ r
theorem Reps.stp {l : List D} {xs : List V} (st : Stp g (f.A0 ++ A) ca H ca' H' s') (r : Reps g.dA ca (msk (bad g f ca A) H) l xs) : Reps g.dA ca' (msk (bad g f ca' A) H') l xs := Reps.le st.pre' (st.le (f.A0 ++ A)) _ _ r
theorem Rd.stp {L : List Addr} {a : Addr} {u : HO} (st : Stp g L ca H ca' H' s') (n : a ∉ g.dA :: ca) (hu : isDct u = true) (h : Rd H a u) : Rd H' a u := by
  rcases h with h | ⟨o, h⟩
  · obtain ⟨o', h', sm⟩ := st.fr a _ n h
    rcases sm with rfl | ⟨_, od, rfl⟩
    · exact .inl h'
    · exact .inr ⟨od, h'⟩
  · obtain ⟨o', h', sm⟩ := st.fr a _ n h
    have := sm.same rfl
    subst this
    exact .inr ⟨o, h'⟩
theorem RepI.stp (st : Stp g (f.A0 ++ A) ca H ca' H' s') (r : RepI g f ca A H d v) : RepI g f ca' A H' d v := by
  obtain ⟨r, n⟩ := r
  have n' : ∀ a, v = .ref a → isObjD d = true → (∃ o, H a = some o) → a ∉ g.dA :: ca' ∧ (a ∈ A ∨ a ∉ bad g f ca' A) := fun a e o ⟨u, h⟩ => by
    obtain ⟨m, rfl, hm⟩ := st.pre
    refine ⟨pre_out hm (n a e o).1 h, (n a e o).2.imp id fun z z' => z ?_⟩
    simp only [List.mem_cons, List.mem_append] at z' ⊢
    rcases z' with w | (w | w) | w
    · exact .inl w
    · exact .inr (.inl w)
    · rw [hm a w] at h; cases h
    · exact .inr (.inr w)
  have n := fun a e o => (n a e o).1
  cases d with
  | lst l =>
    obtain ⟨a, xs, rfl, h1, h2⟩ := r
    obtain ⟨o', h', sm⟩ := st.fr a _ (n a rfl rfl) h1
    have := sm.same rfl
    subst this
    refine ⟨⟨a, xs, rfl, h', h2.stp st⟩, fun b e o => ?_⟩
    cases e
    exact n' a rfl rfl ⟨_, h1⟩
  | dct ks vs =>
    obtain ⟨a, rfl, h⟩ := r
    have hs : ∃ o, H a = some o := by
      rcases h with ⟨kvs, h1, _⟩ | ⟨kvs, h1, _⟩ <;> rcases h1 with h1 | ⟨o, h1⟩ <;> exact ⟨_, h1⟩
    refine ⟨⟨a, rfl, ?_⟩, fun b e o => by cases e; exact n' a rfl rfl hs⟩
    rcases h with ⟨kvs, h1, h2, h3⟩ | ⟨kvs, h1, h2, h3⟩
    · exact .inl ⟨kvs, W.Rd.stp st (n a rfl rfl) rfl h1, h2, h3.stp st⟩
    · exact .inr ⟨kvs, W.Rd.stp st (n a rfl rfl) rfl h1, h2, h3.stp st⟩
  | tup l =>
    have z : RepK g f ca' A H' true (.tup l) v := Rep.stp st r
    exact z.toI
  | non => exact ⟨r, fun _ _ z => nomatch z⟩
  | bl _ => exact ⟨r, fun _ _ z => nomatch z⟩
  | int _ => exact ⟨r, fun _ _ z => nomatch z⟩
  | str _ => exact ⟨r, fun _ _ z => nomatch z⟩
  | set _ => cases r
  | drw => exact ⟨r, fun _ _ z => nomatch z⟩
  | cel _ => exact ⟨Rep.stp st r, fun _ _ z => nomatch z⟩
end
/-! ### heaps that only grow -/
def Nw (H H' : Hp) : Prop := ∀ a o, H a = some o → H' a = some o
theorem Nw.refl (H : Hp) : Nw H H := fun _ _ h => h
theorem Nw.trans {H H1 H2 : Hp} (a : Nw H H1) (b : Nw H1 H2) : Nw H H2 := fun p o h => b p o (a p o h)
theorem Nw.upd {H : Hp} {p : Addr} {o : HO} (h : H p = none) : Nw H (upd H p o) := fun a u e => by rw [upd_ne (ne_of_none e h)]; exact e
theorem Nw.back {H H' : Hp} (n : Nw H H') {p : Addr} (h : H' p = none) : H p = none := by
  cases e : H p with
  | none => rfl
  | some o => rw [n p o e] at h; cases h
theorem DctAt.nw {dA : Addr} {ca : List Addr} {Hm H H' : Hp} {a : Addr} {ks vs : List D} (n : Nw H H') (h : DctAt dA ca Hm H a ks vs) : DctAt dA ca Hm H' a ks vs := by
  rcases h with ⟨kvs, h1, h2, h3⟩ | ⟨kvs, h1, h2, h3⟩
  · exact .inl ⟨kvs, n _ _ h1, h2, h3⟩
  · exact .inr ⟨kvs, n _ _ h1, h2, h3⟩
theorem SRel.nw {g : Gd} {ca : List Addr} {H H' : Hp} {s : MS} (n : Nw H H') (r : SRel g ca H s) : SRel g ca H' s :=
  ⟨n _ _ r.dr, n _ _ r.scr, r.nsl, r.cs, fun i a kv h1 h2 => (r.ce i a kv h1 h2).nw n, r.nd⟩
theorem Stp.nw {g : Gd} {L ca : List Addr} {H H' : Hp} {s : MS} (n : Nw H H') (r : SRel g ca H s) : Stp g L ca H ca H' s := ⟨r.nw n, ⟨[], by simp, by simp⟩, fun a o _ h => ⟨o, n a o h, .refl _⟩, fun a o _ _ h => n a o h⟩
theorem Le.nw {H H' : Hp} (n : Nw H H') (L : List Addr) : Le (msk L H) (msk L H') := Le.of fun a o h => msk_of (msk_some h).1 (n a o (msk_some h).2)
theorem RepK.nw {g : Gd} {f : Fm} {ca A : List Addr} {H H' : Hp} {k : Bool} {d : D} {v : V} (n : Nw H H') (r : RepK g f ca A H k d v) : RepK g f ca A H' k d v := by
  have le := Le.nw n (bad g f ca A)
  unfold RepK at r ⊢
  cases k with
  | true => exact Rep.le (Pre.refl _) le _ _ r
  | false =>
    cases d with
    | lst l =>
      obtain ⟨a, xs, e, h1, h2⟩ := r
      exact ⟨a, xs, e, n _ _ h1, Reps.le (Pre.refl _) le _ _ h2⟩
    | dct ks vs =>
      obtain ⟨a, e, h⟩ := r
      have rd : ∀ u, Rd H a u → Rd H' a u := fun u z => z.elim (fun z => .inl (n _ _ z)) fun ⟨o, z⟩ => .inr ⟨o, n _ _ z⟩
      rcases h with ⟨kvs, h1, h2, h3⟩ | ⟨kvs, h1, h2, h3⟩
      · exact ⟨a, e, .inl ⟨kvs, rd _ h1, h2, Reps.le (Pre.refl _) le _ _ h3⟩⟩
      · exact ⟨a, e, .inr ⟨kvs, rd _ h1, h2, Reps.le (Pre.refl _) le _ _ h3⟩⟩
    | _ => exact Rep.le (Pre.refl _) le _ _ r
/-- the state of a place, without slots -/
structure Here (g : Gd) (f : Fm) (ca A : List Addr) (H : Hp) : Prop where
  nt : ∀ a ∈ bad g f ca A, ∃ o, H a = some o ∧ isTup o = false
theorem EOk.here {g : Gd} {f : Fm} {O : Nat → Bool} {σ : St} {H : Hp} {e : Env} {s : MS} {ca A : List Addr} (k : EOk g f O σ H e s ca A) : Here g f ca A H := ⟨k.nt⟩
theorem Here.free {g : Gd} {f : Fm} {ca A : List Addr} {H : Hp} (k : Here g f ca A H) {p : Addr} (h : H p = none) : p ∉ bad g f ca A := fun z => by
  obtain ⟨o, e, _⟩ := k.nt p z
  rw [h] at e; cases e
theorem Here.tup {g : Gd} {f : Fm} {ca A : List Addr} {H : Hp} (k : Here g f ca A H) {p : Addr} {xs : List V} (h : H p = some (.tup xs)) : p ∉ bad g f ca A := fun z => by
  obtain ⟨o, e, q⟩ := k.nt p z
  rw [h] at e; cases e; cases q
theorem Here.nw {g : Gd} {f : Fm} {ca A : List Addr} {H H' : Hp} (k : Here g f ca A H) (n : Nw H H') : Here g f ca A H' := ⟨fun a ha => let ⟨o, e, t⟩ := k.nt a ha; ⟨o, n _ _ e, t⟩⟩
section
variable {g : Gd} {f : Fm} {ca A : List Addr} {H : Hp} {p : Addr} {l : List D} {xs : List V}
/-- a new tuple, a new list -/
theorem rep_newT (k : Here g f ca A H) (hp : H p = none) (r : Reps g.dA ca (msk (bad g f ca A) H) l xs) : RepK g f ca A (upd H p (.tup xs)) true (.tup l) (.ref p) :=
  ⟨p, xs, rfl, msk_of (k.free hp) upd_same, Reps.le (Pre.refl _) (Le.nw (Nw.upd hp) _) _ _ r⟩
theorem rep_newL (k : Here g f ca A H) (hp : H p = none) (r : Reps g.dA ca (msk (bad g f ca A) H) l xs) : RepK g f ca A (upd H p (.lst xs)) true (.lst l) (.ref p) :=
  ⟨p, xs, rfl, msk_of (k.free hp) upd_same, Reps.le (Pre.refl _) (Le.nw (Nw.upd hp) _) _ _ r⟩
/-- what was there does not know a new address -/
theorem le_new {H' : Hp} (hp : H p = none) (n : Nw H H') : Le (msk (bad g f ca A) H) (msk (bad g f ca (p :: A)) H') := Le.of fun b o h => by
  obtain ⟨m, h⟩ := msk_some h
  refine msk_of (fun z => m ?_) (n _ _ h)
  simp only [List.mem_cons, List.mem_append] at z ⊢
  rcases z with z | z | z | z | z
  · exact .inl z
  · exact .inr (.inl z)
  · exact .inr (.inr (.inl z))
  · rw [z, hp] at h; cases h
  · exact .inr (.inr (.inr z))
theorem repN_lst {H0 : Hp} (k : Here g f ca A H) (h0 : H0 p = none) (hp : H p = none) (r : Reps g.dA ca (msk (bad g f ca A) H) l xs) : RepN g f ca A H0 (upd H p (.lst xs)) (.lst l) (.ref p) :=
  ⟨p, xs, rfl, h0, k.free hp, upd_same, Reps.le (Pre.refl _) (le_new hp (Nw.upd hp)) _ _ r⟩
theorem repN_dK {H0 : Hp} {ks vs : List D} {kvs : List (Key × V)} (k : Here g f ca A H) (h0 : H0 p = none) (hp : H p = none) (hk : KsR kO ks (kvs.map (·.1))) (r : Reps g.dA ca (msk (bad g f ca A) H) vs (kvs.map (·.2))) : RepN g f ca A H0 (upd H p (.dK kvs)) (.dct ks vs) (.ref p) :=
  ⟨p, rfl, h0, k.free hp, .inl ⟨kvs, upd_same, hk, Reps.le (Pre.refl _) (le_new hp (Nw.upd hp)) _ _ r⟩⟩
theorem repN_dT {H0 : Hp} {ks vs : List D} {kvs : List (List Key × V)} (k : Here g f ca A H) (h0 : H0 p = none) (hp : H p = none) (hk : KsR kTO ks (kvs.map (·.1))) (r : Reps g.dA ca (msk (bad g f ca A) H) vs (kvs.map (·.2))) : RepN g f ca A H0 (upd H p (.dT kvs)) (.dct ks vs) (.ref p) :=
  ⟨p, rfl, h0, k.free hp, .inr ⟨kvs, upd_same, hk, Reps.le (Pre.refl _) (le_new hp (Nw.upd hp)) _ _ r⟩⟩
/-- the end of an expression that only laid new things -/
theorem PostE.end {xr : XR} {O : Nat → Bool} {σ : St} {e : Env} {s : MS} {H0 H' : Hp} {k : Kd} {W : WX} {d : D} {v : V} {Q : VK} (ok : EOk g f O σ H e s ca A) (p : PostE g xr f ca A σ H0 H k W (.ok d s) Q) (n : Nw H H') (r : RepD g f ca A H0 H' k d v) : Q v H' :=
  p v H' ca (Stp.nw n ok.sr) r
end
end W
/-! W4: operators by data. -/
namespace W
open PySem L2
def opOf : Bop → Operator
  | .add => .Add
  | .sub => .Sub
  | .mul => .Mult
  | .fdiv => .FloorDiv
  | .mod => .Mod
/-- an operation of data, by values -/
def rDop (g : Gd) (op : D → D → Option D) : R2 := fun x y H Q => ∃ (f : Fm) (ca A : List Addr) (d e z : D), Here g f ca A H ∧ RepK g f ca A H false d x ∧ RepK g f ca A H false e y ∧ op d e = some z ∧
  ∀ v H', Nw H H' → RepK g f ca A H' true z v → Q v H'
theorem line_eq : line = sizeLine := by rw [sizeLine_eq]; rfl
theorem some_inj {α : Type} {a b : α} (h : some a = some b) : a = b := Option.some.inj h
theorem bif_some {α : Type} {c : Bool} {a b : α} (h : (bif c then some a else none) = some b) : c = true ∧ a = b := by
  cases c with
  | true => exact ⟨rfl, Option.some.inj h⟩
  | false => cases h
theorem repL_eq {α : Type} (xs : List α) : ∀ n, repL xs n = (List.replicate n xs).flatten
  | 0 => rfl
  | n + 1 => by rw [List.replicate_succ, List.flatten_cons, ← repL_eq xs n]; rfl
theorem repL_len {α : Type} (xs : List α) : ∀ n, (repL xs n).length = xs.length * n
  | 0 => rfl
  | n + 1 => by rw [show repL xs (n + 1) = xs ++ repL xs n from rfl, List.length_append, repL_len xs n, Nat.mul_succ, Nat.add_comm]
theorem Reps.rep {dA : Addr} {ca : List Addr} {H : Hp} {l : List D} {xs : List V} (h : Reps dA ca H l xs) : ∀ n, Reps dA ca H (repL l n) ((List.replicate n xs).flatten)
  | 0 => rfl
  | n + 1 => by rw [List.replicate_succ, List.flatten_cons]; exact h.append (h.rep n)
theorem foldl_cps (s : List Nat) : ∀ (k : Nat) (acc : List Nat), (List.replicate k s.toArray).foldl (· ++ ·) acc.toArray = (acc ++ repL s k).toArray
  | 0, acc => by simp [repL]
  | k + 1, acc => by
    rw [List.replicate_succ, List.foldl_cons]
    have e : acc.toArray ++ s.toArray = (acc ++ s).toArray := by simp
    rw [e, foldl_cps s k (acc ++ s), List.append_assoc]
    rfl
section
variable {X : Cx} {g : Gd} {f : Fm} {ca A : List Addr} {H : Hp} {v : V}
theorem k_int {i : Int} {k : Bool} (h : RepK g f ca A H k (.int i) v) : v = .int i := by cases k <;> exact h
theorem k_bl {i : Bool} {k : Bool} (h : RepK g f ca A H k (.bl i) v) : v = .bl i := by cases k <;> exact h
theorem k_non {k : Bool} (h : RepK g f ca A H k .non v) : v = .non := by cases k <;> exact h
theorem k_str {s : List Nat} {k : Bool} (h : RepK g f ca A H k (.str s) v) : v = .str ⟨s.toArray⟩ ∧ s.length ≤ sizeLine := by cases k <;> exact h
theorem k_tup {l : List D} {k : Bool} (h : RepK g f ca A H k (.tup l) v) : ∃ a xs, v = .ref a ∧ H a = some (.tup xs) ∧ a ∉ bad g f ca A ∧ Reps g.dA ca (msk (bad g f ca A) H) l xs := by
  have h' : Rep g.dA ca (msk (bad g f ca A) H) (.tup l) v := by cases k <;> exact h
  obtain ⟨a, xs, e, h1, h2⟩ := h'
  exact ⟨a, xs, e, (msk_some h1).2, (msk_some h1).1, h2⟩
theorem k_lst {l : List D} {k : Bool} (h : RepK g f ca A H k (.lst l) v) : ∃ a xs, v = .ref a ∧ H a = some (.lst xs) ∧ Reps g.dA ca (msk (bad g f ca A) H) l xs := by
  have h' : RepK g f ca A H false (.lst l) v := by
    cases k with
    | true => exact h.weak
    | false => exact h
  exact h'
theorem k_dct {ks vs : List D} {k : Bool} (h : RepK g f ca A H k (.dct ks vs) v) : ∃ a, v = .ref a ∧ DctR g.dA ca (msk (bad g f ca A) H) H a ks vs := by
  have h' : RepK g f ca A H false (.dct ks vs) v := by
    cases k with
    | true => exact h.weak
    | false => exact h
  exact h'
theorem nk_tup {l : List D} {a : Addr} {xs : List V} (h1 : H a = some (.tup xs)) (h2 : a ∉ bad g f ca A) (h3 : Reps g.dA ca (msk (bad g f ca A) H) l xs) : RepK g f ca A H true (.tup l) (.ref a) :=
  ⟨a, xs, rfl, msk_of h2 h1, h3⟩
theorem reps_nil {dA : Addr} {l : List D} {xs : List V} (h : Reps dA ca H l xs) (e : xs = []) : l = [] := by
  have := h.length
  rw [e] at this
  exact List.eq_nil_of_length_eq_zero this.symm
/-- a list's length is within the line -/
theorem Inv.lstLen {pins : List (Addr × Obj)} {σ : St} {s : Shared} {a : Addr} {xs : List V} (I : Inv X pins σ H s) (h : H a = some (.lst xs)) : xs.length ≤ sizeLine := (I.hok a _ h).1
theorem Inv.tupLen {pins : List (Addr × Obj)} {σ : St} {s : Shared} {a : Addr} {xs : List V} (I : Inv X pins σ H s) (h : H a = some (.tup xs)) : xs.length ≤ sizeLine := (I.hok a _ h).1
theorem sizeLine_63 {i : Int} (h : i.natAbs ≤ 1000000) : -(2 ^ 63) ≤ i ∧ i < 2 ^ 63 := by omega
end
theorem tuple_mul1 (l : Addr) (items : Array Value) (n : Nat) (dd : Option Addr) (sl : Array (Option Value)) (u : Tok) :
    Meets (Builtin.«tuple.__mul__» ⟨[.ref l, .int 1 u], []⟩) (fun _ R s => s.heap.get? l = some { cls := .type "tuple", dict := dd, data := .seq items n, slots := sl } ∧ R (.ok (.ret (Value.ref l))) s) :=
  .of_wp fun prog w A R s h => by
    obtain ⟨hp, g, d, tk, os⟩ := s
    obtain ⟨hl, h⟩ := h
    have f1 := AutoSeq1.idx_int
    have c0 : (decide ((1 : Int) < -(2 ^ 63)) || decide ((1 : Int) ≥ 2 ^ 63)) = false := by decide
    have c1 : (items.isEmpty || (1 : Int) == 1) = true := by rw [show ((1 : Int) == 1) = true from rfl, Bool.or_true]
    wp_walk using wpAny_loadPart' hl
    repeat (first
      | (refine wpAny_ite_false (decide_eq_false (by rw [c0]; exact Bool.false_ne_true)) ?_; wp_walk using wpAny_loadPart' hl)
      | (refine wpAny_ite_true (decide_eq_true c1) ?_; wp_walk using wpAny_loadPart' hl))
    exact ⟨_, rfl, h⟩
section
variable {X : Cx} {g : Gd} {f : Fm} {ca A : List Addr} {H : Hp} {v : V}
theorem op_bin (hu : X.A.units < cLine) (b : Bop) : OpR X (binaryOp (opOf b)) (rDop g b.run) := by
  intro pins s σ H x y v u Q I rx ry h
  obtain ⟨f, ca, A, d, e, z, he, h1, h2, h3, q⟩ := h
  cases b with
  | add =>
    cases d <;> first | exact nomatch (show (none : Option D) = some z from h3) | skip
    all_goals (cases e <;> first | exact nomatch (show (none : Option D) = some z from h3) | skip)
    case int.int i j =>
      obtain rfl := k_int h1; obtain rfl := k_int h2
      cases h3
      exact op_add pins s σ H _ _ v u Q I rx ry ⟨i, j, rfl, rfl, q _ _ (Nw.refl _) rfl⟩
    case str.str s' t' =>
      obtain ⟨rfl, _⟩ := k_str h1; obtain ⟨rfl, _⟩ := k_str h2
      obtain ⟨c, rfl⟩ := bif_some h3
      have c' : s'.length + t'.length ≤ sizeLine := by rw [← line_eq]; exact Nat.le_of_ble_eq_true c
      refine op_add_str pins s σ H _ _ v u Q I rx ry ⟨_, _, rfl, rfl, ?_, q _ _ (Nw.refl _) ⟨?_, ?_⟩⟩
      · simpa [Str.length] using c'
      · show V.str (Str.append _ _) = _
        simp [Str.append]
      · simpa using c'
    case tup.tup l m =>
      obtain ⟨a, xs, rfl, ha, na, ra⟩ := k_tup h1; obtain ⟨b, ys, rfl, hb, nb, rb⟩ := k_tup h2
      obtain ⟨c, rfl⟩ := bif_some h3
      have c' : xs.length + ys.length ≤ sizeLine := by rw [← line_eq, ra.length, rb.length]; exact Nat.le_of_ble_eq_true c
      refine op_catA (X := X) pins s σ H _ _ v u Q I rx ry ⟨a, b, xs, ys, rfl, rfl, .of ha, .of hb, c', fun e => ?_, fun _ e => ?_, fun _ _ p hp => ?_⟩
      · have := reps_nil ra e
        subst this
        exact q _ _ (Nw.refl _) (nk_tup hb nb rb)
      · have := reps_nil rb e
        subst this
        rw [List.append_nil] at q
        exact q _ _ (Nw.refl _) (nk_tup ha na ra)
      · exact q _ _ (Nw.upd hp) (rep_newT he hp (ra.append rb))
    case lst.lst l m =>
      obtain ⟨a, xs, rfl, ha, ra⟩ := k_lst h1; obtain ⟨b, ys, rfl, hb, rb⟩ := k_lst h2
      obtain ⟨c, rfl⟩ := bif_some h3
      have c' : xs.length + ys.length ≤ sizeLine := by rw [← line_eq, ra.length, rb.length]; exact Nat.le_of_ble_eq_true c
      exact op_cat pins s σ H _ _ v u Q I rx ry ⟨a, b, xs, ys, rfl, rfl, ha, hb, c', fun p hp => q _ _ (Nw.upd hp) (rep_newL he hp (ra.append rb))⟩
  | sub =>
    cases d <;> first | exact nomatch (show (none : Option D) = some z from h3) | skip
    all_goals (cases e <;> first | exact nomatch (show (none : Option D) = some z from h3) | skip)
    case int.int i j =>
      obtain rfl := k_int h1; obtain rfl := k_int h2
      cases h3
      exact op_sub pins s σ H _ _ v u Q I rx ry ⟨i, j, rfl, rfl, q _ _ (Nw.refl _) rfl⟩
  | mul =>
    cases d <;> first | exact nomatch (show (none : Option D) = some z from h3) | skip
    all_goals (cases e <;> first | exact nomatch (show (none : Option D) = some z from h3) | skip)
    case int.int i j =>
      obtain rfl := k_int h1; obtain rfl := k_int h2
      obtain ⟨c, rfl⟩ := bif_some h3
      refine op_mul pins s σ H _ _ v u Q I rx ry ⟨i, j, rfl, rfl, ?_, q _ _ (Nw.refl _) rfl⟩
      rw [Bool.or_eq_true] at c
      rcases c with c | c
      · have := Nat.le_of_ble_eq_true c
        exact .inl (by omega)
      · have := Nat.le_of_ble_eq_true c
        exact .inr (by omega)
    case str.int s' j =>
      obtain ⟨rfl, _⟩ := k_str h1; obtain rfl := k_int h2
      obtain ⟨c, rfl⟩ := bif_some h3
      rw [Bool.and_eq_true] at c
      have c1 := Nat.le_of_ble_eq_true c.1
      have c2 : s'.length * j.toNat ≤ sizeLine := by rw [← line_eq]; exact Nat.le_of_ble_eq_true c.2
      obtain ⟨t, rfl⟩ := rx
      obtain ⟨t', rfl⟩ := ry
      have fin : ∀ (z : Str) (tk : Tok) (n : Nat), z = ⟨(repL s' j.toNat).toArray⟩ → EP X pins σ Q (.str z tk) { s with toks := n } := fun z tk n ez =>
        ⟨.str z, H, I.tok _, ⟨_, rfl⟩, q _ _ (Nw.refl _) ⟨by rw [ez], by rw [repL_len]; exact c2⟩⟩
      have b63 := sizeLine_63 c1
      refine P.mul_str ?_ (fun h1 h2 => ?_) (fun h1 h2 => ?_) ?_
      · rw [decide_eq_false (by omega), decide_eq_false (by omega)] <;> rfl
      · show ¬ ((s'.toArray.size : Int) > _)
        rw [Bool.or_eq_false_iff] at h2
        have hs : s'.toArray.size = s'.length := by simp
        rw [hs]
        have hl := c2
        rw [sizeLine_eq] at hl
        have e : (j.toNat : Int) = j := by omega
        have h8 : ((s'.length * j.toNat : Nat) : Int) ≤ ((16777216 : Nat) : Int) := Int.ofNat_le.mpr hl
        rw [Int.natCast_mul, e] at h8
        have h9 : (s'.length : Int) ≤ (2 ^ 63 - 1) / j := Int.le_ediv_of_mul_le (by omega) (by omega)
        exact Int.not_lt.mpr h9
      · unfold Builtin.Str.tooLong
        have : ¬ (Str.length ⟨s'.toArray⟩ * j.toNat > sizeLine) := by simpa [Str.length] using c2
        simpa using this
      · split
        · rename_i hlt
          refine ⟨by decide, fin _ _ _ ?_⟩
          have : j.toNat = 0 := by omega
          rw [this]
          rfl
        · split
          · rename_i h1 h2
            refine ⟨.str ⟨s'.toArray⟩, H, I, ⟨_, rfl⟩, q _ _ (Nw.refl _) ⟨?_, by rw [repL_len]; exact c2⟩⟩
            rw [Bool.or_eq_true] at h2
            rcases h2 with h2 | h2
            · have : j.toNat = 1 := by
                have : j = 1 := by simpa using h2
                omega
              rw [this]
              show _ = V.str ⟨(s' ++ []).toArray⟩
              rw [List.append_nil]
            · have : s' = [] := by simpa [Str.length] using h2
              subst this
              rw [repL_eq]
              simp
          · refine ⟨?_, fin _ _ _ ?_⟩
            · have e := foldl_cps s' j.toNat []
              have : (List.replicate j.toNat (⟨s'.toArray⟩ : Str).cps).foldl (· ++ ·) #[] = (repL s' j.toNat).toArray := by simpa using e
              rw [this]
              simpa [Str.length, repL_len] using c2
            · have e := foldl_cps s' j.toNat []
              have : (List.replicate j.toNat (⟨s'.toArray⟩ : Str).cps).foldl (· ++ ·) #[] = (repL s' j.toNat).toArray := by simpa using e
              rw [this]
    case tup.int l j =>
      obtain ⟨a, xs, rfl, ha, na, ra⟩ := k_tup h1; obtain rfl := k_int h2
      obtain ⟨c, rfl⟩ := bif_some h3
      simp only [Bool.and_eq_true] at c
      obtain ⟨⟨⟨c1, c2⟩, c3⟩, c4⟩ := c
      have c1 : 1 ≤ j := of_decide_eq_true c1
      have c2 : j ≤ 1000 := of_decide_eq_true c2
      have c3 := Nat.le_of_ble_eq_true c3
      have c4 := Nat.le_of_ble_eq_true c4
      rw [← ra.length] at c3 c4
      by_cases j1 : j = 1
      · subst j1
        cases rx
        obtain ⟨t, rfl⟩ := ry
        obtain ⟨its, r, ⟨⟨cls, dd, data, sl⟩, ho, hc, n, hd⟩, _⟩ := I.tuple (SqT.of ha)
        simp only at hc hd
        subst hc hd
        have e1 : (D.tup (repL l (Int.toNat 1))) = .tup l := by show D.tup (l ++ []) = _; rw [List.append_nil]
        rw [e1] at q
        refine wpAny_binaryOp_repeat_ref (T := "tuple") (U := "int") (by decide) ⟨_, ho, rfl⟩ (fun s' => typeIs_int s' 1 t) noFill_tuple_mul F.fills_int_mul F.slot_int_rmul repeat_tuple F.slot_int_index.lookup
          (call_meets F.slot_int_rmul (typeIs_int s 1 t) F.entry_int_rmul (F.args_int_rmul_2 _ _) (int_rmul_tuple 1 t a its.toArray n dd sl)
            ⟨ho, rfl, ⟨_, ho, rfl⟩, call_meets F.slot_tuple_mul ⟨_, ho, rfl⟩ F.entry_tuple_mul (F.args_tuple_mul_2 _ _) (tuple_mul1 a its.toArray n dd sl t) ⟨ho, ?_⟩⟩)
        exact ⟨.ref a, H, I, rfl, q _ _ (Nw.refl _) (nk_tup ha na ra)⟩
      · exact op_repT (X := X) pins s σ H _ _ v u Q I rx ry ⟨a, j, xs, rfl, rfl, .of ha, (fun (e : xs = []) => by rw [e] at c3; cases c3), by omega, c2, c4, fun p hp => q _ _ (Nw.upd hp) (rep_newT he hp (ra.rep _))⟩
    case lst.int l j =>
      obtain ⟨a, xs, rfl, ha, ra⟩ := k_lst h1; obtain rfl := k_int h2
      obtain ⟨c, rfl⟩ := bif_some h3
      rw [Bool.and_eq_true] at c
      have c1 := Nat.le_of_ble_eq_true c.1
      have c2 : xs.length * j.toNat ≤ sizeLine := by rw [← line_eq, ra.length]; exact Nat.le_of_ble_eq_true c.2
      have b63 := sizeLine_63 c1
      exact op_rep pins s σ H _ _ v u Q I rx ry ⟨a, j, xs, rfl, rfl, ha, b63.1, b63.2, c2, fun p hp => q _ _ (Nw.upd hp) (rep_newL he hp (ra.rep _))⟩
  | fdiv =>
    cases d <;> first | exact nomatch (show (none : Option D) = some z from h3) | skip
    all_goals (cases e <;> first | exact nomatch (show (none : Option D) = some z from h3) | skip)
    case int.int i j =>
      obtain rfl := k_int h1; obtain rfl := k_int h2
      obtain ⟨c, rfl⟩ := bif_some h3
      rw [Bool.and_eq_true] at c
      exact op_fdiv pins s σ H _ _ v u Q I rx ry ⟨i, j, rfl, rfl, ⟨of_decide_eq_true c.1, of_decide_eq_true c.2⟩, q _ _ (Nw.refl _) rfl⟩
  | mod =>
    cases d <;> first | exact nomatch (show (none : Option D) = some z from h3) | skip
    all_goals (cases e <;> first | exact nomatch (show (none : Option D) = some z from h3) | skip)
    case int.int i j =>
      obtain rfl := k_int h1; obtain rfl := k_int h2
      obtain ⟨c, rfl⟩ := bif_some h3
      exact op_mod pins s σ H _ _ v u Q I rx ry ⟨i, j, rfl, rfl, of_decide_eq_true c, q _ _ (Nw.refl _) rfl⟩
end
end W
/-! W5: == of data. -/
namespace W
open PySem L2
section
variable {g : Gd} {f : Fm} {ca A : List Addr} {H : Hp} {v : V} {k : Bool} {d : D}
theorem le_msk {L : List Addr} {H : Hp} : Le (msk L H) H := Le.of fun _ _ h => (msk_some h).2
/-- seen without the mask -/
theorem RepK.full (r : RepK g f ca A H k d v) : Rep g.dA ca H d v := by
  cases k with
  | true => exact Rep.le (Pre.refl _) le_msk _ _ r
  | false =>
    unfold RepK at r
    cases d with
    | lst l =>
      obtain ⟨a, xs, e, h1, h2⟩ := r
      exact ⟨a, xs, e, h1, Reps.le (Pre.refl _) le_msk _ _ h2⟩
    | dct ks vs =>
      obtain ⟨a, e, h⟩ := r
      rcases h with ⟨kvs, h1, h2, h3⟩ | ⟨kvs, h1, h2, h3⟩
      · exact ⟨a, e, .inl ⟨kvs, h1, h2, Reps.le (Pre.refl _) le_msk _ _ h3⟩⟩
      · exact ⟨a, e, .inr ⟨kvs, h1, h2, Reps.le (Pre.refl _) le_msk _ _ h3⟩⟩
    | _ => exact Rep.le (H := msk (bad g f ca A) H) (Pre.refl _) le_msk _ _ r
end
/-! ### keys -/
theorem eqL_iff : ∀ {s t : List Nat}, eqL s t = true ↔ s = t
  | [], [] => by simp [eqL]
  | [], _ :: _ => by simp [eqL]
  | _ :: _, [] => by simp [eqL]
  | a :: s, b :: t => by
    rw [show eqL (a :: s) (b :: t) = (Nat.beq a b && eqL s t) from rfl, Bool.and_eq_true, eqL_iff, List.cons.injEq]
    exact ⟨fun ⟨h, e⟩ => ⟨Nat.eq_of_beq_eq_true h, e⟩, fun ⟨h, e⟩ => ⟨by rw [h]; exact Nat.beq_refl b, e⟩⟩
theorem eqL_self (s : List Nat) : eqL s s = true := eqL_iff.mpr rfl
theorem eqI_iff {i j : Int} : eqI i j = true ↔ i = j := by unfold eqI; exact decide_eq_true_iff
theorem keq1_kO {d e : D} {k j : Key} (h : kO d = some k) (h' : kO e = some j) : keq1 d e = decide (k = j) := by
  rcases kO_inv h with ⟨i, rfl, rfl⟩ | ⟨s, rfl, rfl, _⟩ <;> rcases kO_inv h' with ⟨j, rfl, rfl⟩ | ⟨t, rfl, rfl, _⟩
  · show eqI i j = _
    unfold eqI
    by_cases e : i = j
    · exact (decide_eq_true e).trans (decide_eq_true (congrArg Sum.inl e)).symm
    · exact (decide_eq_false e).trans (decide_eq_false fun z => e (Sum.inl.inj z)).symm
  · exact (decide_eq_false (fun z => nomatch z)).symm
  · exact (decide_eq_false (fun z => nomatch z)).symm
  · show eqL _ _ = _
    by_cases e : s = t
    · rw [eqL_iff.mpr e]
      exact (decide_eq_true (by rw [e])).symm
    · have n : eqL s t = false := by
        cases q : eqL s t with
        | true => exact absurd (eqL_iff.mp q) e
        | false => rfl
      rw [n]
      refine (decide_eq_false fun z => e ?_).symm
      have z' := Sum.inr.inj z
      have z2 : s.toArray = t.toArray := congrArg Str.cps z'
      simpa using z2
theorem ksO_cons {d : D} {l : List D} {k : List Key} (h : ksO (d :: l) = some k) : ∃ k0 ks, kO d = some k0 ∧ ksO l = some ks ∧ k = k0 :: ks := by
  unfold ksO at h
  split at h
  · rename_i k0 ks e1 e2
    exact ⟨k0, ks, e1, e2, (Option.some.inj h).symm⟩
  · cases h
theorem keqs_ksO : ∀ {l m : List D} {k j : List Key}, ksO l = some k → ksO m = some j → keqs l m = decide (k = j)
  | [], [], _, _, h, h' => by cases h; cases h'; rfl
  | [], e :: m, _, j, h, h' => by
    cases h
    obtain ⟨_, _, _, _, rfl⟩ := ksO_cons h'
    rfl
  | d :: l, [], k, _, h, h' => by
    cases h'
    obtain ⟨_, _, _, _, rfl⟩ := ksO_cons h
    rfl
  | d :: l, e :: m, k, j, h, h' => by
    obtain ⟨k0, ks, e1, e2, rfl⟩ := ksO_cons h
    obtain ⟨j0, js, e3, e4, rfl⟩ := ksO_cons h'
    show (keq1 d e && keqs l m) = _
    rw [keq1_kO e1 e3, keqs_ksO e2 e4]
    by_cases q : k0 = j0
    · by_cases q2 : ks = js
      · simp [q, q2]
      · simp [q, q2]
    · simp [q]
theorem keq_kO {d e : D} {k j : Key} (h : kO d = some k) (h' : kO e = some j) : keq d e = decide (k = j) := by
  rw [← keq1_kO h h']
  cases d <;> first | (cases h; done) | skip
  all_goals (cases e <;> first | rfl | (cases h'; done))
theorem keq_kTO {d e : D} {k j : List Key} (h : kTO d = some k) (h' : kTO e = some j) : keq d e = decide (k = j) := by
  cases d <;> first | (cases h; done) | skip
  all_goals (cases e <;> first | (cases h'; done) | exact keqs_ksO h h')
section
variable {κ : Type} [DecidableEq κ] {fk : D → Option κ}
/-- what look says, by the table -/
theorem look_val {dA : Addr} {ca : List Addr} {Hm : Hp} (hf : ∀ {d e : D} {k j : κ}, fk d = some k → fk e = some j → keq d e = decide (k = j)) {kd : D} {k : κ} (hk : fk kd = some k) :
    ∀ {ks vs : List D} {kvs : List (κ × V)}, KsR fk ks (kvs.map (·.1)) → Reps dA ca Hm vs (kvs.map (·.2)) →
      (look kd ks vs = none ∧ valV kvs k = none) ∨ ∃ d v, look kd ks vs = some d ∧ valV kvs k = some v ∧ Rep dA ca Hm d v
  | [], vs, kvs, h, h' => by
    have e : kvs = [] := by
      have : kvs.map (·.1) = [] := h
      simpa using this
    subst e
    exact .inl ⟨by cases vs <;> rfl, rfl⟩
  | k' :: ks, vs, [], h, h' => by
    obtain ⟨_, _, e, _⟩ := h
    simp at e
  | k' :: ks, vs, p :: kvs, h, h' => by
    obtain ⟨q, r, e, h1, h2⟩ := h
    rw [List.map_cons] at e
    cases e
    cases vs with
    | nil =>
      have z : List.map (·.2) (p :: kvs) = [] := h'
      cases z
    | cons v0 vs =>
      obtain ⟨x, ys, e, r1, r2⟩ := h'
      rw [List.map_cons] at e
      cases e
      have hq : keq kd k' = decide (k = p.1) := hf hk h1
      by_cases c : p.1 = k
      · refine .inr ⟨v0, p.2, ?_, valV_pos c, r1⟩
        show (bif keq kd k' then some v0 else _) = _
        rw [hq, decide_eq_true c.symm]
        rfl
      · rw [valV_neg c]
        have : look kd (k' :: ks) (v0 :: vs) = look kd ks vs := by
          show (bif keq kd k' then some v0 else _) = _
          rw [hq, decide_eq_false (fun z => c z.symm)]
          rfl
        rw [this]
        exact look_val hf hk h2 r2
end
theorem KsR.length {κ : Type} {fk : D → Option κ} : ∀ {ks : List D} {l : List κ}, KsR fk ks l → ks.length = l.length
  | [], _, h => by cases h; rfl
  | _ :: _, _, h => by
    obtain ⟨k, r, rfl, _, h⟩ := h
    simp [h.length]
theorem KsR.get {κ : Type} {fk : D → Option κ} : ∀ {ks : List D} {l : List κ} {i : Nat} {d : D}, KsR fk ks l → ks[i]? = some d → ∃ k, l[i]? = some k ∧ fk d = some k
  | _ :: _, _, 0, _, h, e => by
    obtain ⟨k, r, rfl, h1, _⟩ := h
    simp at e
    subst e
    exact ⟨k, rfl, h1⟩
  | _ :: _, _, i + 1, _, h, e => by
    obtain ⟨k, r, rfl, _, h2⟩ := h
    obtain ⟨j, h3, h4⟩ := KsR.get (i := i) h2 (by simpa using e)
    exact ⟨j, by simpa using h3, h4⟩
/-! ### one value, two data -/
theorem all_congr_mem {α : Type} {f g : α → Bool} : ∀ {l : List α}, (∀ a ∈ l, f a = g a) → l.all f = l.all g
  | [], _ => rfl
  | a :: l, h => by rw [List.all_cons, List.all_cons, h a List.mem_cons_self, all_congr_mem fun b hb => h b (List.mem_cons_of_mem _ hb)]
theorem valV_mem {κ : Type} [DecidableEq κ] {kvs : List (κ × V)} (nd : (kvs.map (·.1)).Nodup) {k : κ} {v : V} (h : (k, v) ∈ kvs) : valV kvs k = some v := by
  induction kvs with
  | nil => cases h
  | cons p r ih =>
    rw [List.map_cons, List.nodup_cons] at nd
    rcases List.mem_cons.mp h with e | h
    · subst e
      exact valV_pos rfl
    · have n : ¬ p.1 = k := fun z => nd.1 (by rw [z]; exact List.mem_map.mpr ⟨(k, v), h, rfl⟩)
      rw [valV_neg n]
      exact ih nd.2 h
section
variable {dA : Addr} {ca : List Addr} {H : Hp} {fq : D → D → Option Bool}
theorem eqZ_some : ∀ {l m : List D} {c : Bool}, eqZ fq l m = some c → (∀ (j : Nat) (d e : D), l[j]? = some d → m[j]? = some e → ∃ b, fq d e = some b) ∧
    c = (List.range (min l.length m.length)).all fun j => fq (l.getD j .non) (m.getD j .non) == some true
  | [], m, c, h => by
    cases h
    exact ⟨fun j d e h1 _ => by simp at h1, by simp⟩
  | _ :: _, [], c, h => by
    cases h
    exact ⟨fun j d e _ h1 => by simp at h1, by simp⟩
  | a :: l, b :: m, c, h => by
    unfold eqZ at h
    split at h
    rotate_left
    · cases h
    rename_i c1 e1
    split at h
    rotate_left
    · cases h
    rename_i c2 e2
    cases h
    obtain ⟨i1, i2⟩ := eqZ_some e2
    refine ⟨fun j d e h1 h2 => ?_, ?_⟩
    · cases j with
      | zero =>
        simp at h1 h2
        subst h1; subst h2
        exact ⟨_, e1⟩
      | succ j => exact i1 j d e (by simpa using h1) (by simpa using h2)
    · rw [i2, List.length_cons, List.length_cons, Nat.succ_min_succ, List.range_succ_eq_map, List.all_cons, List.all_map]
      congr 1
      show c1 = (fq a b == some true)
      rw [e1]
      cases c1 <;> rfl
theorem eqZ_same (hf : ∀ d e x b, Rep dA ca H d x → Rep dA ca H e x → fq d e = some b → b = true) : ∀ {l m : List D} {xs : List V} {b : Bool}, Reps dA ca H l xs → Reps dA ca H m xs → eqZ fq l m = some b → b = true
  | [], m, _, b, _, _, h => by cases h; rfl
  | _ :: _, [], _, _, _, _, h => by cases h; rfl
  | d :: l, e :: m, xs, b, h1, h2, q => by
    obtain ⟨x, ys, rfl, r1, t1⟩ := h1
    obtain ⟨x', ys', e', r2, t2⟩ := h2
    cases e'
    unfold eqZ at q
    split at q
    rotate_left
    · cases q
    rename_i c1 e1
    split at q
    rotate_left
    · cases q
    rename_i c2 e2
    cases q
    rw [hf d e x c1 r1 r2 e1, eqZ_same hf t1 t2 e2]
    rfl
section
variable {κ : Type} [DecidableEq κ] {fk : D → Option κ}
theorem eqDs_same (hk : ∀ {d e : D} {k j : κ}, fk d = some k → fk e = some j → keq d e = decide (k = j)) (hf : ∀ d e x b, Rep dA ca H d x → Rep dA ca H e x → fq d e = some b → b = true)
    {ks' vs' : List D} {kvs : List (κ × V)} (nd : (kvs.map (·.1)).Nodup) (a1 : KsR fk ks' (kvs.map (·.1))) (a2 : Reps dA ca H vs' (kvs.map (·.2))) :
    ∀ {ks vs : List D} {r : List (κ × V)} {b : Bool}, (∀ p ∈ r, p ∈ kvs) → KsR fk ks (r.map (·.1)) → Reps dA ca H vs (r.map (·.2)) → eqDs fq ks' vs' ks vs = some b → b = true
  | [], _, _, _, _, _, _, h => by cases h; rfl
  | _ :: _, [], _, _, _, _, _, h => by cases h; rfl
  | k :: ks, v :: vs, [], b, _, h1, _, _ => by
    obtain ⟨_, _, e, _⟩ := h1
    simp at e
  | k :: ks, v :: vs, p :: r, b, hin, h1, h2, q => by
    obtain ⟨k0, r0, e, hk0, h1⟩ := h1
    rw [List.map_cons] at e
    cases e
    obtain ⟨x, ys, e, r1, h2⟩ := h2
    rw [List.map_cons] at e
    cases e
    unfold eqDs at q
    split at q
    rotate_left
    · cases q
    rename_i c1 e1
    have i1 := eqDs_same hk hf nd a1 a2 (fun p hp => hin p (List.mem_cons_of_mem _ hp)) h1 h2 e1
    have vp := valV_mem nd (hin p List.mem_cons_self)
    rcases look_val hk hk0 a1 a2 with ⟨_, z⟩ | ⟨d, v', z1, z2, z3⟩
    · rw [vp] at z; cases z
    · rw [vp] at z2; cases z2
      rw [z1] at q
      dsimp only at q
      split at q
      rotate_left
      · cases q
      rename_i c2 e2
      cases q
      rw [i1, hf _ _ _ _ r1 z3 e2]
      rfl
/-- each entry of the one: what is asked, what comes -/
theorem eqDs_some (hk : ∀ {d e : D} {k j : κ}, fk d = some k → fk e = some j → keq d e = decide (k = j)) {ks' vs' : List D} {ls : List (κ × V)} (a1 : KsR fk ks' (ls.map (·.1))) (a2 : Reps dA ca H vs' (ls.map (·.2))) :
    ∀ {ks vs : List D} {r : List (κ × V)} {b : Bool}, (r.map (·.1)).Nodup → KsR fk ks (r.map (·.1)) → Reps dA ca H vs (r.map (·.2)) → eqDs fq ks' vs' ks vs = some b →
      ∃ ef : κ → Bool, (∀ k v v', (k, v) ∈ r → valV ls k = some v' → ∃ d d', Rep dA ca H d v ∧ Rep dA ca H d' v' ∧ fq d d' = some (ef k)) ∧ b = r.all fun p => (valV ls p.1).isSome && ef p.1
  | ks, vs, [], b, _, h1, _, h => by
    have e : ks = [] := List.eq_nil_of_length_eq_zero (by rw [h1.length]; rfl)
    subst e
    cases h
    exact ⟨fun _ => true, fun k v v' hm => by simp at hm, rfl⟩
  | [], _, p :: r, _, _, h1, _, _ => by
    have z : List.map (·.1) (p :: r) = [] := h1
    cases z
  | _ :: _, [], p :: r, _, _, _, h2, _ => by
    have z : List.map (·.2) (p :: r) = [] := h2
    cases z
  | k :: ks, v :: vs, p :: r, b, nd, h1, h2, q => by
    obtain ⟨k0, r0, e, hk0, h1⟩ := h1
    rw [List.map_cons] at e
    cases e
    obtain ⟨x, ys, e, r1, h2⟩ := h2
    rw [List.map_cons] at e
    cases e
    rw [List.map_cons, List.nodup_cons] at nd
    unfold eqDs at q
    split at q
    rotate_left
    · cases q
    rename_i c1 e1
    obtain ⟨ef, i1, i2⟩ := eqDs_some hk a1 a2 nd.2 h1 h2 e1
    have ne : ∀ j v, (j, v) ∈ r → j ≠ p.1 := fun j v hm z => nd.1 (by rw [← z]; exact List.mem_map.mpr ⟨_, hm, rfl⟩)
    rcases look_val hk hk0 a1 a2 with ⟨z1, z2⟩ | ⟨d, v', z1, z2, z3⟩
    · rw [z1] at q
      cases q
      refine ⟨ef, fun j v v' hm hv => ?_, ?_⟩
      · rcases List.mem_cons.mp hm with e | hm
        · subst e
          rw [z2] at hv; cases hv
        · exact i1 j v v' hm hv
      · rw [List.all_cons, z2]
        rfl
    · rw [z1] at q
      dsimp only at q
      split at q
      rotate_left
      · cases q
      rename_i c2 e2
      cases q
      refine ⟨fun j => if j = p.1 then c2 else ef j, fun j w w' hm hv => ?_, ?_⟩
      · rcases List.mem_cons.mp hm with e | hm
        · subst e
          rw [z2] at hv; cases hv
          exact ⟨_, d, r1, z3, by dsimp only; rw [if_pos rfl]; exact e2⟩
        · obtain ⟨d1, d2, q1, q2, q3⟩ := i1 j w w' hm hv
          exact ⟨d1, d2, q1, q2, by dsimp only; rw [if_neg (ne j w hm)]; exact q3⟩
      · rw [List.all_cons, z2]
        dsimp only
        rw [if_pos rfl, i2]
        show _ = (true && c2 && _)
        rw [Bool.true_and]
        congr 1
        refine all_congr_mem fun q hq => ?_
        rw [if_neg (ne q.1 q.2 hq)]
end
end
theorem rd_inj {H : Hp} {a : Addr} {o u : HO} (ho : ∀ p q, o ≠ .frz p q) (hu : ∀ p q, u ≠ .frz p q) (h1 : Rd H a o) (h2 : Rd H a u) : o = u := by
  rcases h1 with h1 | ⟨p, h1⟩ <;> rcases h2 with h2 | ⟨q, h2⟩ <;> rw [h1] at h2 <;> cases h2
  · rfl
  · exact absurd rfl (ho _ _)
  · exact absurd rfl (hu _ _)
  · rfl
section
variable {P : Program} {w : World} {dA : Addr} {ca : List Addr} {H : Hp} {h : Heap}
theorem nodup_k (ok : HOk P w H h) {a : Addr} {kvs : List (Key × V)} (e : Rd H a (.dK kvs)) : (kvs.map (·.1)).Nodup := by
  obtain ⟨_, _, vs, r, _, _, _, _, _, _, _, _, nd⟩ := dk_rd ok e
  rw [r.keys]
  exact nd
theorem KT.keys {H : Hp} : ∀ {kvs : List (List Key × V)} {xs : List (List Key × Addr × Value)}, KT H kvs xs → kvs.map (·.1) = xs.map (·.1)
  | _, _, .nil => rfl
  | _, _, .cons r t => by rw [List.map_cons, List.map_cons, r.1, KT.keys t]
theorem nodup_t (ok : HOk P w H h) {a : Addr} {kvs : List (List Key × V)} (e : Rd H a (.dT kvs)) : (kvs.map (·.1)).Nodup := by
  obtain ⟨_, _, vs, r, _, _, _, _, _, _, _, _, nd⟩ := dt_rd ok e
  rw [KT.keys r]
  exact nd
theorem eqN_same (ok : HOk P w H h) : ∀ (n : Nat) (d e : D) (x : V) (b : Bool), Rep dA ca H d x → Rep dA ca H e x → eqN n d e = some b → b = true := by
  intro n
  induction n with
  | zero => intro d e x b _ _ q; exact nomatch q
  | succ n ih =>
    intro d e x b h1 h2 q
    cases d with
    | tup l =>
      obtain ⟨a, xs, rfl, ha, ra⟩ := h1
      cases e with
      | tup m =>
        obtain ⟨a', ys, e', hb, rb⟩ := h2
        cases e'
        rw [ha] at hb; cases hb
        unfold eqN eqLs at q
        split at q
        rotate_left
        · cases q
        rename_i c e1
        cases q
        rw [eqZ_same ih ra rb e1, ← ra.length, ← rb.length, Nat.beq_refl]
        rfl
      | lst m =>
        obtain ⟨a', ys, e', hb, rb⟩ := h2
        cases e'
        rw [ha] at hb; cases hb
      | non => cases h2
      | bl b => cases h2
      | int b => cases h2
      | str b => cases h2.1
      | dct _ _ => cases q
      | set _ => cases q
      | drw => cases q
      | cel _ => cases q
    | lst l =>
      obtain ⟨a, xs, rfl, ha, ra⟩ := h1
      cases e with
      | lst m =>
        obtain ⟨a', ys, e', hb, rb⟩ := h2
        cases e'
        rw [ha] at hb; cases hb
        unfold eqN at q
        have hl : Nat.beq l.length m.length = true := by rw [← ra.length, ← rb.length, Nat.beq_refl]
        rw [hl] at q
        change eqLs _ _ _ = _ at q
        unfold eqLs at q
        split at q
        rotate_left
        · cases q
        rename_i c e1
        cases q
        rw [eqZ_same ih ra rb e1, hl]
        rfl
      | tup m =>
        obtain ⟨a', ys, e', hb, rb⟩ := h2
        cases e'
        rw [ha] at hb; cases hb
      | non => cases h2
      | bl b => cases h2
      | int b => cases h2
      | str b => cases h2.1
      | dct _ _ => cases q
      | set _ => cases q
      | drw => cases q
      | cel _ => cases q
    | dct ks vs =>
      cases e with
      | dct ks' vs' =>
        obtain ⟨a, rfl, h1⟩ := h1
        obtain ⟨a', e', h2⟩ := h2
        cases e'
        unfold eqN at q
        rcases h1 with ⟨kvs, h1, p1, p2⟩ | ⟨kvs, h1, p1, p2⟩
        · rcases h2 with ⟨kvs', h2, p3, p4⟩ | ⟨kvs', h2, p3, p4⟩
          · cases rd_inj (fun _ _ z => by cases z) (fun _ _ z => by cases z) h1 h2
            have hl : Nat.beq ks.length ks'.length = true := by rw [p1.length, p3.length, Nat.beq_refl]
            cases hk : (kindK ks == kindK ks' || ks.isEmpty || ks'.isEmpty) with
            | false => rw [hk] at q; cases q
            | true =>
              rw [hk, hl] at q
              exact eqDs_same keq_kO ih (nodup_k ok h1) p3 p4 (fun _ hp => hp) p1 p2 q
          · cases rd_inj (fun _ _ z => by cases z) (fun _ _ z => by cases z) h1 h2
        · rcases h2 with ⟨kvs', h2, p3, p4⟩ | ⟨kvs', h2, p3, p4⟩
          · cases rd_inj (fun _ _ z => by cases z) (fun _ _ z => by cases z) h1 h2
          · cases rd_inj (fun _ _ z => by cases z) (fun _ _ z => by cases z) h1 h2
            have hl : Nat.beq ks.length ks'.length = true := by rw [p1.length, p3.length, Nat.beq_refl]
            cases hk : (kindK ks == kindK ks' || ks.isEmpty || ks'.isEmpty) with
            | false => rw [hk] at q; cases q
            | true =>
              rw [hk, hl] at q
              exact eqDs_same keq_kTO ih (nodup_t ok h1) p3 p4 (fun _ hp => hp) p1 p2 q
      | non => cases q
      | bl _ => cases q
      | int _ => cases q
      | str _ => cases q
      | tup _ => cases q
      | lst _ => cases q
      | set _ => cases q
      | drw => cases q
      | cel _ => cases q
    | non =>
      cases h1
      cases e with
      | non => cases q; rfl
      | bl b => cases h2
      | int b => cases h2
      | str b => cases h2.1
      | tup m => obtain ⟨_, _, z, _⟩ := h2; cases z
      | lst m => obtain ⟨_, _, z, _⟩ := h2; cases z
      | dct _ _ => cases q
      | set _ => cases q
      | drw => cases q
      | cel _ => cases q
    | bl b0 =>
      cases h1
      cases e with
      | bl b => cases h2; cases q; simp
      | non => cases h2
      | int b => cases h2
      | str b => cases h2.1
      | tup m => obtain ⟨_, _, z, _⟩ := h2; cases z
      | lst m => obtain ⟨_, _, z, _⟩ := h2; cases z
      | dct _ _ => cases q
      | set _ => cases q
      | drw => cases q
      | cel _ => cases q
    | int i =>
      cases h1
      cases e with
      | int b => cases h2; cases q; exact eqI_iff.mpr rfl
      | non => cases h2
      | bl b => cases h2
      | str b => cases h2.1
      | tup m => obtain ⟨_, _, z, _⟩ := h2; cases z
      | lst m => obtain ⟨_, _, z, _⟩ := h2; cases z
      | dct _ _ => cases q
      | set _ => cases q
      | drw => cases q
      | cel _ => cases q
    | str t =>
      obtain ⟨rfl, _⟩ := h1
      cases e with
      | str b =>
        have z := h2.1
        simp only [V.str.injEq, Str.mk.injEq] at z
        have z2 : t = b := by simpa using z
        cases q
        exact eqL_iff.mpr z2
      | non => cases h2
      | bl b => cases h2
      | int b => cases h2
      | tup m => obtain ⟨_, _, z, _⟩ := h2; cases z
      | lst m => obtain ⟨_, _, z, _⟩ := h2; cases z
      | dct _ _ => cases q
      | set _ => cases q
      | drw => cases q
      | cel _ => cases q
    | set _ => cases e <;> cases q
    | drw => cases e <;> cases q
    | cel _ => cases e <;> cases q
end
end W
/-! W6: == of data, on the machine. -/
namespace W
open PySem L2
open PySem.SeqAt (EqIn EqAt rcIn_lists rcIn_tuples)
/-! ### dicts whose keys are tuples -/
section
variable {prog : Program} {w : World} {K : Type} [DecidableEq K] {knd : HeapKind prog w K} {A : Around} {E : Value → Shared → Prop} {s : Shared}
/-- what the entries that are left say -/
def LeftB (ka kb : List (K × Addr × Value)) (ef : K → Bool) : Bool := ka.all fun p => match atKey kb p.1 with
  | some _ => ef p.1
  | none => false
theorem samePairsH {nm : String} {a b : Addr} {ka kb : List (K × Addr × Value)} {ef : K → Bool} {Q : Bool → Shared → Prop} (hu : knd.room A) (ha : (a == sysModules) = false) (hb : (b == sysModules) = false)
    (da : s.heap.DictOfH knd a ka) (db : s.heap.DictOfH knd b kb) (hits : ka.length = kb.length → ∀ k p v y q, (k, p, v) ∈ ka → atKey kb k = some (q, y) → EqIn prog w A s v y (ef k))
    (h : Q (ka.length == kb.length && LeftB ka kb ef) s) : wpAny (model prog w) A (Builtin.Dict.samePairs nm a b) Q E s := by
  obtain ⟨oa, es, ep, hoa, _, hda, hea, hia, hna⟩ := da
  obtain ⟨ob, es', ep', hob, _, hdb, heb, hib, hnb⟩ := db
  have za : es.size = ka.length := size_of_entries hea
  have zb : es'.size = kb.length := size_of_entries heb
  unfold Builtin.Dict.samePairs Builtin.Dict.showsAll
  rw [if_neg (by rw [ha]; exact Bool.false_ne_true), if_neg (by rw [hb]; exact Bool.false_ne_true)]
  refine wpAny_bind (wpAny_pure (wpAny_bind (wpAny_pure (wpAny_bind (wpAny_dictEntries hoa hda ?_)))))
  dsimp only
  refine wpAny_bind (wpAny_dictEntries hob hdb ?_)
  by_cases hsz : es.size = es'.size
  · have hl : (ka.length == kb.length) = true := by rw [← za, ← zb, hsz]; exact beq_self_eq_true _
    rw [hl, Bool.true_and] at h
    have hits := hits (by rw [← za, ← zb, hsz])
    rw [if_neg (by rw [hsz]; simp)]
    refine wpAny_bind (wpAny_dictEpoch hoa hda (wpAny_bind ?_))
    rw [Std.Legacy.Range.forIn_eq_forIn_range']
    simp only [Std.Legacy.Range.size, Nat.sub_zero, Nat.add_sub_cancel, Nat.div_one]
    have goalEnd : ∀ i, LeftB ka kb ef = LeftB (ka.drop i) kb ef → LeftB (ka.drop i) kb ef = false → Q false s := fun i e1 e2 => by rw [e1, e2] at h; exact h
    refine wpAny_forIn_list _ (fun rest q s' => s' = s ∧ q = (none, ()) ∧ ∃ i, rest = List.range' i (es.size - i) ∧ i ≤ es.size ∧ LeftB ka kb ef = LeftB (ka.drop i) kb ef) _ ?_ ?_ _ _ ⟨rfl, rfl, 0, by simp, Nat.zero_le _, rfl⟩
    · rintro x rest q s' ⟨rfl, rfl, i, hr, hi, left⟩
      have hlt : i < es.size := by
        rcases Nat.lt_or_ge i es.size with z | z
        · exact z
        · rw [Nat.sub_eq_zero_of_le z] at hr
          cases hr
      have ex : x = i ∧ rest = List.range' (i + 1) (es.size - (i + 1)) := by
        have e : es.size - i = (es.size - (i + 1)) + 1 := by omega
        rw [e, List.range'_succ] at hr
        exact ⟨(List.cons.inj hr).1, (List.cons.inj hr).2⟩
      obtain ⟨rfl, hrest⟩ := ex
      have hlt' : x < ka.length := by rw [← za]; exact hlt
      obtain ⟨⟨k, p, v⟩, hkv⟩ : ∃ t, ka[x]? = some t := ⟨_, List.getElem?_eq_getElem hlt'⟩
      have hin : (k, p, v) ∈ ka := List.mem_of_getElem? hkv
      have hent : es[x]? = some (entryOfKey knd (k, p, v)) := by rw [entry_at hea x, hkv]; rfl
      have hdrop : ka.drop x = (k, p, v) :: ka.drop (x + 1) := by
        rw [List.drop_eq_getElem_cons hlt']
        congr 1
        exact Option.some.inj (by rw [← List.getElem?_eq_getElem hlt', hkv])
      refine wpAny_bind (wpAny_dictEntries hoa hda ?_)
      rw [hent]
      show wpAny _ _ (holding [Value.ref p, v] _ >>= _) _ _ _
      refine wpAny_bind (wpAny_holding (wpAny_bind (wpAny_dictFind_heap hu (hia _ hin) hob hdb heb hib hnb (fun none_ => ?_) fun j r hj => ?_)))
      · have hn : atKey kb k = none := by
          unfold atKey
          cases q : kb.find? (fun x => decide (x.1 = k)) with
          | none => rfl
          | some t =>
            exfalso
            obtain ⟨j, hj, e⟩ := List.getElem_of_mem (List.mem_of_find?_eq_some q)
            have hk0 := List.find?_some (p := fun x : K × Addr × Value => decide (x.1 = k)) q
            have hk : t.1 = k := of_decide_eq_true hk0
            refine none_ j t.2 ?_
            rw [List.getElem?_eq_getElem hj, e, ← hk]
        have z : LeftB (ka.drop x) kb ef = false := by
          rw [hdrop]
          unfold LeftB
          rw [List.all_cons]
          dsimp only
          rw [hn]
          rfl
        refine wpAny_pure ?_
        show wpAny _ _ (if (!false) = true then _ else _) _ _ _
        rw [if_pos (show (!false) = true from rfl)]
        exact wpAny_pure (wpAny_pure (goalEnd x left z))
      · have hs : atKey kb k = some r := by
          unfold atKey
          cases q : kb.find? (fun x => decide (x.1 = k)) with
          | none =>
            have := List.find?_eq_none.mp q _ (List.mem_of_getElem? hj)
            simp at this
          | some t =>
            have hk0 := List.find?_some (p := fun x : K × Addr × Value => decide (x.1 = k)) q
            have hk : t.1 = k := of_decide_eq_true hk0
            obtain ⟨j', hj', e⟩ := List.getElem_of_mem (List.mem_of_find?_eq_some q)
            have hj0 := (List.getElem?_eq_some_iff.mp hj).1
            have ej : j' = j := by
              refine (List.getElem_inj (h₀ := by simpa using hj') (h₁ := by simpa using hj0) hnb).mp ?_
              rw [List.getElem_map, List.getElem_map, e, hk]
              have := List.getElem?_eq_some_iff.mp hj
              rw [this.2]
            subst ej
            rw [List.getElem?_eq_getElem hj', e] at hj
            cases hj
            rfl
        have hent' : es'[j]? = some (entryOfKey knd (k, r)) := by rw [entry_at heb j, hj]; rfl
        refine wpAny_bind (wpAny_dictEntries hob hdb ?_)
        rw [hent']
        have he := hits k p v r.2 r.1 hin (by rw [hs])
        have hl1 : LeftB (ka.drop x) kb ef = (ef k && LeftB (ka.drop (x + 1)) kb ef) := by
          rw [hdrop]
          unfold LeftB
          rw [List.all_cons]
          dsimp only
          rw [hs]
        refine wpAny_holding (he _ _ ?_)
        cases c : ef k with
        | false =>
          show wpAny _ _ (if (!false) = true then _ else _) _ _ _
          rw [if_pos (show (!false) = true from rfl)]
          exact wpAny_pure (wpAny_pure (goalEnd x left (by rw [hl1, c]; rfl)))
        | true =>
          show wpAny _ _ (if (!true) = true then _ else _) _ _ _
          rw [if_neg (by decide)]
          refine wpAny_bind (wpAny_dictEpoch hoa hda ?_)
          rw [if_neg (by simp)]
          exact wpAny_pure ⟨rfl, rfl, x + 1, hrest, hlt, by rw [left, hl1, c]; rfl⟩
    · rintro q s' ⟨rfl, rfl, i, hr, hi, left⟩
      have hin : i = es.size := by
        rcases Nat.lt_or_ge i es.size with z | z
        · have e : es.size - i = (es.size - (i + 1)) + 1 := by omega
          rw [e, List.range'_succ] at hr
          cases hr
        · exact Nat.le_antisymm hi z
      refine wpAny_pure ?_
      rw [left, hin, za, List.drop_length] at h
      exact h
  · rw [if_pos (by simpa using hsz)]
    have hl : (ka.length == kb.length) = false := by rw [← za, ← zb]; simpa using hsz
    rw [hl, Bool.false_and] at h
    exact wpAny_bind (wpAny_rule (wpAny_pure h))
def opNe : Bool → CmpOp
  | true => .NotEq
  | false => .Eq
theorem eq_dictsH {a b : Addr} {ka kb : List (K × Addr × Value)} {ef : K → Bool} {Q : Value → Shared → Prop} (ne : Bool) (hr : knd.room A.in1) (ha : (a == sysModules) = false) (hb : (b == sysModules) = false)
    (da : s.heap.DictOfH knd a ka) (db : s.heap.DictOfH knd b kb) (hu : A.units < cLine) (hits : ka.length = kb.length → ∀ k p v y q, (k, p, v) ∈ ka → atKey kb k = some (q, y) → EqIn prog w A.in1 s v y (ef k))
    (h : Q (.bool ((ka.length == kb.length && LeftB ka kb ef) != ne)) s) : wpAny (model prog w) A (compareOp (opNe ne) (.ref a) (.ref b)) Q E s := by
  have ta : s.TypeIs (.ref a) "dict" := by
    obtain ⟨o, _, _, ho, hx, _⟩ := da
    exact ⟨o, ho, hx.1⟩
  have tb : s.TypeIs (.ref b) "dict" := by
    obtain ⟨o, _, _, ho, hx, _⟩ := db
    exact ⟨o, ho, hx.1⟩
  cases ne with
  | false =>
    refine wpAny_richCompare_same_room (op := .Eq) ta tb PySem.F.slot_dict_eq (wpAny_call_entry PySem.F.slot_dict_eq ta PySem.F.entry_dict_eq ?_ (PySem.F.args_dict_eq_2 _ _)) hu
    show wpAny _ _ (Builtin.Dict.dictSlotArgs "__eq__" ⟨[.ref a, .ref b], []⟩ >>= _) _ _ s
    refine wpAny_bind ?_
    unfold Builtin.Dict.dictSlotArgs
    refine wpAny_bind (wpAny_notOrdered_dict ta ?_)
    refine (show wpAny _ _ (pure (Value.ref a, Value.ref b)) _ _ s from wpAny_pure (wpAny_bind (wpAny_isInstance (T := "dict") tb PySem.F.sub_dict_dict ?_)))
    rw [show (!true) = false from rfl, if_neg Bool.false_ne_true]
    refine wpAny_bind (wpAny_pure (wpAny_bind (wpAny_pure (wpAny_bind (samePairsH hr ha hb da db hits ?_)))))
    exact wpAny_pure ⟨_, rfl, (fun z => nomatch z), by rw [beq_true]; simpa using h⟩
  | true =>
    refine wpAny_richCompare_same_room (op := .NotEq) ta tb PySem.F.slot_dict_ne (wpAny_call_entry PySem.F.slot_dict_ne ta PySem.F.entry_dict_ne ?_ (PySem.F.args_dict_ne_2 _ _)) hu
    show wpAny _ _ (Builtin.Dict.dictSlotArgs "__ne__" ⟨[.ref a, .ref b], []⟩ >>= _) _ _ s
    refine wpAny_bind ?_
    unfold Builtin.Dict.dictSlotArgs
    refine wpAny_bind (wpAny_notOrdered_dict ta ?_)
    refine (show wpAny _ _ (pure (Value.ref a, Value.ref b)) _ _ s from wpAny_pure (wpAny_bind (wpAny_isInstance (T := "dict") tb PySem.F.sub_dict_dict ?_)))
    rw [show (!true) = false from rfl, if_neg Bool.false_ne_true]
    refine wpAny_bind (wpAny_pure (wpAny_bind (wpAny_pure (wpAny_bind (samePairsH hr ha hb da db hits ?_)))))
    exact wpAny_pure ⟨_, rfl, (fun z => nomatch z), by simpa [bne] using h⟩
/-- keys that are ints and texts -/
theorem eq_dictsK {K : Type} [DecidableEq K] {knd : KeyKind prog w K} {a b : Addr} {ka kb : List (K × Value)} {r : Bool} {Q : Value → Shared → Prop} (ne : Bool) (ha : (a == sysModules) = false) (hb : (b == sysModules) = false)
    (da : s.heap.DictOf knd a ka) (db : s.heap.DictOf knd b kb) (hu : A.units < cLine) (hits : ka.length = kb.length → PySem.W.KeqHitsIn prog w A.in1 s kb ka r) (h : Q (.bool ((ka.length == kb.length && r) != ne)) s) :
    wpAny (model prog w) A (compareOp (opNe ne) (.ref a) (.ref b)) Q E s := by
  have ta := da.typeIs
  have tb := db.typeIs
  cases ne with
  | false => exact PySem.W.keq_eqIn ha hb da db hu hits (by simpa using h)
  | true =>
    refine wpAny_richCompare_same_room (op := .NotEq) ta tb PySem.F.slot_dict_ne (wpAny_call_entry PySem.F.slot_dict_ne ta PySem.F.entry_dict_ne ?_ (PySem.F.args_dict_ne_2 _ _)) hu
    show wpAny _ _ (Builtin.Dict.dictSlotArgs "__ne__" ⟨[.ref a, .ref b], []⟩ >>= _) _ _ s
    refine wpAny_bind ?_
    unfold Builtin.Dict.dictSlotArgs
    refine wpAny_bind (wpAny_notOrdered_dict ta ?_)
    refine (show wpAny _ _ (pure (Value.ref a, Value.ref b)) _ _ s from wpAny_pure (wpAny_bind (wpAny_isInstance (T := "dict") tb PySem.F.sub_dict_dict ?_)))
    rw [show (!true) = false from rfl, if_neg Bool.false_ne_true]
    refine wpAny_bind (wpAny_pure (wpAny_bind (wpAny_pure (wpAny_bind (PySem.W.keq_samePairsIn ha hb da db hits ?_)))))
    exact wpAny_pure ⟨_, rfl, (fun z => nomatch z), by simpa [bne] using h⟩
end
/-! ### == -/
theorem listRange_all {n : Nat} {f : Nat → Bool} {g : Nat → Bool} (h : ∀ j, j < n → f j = g j) : (List.range n).all f = (List.range n).all g := all_congr_mem fun j hj => h j (List.mem_range.mp hj)
theorem beq_some_true {o : Option Bool} {b : Bool} (h : o = some b) : (o == some true) = b := by
  subst h
  cases b <;> rfl
section
variable {X : Cx} {pins : List (Addr × Obj)} {σ : St} {H : Hp} {s : Shared} {dA : Addr} {ca : List Addr}
theorem room_T {A : Around} (hu : A.units < cLine) : (tupleKind (mixKind X.prog X.w)).room A := hu
theorem eqI_beq {i j : Int} : eqI i j = (i == j) := by unfold eqI; rw [Bool.beq_eq_decide_eq]
theorem eqL_beq {a b : List Nat} : eqL a b = ((⟨a.toArray⟩ : Str) == ⟨b.toArray⟩) := by
  by_cases e : a = b
  · subst e
    rw [eqL_self, beq_self_eq_true]
  · have n : eqL a b = false := by
      cases q : eqL a b with
      | true => exact absurd (eqL_iff.mp q) e
      | false => rfl
    rw [n]
    refine (beq_eq_false_iff_ne.mpr fun z => e ?_).symm
    have z2 : a.toArray = b.toArray := congrArg Str.cps z
    simpa using z2
/-- the scalars -/
theorem eq_flat {d e : D} {x y : V} {v u : Value} {b : Bool} {n : Nat} (fd : flat d = true) (fe : flat e = true) (h1 : Rep dA ca H d x) (h2 : Rep dA ca H e y) (rx : RelV x v) (ry : RelV y u) (q : eqN (n + 1) d e = some b) (A : Around) : EqAt A s v u b := by
  have key : ∀ c, eqV x y = c → b = c → EqAt A s v u b := fun c e1 e2 => by
    have fx : flatV x = true := by cases d <;> first | (cases fd; done) | (cases h1; rfl) | (obtain ⟨rfl, _⟩ := h1; rfl)
    have fy : flatV y = true := by cases e <;> first | (cases fe; done) | (cases h2; rfl) | (obtain ⟨rfl, _⟩ := h2; rfl)
    rw [e2, ← e1]
    exact eqAt_V rx ry fx fy
  cases d <;> first | (cases fd; done) | skip
  all_goals (cases e <;> first | (cases fe; done) | skip)
  all_goals (cases q)
  all_goals first | (obtain ⟨rfl, _⟩ := h1) | (cases h1)
  all_goals first | (obtain ⟨rfl, _⟩ := h2) | (cases h2)
  all_goals first
    | exact key _ rfl rfl
    | exact key _ rfl eqI_beq
    | exact key _ rfl eqL_beq
    | (rename_i a j; cases a <;> exact key _ rfl eqI_beq)
    | (rename_i j a; cases a <;> exact key _ rfl eqI_beq)
theorem kv_in {κ : Type} : ∀ {kvs : List (κ × V)} {vs : List (κ × Value)} {k : κ} {v : Value}, KV kvs vs → (k, v) ∈ vs → ∃ x, (k, x) ∈ kvs ∧ RelV x v
  | _, _, _, _, .nil, h => by cases h
  | p :: _, _, k, v, .cons r t, h => by
    rcases List.mem_cons.mp h with e | h
    · subst e
      have e : p.1 = k := r.1
      exact ⟨p.2, by rw [← e]; exact List.mem_cons_self, r.2⟩
    · obtain ⟨x, h1, h2⟩ := kv_in t h
      exact ⟨x, List.mem_cons_of_mem _ h1, h2⟩
theorem kt_in : ∀ {kvs : List (List Key × V)} {xs : List (List Key × Addr × Value)} {k : List Key} {p : Addr} {v : Value}, KT H kvs xs → (k, p, v) ∈ xs → ∃ x, (k, x) ∈ kvs ∧ RelV x v
  | _, _, _, _, _, .nil, h => by cases h
  | p :: _, _, k, q, v, .cons r t, h => by
    rcases List.mem_cons.mp h with e | h
    · subst e
      have e : p.1 = k := r.1
      exact ⟨p.2, by rw [← e]; exact List.mem_cons_self, r.2.2⟩
    · obtain ⟨x, h1, h2⟩ := kt_in t h
      exact ⟨x, List.mem_cons_of_mem _ h1, h2⟩
theorem kv_all {κ : Type} [DecidableEq κ] {ef : κ → Bool} {ls : List (κ × V)} {lv : List (κ × Value)} (rl : KV ls lv) : ∀ {kvs : List (κ × V)} {vs : List (κ × Value)}, KV kvs vs →
    (kvs.all fun p => (valV ls p.1).isSome && ef p.1) = vs.all fun p => (valueAt lv p.1).isSome && ef p.1
  | _, _, .nil => rfl
  | p :: _, _, .cons r t => by rw [List.all_cons, List.all_cons, kv_all rl t, ← r.1, (rl.val p.1).isSome_eq]
theorem kt_all {ef : List Key → Bool} {ls : List (List Key × V)} {lv : List (List Key × Addr × Value)} (rl : KT H ls lv) : ∀ {kvs : List (List Key × V)} {xs : List (List Key × Addr × Value)}, KT H kvs xs →
    (kvs.all fun p => (valV ls p.1).isSome && ef p.1) = LeftB xs lv ef
  | _, _, .nil => rfl
  | p :: _, q :: _, .cons r t => by
    have ih := kt_all (ef := ef) rl t
    unfold LeftB at ih ⊢
    rw [List.all_cons, List.all_cons, ih, ← r.1]
    congr 1
    have z := (rl.val p.1).isSome_eq
    rw [z]
    cases atKey lv p.1 <;> rfl
theorem nbeq (a b : Nat) : Nat.beq a b = (a == b) := by
  by_cases e : a = b
  · subst e
    rw [Nat.beq_refl, beq_self_eq_true]
  · rw [beq_eq_false_iff_ne.mpr e]
    cases c : Nat.beq a b with
    | false => rfl
    | true => exact absurd (Nat.eq_of_beq_eq_true c) e
/-- an empty dict is of either kind -/
theorem dtOf_nil {h : Heap} {a : Addr} {P : Program} {w : World} (d : h.DictOf (mixKind P w) a []) : h.DictOfH (tupleKind (mixKind P w)) a [] := by
  obtain ⟨o, es, ep, ho, hx, hd, _, hp, _⟩ := d
  have e : es.toList = [] := List.eq_nil_of_length_eq_zero hp.length
  exact ⟨o, es, ep, ho, hx, hd, e, (fun (_ : List Key × Addr × Value) z => by cases z), List.nodup_nil⟩
theorem dkOf_nil {h : Heap} {a : Addr} {P : Program} {w : World} (d : h.DictOfH (tupleKind (mixKind P w)) a []) : h.DictOf (mixKind P w) a [] := by
  obtain ⟨o, es, ep, ho, hx, hd, he, _, _⟩ := d
  have e : es = #[] := by
    have : es.toList = [] := he
    simpa using this
  subst e
  exact ⟨o, #[], ep, ho, hx, hd, fun _ z => by simp at z, .nil, List.nodup_nil⟩
theorem keyT_of {k : D} {ks : List Key} (h : kTO k = some ks) : isKeyT k = true := by
  cases k <;> first | (cases h; done) | skip
  rename_i l
  have : ∀ (l : List D) (ks : List Key), ksO l = some ks → l.all isKey1 = true := by
    intro l
    induction l with
    | nil => intro _ _; rfl
    | cons d l ih =>
      intro ks h
      obtain ⟨k0, ks0, e1, e2, _⟩ := ksO_cons h
      rw [List.all_cons, ih _ e2, Bool.and_true]
      cases d <;> first | rfl | (cases e1; done)
  exact this l _ h
theorem key1_of {k : D} {j : Key} (h : kO k = some j) : isKey1 k = true ∧ isKeyT k = false := by
  cases k <;> first | (cases h; done) | exact ⟨rfl, rfl⟩
theorem kind_nil {ks ks' : List D} (hk : (kindK ks == kindK ks' || ks.isEmpty || ks'.isEmpty) = true) {l : List Key} {l' : List (List Key)} (h1 : KsR kO ks l) (h2 : KsR kTO ks' l') : ks = [] ∨ ks' = [] := by
  cases ks with
  | nil => exact .inl rfl
  | cons k ks =>
    cases ks' with
    | nil => exact .inr rfl
    | cons k' ks' =>
      obtain ⟨_, _, _, q1, _⟩ := h1
      obtain ⟨_, _, _, q2, _⟩ := h2
      exfalso
      have : (isKeyT k == isKeyT k' || false || false) = true := hk
      rw [keyT_of q2, (key1_of q1).2] at this
      cases this
section
variable {A : Around} {a a' : Addr} {ks vs ks' vs' : List D} {b : Bool} {n : Nat}
theorem rc_KK (ne : Bool) {E : Value → Shared → Prop} {Q : Value → Shared → Prop} (ih : ∀ d e x y v u b, Rep dA ca H d x → Rep dA ca H e y → RelV x v → RelV y u → eqN n d e = some b → EqIn X.prog X.w A.in1 s v u b) (hu : A.units < cLine) (n1 : (a == sysModules) = false) (n2 : (a' == sysModules) = false)
    {kvs kvs' : List (Key × V)} {kv kv' : List (Key × Value)} (r1 : KV kvs kv) (d1 : s.heap.DictOf (mixKind X.prog X.w) a kv) (p1 : KsR kO ks (kvs.map (·.1))) (p2 : Reps dA ca H vs (kvs.map (·.2)))
    (r2 : KV kvs' kv') (d2 : s.heap.DictOf (mixKind X.prog X.w) a' kv') (p3 : KsR kO ks' (kvs'.map (·.1))) (p4 : Reps dA ca H vs' (kvs'.map (·.2)))
    (q : (bif Nat.beq ks.length ks'.length then eqDs (eqN n) ks' vs' ks vs else some false) = some b) (hq : Q (.bool (b != ne)) s) : wpAny (model X.prog X.w) A (compareOp (opNe ne) (.ref a) (.ref a')) Q E s := by
  have l1 : kv.length = ks.length := by rw [p1.length, List.length_map, r1.length]
  have l2 : kv'.length = ks'.length := by rw [p3.length, List.length_map, r2.length]
  have nd1 : (kvs.map (·.1)).Nodup := by
    obtain ⟨_, _, _, _, _, _, _, _, nd⟩ := d1
    rw [r1.keys]; exact nd
  cases hl : Nat.beq ks.length ks'.length with
  | false =>
    rw [hl] at q
    cases q
    refine eq_dictsK ne (r := true) n1 n2 d1 d2 hu (fun z => ?_) ?_
    · rw [l1, l2] at z
      rw [z, Nat.beq_refl] at hl
      cases hl
    · rw [l1, l2, ← nbeq, hl]
      exact hq
  | true =>
    rw [hl] at q
    obtain ⟨ef, i1, i2⟩ := eqDs_some keq_kO p3 p4 nd1 p1 p2 q
    refine eq_dictsK ne n1 n2 d1 d2 hu (fun _ => PySem.W.KeqHitsIn.of (e := ef) _ fun k v y hm hv => ?_) ?_
    · obtain ⟨x, hx, rx⟩ := kv_in r1 hm
      have rv := r2.val k
      rw [hv] at rv
      cases c : valV kvs' k with
      | none => rw [c] at rv; exact rv.elim
      | some y' =>
        rw [c] at rv
        obtain ⟨d, d', e1, e2, e3⟩ := i1 k x y' hx c
        exact ih d d' x y' v y _ e1 e2 rx rv e3
    · rw [l1, l2, ← nbeq, hl, Bool.true_and, ← kv_all r2 r1, ← i2]
      exact hq
theorem rc_TT (ne : Bool) {E : Value → Shared → Prop} {Q : Value → Shared → Prop} (ih : ∀ d e x y v u b, Rep dA ca H d x → Rep dA ca H e y → RelV x v → RelV y u → eqN n d e = some b → EqIn X.prog X.w A.in1 s v u b) (hu : A.units + 1 < cLine) (n1 : (a == sysModules) = false) (n2 : (a' == sysModules) = false)
    {kvs kvs' : List (List Key × V)} {kv kv' : List (List Key × Addr × Value)} (r1 : KT H kvs kv) (d1 : s.heap.DictOfH (tupleKind (mixKind X.prog X.w)) a kv) (p1 : KsR kTO ks (kvs.map (·.1))) (p2 : Reps dA ca H vs (kvs.map (·.2)))
    (r2 : KT H kvs' kv') (d2 : s.heap.DictOfH (tupleKind (mixKind X.prog X.w)) a' kv') (p3 : KsR kTO ks' (kvs'.map (·.1))) (p4 : Reps dA ca H vs' (kvs'.map (·.2)))
    (q : (bif Nat.beq ks.length ks'.length then eqDs (eqN n) ks' vs' ks vs else some false) = some b) (hq : Q (.bool (b != ne)) s) : wpAny (model X.prog X.w) A (compareOp (opNe ne) (.ref a) (.ref a')) Q E s := by
  have l1 : kv.length = ks.length := by rw [p1.length, List.length_map, Paired.length r1]
  have l2 : kv'.length = ks'.length := by rw [p3.length, List.length_map, Paired.length r2]
  have nd1 : (kvs.map (·.1)).Nodup := by
    obtain ⟨_, _, _, _, _, _, _, _, nd⟩ := d1
    rw [KT.keys r1]; exact nd
  have hu0 : A.units < cLine := by omega
  have hu1 : (tupleKind (mixKind X.prog X.w)).room A.in1 := room_T (by show A.units + 1 < cLine; exact hu)
  cases hl : Nat.beq ks.length ks'.length with
  | false =>
    rw [hl] at q
    cases q
    refine eq_dictsH ne (ef := fun _ => true) hu1 n1 n2 d1 d2 hu0 (fun z => ?_) ?_
    · rw [l1, l2] at z
      rw [z, Nat.beq_refl] at hl
      cases hl
    · rw [l1, l2, ← nbeq, hl]
      exact hq
  | true =>
    rw [hl] at q
    obtain ⟨ef, i1, i2⟩ := eqDs_some keq_kTO p3 p4 nd1 p1 p2 q
    refine eq_dictsH ne (ef := ef) hu1 n1 n2 d1 d2 hu0 (fun _ k p v y r hm hv => ?_) ?_
    · obtain ⟨x, hx, rx⟩ := kt_in r1 hm
      have rv := KT.val r2 k
      rw [hv] at rv
      cases c : valV kvs' k with
      | none => rw [c] at rv; exact rv.elim
      | some y' =>
        rw [c] at rv
        obtain ⟨d, d', e1, e2, e3⟩ := i1 k x y' hx c
        exact ih d d' x y' v y _ e1 e2 rx rv e3
    · rw [l1, l2, ← nbeq, hl, Bool.true_and, ← kt_all r2 r1, ← i2]
      exact hq
/-- two dicts -/
theorem rc_dct (ne : Bool) {E : Value → Shared → Prop} {Q : Value → Shared → Prop} (I : Inv X pins σ H s) (ih : ∀ d e x y v u b, Rep dA ca H d x → Rep dA ca H e y → RelV x v → RelV y u → eqN n d e = some b → EqIn X.prog X.w A.in1 s v u b) (hu : A.units + 1 < cLine)
    {x y : V} {v u : Value} (h1 : Rep dA ca H (.dct ks vs) x) (h2 : Rep dA ca H (.dct ks' vs') y) (rx : RelV x v) (ry : RelV y u) (q : eqN (n + 1) (.dct ks vs) (.dct ks' vs') = some b) (hq : Q (.bool (b != ne)) s) :
    wpAny (model X.prog X.w) A (compareOp (opNe ne) v u) Q E s := by
  obtain ⟨a, rfl, h1⟩ := h1
  obtain ⟨a', rfl, h2⟩ := h2
  cases rx
  cases ry
  have hu0 : A.units < cLine := by omega
  unfold eqN at q
  cases hk : (kindK ks == kindK ks' || ks.isEmpty || ks'.isEmpty) with
  | false => rw [hk] at q; cases q
  | true =>
    rw [hk] at q
    rcases h1 with ⟨kvs, h1, p1, p2⟩ | ⟨kvs, h1, p1, p2⟩
    · obtain ⟨_, n1, kv, r1, d1⟩ := dk_rd I.hok h1
      rcases h2 with ⟨kvs', h2, p3, p4⟩ | ⟨kvs', h2, p3, p4⟩
      · obtain ⟨_, n2, kv', r2, d2⟩ := dk_rd I.hok h2
        exact rc_KK ne ih hu0 n1 n2 r1 d1 p1 p2 r2 d2 p3 p4 q hq
      · obtain ⟨_, n2, kv', r2, d2⟩ := dt_rd I.hok h2
        rcases kind_nil hk p1 p3 with e | e
        · subst e
          obtain rfl : kvs = [] := by simpa using (show kvs.map (·.1) = [] from p1)
          cases r1
          exact rc_TT ne ih hu n1 n2 .nil (dtOf_nil d1) (show KsR kTO [] (([] : List (List Key × V)).map (·.1)) from rfl) p2 r2 d2 p3 p4 q hq
        · subst e
          obtain rfl : kvs' = [] := by simpa using (show kvs'.map (·.1) = [] from p3)
          cases r2
          exact rc_KK ne ih hu0 n1 n2 r1 d1 p1 p2 .nil (dkOf_nil d2) (show KsR kO [] (([] : List (Key × V)).map (·.1)) from rfl) p4 q hq
    · obtain ⟨_, n1, kv, r1, d1⟩ := dt_rd I.hok h1
      rcases h2 with ⟨kvs', h2, p3, p4⟩ | ⟨kvs', h2, p3, p4⟩
      · obtain ⟨_, n2, kv', r2, d2⟩ := dk_rd I.hok h2
        have hk' : (kindK ks' == kindK ks || ks'.isEmpty || ks.isEmpty) = true := by
          rw [Bool.beq_comm, Bool.or_assoc, Bool.or_comm ks'.isEmpty, ← Bool.or_assoc]
          exact hk
        rcases kind_nil hk' p3 p1 with e | e
        · subst e
          obtain rfl : kvs' = [] := by simpa using (show kvs'.map (·.1) = [] from p3)
          cases r2
          exact rc_TT ne ih hu n1 n2 r1 d1 p1 p2 .nil (dtOf_nil d2) (show KsR kTO [] (([] : List (List Key × V)).map (·.1)) from rfl) p4 q hq
        · subst e
          obtain rfl : kvs = [] := by simpa using (show kvs.map (·.1) = [] from p1)
          cases r1
          exact rc_KK ne ih hu0 n1 n2 .nil (dkOf_nil d1) (show KsR kO [] (([] : List (Key × V)).map (·.1)) from rfl) p2 r2 d2 p3 p4 q hq
      · obtain ⟨_, n2, kv', r2, d2⟩ := dt_rd I.hok h2
        exact rc_TT ne ih hu n1 n2 r1 d1 p1 p2 r2 d2 p3 p4 q hq
end
theorem eq_in (I : Inv X pins σ H s) : ∀ (n : Nat) (d e : D) (x y : V) (v u : Value) (b : Bool), Rep dA ca H d x → Rep dA ca H e y → RelV x v → RelV y u → eqN n d e = some b →
    ∀ A : Around, A.units + n < cLine → EqIn X.prog X.w A s v u b := by
  intro n
  induction n with
  | zero => intro d e x y v u b _ _ _ _ q; exact nomatch q
  | succ n ih =>
    intro d e x y v u b h1 h2 rx ry q A hu
    by_cases fl : flat d = true ∧ flat e = true
    · exact (eq_flat fl.1 fl.2 h1 h2 rx ry q A).inModel _ _
    have hu0 : A.units < cLine := by omega
    have hu1 : A.in1.units + n < cLine := by show A.units + 1 + n < cLine; omega
    -- two tuples, two lists: item by item
    have items : ∀ {l m : List D} {xs ys : List V} {its its' : List Value} {c : Bool}, Reps dA ca H l xs → Reps dA ca H m ys → Vals xs its → Vals ys its' → eqZ (eqN n) l m = some c →
        (∀ j (h1 : j < its.toArray.size) (h2 : j < its'.toArray.size), EqIn X.prog X.w A.in1 s its.toArray[j] its'.toArray[j] (eqN n (l.getD j .non) (m.getD j .non) == some true)) := by
      intro l m xs ys its its' c ra rb va vb e j j1 j2
      have k1 : j < its.length := by simpa using j1
      have k2 : j < its'.length := by simpa using j2
      have k3 : j < l.length := by rw [← ra.length, va.length]; exact k1
      have k4 : j < m.length := by rw [← rb.length, vb.length]; exact k2
      obtain ⟨x', e1, r1⟩ := ra.get (List.getElem?_eq_getElem k3)
      obtain ⟨y', e2, r2⟩ := rb.get (List.getElem?_eq_getElem k4)
      obtain ⟨v', e3, r3⟩ := va.get e1
      obtain ⟨u', e4, r4⟩ := vb.get e2
      obtain ⟨c', e5⟩ := (eqZ_some e).1 j _ _ (List.getElem?_eq_getElem k3) (List.getElem?_eq_getElem k4)
      have z1 : its.toArray[j] = v' := by
        have := List.getElem?_eq_some_iff.mp e3
        simpa using this.2
      have z2 : its'.toArray[j] = u' := by
        have := List.getElem?_eq_some_iff.mp e4
        simpa using this.2
      rw [z1, z2]
      have z3 : (eqN n (l.getD j .non) (m.getD j .non) == some true) = c' := by
        rw [List.getD_eq_getElem?_getD, List.getD_eq_getElem?_getD, List.getElem?_eq_getElem k3, List.getElem?_eq_getElem k4]
        exact beq_some_true e5
      rw [z3]
      exact ih _ _ _ _ _ _ _ r1 r2 r3 r4 e5 A.in1 hu1
    cases d with
    | tup l =>
      obtain ⟨a, xs, rfl, ha, ra⟩ := h1
      cases rx
      obtain ⟨its, va, ta, _⟩ := I.tuple (SqT.of ha)
      cases e with
      | tup m =>
        have h2' := h2
        obtain ⟨a', ys, rfl, hb, rb⟩ := h2
        cases ry
        by_cases same : a = a'
        · subst same
          have : b = true := eqN_same I.hok (n + 1) (.tup l) (.tup m) (.ref a) b ⟨a, xs, rfl, ha, ra⟩ h2' q
          subst this
          exact (SeqAt.EqAt.same _).inModel _ _
        obtain ⟨its', vb, tb, _⟩ := I.tuple (SqT.of hb)
        unfold eqN eqLs at q
        split at q
        rotate_left
        · cases q
        rename_i c e1
        cases q
        refine SeqAt.EqIn.of_refs same fun E Q hq => rcIn_tuples (show s.heap.IsTuple a its.toArray from ta) (show s.heap.IsTuple a' its'.toArray from tb) hu0 (items ra rb va vb e1) ?_
        have z := (eqZ_some e1).2
        have s1 : its.toArray.size = l.length := by rw [List.size_toArray, ← va.length, ra.length]
        have s2 : its'.toArray.size = m.length := by rw [List.size_toArray, ← vb.length, rb.length]
        rw [s1, s2, ← z, ← nbeq]
        exact hq
      | lst m =>
        obtain ⟨a', ys, rfl, hb, rb⟩ := h2
        cases ry
        obtain ⟨its', vb, tb, _⟩ := I.list (SqL.of hb)
        cases q
        exact (SeqAt.EqAt.tuple_list ta tb.isList hu0).inModel _ _
      | non => cases h2; cases ry; cases q; exact (SeqAt.EqAt.tuple_none ta hu0).inModel _ _
      | bl c => cases h2; cases ry; cases q; exact (SeqAt.EqAt.tuple_bool c ta hu0).inModel _ _
      | int c => cases h2; obtain ⟨t, rfl⟩ := ry; cases q; exact (SeqAt.EqAt.tuple_int c t ta hu0).inModel _ _
      | str c => obtain ⟨rfl, _⟩ := h2; obtain ⟨t, rfl⟩ := ry; cases q; exact (SeqAt.EqAt.tuple_str _ t ta hu0).inModel _ _
      | dct _ _ => cases q
      | set _ => cases q
      | drw => cases q
      | cel _ => cases q
    | lst l =>
      obtain ⟨a, xs, rfl, ha, ra⟩ := h1
      cases rx
      obtain ⟨its, va, ta, _⟩ := I.list (SqL.of ha)
      cases e with
      | lst m =>
        have h2' := h2
        obtain ⟨a', ys, rfl, hb, rb⟩ := h2
        cases ry
        by_cases same : a = a'
        · subst same
          have : b = true := eqN_same I.hok (n + 1) (.lst l) (.lst m) (.ref a) b ⟨a, xs, rfl, ha, ra⟩ h2' q
          subst this
          exact (SeqAt.EqAt.same _).inModel _ _
        obtain ⟨its', vb, tb, _⟩ := I.list (SqL.of hb)
        have s1 : its.toArray.size = l.length := by rw [List.size_toArray, ← va.length, ra.length]
        have s2 : its'.toArray.size = m.length := by rw [List.size_toArray, ← vb.length, rb.length]
        unfold eqN at q
        by_cases hl : l.length = m.length
        · have hl' : Nat.beq l.length m.length = true := by rw [hl]; exact Nat.beq_refl _
          rw [hl'] at q
          change eqLs _ _ _ = _ at q
          unfold eqLs at q
          split at q
          rotate_left
          · cases q
          rename_i c e1
          rw [hl', Bool.and_true] at q
          cases q
          refine SeqAt.EqIn.of_refs same fun E Q hq => rcIn_lists ta.isList tb.isList (by rw [s1, s2, hl]) hu0 (items ra rb va vb e1) ?_
          have z := (eqZ_some e1).2
          rw [← hl, Nat.min_self] at z
          rw [s1, ← z]
          exact hq
        · have hl' : Nat.beq l.length m.length = false := by
            cases c : Nat.beq l.length m.length with
            | false => rfl
            | true => exact absurd (Nat.eq_of_beq_eq_true c) hl
          rw [hl'] at q
          cases q
          exact (SeqAt.EqAt.of_refs same (SeqAt.RcAt.lists_lengths ta.isList tb.isList (by rw [s1, s2]; simpa using hl) hu0)).inModel _ _
      | tup m =>
        obtain ⟨a', ys, rfl, hb, rb⟩ := h2
        cases ry
        obtain ⟨its', vb, tb, _⟩ := I.tuple (SqT.of hb)
        cases q
        exact (SeqAt.EqAt.list_tuple ta.isList tb hu0).inModel _ _
      | non => cases h2; cases ry; cases q; exact (SeqAt.EqAt.list_none ta.isList hu0).inModel _ _
      | bl c => cases h2; cases ry; cases q; exact (SeqAt.EqAt.list_bool c ta.isList hu0).inModel _ _
      | int c => cases h2; obtain ⟨t, rfl⟩ := ry; cases q; exact (SeqAt.EqAt.list_int c t ta.isList hu0).inModel _ _
      | str c => obtain ⟨rfl, _⟩ := h2; obtain ⟨t, rfl⟩ := ry; cases q; exact (SeqAt.EqAt.list_str _ t ta.isList hu0).inModel _ _
      | dct _ _ => cases q
      | set _ => cases q
      | drw => cases q
      | cel _ => cases q
    | dct ks vs =>
      cases e with
      | dct ks' vs' =>
        have g1 := h1
        have g2 := h2
        obtain ⟨a, rfl, h1⟩ := h1
        obtain ⟨a', rfl, h2⟩ := h2
        cases rx
        cases ry
        by_cases same : a = a'
        · subst same
          have : b = true := eqN_same I.hok (n + 1) _ _ _ b g1 g2 q
          subst this
          exact (SeqAt.EqAt.same _).inModel _ _
        have ih' : ∀ d e x y v u b, Rep dA ca H d x → Rep dA ca H e y → RelV x v → RelV y u → eqN n d e = some b → EqIn X.prog X.w A.in1 s v u b := fun d e x y v u b z1 z2 z3 z4 z5 => ih d e x y v u b z1 z2 z3 z4 z5 A.in1 hu1
        have hu2 : A.units + 1 < cLine := by omega
        exact SeqAt.EqIn.of_refs same fun E Q hq => rc_dct false I ih' hu2 (show Rep dA ca H (.dct ks vs) (.ref a) from ⟨a, rfl, h1⟩) (show Rep dA ca H (.dct ks' vs') (.ref a') from ⟨a', rfl, h2⟩) rfl rfl q (by rw [Bool.bne_false]; exact hq)
      | non => cases q
      | bl _ => cases q
      | int _ => cases q
      | str _ => cases q
      | tup _ => cases q
      | lst _ => cases q
      | set _ => cases q
      | drw => cases q
      | cel _ => cases q
    | non =>
      cases h1; cases rx
      cases e with
      | tup m => obtain ⟨a', ys, rfl, hb, rb⟩ := h2; cases ry; obtain ⟨its', vb, tb, _⟩ := I.tuple (SqT.of hb); cases q; exact (SeqAt.EqAt.none_tuple tb hu0).inModel _ _
      | lst m => obtain ⟨a', ys, rfl, hb, rb⟩ := h2; cases ry; obtain ⟨its', vb, tb, _⟩ := I.list (SqL.of hb); cases q; exact (SeqAt.EqAt.none_list tb.isList hu0).inModel _ _
      | non => exact absurd ⟨rfl, rfl⟩ fl
      | bl _ => exact absurd ⟨rfl, rfl⟩ fl
      | int _ => exact absurd ⟨rfl, rfl⟩ fl
      | str _ => exact absurd ⟨rfl, rfl⟩ fl
      | dct _ _ => cases q
      | set _ => cases q
      | drw => cases q
      | cel _ => cases q
    | bl c =>
      cases h1; cases rx
      cases e with
      | tup m => obtain ⟨a', ys, rfl, hb, rb⟩ := h2; cases ry; obtain ⟨its', vb, tb, _⟩ := I.tuple (SqT.of hb); cases q; exact (SeqAt.EqAt.bool_tuple c tb hu0).inModel _ _
      | lst m => obtain ⟨a', ys, rfl, hb, rb⟩ := h2; cases ry; obtain ⟨its', vb, tb, _⟩ := I.list (SqL.of hb); cases q; exact (SeqAt.EqAt.bool_list c tb.isList hu0).inModel _ _
      | non => exact absurd ⟨rfl, rfl⟩ fl
      | bl _ => exact absurd ⟨rfl, rfl⟩ fl
      | int _ => exact absurd ⟨rfl, rfl⟩ fl
      | str _ => exact absurd ⟨rfl, rfl⟩ fl
      | dct _ _ => cases q
      | set _ => cases q
      | drw => cases q
      | cel _ => cases q
    | int c =>
      cases h1
      obtain ⟨t, rfl⟩ := rx
      cases e with
      | tup m => obtain ⟨a', ys, rfl, hb, rb⟩ := h2; cases ry; obtain ⟨its', vb, tb, _⟩ := I.tuple (SqT.of hb); cases q; exact (SeqAt.EqAt.int_tuple c t tb hu0).inModel _ _
      | lst m => obtain ⟨a', ys, rfl, hb, rb⟩ := h2; cases ry; obtain ⟨its', vb, tb, _⟩ := I.list (SqL.of hb); cases q; exact (SeqAt.EqAt.int_list c t tb.isList hu0).inModel _ _
      | non => exact absurd ⟨rfl, rfl⟩ fl
      | bl _ => exact absurd ⟨rfl, rfl⟩ fl
      | int _ => exact absurd ⟨rfl, rfl⟩ fl
      | str _ => exact absurd ⟨rfl, rfl⟩ fl
      | dct _ _ => cases q
      | set _ => cases q
      | drw => cases q
      | cel _ => cases q
    | str c =>
      obtain ⟨rfl, _⟩ := h1
      obtain ⟨t, rfl⟩ := rx
      cases e with
      | tup m => obtain ⟨a', ys, rfl, hb, rb⟩ := h2; cases ry; obtain ⟨its', vb, tb, _⟩ := I.tuple (SqT.of hb); cases q; exact (SeqAt.EqAt.str_tuple _ t tb hu0).inModel _ _
      | lst m => obtain ⟨a', ys, rfl, hb, rb⟩ := h2; cases ry; obtain ⟨its', vb, tb, _⟩ := I.list (SqL.of hb); cases q; exact (SeqAt.EqAt.str_list _ t tb.isList hu0).inModel _ _
      | non => exact absurd ⟨rfl, rfl⟩ fl
      | bl _ => exact absurd ⟨rfl, rfl⟩ fl
      | int _ => exact absurd ⟨rfl, rfl⟩ fl
      | str _ => exact absurd ⟨rfl, rfl⟩ fl
      | dct _ _ => cases q
      | set _ => cases q
      | drw => cases q
      | cel _ => cases q
    | set _ => cases e <;> cases q
    | drw => cases e <;> cases q
    | cel _ => cases e <;> cases q
end
end W
/-! W7: data without dicts: equality at any program. -/
namespace W
open PySem L2
open PySem.SeqAt (EqIn EqAt rcIn_lists rcIn_tuples)
theorem noDs_get : ∀ {l : List D} {i : Nat} {d : D}, noDs l = true → l[i]? = some d → noD d = true
  | [], _, _, _, e => by simp at e
  | a :: l, 0, d, h, e => by
    simp at e
    subst e
    unfold noDs at h
    exact (Bool.and_eq_true_iff.mp h).1
  | a :: l, i + 1, d, h, e => by
    unfold noDs at h
    exact noDs_get (i := i) (Bool.and_eq_true_iff.mp h).2 (by simpa using e)
section
variable {X : Cx} {pins : List (Addr × Obj)} {σ : St} {H : Hp} {s : Shared} {dA : Addr} {ca : List Addr}
theorem eq_at (I : Inv X pins σ H s) : ∀ (n : Nat) (d e : D) (x y : V) (v u : Value) (b : Bool), noD d = true → noD e = true → Rep dA ca H d x → Rep dA ca H e y → RelV x v → RelV y u → eqN n d e = some b →
    ∀ A : Around, A.units + n < cLine → EqAt A s v u b := by
  intro n
  induction n with
  | zero => intro d e x y v u b _ _ _ _ _ _ q; exact nomatch q
  | succ n ih =>
    intro d e x y v u b fd fe h1 h2 rx ry q A hu
    by_cases fl : flat d = true ∧ flat e = true
    · exact eq_flat fl.1 fl.2 h1 h2 rx ry q A
    have hu0 : A.units < cLine := by omega
    have hu1 : A.in1.units + n < cLine := by show A.units + 1 + n < cLine; omega
    -- two tuples, two lists: item by item
    have items : ∀ {l m : List D} {xs ys : List V} {its its' : List Value} {c : Bool}, noDs l = true → noDs m = true → Reps dA ca H l xs → Reps dA ca H m ys → Vals xs its → Vals ys its' → eqZ (eqN n) l m = some c →
        (∀ j (h1 : j < its.toArray.size) (h2 : j < its'.toArray.size), EqAt A.in1 s its.toArray[j] its'.toArray[j] (eqN n (l.getD j .non) (m.getD j .non) == some true)) := by
      intro l m xs ys its its' c fl1 fl2 ra rb va vb e j j1 j2
      have k1 : j < its.length := by simpa using j1
      have k2 : j < its'.length := by simpa using j2
      have k3 : j < l.length := by rw [← ra.length, va.length]; exact k1
      have k4 : j < m.length := by rw [← rb.length, vb.length]; exact k2
      obtain ⟨x', e1, r1⟩ := ra.get (List.getElem?_eq_getElem k3)
      obtain ⟨y', e2, r2⟩ := rb.get (List.getElem?_eq_getElem k4)
      obtain ⟨v', e3, r3⟩ := va.get e1
      obtain ⟨u', e4, r4⟩ := vb.get e2
      obtain ⟨c', e5⟩ := (eqZ_some e).1 j _ _ (List.getElem?_eq_getElem k3) (List.getElem?_eq_getElem k4)
      have z1 : its.toArray[j] = v' := by
        have := List.getElem?_eq_some_iff.mp e3
        simpa using this.2
      have z2 : its'.toArray[j] = u' := by
        have := List.getElem?_eq_some_iff.mp e4
        simpa using this.2
      rw [z1, z2]
      have z3 : (eqN n (l.getD j .non) (m.getD j .non) == some true) = c' := by
        rw [List.getD_eq_getElem?_getD, List.getD_eq_getElem?_getD, List.getElem?_eq_getElem k3, List.getElem?_eq_getElem k4]
        exact beq_some_true e5
      rw [z3]
      exact ih _ _ _ _ _ _ _ (noDs_get fl1 (List.getElem?_eq_getElem k3)) (noDs_get fl2 (List.getElem?_eq_getElem k4)) r1 r2 r3 r4 e5 A.in1 hu1
    cases d with
    | tup l =>
      obtain ⟨a, xs, rfl, ha, ra⟩ := h1
      cases rx
      obtain ⟨its, va, ta, _⟩ := I.tuple (SqT.of ha)
      cases e with
      | tup m =>
        have h2' := h2
        obtain ⟨a', ys, rfl, hb, rb⟩ := h2
        cases ry
        by_cases same : a = a'
        · subst same
          have : b = true := eqN_same I.hok (n + 1) (.tup l) (.tup m) (.ref a) b ⟨a, xs, rfl, ha, ra⟩ h2' q
          subst this
          exact SeqAt.EqAt.same _
        obtain ⟨its', vb, tb, _⟩ := I.tuple (SqT.of hb)
        unfold eqN eqLs at q
        split at q
        rotate_left
        · cases q
        rename_i c e1
        cases q
        refine SeqAt.EqAt.of_refs same fun P w E Q hq => SeqAt.RcAt.tuples (show s.heap.IsTuple a its.toArray from ta) (show s.heap.IsTuple a' its'.toArray from tb) hu0 (items fd fe ra rb va vb e1) P w E Q ?_
        have z := (eqZ_some e1).2
        have s1 : its.toArray.size = l.length := by rw [List.size_toArray, ← va.length, ra.length]
        have s2 : its'.toArray.size = m.length := by rw [List.size_toArray, ← vb.length, rb.length]
        rw [s1, s2, ← z, ← nbeq]
        exact hq
      | lst m =>
        obtain ⟨a', ys, rfl, hb, rb⟩ := h2
        cases ry
        obtain ⟨its', vb, tb, _⟩ := I.list (SqL.of hb)
        cases q
        exact SeqAt.EqAt.tuple_list ta tb.isList hu0
      | non => cases h2; cases ry; cases q; exact SeqAt.EqAt.tuple_none ta hu0
      | bl c => cases h2; cases ry; cases q; exact SeqAt.EqAt.tuple_bool c ta hu0
      | int c => cases h2; obtain ⟨t, rfl⟩ := ry; cases q; exact SeqAt.EqAt.tuple_int c t ta hu0
      | str c => obtain ⟨rfl, _⟩ := h2; obtain ⟨t, rfl⟩ := ry; cases q; exact SeqAt.EqAt.tuple_str _ t ta hu0
      | dct _ _ => cases q
      | set _ => cases q
      | drw => cases q
      | cel _ => cases q
    | lst l =>
      obtain ⟨a, xs, rfl, ha, ra⟩ := h1
      cases rx
      obtain ⟨its, va, ta, _⟩ := I.list (SqL.of ha)
      cases e with
      | lst m =>
        have h2' := h2
        obtain ⟨a', ys, rfl, hb, rb⟩ := h2
        cases ry
        by_cases same : a = a'
        · subst same
          have : b = true := eqN_same I.hok (n + 1) (.lst l) (.lst m) (.ref a) b ⟨a, xs, rfl, ha, ra⟩ h2' q
          subst this
          exact SeqAt.EqAt.same _
        obtain ⟨its', vb, tb, _⟩ := I.list (SqL.of hb)
        have s1 : its.toArray.size = l.length := by rw [List.size_toArray, ← va.length, ra.length]
        have s2 : its'.toArray.size = m.length := by rw [List.size_toArray, ← vb.length, rb.length]
        unfold eqN at q
        by_cases hl : l.length = m.length
        · have hl' : Nat.beq l.length m.length = true := by rw [hl]; exact Nat.beq_refl _
          rw [hl'] at q
          change eqLs _ _ _ = _ at q
          unfold eqLs at q
          split at q
          rotate_left
          · cases q
          rename_i c e1
          rw [hl', Bool.and_true] at q
          cases q
          refine SeqAt.EqAt.of_refs same fun P w E Q hq => SeqAt.RcAt.lists ta.isList tb.isList (by rw [s1, s2, hl]) hu0 (items fd fe ra rb va vb e1) P w E Q ?_
          have z := (eqZ_some e1).2
          rw [← hl, Nat.min_self] at z
          rw [s1, ← z]
          exact hq
        · have hl' : Nat.beq l.length m.length = false := by
            cases c : Nat.beq l.length m.length with
            | false => rfl
            | true => exact absurd (Nat.eq_of_beq_eq_true c) hl
          rw [hl'] at q
          cases q
          exact SeqAt.EqAt.of_refs same (SeqAt.RcAt.lists_lengths ta.isList tb.isList (by rw [s1, s2]; simpa using hl) hu0)
      | tup m =>
        obtain ⟨a', ys, rfl, hb, rb⟩ := h2
        cases ry
        obtain ⟨its', vb, tb, _⟩ := I.tuple (SqT.of hb)
        cases q
        exact SeqAt.EqAt.list_tuple ta.isList tb hu0
      | non => cases h2; cases ry; cases q; exact SeqAt.EqAt.list_none ta.isList hu0
      | bl c => cases h2; cases ry; cases q; exact SeqAt.EqAt.list_bool c ta.isList hu0
      | int c => cases h2; obtain ⟨t, rfl⟩ := ry; cases q; exact SeqAt.EqAt.list_int c t ta.isList hu0
      | str c => obtain ⟨rfl, _⟩ := h2; obtain ⟨t, rfl⟩ := ry; cases q; exact SeqAt.EqAt.list_str _ t ta.isList hu0
      | dct _ _ => cases q
      | set _ => cases q
      | drw => cases q
      | cel _ => cases q
    | dct ks vs => cases fd
    | non =>
      cases h1; cases rx
      cases e with
      | tup m => obtain ⟨a', ys, rfl, hb, rb⟩ := h2; cases ry; obtain ⟨its', vb, tb, _⟩ := I.tuple (SqT.of hb); cases q; exact SeqAt.EqAt.none_tuple tb hu0
      | lst m => obtain ⟨a', ys, rfl, hb, rb⟩ := h2; cases ry; obtain ⟨its', vb, tb, _⟩ := I.list (SqL.of hb); cases q; exact SeqAt.EqAt.none_list tb.isList hu0
      | non => exact absurd ⟨rfl, rfl⟩ fl
      | bl _ => exact absurd ⟨rfl, rfl⟩ fl
      | int _ => exact absurd ⟨rfl, rfl⟩ fl
      | str _ => exact absurd ⟨rfl, rfl⟩ fl
      | dct _ _ => cases q
      | set _ => cases q
      | drw => cases q
      | cel _ => cases q
    | bl c =>
      cases h1; cases rx
      cases e with
      | tup m => obtain ⟨a', ys, rfl, hb, rb⟩ := h2; cases ry; obtain ⟨its', vb, tb, _⟩ := I.tuple (SqT.of hb); cases q; exact SeqAt.EqAt.bool_tuple c tb hu0
      | lst m => obtain ⟨a', ys, rfl, hb, rb⟩ := h2; cases ry; obtain ⟨its', vb, tb, _⟩ := I.list (SqL.of hb); cases q; exact SeqAt.EqAt.bool_list c tb.isList hu0
      | non => exact absurd ⟨rfl, rfl⟩ fl
      | bl _ => exact absurd ⟨rfl, rfl⟩ fl
      | int _ => exact absurd ⟨rfl, rfl⟩ fl
      | str _ => exact absurd ⟨rfl, rfl⟩ fl
      | dct _ _ => cases q
      | set _ => cases q
      | drw => cases q
      | cel _ => cases q
    | int c =>
      cases h1
      obtain ⟨t, rfl⟩ := rx
      cases e with
      | tup m => obtain ⟨a', ys, rfl, hb, rb⟩ := h2; cases ry; obtain ⟨its', vb, tb, _⟩ := I.tuple (SqT.of hb); cases q; exact SeqAt.EqAt.int_tuple c t tb hu0
      | lst m => obtain ⟨a', ys, rfl, hb, rb⟩ := h2; cases ry; obtain ⟨its', vb, tb, _⟩ := I.list (SqL.of hb); cases q; exact SeqAt.EqAt.int_list c t tb.isList hu0
      | non => exact absurd ⟨rfl, rfl⟩ fl
      | bl _ => exact absurd ⟨rfl, rfl⟩ fl
      | int _ => exact absurd ⟨rfl, rfl⟩ fl
      | str _ => exact absurd ⟨rfl, rfl⟩ fl
      | dct _ _ => cases q
      | set _ => cases q
      | drw => cases q
      | cel _ => cases q
    | str c =>
      obtain ⟨rfl, _⟩ := h1
      obtain ⟨t, rfl⟩ := rx
      cases e with
      | tup m => obtain ⟨a', ys, rfl, hb, rb⟩ := h2; cases ry; obtain ⟨its', vb, tb, _⟩ := I.tuple (SqT.of hb); cases q; exact SeqAt.EqAt.str_tuple _ t tb hu0
      | lst m => obtain ⟨a', ys, rfl, hb, rb⟩ := h2; cases ry; obtain ⟨its', vb, tb, _⟩ := I.list (SqL.of hb); cases q; exact SeqAt.EqAt.str_list _ t tb.isList hu0
      | non => exact absurd ⟨rfl, rfl⟩ fl
      | bl _ => exact absurd ⟨rfl, rfl⟩ fl
      | int _ => exact absurd ⟨rfl, rfl⟩ fl
      | str _ => exact absurd ⟨rfl, rfl⟩ fl
      | dct _ _ => cases q
      | set _ => cases q
      | drw => cases q
      | cel _ => cases q
    | set _ => cases e <;> cases q
    | drw => cases e <;> cases q
    | cel _ => cases e <;> cases q
end
end W
/-! W8: == and != of data as operators. -/
namespace W
open PySem L2
open PySem.SeqAt (EqIn EqAt rcIn_lists rcIn_tuples)
/-- a comparison of data, by values -/
def rC (g : Gd) (op : D → D → Option Bool) : R2 := fun x y H Q => ∃ (f : Fm) (ca A : List Addr) (d e : D) (b : Bool), Here g f ca A H ∧ RepK g f ca A H false d x ∧ RepK g f ca A H false e y ∧ op d e = some b ∧ Q (.bl b) H
section
variable {X : Cx} {pins : List (Addr × Obj)} {σ : St} {H : Hp} {s : Shared} {dA : Addr} {ca : List Addr}
theorem eq_items (I : Inv X pins σ H s) (n : Nat) {A : Around} (hu : A.units + n < cLine) {l m : List D} {xs ys : List V} {its its' : List Value} {c : Bool} (ra : Reps dA ca H l xs) (rb : Reps dA ca H m ys) (va : Vals xs its) (vb : Vals ys its') (e : eqZ (eqN n) l m = some c) :
    ∀ j (h1 : j < its.toArray.size) (h2 : j < its'.toArray.size), EqIn X.prog X.w A s its.toArray[j] its'.toArray[j] (eqN n (l.getD j .non) (m.getD j .non) == some true) := by
  intro j j1 j2
  have k1 : j < its.length := by simpa using j1
  have k2 : j < its'.length := by simpa using j2
  have k3 : j < l.length := by rw [← ra.length, va.length]; exact k1
  have k4 : j < m.length := by rw [← rb.length, vb.length]; exact k2
  obtain ⟨x', e1, r1⟩ := ra.get (List.getElem?_eq_getElem k3)
  obtain ⟨y', e2, r2⟩ := rb.get (List.getElem?_eq_getElem k4)
  obtain ⟨v', e3, r3⟩ := va.get e1
  obtain ⟨u', e4, r4⟩ := vb.get e2
  obtain ⟨c', e5⟩ := (eqZ_some e).1 j _ _ (List.getElem?_eq_getElem k3) (List.getElem?_eq_getElem k4)
  have z1 : its.toArray[j] = v' := by
    have := List.getElem?_eq_some_iff.mp e3
    simpa using this.2
  have z2 : its'.toArray[j] = u' := by
    have := List.getElem?_eq_some_iff.mp e4
    simpa using this.2
  rw [z1, z2]
  have z3 : (eqN n (l.getD j .non) (m.getD j .non) == some true) = c' := by
    rw [List.getD_eq_getElem?_getD, List.getD_eq_getElem?_getD, List.getElem?_eq_getElem k3, List.getElem?_eq_getElem k4]
    exact beq_some_true e5
  rw [z3]
  exact eq_in I n _ _ _ _ _ _ _ r1 r2 r3 r4 e5 A hu
theorem eq_itemsA (I : Inv X pins σ H s) (n : Nat) {A : Around} (hu : A.units + n < cLine) {l m : List D} {xs ys : List V} {its its' : List Value} {c : Bool} (f1 : noDs l = true) (f2 : noDs m = true) (ra : Reps dA ca H l xs) (rb : Reps dA ca H m ys) (va : Vals xs its) (vb : Vals ys its') (e : eqZ (eqN n) l m = some c) :
    ∀ j (h1 : j < its.toArray.size) (h2 : j < its'.toArray.size), EqAt A s its.toArray[j] its'.toArray[j] (eqN n (l.getD j .non) (m.getD j .non) == some true) := by
  intro j j1 j2
  have k1 : j < its.length := by simpa using j1
  have k2 : j < its'.length := by simpa using j2
  have k3 : j < l.length := by rw [← ra.length, va.length]; exact k1
  have k4 : j < m.length := by rw [← rb.length, vb.length]; exact k2
  obtain ⟨x', e1, r1⟩ := ra.get (List.getElem?_eq_getElem k3)
  obtain ⟨y', e2, r2⟩ := rb.get (List.getElem?_eq_getElem k4)
  obtain ⟨v', e3, r3⟩ := va.get e1
  obtain ⟨u', e4, r4⟩ := vb.get e2
  obtain ⟨c', e5⟩ := (eqZ_some e).1 j _ _ (List.getElem?_eq_getElem k3) (List.getElem?_eq_getElem k4)
  have z1 : its.toArray[j] = v' := by
    have := List.getElem?_eq_some_iff.mp e3
    simpa using this.2
  have z2 : its'.toArray[j] = u' := by
    have := List.getElem?_eq_some_iff.mp e4
    simpa using this.2
  rw [z1, z2]
  have z3 : (eqN n (l.getD j .non) (m.getD j .non) == some true) = c' := by
    rw [List.getD_eq_getElem?_getD, List.getD_eq_getElem?_getD, List.getElem?_eq_getElem k3, List.getElem?_eq_getElem k4]
    exact beq_some_true e5
  rw [z3]
  exact eq_at I n _ _ _ _ _ _ _ (noDs_get f1 (List.getElem?_eq_getElem k3)) (noDs_get f2 (List.getElem?_eq_getElem k4)) r1 r2 r3 r4 e5 A hu
theorem rc_eq (I : Inv X pins σ H s) (hu : X.A.units + 12 < cLine) {d e : D} {x y : V} {v u : Value} {b : Bool} (h1 : Rep dA ca H d x) (h2 : Rep dA ca H e y) (rx : RelV x v) (ry : RelV y u) (q : Cop.run .eq d e = some b) {E : Value → Shared → Prop} {Q : Value → Shared → Prop} (hq : Q (.bool b) s) :
    wpAny (model X.prog X.w) X.A (compareOp (opNe false) v u) Q E s := by
  have hu0 : X.A.units < cLine := by omega
  have q1 : D.eq d e = some b := q
  clear q
  unfold D.eq at q1
  cases d with
  | non  =>
    cases h1; cases rx
    cases e with
    | non  =>
      cases h2; cases ry
      cases q1
      exact SeqAt.RcAt.none_none _ _ E Q hq
    | bl c' =>
      cases h2; cases ry
      cases q1
      exact SeqAt.RcAt.none_bool c' _ _ E Q hq
    | int i' =>
      cases h2; obtain ⟨t2, rfl⟩ := ry
      cases q1
      exact SeqAt.RcAt.none_int i' t2 _ _ E Q hq
    | str c' =>
      obtain ⟨rfl, _⟩ := h2; obtain ⟨t2, rfl⟩ := ry
      cases q1
      exact SeqAt.RcAt.none_str _ t2 _ _ E Q hq
    | tup m =>
      obtain ⟨a', ys, rfl, hb, rb⟩ := h2; cases ry; obtain ⟨its', vb, tb, _⟩ := I.tuple (SqT.of hb)
      cases q1
      exact SeqAt.RcAt.none_tuple tb hu0 _ _ E Q hq
    | lst m =>
      obtain ⟨a', ys, rfl, hb, rb⟩ := h2; cases ry; obtain ⟨its', vb, tb, _⟩ := I.list (SqL.of hb)
      cases q1
      exact SeqAt.RcAt.none_list tb.isList hu0 _ _ E Q hq
    | dct _ _ => cases q1
    | set _ => cases q1
    | drw => cases q1
    | cel _ => cases q1
  | bl c =>
    cases h1; cases rx
    cases e with
    | non  =>
      cases h2; cases ry
      cases q1
      exact SeqAt.RcAt.bool_none c _ _ E Q hq
    | bl c' =>
      cases h2; cases ry
      cases q1
      exact SeqAt.RcAt.bool_bool c c' _ _ E Q hq
    | int i' =>
      cases h2; obtain ⟨t2, rfl⟩ := ry
      have z : b = ((if c then 1 else 0) == i') := by cases q1; cases c <;> exact eqI_beq
      subst z
      exact SeqAt.RcAt.bool_int c i' t2 _ _ E Q hq
    | str c' =>
      obtain ⟨rfl, _⟩ := h2; obtain ⟨t2, rfl⟩ := ry
      cases q1
      exact SeqAt.RcAt.bool_str c _ t2 _ _ E Q hq
    | tup m =>
      obtain ⟨a', ys, rfl, hb, rb⟩ := h2; cases ry; obtain ⟨its', vb, tb, _⟩ := I.tuple (SqT.of hb)
      cases q1
      exact SeqAt.RcAt.bool_tuple c tb hu0 _ _ E Q hq
    | lst m =>
      obtain ⟨a', ys, rfl, hb, rb⟩ := h2; cases ry; obtain ⟨its', vb, tb, _⟩ := I.list (SqL.of hb)
      cases q1
      exact SeqAt.RcAt.bool_list c tb.isList hu0 _ _ E Q hq
    | dct _ _ => cases q1
    | set _ => cases q1
    | drw => cases q1
    | cel _ => cases q1
  | int i =>
    cases h1; obtain ⟨t1, rfl⟩ := rx
    cases e with
    | non  =>
      cases h2; cases ry
      cases q1
      exact SeqAt.RcAt.int_none i t1 _ _ E Q hq
    | bl c' =>
      cases h2; cases ry
      have z : b = (i == (if c' then 1 else 0)) := by cases q1; cases c' <;> exact eqI_beq
      subst z
      exact SeqAt.RcAt.int_bool i t1 c' _ _ E Q hq
    | int i' =>
      cases h2; obtain ⟨t2, rfl⟩ := ry
      have z : b = (i == i') := by cases q1; exact eqI_beq
      subst z
      exact SeqAt.RcAt.int_int i t1 i' t2 _ _ E Q hq
    | str c' =>
      obtain ⟨rfl, _⟩ := h2; obtain ⟨t2, rfl⟩ := ry
      cases q1
      exact SeqAt.RcAt.int_str i t1 _ t2 _ _ E Q hq
    | tup m =>
      obtain ⟨a', ys, rfl, hb, rb⟩ := h2; cases ry; obtain ⟨its', vb, tb, _⟩ := I.tuple (SqT.of hb)
      cases q1
      exact SeqAt.RcAt.int_tuple i t1 tb hu0 _ _ E Q hq
    | lst m =>
      obtain ⟨a', ys, rfl, hb, rb⟩ := h2; cases ry; obtain ⟨its', vb, tb, _⟩ := I.list (SqL.of hb)
      cases q1
      exact SeqAt.RcAt.int_list i t1 tb.isList hu0 _ _ E Q hq
    | dct _ _ => cases q1
    | set _ => cases q1
    | drw => cases q1
    | cel _ => cases q1
  | str c =>
    obtain ⟨rfl, _⟩ := h1; obtain ⟨t1, rfl⟩ := rx
    cases e with
    | non  =>
      cases h2; cases ry
      cases q1
      exact SeqAt.RcAt.str_none _ t1 _ _ E Q hq
    | bl c' =>
      cases h2; cases ry
      cases q1
      exact SeqAt.RcAt.str_bool _ t1 c' _ _ E Q hq
    | int i' =>
      cases h2; obtain ⟨t2, rfl⟩ := ry
      cases q1
      exact SeqAt.RcAt.str_int _ t1 i' t2 _ _ E Q hq
    | str c' =>
      obtain ⟨rfl, _⟩ := h2; obtain ⟨t2, rfl⟩ := ry
      have z : b = ((⟨c.toArray⟩ : Str) == ⟨c'.toArray⟩) := by cases q1; exact eqL_beq
      subst z
      exact SeqAt.RcAt.str_str _ t1 _ t2 _ _ E Q hq
    | tup m =>
      obtain ⟨a', ys, rfl, hb, rb⟩ := h2; cases ry; obtain ⟨its', vb, tb, _⟩ := I.tuple (SqT.of hb)
      cases q1
      exact SeqAt.RcAt.str_tuple _ t1 tb hu0 _ _ E Q hq
    | lst m =>
      obtain ⟨a', ys, rfl, hb, rb⟩ := h2; cases ry; obtain ⟨its', vb, tb, _⟩ := I.list (SqL.of hb)
      cases q1
      exact SeqAt.RcAt.str_list _ t1 tb.isList hu0 _ _ E Q hq
    | dct _ _ => cases q1
    | set _ => cases q1
    | drw => cases q1
    | cel _ => cases q1
  | tup l =>
    obtain ⟨a, xs, rfl, ha, ra⟩ := h1; cases rx; obtain ⟨its, va, ta, _⟩ := I.tuple (SqT.of ha)
    cases e with
    | non  =>
      cases h2; cases ry
      cases q1
      exact SeqAt.RcAt.tuple_none ta hu0 _ _ E Q hq
    | bl c' =>
      cases h2; cases ry
      cases q1
      exact SeqAt.RcAt.tuple_bool c' ta hu0 _ _ E Q hq
    | int i' =>
      cases h2; obtain ⟨t2, rfl⟩ := ry
      cases q1
      exact SeqAt.RcAt.tuple_int i' t2 ta hu0 _ _ E Q hq
    | str c' =>
      obtain ⟨rfl, _⟩ := h2; obtain ⟨t2, rfl⟩ := ry
      cases q1
      exact SeqAt.RcAt.tuple_str _ t2 ta hu0 _ _ E Q hq
    | tup m =>
      obtain ⟨a', ys, rfl, hb, rb⟩ := h2; cases ry; obtain ⟨its', vb, tb, _⟩ := I.tuple (SqT.of hb)
      unfold eqN eqLs at q1
      split at q1
      rotate_left
      · cases q1
      rename_i c0 e1
      cases q1
      have z := (eqZ_some e1).2
      have s1 : its.toArray.size = l.length := by rw [List.size_toArray, ← va.length, ra.length]
      have s2 : its'.toArray.size = m.length := by rw [List.size_toArray, ← vb.length, rb.length]
      refine rcIn_tuples (show s.heap.IsTuple a its.toArray from ta) (show s.heap.IsTuple a' its'.toArray from tb) hu0 (eq_items I 8 (A := X.A.in1) (by show X.A.units + 1 + 8 < cLine; omega) ra rb va vb e1) ?_
      rw [s1, s2, ← z, ← nbeq]
      exact hq
    | lst m =>
      obtain ⟨a', ys, rfl, hb, rb⟩ := h2; cases ry; obtain ⟨its', vb, tb, _⟩ := I.list (SqL.of hb)
      cases q1
      exact SeqAt.RcAt.tuple_list ta tb.isList hu0 _ _ E Q hq
    | dct _ _ => cases q1
    | set _ => cases q1
    | drw => cases q1
    | cel _ => cases q1
  | lst l =>
    obtain ⟨a, xs, rfl, ha, ra⟩ := h1; cases rx; obtain ⟨its, va, ta, _⟩ := I.list (SqL.of ha)
    cases e with
    | non  =>
      cases h2; cases ry
      cases q1
      exact SeqAt.RcAt.list_none ta.isList hu0 _ _ E Q hq
    | bl c' =>
      cases h2; cases ry
      cases q1
      exact SeqAt.RcAt.list_bool c' ta.isList hu0 _ _ E Q hq
    | int i' =>
      cases h2; obtain ⟨t2, rfl⟩ := ry
      cases q1
      exact SeqAt.RcAt.list_int i' t2 ta.isList hu0 _ _ E Q hq
    | str c' =>
      obtain ⟨rfl, _⟩ := h2; obtain ⟨t2, rfl⟩ := ry
      cases q1
      exact SeqAt.RcAt.list_str _ t2 ta.isList hu0 _ _ E Q hq
    | tup m =>
      obtain ⟨a', ys, rfl, hb, rb⟩ := h2; cases ry; obtain ⟨its', vb, tb, _⟩ := I.tuple (SqT.of hb)
      cases q1
      exact SeqAt.RcAt.list_tuple ta.isList tb hu0 _ _ E Q hq
    | lst m =>
      obtain ⟨a', ys, rfl, hb, rb⟩ := h2; cases ry; obtain ⟨its', vb, tb, _⟩ := I.list (SqL.of hb)
      have s1 : its.toArray.size = l.length := by rw [List.size_toArray, ← va.length, ra.length]
      have s2 : its'.toArray.size = m.length := by rw [List.size_toArray, ← vb.length, rb.length]
      unfold eqN at q1
      by_cases hl : l.length = m.length
      · have hl' : Nat.beq l.length m.length = true := by rw [hl]; exact Nat.beq_refl _
        rw [hl'] at q1
        change eqLs _ _ _ = _ at q1
        unfold eqLs at q1
        split at q1
        rotate_left
        · cases q1
        rename_i c0 e1
        rw [hl', Bool.and_true] at q1
        cases q1
        have z := (eqZ_some e1).2
        rw [← hl, Nat.min_self] at z
        refine rcIn_lists ta.isList tb.isList (by rw [s1, s2, hl]) hu0 (eq_items I 8 (A := X.A.in1) (by show X.A.units + 1 + 8 < cLine; omega) ra rb va vb e1) ?_
        rw [s1, ← z]
        exact hq
      · have hl' : Nat.beq l.length m.length = false := by
          cases c0 : Nat.beq l.length m.length with
          | false => rfl
          | true => exact absurd (Nat.eq_of_beq_eq_true c0) hl
        rw [hl'] at q1
        cases q1
        exact SeqAt.RcAt.lists_lengths ta.isList tb.isList (by rw [s1, s2]; simpa using hl) hu0 _ _ E Q hq
    | dct _ _ => cases q1
    | set _ => cases q1
    | drw => cases q1
    | cel _ => cases q1
  | dct ks vs =>
    cases e with
    | dct ks' vs' =>
      refine rc_dct false I (n := 8) (fun d e x y v u b z1 z2 z3 z4 z5 => eq_in I 8 d e x y v u b z1 z2 z3 z4 z5 X.A.in1 (by show X.A.units + 1 + 8 < cLine; omega)) (by omega) h1 h2 rx ry q1 ?_
      rw [Bool.bne_false]; exact hq
    | non => cases q1
    | bl _ => cases q1
    | int _ => cases q1
    | str _ => cases q1
    | tup _ => cases q1
    | lst _ => cases q1
    | set _ => cases q1
    | drw => cases q1
    | cel _ => cases q1
  | set _ => cases e <;> cases q1
  | drw => cases e <;> cases q1
  | cel _ => cases e <;> cases q1
theorem rc_ne (I : Inv X pins σ H s) (hu : X.A.units + 12 < cLine) {d e : D} {x y : V} {v u : Value} {b : Bool} (h1 : Rep dA ca H d x) (h2 : Rep dA ca H e y) (rx : RelV x v) (ry : RelV y u) (q : Cop.run .ne d e = some b) {E : Value → Shared → Prop} {Q : Value → Shared → Prop} (hq : Q (.bool b) s) :
    wpAny (model X.prog X.w) X.A (compareOp (opNe true) v u) Q E s := by
  have hu0 : X.A.units < cLine := by omega
  change (bif bothD d e || (noD d && noD e) then notO (D.eq d e) else none) = some b at q
  cases hc : bothD d e || (noD d && noD e) with
  | false => rw [hc] at q; cases q
  | true =>
  rw [hc] at q
  change notO (D.eq d e) = some b at q
  cases q1 : D.eq d e with
  | none => rw [q1] at q; cases q
  | some b' =>
  rw [q1] at q
  cases q
  unfold D.eq at q1
  cases d with
  | non  =>
    cases h1; cases rx
    cases e with
    | non  =>
      cases h2; cases ry
      cases q1
      exact SeqAt.RcNeAt.none_none _ _ E Q hq
    | bl c' =>
      cases h2; cases ry
      cases q1
      exact SeqAt.RcNeAt.none_bool c' _ _ E Q hq
    | int i' =>
      cases h2; obtain ⟨t2, rfl⟩ := ry
      cases q1
      exact SeqAt.RcNeAt.none_int i' t2 _ _ E Q hq
    | str c' =>
      obtain ⟨rfl, _⟩ := h2; obtain ⟨t2, rfl⟩ := ry
      cases q1
      exact SeqAt.RcNeAt.none_str _ t2 _ _ E Q hq
    | tup m =>
      obtain ⟨a', ys, rfl, hb, rb⟩ := h2; cases ry; obtain ⟨its', vb, tb, _⟩ := I.tuple (SqT.of hb)
      cases q1
      exact SeqAt.RcNeAt.none_tuple tb hu0 _ _ E Q hq
    | lst m =>
      obtain ⟨a', ys, rfl, hb, rb⟩ := h2; cases ry; obtain ⟨its', vb, tb, _⟩ := I.list (SqL.of hb)
      cases q1
      exact SeqAt.RcNeAt.none_list tb.isList hu0 _ _ E Q hq
    | dct _ _ => cases q1
    | set _ => cases q1
    | drw => cases q1
    | cel _ => cases q1
  | bl c =>
    cases h1; cases rx
    cases e with
    | non  =>
      cases h2; cases ry
      cases q1
      exact SeqAt.RcNeAt.bool_none c _ _ E Q hq
    | bl c' =>
      cases h2; cases ry
      cases q1
      exact SeqAt.RcNeAt.bool_bool c c' _ _ E Q hq
    | int i' =>
      cases h2; obtain ⟨t2, rfl⟩ := ry
      have z : b' = ((if c then 1 else 0) == i') := by cases q1; cases c <;> exact eqI_beq
      subst z
      exact SeqAt.RcNeAt.bool_int c i' t2 _ _ E Q hq
    | str c' =>
      obtain ⟨rfl, _⟩ := h2; obtain ⟨t2, rfl⟩ := ry
      cases q1
      exact SeqAt.RcNeAt.bool_str c _ t2 _ _ E Q hq
    | tup m =>
      obtain ⟨a', ys, rfl, hb, rb⟩ := h2; cases ry; obtain ⟨its', vb, tb, _⟩ := I.tuple (SqT.of hb)
      cases q1
      exact SeqAt.RcNeAt.bool_tuple c tb hu0 _ _ E Q hq
    | lst m =>
      obtain ⟨a', ys, rfl, hb, rb⟩ := h2; cases ry; obtain ⟨its', vb, tb, _⟩ := I.list (SqL.of hb)
      cases q1
      exact SeqAt.RcNeAt.bool_list c tb.isList hu0 _ _ E Q hq
    | dct _ _ => cases q1
    | set _ => cases q1
    | drw => cases q1
    | cel _ => cases q1
  | int i =>
    cases h1; obtain ⟨t1, rfl⟩ := rx
    cases e with
    | non  =>
      cases h2; cases ry
      cases q1
      exact SeqAt.RcNeAt.int_none i t1 _ _ E Q hq
    | bl c' =>
      cases h2; cases ry
      have z : b' = (i == (if c' then 1 else 0)) := by cases q1; cases c' <;> exact eqI_beq
      subst z
      exact SeqAt.RcNeAt.int_bool i t1 c' _ _ E Q hq
    | int i' =>
      cases h2; obtain ⟨t2, rfl⟩ := ry
      have z : b' = (i == i') := by cases q1; exact eqI_beq
      subst z
      exact SeqAt.RcNeAt.int_int i t1 i' t2 _ _ E Q hq
    | str c' =>
      obtain ⟨rfl, _⟩ := h2; obtain ⟨t2, rfl⟩ := ry
      cases q1
      exact SeqAt.RcNeAt.int_str i t1 _ t2 _ _ E Q hq
    | tup m =>
      obtain ⟨a', ys, rfl, hb, rb⟩ := h2; cases ry; obtain ⟨its', vb, tb, _⟩ := I.tuple (SqT.of hb)
      cases q1
      exact SeqAt.RcNeAt.int_tuple i t1 tb hu0 _ _ E Q hq
    | lst m =>
      obtain ⟨a', ys, rfl, hb, rb⟩ := h2; cases ry; obtain ⟨its', vb, tb, _⟩ := I.list (SqL.of hb)
      cases q1
      exact SeqAt.RcNeAt.int_list i t1 tb.isList hu0 _ _ E Q hq
    | dct _ _ => cases q1
    | set _ => cases q1
    | drw => cases q1
    | cel _ => cases q1
  | str c =>
    obtain ⟨rfl, _⟩ := h1; obtain ⟨t1, rfl⟩ := rx
    cases e with
    | non  =>
      cases h2; cases ry
      cases q1
      exact SeqAt.RcNeAt.str_none _ t1 _ _ E Q hq
    | bl c' =>
      cases h2; cases ry
      cases q1
      exact SeqAt.RcNeAt.str_bool _ t1 c' _ _ E Q hq
    | int i' =>
      cases h2; obtain ⟨t2, rfl⟩ := ry
      cases q1
      exact SeqAt.RcNeAt.str_int _ t1 i' t2 _ _ E Q hq
    | str c' =>
      obtain ⟨rfl, _⟩ := h2; obtain ⟨t2, rfl⟩ := ry
      have z : b' = ((⟨c.toArray⟩ : Str) == ⟨c'.toArray⟩) := by cases q1; exact eqL_beq
      subst z
      exact SeqAt.RcNeAt.str_str _ t1 _ t2 _ _ E Q hq
    | tup m =>
      obtain ⟨a', ys, rfl, hb, rb⟩ := h2; cases ry; obtain ⟨its', vb, tb, _⟩ := I.tuple (SqT.of hb)
      cases q1
      exact SeqAt.RcNeAt.str_tuple _ t1 tb hu0 _ _ E Q hq
    | lst m =>
      obtain ⟨a', ys, rfl, hb, rb⟩ := h2; cases ry; obtain ⟨its', vb, tb, _⟩ := I.list (SqL.of hb)
      cases q1
      exact SeqAt.RcNeAt.str_list _ t1 tb.isList hu0 _ _ E Q hq
    | dct _ _ => cases q1
    | set _ => cases q1
    | drw => cases q1
    | cel _ => cases q1
  | tup l =>
    obtain ⟨a, xs, rfl, ha, ra⟩ := h1; cases rx; obtain ⟨its, va, ta, _⟩ := I.tuple (SqT.of ha)
    cases e with
    | non  =>
      cases h2; cases ry
      cases q1
      exact SeqAt.RcNeAt.tuple_none ta hu0 _ _ E Q hq
    | bl c' =>
      cases h2; cases ry
      cases q1
      exact SeqAt.RcNeAt.tuple_bool c' ta hu0 _ _ E Q hq
    | int i' =>
      cases h2; obtain ⟨t2, rfl⟩ := ry
      cases q1
      exact SeqAt.RcNeAt.tuple_int i' t2 ta hu0 _ _ E Q hq
    | str c' =>
      obtain ⟨rfl, _⟩ := h2; obtain ⟨t2, rfl⟩ := ry
      cases q1
      exact SeqAt.RcNeAt.tuple_str _ t2 ta hu0 _ _ E Q hq
    | tup m =>
      obtain ⟨a', ys, rfl, hb, rb⟩ := h2; cases ry; obtain ⟨its', vb, tb, _⟩ := I.tuple (SqT.of hb)
      unfold eqN eqLs at q1
      split at q1
      rotate_left
      · cases q1
      rename_i c0 e1
      cases q1
      have z := (eqZ_some e1).2
      have s1 : its.toArray.size = l.length := by rw [List.size_toArray, ← va.length, ra.length]
      have s2 : its'.toArray.size = m.length := by rw [List.size_toArray, ← vb.length, rb.length]
      obtain ⟨f1, f2⟩ := Bool.and_eq_true_iff.mp (show (noD (.tup l) && noD (.tup m)) = true from by simpa [bothD] using hc)
      refine SeqAt.RcNeAt.tuples (show s.heap.IsTuple a its.toArray from ta) (show s.heap.IsTuple a' its'.toArray from tb) hu0 (eq_itemsA I 8 (A := X.A.in1) (by show X.A.units + 1 + 8 < cLine; omega) f1 f2 ra rb va vb e1) _ _ E Q ?_
      rw [s1, s2, ← z, ← nbeq]
      exact hq
    | lst m =>
      obtain ⟨a', ys, rfl, hb, rb⟩ := h2; cases ry; obtain ⟨its', vb, tb, _⟩ := I.list (SqL.of hb)
      cases q1
      exact SeqAt.RcNeAt.tuple_list ta tb.isList hu0 _ _ E Q hq
    | dct _ _ => cases q1
    | set _ => cases q1
    | drw => cases q1
    | cel _ => cases q1
  | lst l =>
    obtain ⟨a, xs, rfl, ha, ra⟩ := h1; cases rx; obtain ⟨its, va, ta, _⟩ := I.list (SqL.of ha)
    cases e with
    | non  =>
      cases h2; cases ry
      cases q1
      exact SeqAt.RcNeAt.list_none ta.isList hu0 _ _ E Q hq
    | bl c' =>
      cases h2; cases ry
      cases q1
      exact SeqAt.RcNeAt.list_bool c' ta.isList hu0 _ _ E Q hq
    | int i' =>
      cases h2; obtain ⟨t2, rfl⟩ := ry
      cases q1
      exact SeqAt.RcNeAt.list_int i' t2 ta.isList hu0 _ _ E Q hq
    | str c' =>
      obtain ⟨rfl, _⟩ := h2; obtain ⟨t2, rfl⟩ := ry
      cases q1
      exact SeqAt.RcNeAt.list_str _ t2 ta.isList hu0 _ _ E Q hq
    | tup m =>
      obtain ⟨a', ys, rfl, hb, rb⟩ := h2; cases ry; obtain ⟨its', vb, tb, _⟩ := I.tuple (SqT.of hb)
      cases q1
      exact SeqAt.RcNeAt.list_tuple ta.isList tb hu0 _ _ E Q hq
    | lst m =>
      obtain ⟨a', ys, rfl, hb, rb⟩ := h2; cases ry; obtain ⟨its', vb, tb, _⟩ := I.list (SqL.of hb)
      have s1 : its.toArray.size = l.length := by rw [List.size_toArray, ← va.length, ra.length]
      have s2 : its'.toArray.size = m.length := by rw [List.size_toArray, ← vb.length, rb.length]
      unfold eqN at q1
      by_cases hl : l.length = m.length
      · have hl' : Nat.beq l.length m.length = true := by rw [hl]; exact Nat.beq_refl _
        rw [hl'] at q1
        change eqLs _ _ _ = _ at q1
        unfold eqLs at q1
        split at q1
        rotate_left
        · cases q1
        rename_i c0 e1
        rw [hl', Bool.and_true] at q1
        cases q1
        have z := (eqZ_some e1).2
        rw [← hl, Nat.min_self] at z
        obtain ⟨f1, f2⟩ := Bool.and_eq_true_iff.mp (show (noD (.lst l) && noD (.lst m)) = true from by simpa [bothD] using hc)
        refine SeqAt.RcNeAt.lists ta.isList tb.isList (by rw [s1, s2, hl]) hu0 (eq_itemsA I 8 (A := X.A.in1) (by show X.A.units + 1 + 8 < cLine; omega) f1 f2 ra rb va vb e1) _ _ E Q ?_
        rw [s1, ← z]
        exact hq
      · have hl' : Nat.beq l.length m.length = false := by
          cases c0 : Nat.beq l.length m.length with
          | false => rfl
          | true => exact absurd (Nat.eq_of_beq_eq_true c0) hl
        rw [hl'] at q1
        cases q1
        exact SeqAt.RcNeAt.lists_lengths ta.isList tb.isList (by rw [s1, s2]; simpa using hl) hu0 _ _ E Q hq
    | dct _ _ => cases q1
    | set _ => cases q1
    | drw => cases q1
    | cel _ => cases q1
  | dct ks vs =>
    cases e with
    | dct ks' vs' =>
      refine rc_dct true I (n := 8) (fun d e x y v u b z1 z2 z3 z4 z5 => eq_in I 8 d e x y v u b z1 z2 z3 z4 z5 X.A.in1 (by show X.A.units + 1 + 8 < cLine; omega)) (by omega) h1 h2 rx ry q1 ?_
      rw [Bool.bne_true]; exact hq
    | non => cases q1
    | bl _ => cases q1
    | int _ => cases q1
    | str _ => cases q1
    | tup _ => cases q1
    | lst _ => cases q1
    | set _ => cases q1
    | drw => cases q1
    | cel _ => cases q1
  | set _ => cases e <;> cases q1
  | drw => cases e <;> cases q1
  | cel _ => cases e <;> cases q1
end
section
variable {X : Cx} {g : Gd}
theorem op_eqW (hu : X.A.units + 12 < cLine) : OpR X (compareOp .Eq) (rC g (Cop.run .eq)) := by
  intro pins s σ H x y v u Q I rx ry h
  obtain ⟨f, ca, A, d, e, b, he, h1, h2, h3, q⟩ := h
  exact rc_eq I hu h1.full h2.full rx ry h3 ⟨.bl b, H, I, rfl, q⟩
theorem op_neW (hu : X.A.units + 12 < cLine) : OpR X (compareOp .NotEq) (rC g (Cop.run .ne)) := by
  intro pins s σ H x y v u Q I rx ry h
  obtain ⟨f, ca, A, d, e, b, he, h1, h2, h3, q⟩ := h
  exact rc_ne I hu h1.full h2.full rx ry h3 ⟨.bl b, H, I, rfl, q⟩
end
end W
/-! W9: the other comparisons. -/
namespace W
open PySem L2
open PySem.SeqAt (EqIn EqAt)
theorem ltL_iff : ∀ {s t : List Nat}, ltL s t = decide (s < t)
  | [], [] => by simp [ltL]
  | [], _ :: _ => by simp [ltL]
  | _ :: _, [] => by simp [ltL]
  | a :: s, b :: t => by
    unfold ltL
    cases h : Nat.beq a b with
    | true =>
      have e := Nat.eq_of_beq_eq_true h
      subst e
      show ltL s t = _
      rw [ltL_iff]
      simp
    | false =>
      have n : a ≠ b := Nat.ne_of_beq_eq_false h
      show Nat.blt a b = _
      rw [show Nat.blt a b = decide (a < b) from by rw [Bool.eq_iff_iff, Nat.blt_eq, decide_eq_true_iff]]
      simp [List.cons_lt_cons_iff, n]
theorem isPre_iff : ∀ {s t : List Nat}, isPre s t = true ↔ t.take s.length = s
  | [], t => by simp [isPre]
  | a :: s, [] => by simp [isPre]
  | a :: s, b :: t => by
    unfold isPre
    rw [Bool.and_eq_true, isPre_iff]
    simp only [List.length_cons, List.take_succ_cons, List.cons.injEq]
    constructor
    · rintro ⟨h1, h2⟩
      exact ⟨(Nat.eq_of_beq_eq_true h1).symm, h2⟩
    · rintro ⟨h1, h2⟩
      exact ⟨by rw [h1]; exact Nat.beq_refl _, h2⟩
theorem isSub_iff {s : List Nat} : ∀ {t : List Nat}, isSub s t = true ↔ ∃ i, i + s.length ≤ t.length ∧ isPre s (t.drop i) = true
  | [] => by
    unfold isSub
    constructor
    · intro h
      refine ⟨0, ?_, by simpa using h⟩
      cases s with
      | nil => simp
      | cons _ _ => simp [isPre] at h
    · rintro ⟨i, h1, h2⟩
      simpa using h2
  | a :: t => by
    unfold isSub
    cases h : isPre s (a :: t) with
    | true =>
      refine ⟨fun _ => ⟨0, ?_, by simpa using h⟩, fun _ => rfl⟩
      have := isPre_iff.mp h
      have e := congrArg List.length this
      rw [List.length_take] at e
      omega
    | false =>
      show isSub s t = true ↔ _
      rw [isSub_iff]
      constructor
      · rintro ⟨i, h1, h2⟩
        exact ⟨i + 1, by simp; omega, by simpa using h2⟩
      · rintro ⟨i, h1, h2⟩
        cases i with
        | zero => rw [show List.drop 0 (a :: t) = a :: t from rfl, h] at h2; cases h2
        | succ i => exact ⟨i, by simp at h1; omega, by simpa using h2⟩
theorem subAt_iff {s t : List Nat} {i : Nat} : Builtin.Str.subAt ⟨t.toArray⟩ ⟨s.toArray⟩ i = isPre s (t.drop i) := by
  rw [Bool.eq_iff_iff, isPre_iff]
  unfold Builtin.Str.subAt
  simp only [beq_iff_eq]
  show Array.extract t.toArray i (i + s.toArray.size) = s.toArray ↔ _
  rw [List.size_toArray]
  constructor
  · intro h
    have := congrArg Array.toList h
    simpa [List.extract_eq_drop_take] using this
  · intro h
    apply Array.toList_inj.mp
    simpa [List.extract_eq_drop_take] using h
theorem found_sub (s t : List Nat) : (!(Builtin.Str.occurrences ⟨t.toArray⟩ ⟨s.toArray⟩ 0 (⟨t.toArray⟩ : Str).length 1).isEmpty) = isSub s t := by
  rw [Bool.eq_iff_iff, PySem.StrLaws.found_iff, isSub_iff]
  constructor
  · rintro ⟨i, h1, h2⟩
    exact ⟨i, by simpa [Str.length] using h1, by rw [← subAt_iff]; exact h2⟩
  · rintro ⟨i, h1, h2⟩
    exact ⟨i, by simpa [Str.length] using h1, by rw [subAt_iff]; exact h2⟩
/-! ### one value, one datum -/
mutual
theorem rep_inj {dA : Addr} {ca : List Addr} {H : Hp} : ∀ {d d' : D} {x : V}, noD d = true → noD d' = true → Rep dA ca H d x → Rep dA ca H d' x → d = d'
  | .non, d', x, _, f, h, h' => by
    cases h
    cases d' <;> first | rfl | (cases f; done) | (cases h'; done) | (obtain ⟨z, _⟩ := h'; cases z; done) | (obtain ⟨_, _, z, _⟩ := h'; cases z)
  | .bl b, d', x, _, f, h, h' => by
    cases h
    cases d' <;> first | (cases f; done) | (cases h'; first | done | rfl) | (obtain ⟨z, _⟩ := h'; cases z; done) | (obtain ⟨_, _, z, _⟩ := h'; cases z)
  | .int b, d', x, _, f, h, h' => by
    cases h
    cases d' <;> first | (cases f; done) | (cases h'; first | done | rfl) | (obtain ⟨z, _⟩ := h'; cases z; done) | (obtain ⟨_, _, z, _⟩ := h'; cases z)
  | .str b, d', x, _, f, h, h' => by
    obtain ⟨rfl, _⟩ := h
    cases d' with
    | str c =>
      obtain ⟨z, _⟩ := h'
      injection z with z
      have z2 : b.toArray = c.toArray := congrArg Str.cps z
      have : b = c := by simpa using z2
      rw [this]
    | non => cases h'
    | bl _ => cases h'
    | int _ => cases h'
    | tup _ => obtain ⟨_, _, z, _⟩ := h'; cases z
    | lst _ => obtain ⟨_, _, z, _⟩ := h'; cases z
    | _ => cases f
  | .tup l, d', x, f0, f, h, h' => by
    obtain ⟨a, xs, rfl, h1, h2⟩ := h
    cases d' with
    | str c => obtain ⟨z, _⟩ := h'; cases z
    | non => cases h'
    | bl _ => cases h'
    | int _ => cases h'
    | tup m =>
      obtain ⟨a', ys, z, h3, h4⟩ := h'
      cases z
      rw [h1] at h3
      cases h3
      rw [reps_inj (by simpa [noD] using f0) (by simpa [noD] using f) h2 h4]
    | lst m =>
      obtain ⟨a', ys, z, h3, h4⟩ := h'
      cases z
      rw [h1] at h3
      cases h3
    | _ => cases f
  | .lst l, d', x, f0, f, h, h' => by
    obtain ⟨a, xs, rfl, h1, h2⟩ := h
    cases d' with
    | str c => obtain ⟨z, _⟩ := h'; cases z
    | non => cases h'
    | bl _ => cases h'
    | int _ => cases h'
    | lst m =>
      obtain ⟨a', ys, z, h3, h4⟩ := h'
      cases z
      rw [h1] at h3
      cases h3
      rw [reps_inj (by simpa [noD] using f0) (by simpa [noD] using f) h2 h4]
    | tup m =>
      obtain ⟨a', ys, z, h3, h4⟩ := h'
      cases z
      rw [h1] at h3
      cases h3
    | _ => cases f
  | .dct _ _, _, _, f, _, _, _ => by cases f
  | .set _, _, _, f, _, _, _ => by cases f
  | .drw, _, _, f, _, _, _ => by cases f
  | .cel _, _, _, f, _, _, _ => by cases f
theorem reps_inj {dA : Addr} {ca : List Addr} {H : Hp} : ∀ {l l' : List D} {xs : List V}, noDs l = true → noDs l' = true → Reps dA ca H l xs → Reps dA ca H l' xs → l = l'
  | [], [], _, _, _, _, _ => rfl
  | [], _ :: _, _, _, _, h, h' => by
    cases h
    obtain ⟨_, _, z, _⟩ := h'
    cases z
  | _ :: _, [], _, _, _, h, h' => by
    cases h'
    obtain ⟨_, _, z, _⟩ := h
    cases z
  | d :: l, d' :: l', _, f, f', h, h' => by
    obtain ⟨x, ys, rfl, h1, h2⟩ := h
    obtain ⟨x', ys', z, h3, h4⟩ := h'
    cases z
    unfold noDs at f f'
    obtain ⟨f1, f2⟩ := Bool.and_eq_true_iff.mp f
    obtain ⟨f3, f4⟩ := Bool.and_eq_true_iff.mp f'
    rw [rep_inj f1 f3 h1 h3, reps_inj f2 f4 h2 h4]
end
/-! ### keys -/
theorem kO_of {dA : Addr} {ca : List Addr} {H : Hp} {d : D} {x : V} (r : Rep dA ca H d x) (h : isKey1 d = true) : ∃ k, kO d = some k := by
  cases d with
  | int i => exact ⟨_, rfl⟩
  | str s => exact ⟨_, if_pos r.2⟩
  | _ => cases h
theorem ksO_of {dA : Addr} {ca : List Addr} {H : Hp} : ∀ {l : List D} {xs : List V}, Reps dA ca H l xs → l.all isKey1 = true → ∃ ks, ksO l = some ks
  | [], _, _, _ => ⟨[], rfl⟩
  | d :: l, _, r, h => by
    obtain ⟨x, ys, rfl, r1, r2⟩ := r
    rw [List.all_cons, Bool.and_eq_true] at h
    obtain ⟨ks, e⟩ := ksO_of r2 h.2
    obtain ⟨k, q⟩ := kO_of r1 h.1
    exact ⟨k :: ks, by unfold ksO; rw [q, e]⟩
theorem kTO_of {dA : Addr} {ca : List Addr} {H : Hp} {d : D} {x : V} (r : Rep dA ca H d x) (h : isKeyT d = true) : ∃ k, kTO d = some k := by
  cases d with
  | tup l =>
    obtain ⟨_, _, _, _, r2⟩ := r
    exact ksO_of r2 h
  | _ => cases h
theorem rep_kO {dA : Addr} {ca : List Addr} {H : Hp} {d : D} {x : V} {k : Key} (r : Rep dA ca H d x) (h : kO d = some k) : x = kV k := by
  rcases kO_inv h with ⟨i, rfl, rfl⟩ | ⟨s, rfl, rfl, _⟩
  · exact r
  · exact r.1
/-- a key's value from the key -/
theorem kO_rep {dA : Addr} {ca : List Addr} {H : Hp} {d : D} {k : Key} (h : kO d = some k) : Rep dA ca H d (kV k) := by
  rcases kO_inv h with ⟨i, rfl, rfl⟩ | ⟨s, rfl, rfl, l⟩
  · exact rfl
  · exact ⟨rfl, l⟩
theorem ksO_reps {dA : Addr} {ca : List Addr} {H : Hp} : ∀ {l : List D} {ks : List Key}, ksO l = some ks → Reps dA ca H l (ks.map kV)
  | [], _, h => by cases h; rfl
  | d :: l, _, h => by
    obtain ⟨k0, ks0, e1, e2, rfl⟩ := ksO_cons h
    exact ⟨_, _, rfl, kO_rep e1, ksO_reps e2⟩
theorem reps_ksO {dA : Addr} {ca : List Addr} {H : Hp} : ∀ {l : List D} {xs : List V} {ks : List Key}, Reps dA ca H l xs → ksO l = some ks → xs = ks.map kV
  | [], _, _, r, h => by cases h; cases r; rfl
  | d :: l, _, _, r, h => by
    obtain ⟨x, ys, rfl, r1, r2⟩ := r
    obtain ⟨k0, ks0, e1, e2, rfl⟩ := ksO_cons h
    rw [rep_kO r1 e1, reps_ksO r2 e2, List.map_cons]
theorem rep_kTO {dA : Addr} {ca : List Addr} {H : Hp} {d : D} {x : V} {ks : List Key} (r : Rep dA ca H d x) (h : kTO d = some ks) : ∃ b, x = .ref b ∧ H b = some (.tup (ks.map kV)) := by
  cases d with
  | tup l =>
    obtain ⟨a, xs, rfl, h1, h2⟩ := r
    exact ⟨a, rfl, by rw [h1, reps_ksO h2 h]⟩
  | _ => cases h
theorem has_val {κ : Type} [DecidableEq κ] {fk : D → Option κ} (hf : ∀ {d e : D} {k j : κ}, fk d = some k → fk e = some j → keq d e = decide (k = j)) {kd : D} {k : κ} (hk : fk kd = some k) :
    ∀ {ks : List D} {kvs : List (κ × V)}, KsR fk ks (kvs.map (·.1)) → has kd ks = (valV kvs k).isSome
  | [], kvs, h => by
    have e : kvs = [] := by
      have : kvs.map (·.1) = [] := h
      simpa using this
    subst e
    rfl
  | k' :: ks, [], h => by
    obtain ⟨_, _, e, _⟩ := h
    simp at e
  | k' :: ks, p :: kvs, h => by
    obtain ⟨q, r, e, h1, h2⟩ := h
    rw [List.map_cons] at e
    cases e
    have hq : keq kd k' = decide (k = p.1) := hf hk h1
    unfold has
    rw [hq]
    by_cases c : p.1 = k
    · rw [valV_pos c, decide_eq_true c.symm]
      rfl
    · rw [valV_neg c, decide_eq_false (fun z => c z.symm)]
      exact has_val hf hk h2
/-- what a dict says of a key: the four ways -/
inductive Say (P : Program) (w : World) (h : Heap) (H : Hp) (a : Addr) (y : V) : Option V → Prop where
  | k {kvs : List (Key × V)} {k : Key} : Rd H a (.dK kvs) → y = kV k → Say P w h H a y (valV kvs k)
  | t {kvs : List (List Key × V)} {ks : List Key} {b : Addr} : Rd H a (.dT kvs) → y = .ref b → H b = some (.tup (ks.map kV)) → Say P w h H a y (valV kvs ks)
  | k0 {ks : List Key} {b : Addr} : Rd H a (.dK []) → y = .ref b → H b = some (.tup (ks.map kV)) → Say P w h H a y none
  | t0 {k : Key} : Rd H a (.dT []) → y = kV k → Say P w h H a y none
section
variable {X : Cx} {g : Gd} {f : Fm} {pins : List (Addr × Obj)} {σ : St} {H : Hp} {s : Shared} {ca A : List Addr} {a : Addr} {y : V} {u : Value} {o : Option V} {E : Value → Shared → Prop}
theorem msk_full {ca' : List Addr} {L : List Addr} {d : D} {x : V} (r : Rep g.dA ca' (msk L H) d x) : Rep g.dA ca' H d x := Rep.le (.refl _) le_msk _ _ r
/-- a dict's data and a key's data: what it says -/
theorem say_of {P : Program} {w : World} {ks vs : List D} {k : D} (r : DctR g.dA ca (msk (bad g f ca A) H) H a ks vs) (rk : Rep g.dA ca H k y) (hk : kOk k ks = true) :
    ∃ o, Say P w s.heap H a y o ∧ has k ks = o.isSome ∧ ((look k ks vs = none ∧ o = none) ∨ ∃ d v, look k ks vs = some d ∧ o = some v ∧ Rep g.dA ca (msk (bad g f ca A) H) d v) := by
  have fin : ∀ {κ : Type} [DecidableEq κ] {fk : D → Option κ} (hf : ∀ {d e : D} {k j : κ}, fk d = some k → fk e = some j → keq d e = decide (k = j)) {kk : κ} (hkk : fk k = some kk) {kvs : List (κ × V)}, KsR fk ks (kvs.map (·.1)) → Reps g.dA ca (msk (bad g f ca A) H) vs (kvs.map (·.2)) →
      has k ks = (valV kvs kk).isSome ∧ ((look k ks vs = none ∧ valV kvs kk = none) ∨ ∃ d v, look k ks vs = some d ∧ valV kvs kk = some v ∧ Rep g.dA ca (msk (bad g f ca A) H) d v) := fun {κ} _ {fk} hf {kk} hkk {kvs} p1 p2 => ⟨has_val hf hkk p1, look_val hf hkk p1 p2⟩
  have key1 : isKey1 k = true → ∃ j, kO k = some j ∧ y = kV j := fun h => by
    obtain ⟨j, e⟩ := kO_of rk h
    exact ⟨j, e, rep_kO rk e⟩
  have keyT : isKeyT k = true → ∃ j b, kTO k = some j ∧ y = .ref b ∧ H b = some (.tup (j.map kV)) := fun h => by
    obtain ⟨j, e⟩ := kTO_of rk h
    obtain ⟨b, e1, e2⟩ := rep_kTO rk e
    exact ⟨j, b, e, e1, e2⟩
  have emp : look k [] vs = none := by cases vs <;> rfl
  rcases r with ⟨kvs, h1, p1, p2⟩ | ⟨kvs, h1, p1, p2⟩
  · by_cases c : isKey1 k = true
    · obtain ⟨j, e, ey⟩ := key1 c
      obtain ⟨q1, q2⟩ := fin keq_kO e p1 p2
      exact ⟨_, .k h1 ey, q1, q2⟩
    · cases ks with
      | nil =>
        obtain rfl : kvs = [] := by simpa using (show kvs.map (·.1) = [] from p1)
        have : isKeyT k = true := by
          change (isKey1 k || isKeyT k) = true at hk
          cases q : isKey1 k with
          | true => exact absurd q c
          | false => rw [q] at hk; exact hk
        obtain ⟨j, b, e, ey, eb⟩ := keyT this
        exact ⟨none, .k0 h1 ey eb, rfl, .inl ⟨emp, rfl⟩⟩
      | cons k' ks =>
        exfalso
        obtain ⟨_, _, _, q1, _⟩ := p1
        change (bif isKeyT k' then isKeyT k else isKey1 k) = true at hk
        rw [(key1_of q1).2] at hk
        exact c hk
  · by_cases c : isKeyT k = true
    · obtain ⟨j, b, e, ey, eb⟩ := keyT c
      obtain ⟨q1, q2⟩ := fin keq_kTO e p1 p2
      exact ⟨_, .t h1 ey eb, q1, q2⟩
    · cases ks with
      | nil =>
        obtain rfl : kvs = [] := by simpa using (show kvs.map (·.1) = [] from p1)
        have : isKey1 k = true := by
          change (isKey1 k || isKeyT k) = true at hk
          cases q : isKeyT k with
          | true => exact absurd q c
          | false => rw [q, Bool.or_false] at hk; exact hk
        obtain ⟨j, e, ey⟩ := key1 this
        exact ⟨none, .t0 h1 ey, rfl, .inl ⟨emp, rfl⟩⟩
      | cons k' ks =>
        exfalso
        obtain ⟨_, _, _, q1, _⟩ := p1
        change (bif isKeyT k' then isKeyT k else isKey1 k) = true at hk
        rw [keyT_of q1] at hk
        exact c hk
def opIn : Bool → CmpOp
  | true => .NotIn
  | false => .In
theorem say_in {Q : Value → Shared → Prop} (ne : Bool) (hu : X.A.units + 1 < cLine) (I : Inv X pins σ H s) (g : Say X.prog X.w s.heap H a y o) (ry : RelV y u) (h : ∀ s', Inv X pins σ H s' → Q (.bool (o.isSome != ne)) s') :
    wpAny (model X.prog X.w) X.A (compareOp (opIn ne) u (.ref a)) Q E s := by
  have norm : ∀ {o : Option V}, DGet H a y o → (∀ s', Inv X pins σ H s' → Q (.bool (o.isSome != ne)) s') → wpAny (model X.prog X.w) X.A (compareOp (opIn ne) u (.ref a)) Q E s := fun {o} dg h => by
    cases ne with
    | false => exact d_in hu I dg ry (by simpa using h)
    | true => exact d_notIn hu I dg ry (by simpa [bne] using h)
  cases g with
  | k e ey => exact norm (.inl ⟨_, _, e, ey, rfl⟩) h
  | t e ey eb => exact norm (.inr ⟨_, _, _, e, ey, eb, rfl⟩) h
  | k0 e ey eb =>
    subst ey
    cases (show u = Value.ref _ from ry)
    obtain ⟨z, hd, vs, rel, dd⟩ := dk_rd I.hok e
    cases rel
    cases ne with
    | false => exact wpAny_in_heap (tupleKind_room_in1 hu) (key_of I.hok eb) hd (dtOf_nil dd) (show Q (.bool false) _ from h _ (I.tok _))
    | true => exact PyProof.Rows.wpAny_notIn_heap (tupleKind_room_in1 hu) (key_of I.hok eb) hd (dtOf_nil dd) (show Q (.bool true) _ from h _ (I.tok _))
  | t0 e ey =>
    subst ey
    obtain ⟨z, hd, vs, rel, dd⟩ := dt_rd I.hok e
    cases rel
    cases ne with
    | false => exact wpAny_in_of (kV_is ry) hd (dkOf_nil dd).mapOf (by simpa [valueAt] using h _ (I.tok _))
    | true => exact wpAny_notIn_of (kV_is ry) hd (dkOf_nil dd).mapOf (by simpa [valueAt] using h _ (I.tok _))
end
/-! ### in, not in; the operators -/
section
variable {X : Cx} {g : Gd}
open Classical in
/-- what the items of a sequence answer, read off their values -/
noncomputable def ansOf (dA : Addr) (ca : List Addr) (H : Hp) (k : D) (u : Value) : Bool := if ∃ d x, noD d = true ∧ Rep dA ca H d x ∧ RelV x u ∧ D.eq d k = some true then true else false
theorem ansOf_eq {dA : Addr} {ca : List Addr} {H : Hp} {k d : D} {x : V} {u : Value} {b : Bool} (f : noD d = true) (r : Rep dA ca H d x) (ru : RelV x u) (e : D.eq d k = some b) : ansOf dA ca H k u = b := by
  unfold ansOf
  cases b with
  | true => rw [if_pos ⟨d, x, f, r, ru, e⟩]
  | false =>
    refine if_neg ?_
    rintro ⟨d', x', f', r', ru', e'⟩
    have := ru.inj ru'
    subst this
    have := rep_inj f f' r r'
    subst this
    rw [e] at e'
    cases e'
theorem any_ans {dA : Addr} {ca : List Addr} {H : Hp} {k : D} : ∀ {l : List D} {xs : List V} {us : List Value} {b : Bool}, noDs l = true → Reps dA ca H l xs → Vals xs us → inL k l = some b →
    us.any (ansOf dA ca H k) = b ∧ ∀ u ∈ us, ∃ d x c, noD d = true ∧ Rep dA ca H d x ∧ RelV x u ∧ D.eq d k = some c
  | [], _, _, b, _, r, v, e => by
    cases r
    cases v
    cases e
    exact ⟨rfl, fun u hu => by cases hu⟩
  | d :: l, _, _, b, f, r, v, e => by
    obtain ⟨x, ys, rfl, r1, r2⟩ := r
    cases v with
    | cons rv vv =>
      unfold noDs at f
      obtain ⟨f1, f2⟩ := Bool.and_eq_true_iff.mp f
      unfold inL at e
      cases e1 : D.eq d k with
      | none => rw [e1] at e; cases e
      | some c =>
        rw [e1] at e
        change (match inL k l with | some c' => some (c || c') | none => none) = some b at e
        cases e2 : inL k l with
        | none => rw [e2] at e; cases e
        | some c' =>
          rw [e2] at e
          cases e
          obtain ⟨i1, i2⟩ := any_ans f2 r2 vv e2
          refine ⟨by rw [List.any_cons, ansOf_eq f1 r1 rv e1, i1], fun u hu => ?_⟩
          rcases List.mem_cons.mp hu with rfl | hu
          · exact ⟨d, x, c, f1, r1, rv, e1⟩
          · exact i2 u hu
theorem op_inW (ne : Bool) (hu : X.A.units + 12 < cLine) : OpR X (compareOp (opIn ne)) (rC g fun a b => match D.isin a b with | some c => some (c != ne) | none => none) := by
  intro pins s σ H x y v u Q I rx ry h
  obtain ⟨f, ca, A, d, e, b, he, h1, h2, h3, q⟩ := h
  cases q1 : D.isin d e with
  | none =>
    change (match D.isin d e with | some c => some (c != ne) | none => none) = some b at h3
    rw [q1] at h3; cases h3
  | some c =>
  change (match D.isin d e with | some c => some (c != ne) | none => none) = some b at h3
  rw [q1] at h3
  cases h3
  have seq : ∀ l, inS d l = some c → ∀ {xs : List V} {us : List Value}, Reps g.dA ca H l xs → Vals xs us → us.toArray.any (ansOf g.dA ca H d) = c ∧ ∀ w, w ∈ us.toArray → EqAt X.A.in1 s w v (ansOf g.dA ca H d w) := by
    intro l hl xs us r vv
    unfold inS at hl
    cases hc : noD d && noDs l with
    | false => rw [hc] at hl; cases hl
    | true =>
      rw [hc] at hl
      obtain ⟨f1, f2⟩ := Bool.and_eq_true_iff.mp hc
      obtain ⟨i1, i2⟩ := any_ans f2 r vv hl
      refine ⟨by simpa using i1, fun w hw => ?_⟩
      obtain ⟨d', x', c', g1, g2, g3, g4⟩ := i2 w (by simpa using hw)
      rw [ansOf_eq g1 g2 g3 g4]
      exact eq_at I 9 d' d x' x w v c' g1 f1 g2 h1.full g3 rx g4 X.A.in1 (by show X.A.units + 1 + 9 < cLine; omega)
  have done : ∀ s', Inv X pins σ H s' → EP X pins σ Q (.bool (c != ne)) s' := fun s' I' => ⟨.bl (c != ne), H, I', rfl, q⟩
  cases e with
  | str t =>
    cases d with
    | str s' =>
      obtain ⟨rfl, _⟩ := k_str h1; obtain ⟨rfl, _⟩ := k_str h2
      obtain ⟨t1, rfl⟩ := rx
      obtain ⟨t2, rfl⟩ := ry
      have z : isSub s' t = c := Option.some.inj q1
      cases ne with
      | false => exact PyProof.Rows.in_str (by rw [found_sub, z]; simpa using done s I)
      | true => exact PyProof.Rows.notIn_str (by rw [found_sub, z]; simpa [bne] using done s I)
    | _ => cases q1
  | tup l =>
    obtain ⟨a, xs, rfl, ha, na, ra⟩ := k_tup h2
    cases ry
    obtain ⟨its, va, ta, _⟩ := I.tuple (SqT.of ha)
    have q2 : inS d l = some c := by cases d <;> first | exact q1 | cases q1
    obtain ⟨z1, z2⟩ := seq l q2 (Reps.le (.refl _) le_msk _ _ ra) va
    cases ne with
    | false => exact SeqAt.in_tupleAt _ (show s.heap.IsTuple a its.toArray from ta) z2 (by rw [z1]; simpa using done s I)
    | true => exact SeqAt.notIn_tupleAt _ (show s.heap.IsTuple a its.toArray from ta) z2 (by rw [z1]; simpa [bne] using done s I)
  | lst l =>
    obtain ⟨a, xs, rfl, ha, ra⟩ := k_lst h2
    cases ry
    obtain ⟨its, va, ta, _⟩ := I.list (SqL.of ha)
    have q2 : inS d l = some c := by cases d <;> first | exact q1 | cases q1
    obtain ⟨z1, z2⟩ := seq l q2 (Reps.le (.refl _) le_msk _ _ ra) va
    cases ne with
    | false => exact SeqAt.in_listAt _ ta.isList z2 (by rw [z1]; simpa using done s I)
    | true => exact SeqAt.notIn_listAt _ ta.isList z2 (by rw [z1]; simpa [bne] using done s I)
  | dct ks vs =>
    obtain ⟨a, rfl, r⟩ := k_dct h2
    cases ry
    have q2 : (bif kOk d ks then some (has d ks) else none) = some c := by cases d <;> first | exact q1 | cases q1
    obtain ⟨hk, z⟩ := bif_some q2
    obtain ⟨o, sy, e1, _⟩ := say_of (P := X.prog) (w := X.w) (s := s) r h1.full hk
    refine say_in ne (by omega) I sy rx fun s' I' => ?_
    rw [← e1, z]
    exact done s' I'
  | non => cases d <;> cases q1
  | bl _ => cases d <;> cases q1
  | int _ => cases d <;> cases q1
  | set _ => cases d <;> cases q1
  | drw => cases d <;> cases q1
  | cel _ => cases d <;> cases q1
end
/-! ### <, <=, is -/
section
variable {X : Cx} {g : Gd}
def copOf : Cop → CmpOp
  | .eq => .Eq
  | .ne => .NotEq
  | .lt => .Lt
  | .le => .LtE
  | .gt => .Gt
  | .ge => .GtE
  | .isin => .In
  | .notin => .NotIn
  | .is => .Is
  | .isnt => .IsNot
theorem lt_str_eq (s t : List Nat) : decide ((⟨s.toArray⟩ : Str).cps.toList < (⟨t.toArray⟩ : Str).cps.toList) = ltL s t := by rw [ltL_iff]
theorem isNon_rep {dA : Addr} {ca : List Addr} {H : Hp} {d : D} {x : V} (r : Rep dA ca H d x) : decide (x = .non) = isNon d := by
  cases d with
  | non => cases r; rfl
  | bl _ => cases r; rfl
  | int _ => cases r; rfl
  | str _ => obtain ⟨rfl, _⟩ := r; rfl
  | tup _ => obtain ⟨_, _, rfl, _⟩ := r; rfl
  | lst _ => obtain ⟨_, _, rfl, _⟩ := r; rfl
  | dct _ _ => obtain ⟨_, rfl, _⟩ := r; rfl
  | set _ => cases r
  | drw => cases r; rfl
  | cel _ => obtain ⟨_, _, rfl⟩ := r; rfl
theorem op_cmp (hu : X.A.units + 12 < cLine) (c : Cop) : OpR X (compareOp (copOf c)) (rC g c.run) := by
  intro pins s σ H x y v u Q I rx ry h
  have ii : ∀ {k : Bool} {op : Int → Int → Bool} {cm : CmpOp}, (∀ (i j : Int) (t u : Tok) (s : Shared) (Q : Value → Shared → Prop) (E : Value → Shared → Prop), Q (.bool (op i j)) s → wpAny (model X.prog X.w) X.A (compareOp cm (.int i t) (.int j u)) Q E s) →
      ∀ {i j : Int}, x = .int i → y = .int j → Q (.bl (op i j)) H → wpAny (model X.prog X.w) X.A (compareOp cm v u) (EP X pins σ Q) X.xe s := by
    intro _ op cm rule i j ex ey q
    subst ex; subst ey
    obtain ⟨t, rfl⟩ := rx
    obtain ⟨t', rfl⟩ := ry
    exact rule _ _ _ _ _ _ _ ⟨.bl _, H, I, rfl, q⟩
  cases c with
  | eq => exact op_eqW hu pins s σ H x y v u Q I rx ry h
  | ne => exact op_neW hu pins s σ H x y v u Q I rx ry h
  | isin =>
    refine op_inW (g := g) false hu pins s σ H x y v u Q I rx ry ?_
    obtain ⟨f, ca, A, d, e, b, he, h1, h2, h3, q⟩ := h
    refine ⟨f, ca, A, d, e, b, he, h1, h2, ?_, q⟩
    have h3 : D.isin d e = some b := by cases d <;> cases e <;> exact h3
    show (match D.isin d e with | some c => some (c != false) | none => none) = some b
    rw [h3]
    simp
  | notin =>
    refine op_inW (g := g) true hu pins s σ H x y v u Q I rx ry ?_
    obtain ⟨f, ca, A, d, e, b, he, h1, h2, h3, q⟩ := h
    refine ⟨f, ca, A, d, e, b, he, h1, h2, ?_, q⟩
    have h3 : notO (D.isin d e) = some b := by cases d <;> cases e <;> exact h3
    show (match D.isin d e with | some c => some (c != true) | none => none) = some b
    cases z : D.isin d e with
    | none => rw [z] at h3; cases h3
    | some c => rw [z] at h3; rw [← h3]; simp [notO, bne]
  | is =>
    obtain ⟨f, ca, A, d, e, b, he, h1, h2, h3, q⟩ := h
    cases e <;> first | (cases d <;> cases h3; done) | skip
    have h3 : some (isNon d) = some b := by cases d <;> exact h3
    cases h3
    obtain rfl := k_non h2
    exact op_isN pins s σ H x .non v u Q I rx ry ⟨rfl, by rw [isNon_rep h1.full]; exact q⟩
  | isnt =>
    obtain ⟨f, ca, A, d, e, b, he, h1, h2, h3, q⟩ := h
    cases e <;> first | (cases d <;> cases h3; done) | skip
    have h3 : some (!isNon d) = some b := by cases d <;> exact h3
    cases h3
    obtain rfl := k_non h2
    exact op_notN pins s σ H x .non v u Q I rx ry ⟨rfl, by rw [isNon_rep h1.full]; exact q⟩
  | lt =>
    obtain ⟨f, ca, A, d, e, b, he, h1, h2, h3, q⟩ := h
    cases d <;> cases e <;> first | (cases h3; done) | skip
    · cases h3
      exact ii (k := true) (fun _ _ _ _ _ _ _ q => PyProof.Rows.lt_int q) (k_int h1) (k_int h2) q
    · cases h3
      obtain ⟨rfl, _⟩ := k_str h1; obtain ⟨rfl, _⟩ := k_str h2
      exact op_lt_str pins s σ H _ _ v u Q I rx ry ⟨_, _, rfl, rfl, by rw [lt_str_eq]; exact q⟩
  | gt =>
    obtain ⟨f, ca, A, d, e, b, he, h1, h2, h3, q⟩ := h
    cases d <;> cases e <;> first | (cases h3; done) | skip
    · cases h3
      exact ii (k := true) (op := fun i j => decide (j < i)) (fun _ _ _ _ _ _ _ q => PyProof.Rows.gt_int q) (k_int h1) (k_int h2) q
    · cases h3
      obtain ⟨rfl, _⟩ := k_str h1; obtain ⟨rfl, _⟩ := k_str h2
      exact op_gt_str pins s σ H _ _ v u Q I rx ry ⟨_, _, rfl, rfl, by rw [lt_str_eq]; exact q⟩
  | le =>
    obtain ⟨f, ca, A, d, e, b, he, h1, h2, h3, q⟩ := h
    cases d <;> cases e <;> first | (cases h3; done) | skip
    · cases h3
      exact ii (k := true) (fun _ _ _ _ _ _ _ q => PyProof.Rows.le_int q) (k_int h1) (k_int h2) q
    · cases h3
      obtain ⟨rfl, _⟩ := k_str h1; obtain ⟨rfl, _⟩ := k_str h2
      exact op_le_str pins s σ H _ _ v u Q I rx ry ⟨_, _, rfl, rfl, by rw [lt_str_eq]; exact q⟩
  | ge =>
    obtain ⟨f, ca, A, d, e, b, he, h1, h2, h3, q⟩ := h
    cases d <;> cases e <;> first | (cases h3; done) | skip
    · cases h3
      exact ii (k := true) (op := fun i j => decide (j ≤ i)) (fun _ _ _ _ _ _ _ q => PyProof.Rows.ge_int q) (k_int h1) (k_int h2) q
    · cases h3
      obtain ⟨rfl, _⟩ := k_str h1; obtain ⟨rfl, _⟩ := k_str h2
      exact op_ge_str pins s σ H _ _ v u Q I rx ry ⟨_, _, rfl, rfl, by rw [lt_str_eq]; exact q⟩
end
end W
/-! W10: names, constants, operators, tests, displays of tuples and lists. -/
namespace W
open PySem L2
section
variable {X : Cx} {g : Gd} {xr : XR} {F : Nat → List D → M D} {O : Nat → Bool} {W : WX} {pos : Pos} {k ka kb kc : Kd}
theorem s_varK {i : Nat} {x : Str} (hN : X.N[i]? = some x) (hv : Vis X.env.scope x) (hd : (x == ("__debug__" : Str)) = false) (hcd : (x == ("__classdict__" : Str)) = false) (ho : O i = false) : PE X (.Name x pos) (tE g xr F O .K W (.var i)) := by
  refine (pe_var hN hv hd hcd).imp fun σ H Q h => ?_
  obtain ⟨f, e, s, ca, A, ok, p⟩ := h
  change PostE g xr f ca A σ H H .K W (M.ofO (getS e i) s) Q at p
  cases q : getS e i with
  | none => rw [q] at p; exact p.elim
  | some d =>
    rw [q] at p
    obtain ⟨v, e1, r⟩ := ok.kp i d q ho
    exact ⟨v, e1, p v H ca (.refl ok.sr) r⟩
theorem Own.toI {f : Fm} {ca A : List Addr} {H : Hp} {a : Addr} {d : D} (n : a ∉ g.dA :: ca) (ha : a ∈ A) (o : Own g f ca A H a d) : RepI g f ca A H d (.ref a) := by
  cases d with
  | lst l =>
    obtain ⟨xs, h1, h2⟩ := o
    exact ⟨⟨a, xs, rfl, h1, h2⟩, fun b e _ => by cases e; exact ⟨n, .inl ha⟩⟩
  | dct ks vs =>
    rcases o with ⟨kvs, h1, h2, h3⟩ | ⟨kvs, h1, h2, h3⟩
    · exact ⟨⟨a, rfl, .inl ⟨kvs, .inl h1, h2, h3⟩⟩, fun b e _ => by cases e; exact ⟨n, .inl ha⟩⟩
    · exact ⟨⟨a, rfl, .inr ⟨kvs, .inl h1, h2, h3⟩⟩, fun b e _ => by cases e; exact ⟨n, .inl ha⟩⟩
  | _ => exact o.elim
theorem s_varI {i : Nat} {x : Str} (hN : X.N[i]? = some x) (hv : Vis X.env.scope x) (hd : (x == ("__debug__" : Str)) = false) (hcd : (x == ("__classdict__" : Str)) = false) (ho : O i = true) : PE X (.Name x pos) (tE g xr F O .I W (.var i)) := by
  refine (pe_var hN hv hd hcd).imp fun σ H Q h => ?_
  obtain ⟨f, e, s, ca, A, ok, p⟩ := h
  change PostE g xr f ca A σ H H .I W (M.ofO (getS e i) s) Q at p
  cases q : getS e i with
  | none => rw [q] at p; exact p.elim
  | some d =>
    rw [q] at p
    obtain ⟨a, e1, ha, r⟩ := ok.ow i d q ho
    exact ⟨.ref a, e1, p _ H ca (.refl ok.sr) (r.toI (ok.an a ha).2 ha)⟩
theorem s_const {m : E} {d : D} {v : V} {a : Expr} (h : PE X a (tC v)) (e : ∀ σ s, den F m σ s = .ok d s) (fl : flat d = true) (r : ∀ H, Rep g.dA [] H d v) : PE X a (tE g xr F O .K W m) := by
  refine h.imp fun σ H Q h => ?_
  obtain ⟨f, env, s, ca, A, ok, p⟩ := h
  rw [e env s] at p
  exact p v H ca (.refl ok.sr) (flat_rep fl (r H))
theorem s_non {j} : PE X (.Constant .none j pos) (tE g xr F O .K W .non) := s_const pe_non (fun _ _ => rfl) rfl fun _ => rfl
theorem s_bl {b : Bool} {j} : PE X (.Constant (.bool b) j pos) (tE g xr F O .K W (.bl b)) := s_const pe_bl (fun _ _ => rfl) rfl fun _ => rfl
theorem s_int {i : Int} {j} : PE X (.Constant (.int i) j pos) (tE g xr F O .K W (.int i)) := s_const pe_int (fun _ _ => rfl) rfl fun _ => rfl
theorem s_str {s : List Nat} {x : Str} {j} (h : s.length ≤ sizeLine) (hx : x = ⟨s.toArray⟩) : PE X (.Constant (.str x) j pos) (tE g xr F O .K W (.str s)) := by
  subst hx
  exact s_const pe_str (fun _ _ => rfl) rfl fun _ => ⟨rfl, h⟩
theorem s_glob {i : Nat} {d : D} {x : Str} {v : V} {u : Value} (hg : Gl X x) (hm : X.mg x = some u) (r : RelV v u) (hd : (x == ("__debug__" : Str)) = false) (fl : flat d = true) (rd : ∀ H, Rep g.dA [] H d v) : PE X (.Name x pos) (tE g xr F O .K W (.glob i d)) :=
  s_const (pe_glob hg hm r hd) (fun _ _ => rfl) fl rd
theorem s_bin {a b : Expr} {ma mb : E} (hu : X.A.units < cLine) (op : Bop) (ha : PE X a (tE g xr F O ka W ma)) (hb : PE X b (tE g xr F O kb W mb)) : PE X (.BinOp a (opOf op) b pos) (tE g xr F O .K W (.bin op ma mb)) := by
  refine (pe_op (op_bin (g := g) hu op) ha hb).imp fun σ H Q h => ?_
  obtain ⟨f, e, s, ca, A, ok, p⟩ := h
  refine tE.front ok p fun d s1 v H1 ca1 ok1 st1 r1 p1 => tE.front ok1 p1 fun d' s2 v' H2 ca2 ok2 st2 r2 p2 => ?_
  change PostE g xr f ca2 A σ H H2 .K W (M.ofO (op.run d d') s2) Q at p2
  cases q : op.run d d' with
  | none => rw [q] at p2; exact p2.elim
  | some z =>
    rw [q] at p2
    exact ⟨f, ca2, A, d, d', z, ok2.here, (r1.toI.stp st2).1, r2.items, q, fun v H' n r => p2.end ok2 n r⟩
theorem r_cmp {σ : St} {H : Hp} {Q : VK} {ma mb : E} {c : Cop} (h : tE g xr F O k W (.cmp c ma mb) σ H Q) (hk : k ≠ .I) : tOp (rC g c.run) (tE g xr F O ka W ma) (tE g xr F O kb W mb) σ H Q := by
  obtain ⟨f, e, s, ca, A, ok, p⟩ := h
  refine tE.front ok p fun d s1 v H1 ca1 ok1 st1 r1 p1 => tE.front ok1 p1 fun d' s2 v' H2 ca2 ok2 st2 r2 p2 => ?_
  cases q : c.run d d' with
  | none =>
    change PostE g xr f ca2 A σ H H2 k W ((match c.run d d' with | some c => M.pure (D.bl c) | none => M.stuck) s2) Q at p2
    rw [q] at p2; exact p2.elim
  | some z =>
    change PostE g xr f ca2 A σ H H2 k W ((match c.run d d' with | some c => M.pure (D.bl c) | none => M.stuck) s2) Q at p2
    rw [q] at p2
    exact ⟨f, ca2, A, d, d', z, ok2.here, (r1.toI.stp st2).1, r2.items, q, p2 _ H2 ca2 (.refl ok2.sr) (by cases k <;> first | rfl | exact absurd rfl hk)⟩
theorem s_cmp {a b : Expr} {ma mb : E} (hu : X.A.units + 12 < cLine) (c : Cop) (hm : behindInMarks (copOf c) b = false) (ha : PE X a (tE g xr F O ka W ma)) (hb : PE X b (tE g xr F O kb W mb)) : PE X (.Compare a [copOf c] [b] pos) (tE g xr F O .K W (.cmp c ma mb)) :=
  (pe_cmpR (op_cmp (g := g) hu c) ha hb hm).imp fun σ H Q h => r_cmp h (by decide)
theorem t_cmp {a b : Expr} {ma mb : E} (hu : X.A.units + 12 < cLine) (c : Cop) (hm : behindInMarks (copOf c) b = false) (ha : PE X a (tE g xr F O ka W ma)) (hb : PE X b (tE g xr F O kb W mb)) : PT X (.Compare a [copOf c] [b] pos) (tT g xr F O W (.cmp c ma mb)) :=
  (pt_cmpR (op_cmp (g := g) hu c) ha hb hm).imp fun σ H Q h => r_cmp h.val (by decide)
theorem r_cmp2 {σ : St} {H : Hp} {Q : VK} {ma mb mc : E} {c c' : Cop} (h : tE g xr F O .K W (.cmp2 c c' ma mb mc) σ H Q) : tChain (rC g c.run) (rC g c'.run) (tE g xr F O ka W ma) (tE g xr F O kb W mb) (tE g xr F O kc W mc) σ H Q := by
  obtain ⟨f, e, s, ca, A, ok, p⟩ := h
  refine tE.front ok p fun d s1 v H1 ca1 ok1 st1 r1 p1 => tE.front ok1 p1 fun d' s2 v' H2 ca2 ok2 st2 r2 p2 => ?_
  change PostE g xr f ca2 A σ H H2 .K W ((match c.run d d' with | some true => M.bind (den F mc e) fun z => (match c'.run d' z with | some c => M.pure (D.bl c) | none => M.stuck) | some false => M.pure (D.bl false) | none => M.stuck) s2) Q at p2
  cases q : c.run d d' with
  | none => rw [q] at p2; exact p2.elim
  | some z =>
    rw [q] at p2
    refine ⟨f, ca2, A, d, d', z, ok2.here, (r1.toI.stp st2).1, r2.items, q, z, rfl, ?_⟩
    cases z with
    | false => exact p2 _ H2 ca2 (.refl ok2.sr) rfl
    | true =>
      show tE g xr F O kc W mc σ H2 _
      refine tE.front ok2 p2 fun d3 s3 v3 H3 ca3 ok3 st3 r3 p3 => ?_
      change PostE g xr f ca3 A σ H H3 .K W ((match c'.run d' d3 with | some c => M.pure (D.bl c) | none => M.stuck) s3) Q at p3
      cases q' : c'.run d' d3 with
      | none => rw [q'] at p3; exact p3.elim
      | some z' =>
        rw [q'] at p3
        exact ⟨f, ca3, A, d', d3, z', ok3.here, (r2.toI.stp st3).1, r3.items, q', p3 _ H3 ca3 (.refl ok3.sr) rfl⟩
theorem s_cmp2 {a b c : Expr} {ma mb mc : E} (hu : X.A.units + 12 < cLine) (o o' : Cop) (hm : lastMarks [copOf o, copOf o'] [b, c] = false) (ha : PE X a (tE g xr F O ka W ma)) (hb : PE X b (tE g xr F O kb W mb)) (hc : PE X c (tE g xr F O kc W mc)) : PE X (.Compare a [copOf o, copOf o'] [b, c] pos) (tE g xr F O .K W (.cmp2 o o' ma mb mc)) :=
  (pe_chain (op_cmp (g := g) hu o) (op_cmp (g := g) hu o') ha hb hc hm).imp fun σ H Q h => r_cmp2 h
theorem t_cmp2 {a b c : Expr} {ma mb mc : E} (hu : X.A.units + 12 < cLine) (o o' : Cop) (hm : lastMarks [copOf o, copOf o'] [b, c] = false) (ha : PE X a (tE g xr F O ka W ma)) (hb : PE X b (tE g xr F O kb W mb)) (hc : PE X c (tE g xr F O kc W mc)) : PT X (.Compare a [copOf o, copOf o'] [b, c] pos) (tT g xr F O W (.cmp2 o o' ma mb mc)) :=
  (pt_chain (op_cmp (g := g) hu o) (op_cmp (g := g) hu o') ha hb hc hm).imp fun σ H Q h => r_cmp2 h.val
/-! ### and, or, not, if -/
theorem r_and {σ : St} {H : Hp} {Q : VK} {ma mb : E} (h : tE g xr F O .K W (.and ma mb) σ H Q) : tAndV (tE g xr F O ka W ma) (tE g xr F O kb W mb) σ H Q := by
  obtain ⟨f, e, s, ca, A, ok, p⟩ := h
  refine tE.front ok p fun d s1 v H1 ca1 ok1 st1 r1 p1 => ?_
  cases d with
  | bl c =>
    obtain rfl := k_bl r1.items
    refine ⟨c, rfl, ?_⟩
    cases c with
    | false => exact p1 _ H1 ca1 (.refl ok1.sr) rfl
    | true =>
      show tE g xr F O kb W mb σ H1 Q
      refine tE.front ok1 p1 fun d2 s2 v2 H2 ca2 ok2 st2 r2 p2 => ?_
      cases d2 with
      | bl c2 =>
        obtain rfl := k_bl r2.items
        exact p2 _ H2 ca2 (.refl ok2.sr) rfl
      | _ => exact p2.elim
  | _ => exact p1.elim
theorem r_or {σ : St} {H : Hp} {Q : VK} {ma mb : E} (h : tE g xr F O .K W (.or ma mb) σ H Q) : tOrV (tE g xr F O ka W ma) (tE g xr F O kb W mb) σ H Q := by
  obtain ⟨f, e, s, ca, A, ok, p⟩ := h
  refine tE.front ok p fun d s1 v H1 ca1 ok1 st1 r1 p1 => ?_
  cases d with
  | bl c =>
    obtain rfl := k_bl r1.items
    refine ⟨c, rfl, ?_⟩
    cases c with
    | true => exact p1 _ H1 ca1 (.refl ok1.sr) rfl
    | false =>
      show tE g xr F O kb W mb σ H1 Q
      refine tE.front ok1 p1 fun d2 s2 v2 H2 ca2 ok2 st2 r2 p2 => ?_
      cases d2 with
      | bl c2 =>
        obtain rfl := k_bl r2.items
        exact p2 _ H2 ca2 (.refl ok2.sr) rfl
      | _ => exact p2.elim
  | _ => exact p1.elim
theorem s_and1 {a b : Expr} {ma mb : E} {pos' : Pos} (ha : PE X a (tE g xr F O ka W ma)) (hb : PE X b (tE g xr F O kb W mb)) : PE X (.BoolOp .And [a, b] pos) (tE g xr F O .K W (.and ma mb)) := (pe_and ha (pe_one hb)).imp fun σ H Q h => r_and h
theorem s_or1 {a b : Expr} {ma mb : E} {pos' : Pos} (ha : PE X a (tE g xr F O ka W ma)) (hb : PE X b (tE g xr F O kb W mb)) : PE X (.BoolOp .Or [a, b] pos) (tE g xr F O .K W (.or ma mb)) := (pe_or ha (pe_one hb)).imp fun σ H Q h => r_or h
theorem s_and {a b : Expr} {r : List Expr} {ma mb : E} (ha : PE X a (tE g xr F O ka W ma)) (hb : PE X (.BoolOp .And (b :: r) pos) (tE g xr F O kb W mb)) : PE X (.BoolOp .And (a :: b :: r) pos) (tE g xr F O .K W (.and ma mb)) := (pe_and ha hb).imp fun σ H Q h => r_and h
theorem s_or {a b : Expr} {r : List Expr} {ma mb : E} (ha : PE X a (tE g xr F O ka W ma)) (hb : PE X (.BoolOp .Or (b :: r) pos) (tE g xr F O kb W mb)) : PE X (.BoolOp .Or (a :: b :: r) pos) (tE g xr F O .K W (.or ma mb)) := (pe_or ha hb).imp fun σ H Q h => r_or h
/-- tests -/
theorem tT.front {f : Fm} {ca A : List Addr} {σ : St} {H : Hp} {s : MS} {e : Env} {a : E} {m : D → M D} {Q : Bool → Hp → Prop} {Q' : Bool → Hp → Prop} (ok : EOk g f O σ H e s ca A) (p : PostT g xr (f.A0 ++ A) ca σ H W (M.bind (den F a e) m s) Q) (hb : ∀ d s1, m d s1 = R.stuck ∨ ∃ b, d = .bl b)
    (h : ∀ b s1 H1 ca1, EOk g f O σ H1 e s1 ca1 A → Stp g (f.A0 ++ A) ca H ca1 H1 s1 → PostT g xr (f.A0 ++ A) ca1 σ H1 W (m (.bl b) s1) Q → Q' b H1) : tT g xr F O W a σ H Q' := by
  refine ⟨f, e, s, ca, A, ok, ?_⟩
  unfold M.bind at p
  cases q : den F a e s with
  | ok d s1 =>
    rw [q] at p
    rcases hb d s1 with z | ⟨b, rfl⟩
    · change PostT g xr (f.A0 ++ A) ca σ H W (m d s1) Q at p
      rw [z] at p
      exact p.elim
    · exact fun H1 ca1 st => h b s1 H1 ca1 (ok.step st) st (p.from st)
  | exc c x s1 => rw [q] at p; exact p
  | stuck => rw [q] at p; exact p
theorem r_tand {σ : St} {H : Hp} {Q : Bool → Hp → Prop} {ma mb : E} (h : tT g xr F O W (.and ma mb) σ H Q) : tAnd (tT g xr F O W ma) (tT g xr F O W mb) σ H Q := by
  obtain ⟨f, e, s, ca, A, ok, p⟩ := h
  refine tT.front ok p (fun d s1 => by cases d <;> first | exact .inr ⟨_, rfl⟩ | exact .inl rfl) fun c s1 H1 ca1 ok1 st1 p1 => ?_
  cases c with
  | false => exact p1 H1 ca1 (.refl ok1.sr)
  | true =>
    show tT g xr F O W mb σ H1 Q
    refine tT.front ok1 p1 (fun d s1 => by cases d <;> first | exact .inr ⟨_, rfl⟩ | exact .inl rfl) fun c s2 H2 ca2 ok2 st2 p2 => ?_
    exact p2 H2 ca2 (.refl ok2.sr)
theorem r_tor {σ : St} {H : Hp} {Q : Bool → Hp → Prop} {ma mb : E} (h : tT g xr F O W (.or ma mb) σ H Q) : tOr (tT g xr F O W ma) (tT g xr F O W mb) σ H Q := by
  obtain ⟨f, e, s, ca, A, ok, p⟩ := h
  refine tT.front ok p (fun d s1 => by cases d <;> first | exact .inr ⟨_, rfl⟩ | exact .inl rfl) fun c s1 H1 ca1 ok1 st1 p1 => ?_
  cases c with
  | true => exact p1 H1 ca1 (.refl ok1.sr)
  | false =>
    show tT g xr F O W mb σ H1 Q
    refine tT.front ok1 p1 (fun d s1 => by cases d <;> first | exact .inr ⟨_, rfl⟩ | exact .inl rfl) fun c s2 H2 ca2 ok2 st2 p2 => ?_
    exact p2 H2 ca2 (.refl ok2.sr)
theorem t_and1 {a b : Expr} {ma mb : E} (ha : PT X a (tT g xr F O W ma)) (hb : PT X b (tT g xr F O W mb)) : PW X (.BoolOp .And [a, b] pos) (tT g xr F O W (.and ma mb)) := (pw_and ha (pw_and1 hb)).imp fun σ H Q h => r_tand h
theorem t_or1 {a b : Expr} {ma mb : E} (ha : PT X a (tT g xr F O W ma)) (hb : PT X b (tT g xr F O W mb)) : PW X (.BoolOp .Or [a, b] pos) (tT g xr F O W (.or ma mb)) := (pw_or ha (pw_or1 hb)).imp fun σ H Q h => r_tor h
theorem t_and {a b : Expr} {r : List Expr} {ma mb : E} (ha : PT X a (tT g xr F O W ma)) (hb : PW X (.BoolOp .And (b :: r) pos) (tT g xr F O W mb)) : PW X (.BoolOp .And (a :: b :: r) pos) (tT g xr F O W (.and ma mb)) := (pw_and ha hb).imp fun σ H Q h => r_tand h
theorem t_or {a b : Expr} {r : List Expr} {ma mb : E} (ha : PT X a (tT g xr F O W ma)) (hb : PW X (.BoolOp .Or (b :: r) pos) (tT g xr F O W mb)) : PW X (.BoolOp .Or (a :: b :: r) pos) (tT g xr F O W (.or ma mb)) := (pw_or ha hb).imp fun σ H Q h => r_tor h
theorem s_not {a : Expr} {ma : E} (ha : PE X a (tE g xr F O ka W ma)) : PE X (.UnaryOp .Not a pos) (tE g xr F O .K W (.not ma)) := by
  refine (pe_not ha).imp fun σ H Q h => ?_
  obtain ⟨f, e, s, ca, A, ok, p⟩ := h
  refine tE.front ok p fun d s1 v H1 ca1 ok1 st1 r1 p1 => ?_
  cases d with
  | bl c =>
    obtain rfl := k_bl r1.items
    exact ⟨c, rfl, p1 _ H1 ca1 (.refl ok1.sr) rfl⟩
  | _ => exact p1.elim
theorem t_not {a : Expr} {ma : E} (ha : PT X a (tT g xr F O W ma)) : PT X (.UnaryOp .Not a pos) (tT g xr F O W (.not ma)) := by
  refine (pt_not ha).imp fun σ H Q h => ?_
  obtain ⟨f, e, s, ca, A, ok, p⟩ := h
  exact tT.front ok p (fun d s1 => by cases d <;> first | exact .inr ⟨_, rfl⟩ | exact .inl rfl) fun c s1 H1 ca1 ok1 st1 p1 => p1 H1 ca1 (.refl ok1.sr)
theorem s_neg {a : Expr} {ma : E} (ha : PE X a (tE g xr F O ka W ma)) : PE X (.UnaryOp .USub a pos) (tE g xr F O .K W (.neg ma)) := by
  refine (pe_un un_neg ha).imp fun σ H Q h => ?_
  obtain ⟨f, e, s, ca, A, ok, p⟩ := h
  refine tE.front ok p fun d s1 v H1 ca1 ok1 st1 r1 p1 => ?_
  cases d with
  | int c =>
    obtain rfl := k_int r1.items
    exact ⟨c, rfl, p1 _ H1 ca1 (.refl ok1.sr) rfl⟩
  | _ => exact p1.elim
theorem s_ite {c a b : Expr} {mc ma mb : E} (hc : PT X c (tT g xr F O W mc)) (ha : PE X a (tE g xr F O ka W ma)) (hb : PE X b (tE g xr F O kb W mb)) (h1 : ka ≠ .I) (h2 : kb ≠ .I) : PE X (.IfExp c a b pos) (tE g xr F O .K W (.ite mc ma mb)) := by
  have wk : ∀ k : Kd, k ≠ .I → k = .K ∨ Kd.K = .I ∨ (k = .N ∧ Kd.K = .K) := fun k h => by cases k <;> simp_all
  refine (pe_ifExp hc ha hb).imp fun σ H Q h => ?_
  obtain ⟨f, e, s, ca, A, ok, p⟩ := h
  refine tE.frontT ok p (fun d s1 => by cases d <;> first | exact .inr ⟨_, rfl⟩ | exact .inl rfl) fun c s1 H1 ca1 ok1 st1 p1 => ?_
  cases c with
  | true => exact tE.weak (wk ka h1) ⟨f, e, s1, ca1, A, ok1, p1⟩
  | false => exact tE.weak (wk kb h2) ⟨f, e, s1, ca1, A, ok1, p1⟩
/-- a plain head, as a test -/
theorem t_val {e : Expr} {m : E} (h : PE X e (tE g xr F O .K W m)) (he : ∀ whole, isTrue e X.env whole = (do let v ← whole; standAt e.pos; holding [v] (truthy v))) : PT X e (tT g xr F O W m) :=
  (pt_val h he).imp fun σ H Q h => h.val
/-! ### argument lists, tuples, lists -/
theorem a_nil : PA X [] (tA g xr F O W .nil) := pa_nil.imp fun σ H Q h => by
  obtain ⟨f, e, s, ca, A, ok, p⟩ := h
  exact p [] H ca (.refl ok.sr) rfl
theorem a_cons {e : Expr} {es : List Expr} {m r : E} (ha : PE X e (tE g xr F O ka W m)) (hk : ka ≠ .I) (hr : PA X es (tA g xr F O W r)) (hs : starEach (e :: es) X.env = (false, eval e X.env) :: starEach es X.env) : PA X (e :: es) (tA g xr F O W (.cons m r)) := by
  refine (pa_cons ha hr hs).imp fun σ H Q h => ?_
  obtain ⟨f, env, s, ca, A, ok, p⟩ := h
  refine ⟨f, env, s, ca, A, ok, ?_⟩
  change PostA g xr f ca A σ H W (M.bind (den F m env) _ s) Q at p
  unfold M.bind at p
  cases q : den F m env s with
  | stuck => rw [q] at p; exact p
  | exc c x s1 => rw [q] at p; exact p
  | ok d s1 =>
    rw [q] at p
    intro v H1 ca1 st1 r1
    refine ⟨f, env, s1, ca1, A, ok.step st1, ?_⟩
    have p1 := p.from st1
    change PostA g xr f ca1 A σ H1 W (M.bind (den F r env) (fun y => M.bind (asLst y) fun l => M.pure (D.lst (d :: l))) s1) Q at p1
    unfold M.bind at p1
    cases q2 : den F r env s1 with
    | stuck => rw [q2] at p1; exact p1
    | exc c x s2 => rw [q2] at p1; exact p1
    | ok y s2 =>
      rw [q2] at p1
      cases y with
      | lst l => exact fun vs H2 ca2 st2 r2 => p1 (v :: vs) H2 ca2 st2 ⟨v, vs, rfl, Rep.stp st2 (r1.kept hk), r2⟩
      | _ => exact p1.elim
theorem bif_size {l : List D} {m : M D} {s : MS} {α : Type} {f : Fm} {ca A : List Addr} {σ : St} {H0 H : Hp} {Q : VK} (p : PostE g xr f ca A σ H0 H k W ((bif size l then m else M.stuck) s) Q) : l.length ≤ sizeLine ∧ PostE g xr f ca A σ H0 H k W (m s) Q := by
  cases c : size l with
  | false => rw [c] at p; exact p.elim
  | true =>
    rw [c] at p
    exact ⟨by rw [← line_eq]; exact Nat.le_of_ble_eq_true c, p⟩
theorem s_tup {es : List Expr} {m : E} {x1} (ha : PA X es (tA g xr F O W m)) : PE X (.Tuple es x1 pos) (tE g xr F O .K W (.tup m)) := by
  refine (pe_tup ha).imp fun σ H Q h => ?_
  obtain ⟨f, e, s, ca, A, ok, p⟩ := h
  refine tE.frontA ok p (fun d s1 => by cases d <;> first | exact .inr ⟨_, rfl⟩ | exact .inl rfl) fun l s1 vs H1 ca1 ok1 st1 r1 p1 => ?_
  obtain ⟨z, p2⟩ := bif_size (α := Unit) (show PostE g xr f ca1 A σ H H1 .K W ((bif size l then M.pure (D.tup l) else M.stuck) s1) Q from p1)
  exact ⟨by rw [r1.length]; exact z, fun q hq => p2.end ok1 (Nw.upd hq) (rep_newT ok1.here hq r1)⟩
theorem s_lst {es : List Expr} {m : E} (ha : PA X es (tA g xr F O W m)) : PE X (.List es pos) (tE g xr F O .N W (.lst m)) := by
  refine (pe_lst ha).imp fun σ H Q h => ?_
  obtain ⟨f, e, s, ca, A, ok, p⟩ := h
  refine tE.frontA ok p (fun d s1 => by cases d <;> first | exact .inr ⟨_, rfl⟩ | exact .inl rfl) fun l s1 vs H1 ca1 ok1 st1 r1 p1 => ?_
  obtain ⟨z, p2⟩ := bif_size (α := Unit) (show PostE g xr f ca1 A σ H H1 .N W ((bif size l then M.pure (D.lst l) else M.stuck) s1) Q from p1)
  exact ⟨by rw [r1.length]; exact z, fun q hq => p2.end ok1 (Nw.upd hq) (repN_lst ok1.here (st1.back ok.sr hq) hq r1)⟩
end
end W
/-! W11: what a loop walks: lists, tuples, texts; zip and enumerate over these. -/
namespace W
open PySem L2
inductive Src where | l (a : Addr) | t (a : Addr) | s (z : Str)
def signs (z : Str) : List V := z.cps.toList.map fun c => V.str ⟨#[c]⟩
/-- the items stand there -/
def Src.At (K : PySem.W.Frag) (H : Hp) : Src → List V → Prop
  | .l a, xs => SqL K H a xs
  | .t a, xs => SqT K H a xs
  | .s z, xs => xs = signs z
/-- an iterator over it at item i -/
def Src.It (h : Heap) (it : Addr) (i : Nat) : Src → Prop
  | .l a => h.IsListIter it a i
  | .t a => h.IsTupleIter it a i
  | .s z => ∃ t, h.IsStrIter it (strIterType z) z t i
def Src.ads : Src → List Addr
  | .l a => [a]
  | .t a => [a]
  | .s _ => []
theorem Vals.back : ∀ {xs : List V} {us : List Value} {i : Nat} {u : Value}, Vals xs us → us[i]? = some u → ∃ x, xs[i]? = some x ∧ RelV x u
  | _, _, 0, _, .cons r t, h => by
    simp at h
    subst h
    exact ⟨_, rfl, r⟩
  | _, _, i + 1, _, .cons r t, h => by
    obtain ⟨x, e, q⟩ := Vals.back (i := i) t (by simpa using h)
    exact ⟨x, by simpa using e, q⟩
section
variable {X : Cx} {pins : List (Addr × Obj)} {σ : St} {H : Hp} {s : Shared} {A : Around} {it : Addr} {i : Nat} {xs : List V}
theorem src_inj {S : Src} {ys : List V} (I : Inv X pins σ H s) (h : S.At X.K H xs) (h' : S.At X.K H ys) : xs = ys := by
  cases S with
  | l a => exact I.list_inj h h'
  | t a => exact I.tuple_inj h h'
  | s z => exact (show xs = signs z from h).trans (show ys = signs z from h').symm
theorem src_draws {S : Src} (I : Inv X pins σ H s) (hh : A.handled = none) (h : S.At X.K H xs) (hi : S.It s.heap it i) (hn : it ∉ S.ads) :
    ∃ P St, Draws X.prog X.w A it (it :: S.ads) xs.length P St ∧ St i s.heap ∧ (∀ j v, P j v → ∃ x, xs[j]? = some x ∧ RelV x v) ∧ ∀ j h', St j h' → S.It h' it j := by
  cases S with
  | l a =>
    obtain ⟨its, rv, p, _⟩ := I.list h
    have e : its.toArray.size = xs.length := by rw [List.size_toArray]; exact rv.length.symm
    refine ⟨_, _, e ▸ Draws.list hh it a (fun z => hn (by rw [z]; exact List.mem_singleton.mpr rfl)) its.toArray, ⟨hi, p.isList⟩, fun j v q => Vals.back rv (by simpa using q), fun j h' q => q.1⟩
  | t a =>
    obtain ⟨its, rv, p, _⟩ := I.tuple h
    have e : its.toArray.size = xs.length := by rw [List.size_toArray]; exact rv.length.symm
    refine ⟨_, _, e ▸ Draws.tuple hh it a (fun z => hn (by rw [z]; exact List.mem_singleton.mpr rfl)) its.toArray, ⟨hi, show s.heap.IsTuple a its.toArray from p⟩, fun j v q => Vals.back rv (by simpa using q), fun j h' q => q.1⟩
  | s z =>
    obtain ⟨t, hi⟩ := hi
    have h : xs = signs z := h
    subst h
    have e : z.cps.size = (signs z).length := by simp [signs]
    refine ⟨_, _, e ▸ Draws.text hh it z t, hi, fun j v q => ?_, fun j h' q => ⟨t, q⟩⟩
    obtain ⟨c, u, q1, rfl⟩ := q
    exact ⟨V.str ⟨#[c]⟩, by simp [signs, q1], u, rfl⟩
/-- pairs of the items of two -/
def Jz (K : PySem.W.Frag) (S T : Src) : It :=
  ⟨fun i H => ∃ xs ys, S.At K H xs ∧ T.At K H ys ∧ i < xs.length ∧ i < ys.length,
   fun i H v H' => ∃ q x y, v = .ref q ∧ H q = none ∧ H' = upd H q (.tup [x, y]) ∧ (∀ xs, S.At K H xs → xs[i]? = some x) ∧ ∀ ys, T.At K H ys → ys[i]? = some y,
   fun i H => ∃ xs ys, S.At K H xs ∧ T.At K H ys ∧ i = min xs.length ys.length⟩
/-- the items, numbered -/
def Je (K : PySem.W.Frag) (S : Src) : It :=
  ⟨fun i H => ∃ xs, S.At K H xs ∧ i < xs.length,
   fun i H v H' => ∃ q x, v = .ref q ∧ H q = none ∧ H' = upd H q (.tup [.int (i : Nat), x]) ∧ (∀ xs, S.At K H xs → xs[i]? = some x),
   fun i H => ∃ xs, S.At K H xs ∧ i = xs.length⟩
structure Apart (z TI TO i1 i2 : Addr) (S T : Src) : Prop where
  nd : [z, TI, TO, i1, i2].Nodup
  s : ∀ b ∈ [z, TI, TO, i1, i2], b ∉ S.ads ∧ b ∉ T.ads
theorem Apart.sep {z TI TO i1 i2 : Addr} {S T : Src} (a : Apart z TI TO i1 i2 S T) : ZipSep2 z TI TO i1 i2 (i1 :: S.ads) (i2 :: T.ads) := by
  have nd := a.nd
  simp only [List.nodup_cons, List.mem_cons, List.mem_singleton, not_or, List.not_mem_nil, not_false_eq_true, and_true] at nd
  obtain ⟨⟨h1, h2, h3, h4⟩, ⟨h5, h6, h7⟩, ⟨h8, h9⟩, h10, _⟩ := nd
  have q : ∀ b, b = z ∨ b = TI ∨ b = TO ∨ b = i1 ∨ b = i2 → b ∉ S.ads ∧ b ∉ T.ads := fun b hb => a.s b (by simpa using hb)
  have no : ∀ {b c : Addr} {l : List Addr}, b ≠ c → b ∉ l → b ∉ c :: l := fun h h' z => (List.mem_cons.mp z).elim h h'
  exact { TIz := Ne.symm h1, TOz := Ne.symm h2, TITO := h5, TIi1 := h6, mem1 := List.mem_cons_self, zf1 := no h3 (q z (by simp)).1, Tf1 := no h8 (q TO (by simp)).1, TIi2 := h7, mem2 := List.mem_cons_self,
          zf2 := no h4 (q z (by simp)).2, Tf2 := no h9 (q TO (by simp)).2, sep1_2 := no h10 (q i1 (by simp)).2, sep2_1 := no (Ne.symm h10) (q i2 (by simp)).1 }
theorem Src.keep {S : Src} {h h' : Heap} (st : S.It h it i) (k : ∀ o, h.get? it = some o → h'.get? it = some o) : S.It h' it i := by
  cases S with
  | l a => exact (show h.IsListIter it a i from st).at k
  | t a => exact (show h.IsTupleIter it a i from st).at k
  | s z => obtain ⟨t, o, e, r⟩ := st; exact ⟨t, o, k o e, r⟩
theorem Src.obj {S : Src} {h : Heap} (st : S.It h it i) : ∃ o, h.get? it = some o ∧ ∀ v, o.data ≠ .cell v := by
  cases S with
  | l a => obtain ⟨o, e, _, d⟩ := st; exact ⟨o, e, fun v z => by rw [d] at z; cases z⟩
  | t a => obtain ⟨o, e, _, d⟩ := st; exact ⟨o, e, fun v z => by rw [d] at z; cases z⟩
  | s z => obtain ⟨t, o, e, _, d⟩ := st; exact ⟨o, e, fun v z => by rw [d] at z; cases z⟩
theorem pair_ok {P : Program} {w : World} {H : Hp} {h : Heap} {T : Addr} {x y : V} {u v : Value} (r1 : RelV x u) (r2 : RelV y v) (t : h.IsTuple T #[u, v]) : ObjOk P w (upd H T (.tup [x, y])) h T (.tup [x, y]) :=
  ⟨by show 2 ≤ sizeLine; decide, [u, v], .cons r1 (.cons r2 .nil), t⟩
theorem turn_zipS {P : Program} {w : World} {K : PySem.W.Frag} {elts : List Expr} {kk : Nat} {tpos : Pos} {z TI TO i1 i2 : Addr} {S T : Src} (a : Apart z TI TO i1 i2 S T) :
    Turn P w K (.Tuple elts kk tpos) (Jz K S T) [z, TI, TO, i1, i2] z (fun i h => IsZip h z TI TO .none ∧ IsTupOf2 h TI (.ref i1) (.ref i2) ∧ (∃ a1 a2, IsTupOf2 h TO a1 a2) ∧ S.It h i1 i ∧ T.It h i2 i) where
  mem := by simp
  obj := fun i h st c hc => by
    obtain ⟨hz, hTI, ⟨x, y, hTO⟩, h1, h2⟩ := st
    have e' : c = z ∨ c = TI ∨ c = TO ∨ c = i1 ∨ c = i2 := by simpa using hc
    rcases e' with rfl | rfl | rfl | rfl | rfl
    · exact ⟨_, hz, fun v q => nomatch q⟩
    · exact ⟨_, hTI, fun v q => nomatch q⟩
    · exact ⟨_, hTO, fun v q => nomatch q⟩
    · exact Src.obj h1
    · exact Src.obj h2
  keep := fun i h h' st k => by
    obtain ⟨hz, hTI, ⟨x, y, hTO⟩, h1, h2⟩ := st
    exact ⟨k z (by simp) _ hz, k TI (by simp) _ hTI, ⟨x, y, k TO (by simp) _ hTO⟩, Src.keep h1 (k i1 (by simp)), Src.keep h2 (k i2 (by simp))⟩
  item := by
    intro X hP hw hK hc i pins s σ H E I hf st hg
    subst hP hw hK
    obtain ⟨hz, hTI, hTO, h1, h2⟩ := st
    obtain ⟨xs, ys, a1, a2, l1, l2⟩ := hg
    have hh := I.ok.hd hc
    obtain ⟨P1, St1, D1, s1, r1, k1⟩ := src_draws (A := X.A.in1) I hh a1 h1 (a.s i1 (by simp)).1
    obtain ⟨P2, St2, D2, s2, r2, k2⟩ := src_draws (A := X.A.in1) I hh a2 h2 (a.s i2 (by simp)).2
    refine (GoesN.zip2 (elts := elts) (x1 := kk) (pos := tpos) a.sep D1 D2).goes i s _ E (Nat.lt_min.mpr ⟨l1, l2⟩) ⟨hz, hTI, hTO, s1, s2⟩ fun v h' tk y st' hk _ => ?_
    obtain ⟨q, u1, u2, rfl, hq, p1, p2, tup⟩ := y
    obtain ⟨x, ex, rx⟩ := r1 i u1 p1
    obtain ⟨y, ey, ry⟩ := r2 i u2 p2
    obtain ⟨z1, z2, z3, z4, z5⟩ := st'
    have hn : H q = none := I.hok.fresh hq
    refine ⟨.ref q, _, I.turnedNew (t' := tk) (ch := [z, TI, TO, i1, i2]) (fun c o hb e => hk c o (fun w => hb ?_) e) hf hq (pair_ok rx ry tup), rfl,
      ⟨q, x, y, rfl, hn, rfl, fun l hl => by rw [src_inj I hl a1]; exact ex, fun l hl => by rw [src_inj I hl a2]; exact ey⟩, ⟨z1, z2, z3, k1 _ _ z4, k2 _ _ z5⟩, fun c hcm => ?_⟩
    · simp only [List.mem_cons, List.not_mem_nil, or_false] at w ⊢
      rcases w with w | w | w | w
      · exact .inl w
      · exact .inr (.inr (.inl w))
      · exact .inr (.inr (.inr (.inl w)))
      · exact .inr (.inr (.inr (.inr w)))
    · have hlt : c < s.heap.objs.size := by
        obtain ⟨x0, y0, hTO⟩ := hTO
        have e' : c = z ∨ c = TI ∨ c = TO ∨ c = i1 ∨ c = i2 := by simpa using hcm
        rcases e' with rfl | rfl | rfl | rfl | rfl
        · exact Heap.lt_size hz
        · exact Heap.lt_size hTI
        · exact Heap.lt_size hTO
        · obtain ⟨o, e, _⟩ := Src.obj h1; exact Heap.lt_size e
        · obtain ⟨o, e, _⟩ := Src.obj h2; exact Heap.lt_size e
      rw [upd_ne (Nat.ne_of_lt (Nat.lt_of_lt_of_le hlt hq))]
      exact (hf c hcm).1
  done := by
    intro X hP hw hK hc i pins s σ H E I hf st hg
    subst hP hw hK
    obtain ⟨hz, hTI, hTO, h1, h2⟩ := st
    obtain ⟨xs, ys, a1, a2, rfl⟩ := hg
    have hh := I.ok.hd hc
    obtain ⟨P1, St1, D1, s1, r1, k1⟩ := src_draws (A := X.A.in1) I hh a1 h1 (a.s i1 (by simp)).1
    obtain ⟨P2, St2, D2, s2, r2, k2⟩ := src_draws (A := X.A.in1) I hh a2 h2 (a.s i2 (by simp)).2
    refine (GoesN.zip2 (elts := elts) (x1 := kk) (pos := tpos) a.sep D1 D2).stops s (fun s1 => Inv X pins σ H s1) E ⟨hz, hTI, hTO, s1, s2⟩ fun h' tk hk _ => ?_
    refine I.turnedL (t' := tk) (ch := [z, TI, TO, i1, i2]) (fun c o hb e => hk c o (fun w => hb ?_) e) hf
    simp only [List.mem_cons, List.not_mem_nil, or_false] at w ⊢
    rcases w with w | w | w | w
    · exact .inl w
    · exact .inr (.inr (.inl w))
    · exact .inr (.inr (.inr (.inl w)))
    · exact .inr (.inr (.inr (.inr w)))
  self := fun A i s Q E st h => wpAny_pyIter_zip st.1 h
end
section
theorem turn_enumS {P : Program} {w : World} {K : PySem.W.Frag} {elts : List Expr} {kk : Nat} {tpos : Pos} {e i1 : Addr} {S : Src} (ne : e ≠ i1) (a1 : i1 ∉ S.ads) (a2 : e ∉ S.ads) :
    Turn P w K (.Tuple elts kk tpos) (Je K S) [e, i1] e (fun i h => (∃ old, IsEnum h e i1 (0 + (i : Int)) old) ∧ S.It h i1 i) where
  mem := by simp
  obj := fun i h st c hc => by
    obtain ⟨⟨old, he⟩, h1⟩ := st
    have e' : c = e ∨ c = i1 := by simpa using hc
    rcases e' with rfl | rfl
    · exact ⟨_, he, fun v q => nomatch q⟩
    · exact Src.obj h1
  keep := fun i h h' st k => by
    obtain ⟨⟨old, he⟩, h1⟩ := st
    exact ⟨⟨old, k e (by simp) _ he⟩, Src.keep h1 (k i1 (by simp))⟩
  item := by
    intro X hP hw hK hc i pins s σ H E I hf st hg
    subst hP hw hK
    obtain ⟨he, h1⟩ := st
    obtain ⟨xs, at1, l1⟩ := hg
    obtain ⟨P1, St1, D1, s1, r1, k1⟩ := src_draws (A := X.A.in1) I (I.ok.hd hc) at1 h1 a1
    refine (GoesN.enumFrom (elts := elts) (x1 := kk) (pos := tpos) 0 D1 e ne (fun z => (List.mem_cons.mp z).elim ne a2) List.mem_cons_self).goes i s _ E l1 ⟨he, s1⟩ fun v h' tk y st' hk _ => ?_
    obtain ⟨q, t, u1, rfl, hq, p1, tup⟩ := y
    obtain ⟨x, ex, rx⟩ := r1 i u1 p1
    obtain ⟨z1, z2⟩ := st'
    have hn : H q = none := I.hok.fresh hq
    have tup : h'.IsTuple q #[.int (i : Nat) t, u1] := by
      rw [Int.zero_add] at tup
      exact tup
    refine ⟨.ref q, _, I.turnedNew (t' := tk) (ch := [e, i1]) (fun c o hb => hk c o hb) hf hq (pair_ok (x := .int (i : Nat)) ⟨t, rfl⟩ rx tup), rfl,
      ⟨q, x, rfl, hn, rfl, fun l hl => by rw [src_inj I hl at1]; exact ex⟩, ⟨z1, k1 _ _ z2⟩, fun c hcm => ?_⟩
    have hlt : c < s.heap.objs.size := by
      obtain ⟨old, he⟩ := he
      have e' : c = e ∨ c = i1 := by simpa using hcm
      rcases e' with rfl | rfl
      · exact Heap.lt_size he
      · obtain ⟨o, e, _⟩ := Src.obj h1; exact Heap.lt_size e
    rw [upd_ne (Nat.ne_of_lt (Nat.lt_of_lt_of_le hlt hq))]
    exact (hf c hcm).1
  done := by
    intro X hP hw hK hc i pins s σ H E I hf st hg
    subst hP hw hK
    obtain ⟨he, h1⟩ := st
    obtain ⟨xs, at1, rfl⟩ := hg
    obtain ⟨P1, St1, D1, s1, r1, k1⟩ := src_draws (A := X.A.in1) I (I.ok.hd hc) at1 h1 a1
    exact (GoesN.enumFrom (elts := elts) (x1 := kk) (pos := tpos) 0 D1 e ne (fun z => (List.mem_cons.mp z).elim ne a2) List.mem_cons_self).stops s (fun s1 => Inv X pins σ H s1) E ⟨he, s1⟩ fun h' tk hk _ =>
      I.turnedL (t' := tk) (ch := [e, i1]) (fun c o hb q => hk c o hb q) hf
  self := fun A i s Q E st h => let ⟨⟨_, he⟩, _⟩ := st; wpAny_pyIter_enum he h
theorem enum_new1 {v : Value} {o : Obj} {H : Heap → Prop} (B : Begins v o H) :
    Meets (Builtin.«enumerate.__new__» ⟨[.type "enumerate", v], []⟩) (fun _ R s => H s.heap ∧
      R (.ok (.ret (.ref (s.heap.push o).objs.size))) { s with heap := (s.heap.push o).push { cls := .type "enumerate", data := .fields #[.none, .bool false, .ref s.heap.objs.size, rawInt 0, .none, .none] } }) :=
  .of_wp fun prog w A R s h => by
    obtain ⟨hp, g, d, tk, os⟩ := s
    obtain ⟨h1, h⟩ := h
    have hsub := sub_enumerate
    have begun : ∀ {A' : Around} {E : Value → Shared → Prop} {Q : Value → Shared → Prop}, Q (.ref hp.objs.size) ⟨hp.push o, g, d, tk, os⟩ → wpAny (model prog w) A' (pyIter v) Q E ⟨hp, g, d, tk, os⟩ :=
      fun q => B.iter prog w _ _ ⟨hp, g, d, tk, os⟩ _ h1 q
    wp_walk using begun
    refine wpAny_stack_any fun st => wpAny_pure ?_
    split
    · rename_i c _ _ _ _ _
      cases (c == Value.type "enumerate") <;>
      · wp_walk using begun
        exact ⟨_, rfl, h⟩
    · wp_walk using begun
      exact ⟨_, rfl, h⟩
variable {prog : Program} {w : World} {A : Around} {E : Value → Shared → Prop} {s : Shared}
theorem enum_begin {v : Value} {o : Obj} {H : Heap → Prop} {Q : Value → Shared → Prop} (B : Begins v o H) (h1 : H s.heap)
    (h : ∀ h', IsEnum h' (s.heap.objs.size + 1) s.heap.objs.size 0 .none → h'.get? s.heap.objs.size = some o → h'.objs.size = s.heap.objs.size + 2 →
      (∀ b o, s.heap.get? b = some o → h'.get? b = some o) → Q (.ref (s.heap.objs.size + 1)) { s with heap := h' }) :
    wpAny (model prog w) A (call (.type "enumerate") [v]) Q E s := by
  refine callType_new F.called_enumerate (by decide) (F.typeCall_enumerate_1 _) (F.newCall_enumerate_1 _) (fun obj => F.args_object_init_2 obj _) F.entry_enumerate_new (enum_new1 B) ⟨h1, ?_⟩
  have hz : (s.heap.push o).objs.size = s.heap.objs.size + 1 := Heap.size_push ..
  show _ ∧ _
  have he := Heap.get?_push_size (s.heap.push o) (o := { cls := .type "enumerate", data := .fields #[.none, .bool false, .ref s.heap.objs.size, rawInt 0, .none, .none] }) rfl
  rw [hz] at he ⊢
  exact ⟨⟨_, he, rfl⟩, h _ he (Heap.get?_push_of_some _ (Heap.get?_push_size _ B.free)) (by rw [Heap.size_push, hz]) fun b o x => Heap.get?_push_of_some _ (Heap.get?_push_of_some _ x)⟩
end
/-! ### beginnings -/
def SrcV (x : V) : Src → Prop
  | .l a => x = .ref a
  | .t a => x = .ref a
  | .s z => x = .str z
section
variable {X : Cx} {pins : List (Addr × Obj)} {σ : St} {H : Hp} {s : Shared} {xs : List V} {x : V} {u : Value} {S : Src}
theorem src_lt (I : Inv X pins σ H s) (h : S.At X.K H xs) : ∀ b ∈ S.ads, b < s.heap.objs.size := by
  cases S with
  | l a =>
    obtain ⟨its, rv, p, _⟩ := I.list h
    intro b hb
    obtain rfl : b = a := by simpa [Src.ads] using hb
    exact p.lt
  | t a =>
    obtain ⟨its, rv, p, _⟩ := I.tuple h
    intro b hb
    obtain rfl : b = a := by simpa [Src.ads] using hb
    obtain ⟨o, e, _⟩ := p
    exact Heap.lt_size e
  | s z => intro b hb; cases hb
theorem src_begins (I : Inv X pins σ H s) (h : S.At X.K H xs) (sv : SrcV x S) (r : RelV x u) : ∃ o G, Begins u o G ∧ G s.heap ∧ ∀ (h' : Heap) (it : Addr), h'.get? it = some o → S.It h' it 0 := by
  cases S with
  | l a =>
    obtain ⟨its, rv, p, _⟩ := I.list h
    obtain rfl : x = .ref a := sv
    cases r
    exact ⟨_, _, begins_list a its.toArray, p.isList, fun h' it e => ⟨_, e, rfl, rfl⟩⟩
  | t a =>
    obtain ⟨its, rv, p, _⟩ := I.tuple h
    obtain rfl : x = .ref a := sv
    cases r
    exact ⟨_, _, begins_tuple a its.toArray, show s.heap.IsTuple a its.toArray from p, fun h' it e => ⟨_, e, rfl, rfl⟩⟩
  | s z =>
    obtain rfl : x = .str z := sv
    obtain ⟨t, rfl⟩ := r
    exact ⟨_, _, begins_text z t, trivial, fun h' it e => ⟨t, _, e, rfl, rfl⟩⟩
/-- the walk of one -/
def Js (K : PySem.W.Frag) : Src → It
  | .l a => Itl K a
  | .t a => Itt K a
  | .s z => Its z
theorem src_iter {tg : Expr} {R : It → Hp → Prop} (I : Inv X pins σ H s) (h : S.At X.K H xs) (sv : SrcV x S) (r : RelV x u) (q : R (Js X.K S) H) : wpAny (model X.prog X.w) X.A (pyIter u) (PIE X pins σ tg R) X.xe s := by
  cases S with
  | l a =>
    obtain ⟨its, rv, p, _⟩ := I.list h
    obtain rfl : x = .ref a := sv
    cases r
    exact wpAny_pyIter_list p.isList (pi_one (tk := s.toks) I _ (turn_list a _) ⟨_, Heap.get?_push_size _ rfl, rfl, rfl⟩ q)
  | t a =>
    obtain ⟨its, rv, p, _⟩ := I.tuple h
    obtain rfl : x = .ref a := sv
    cases r
    exact wpAny_pyIter_tuple (show s.heap.IsTuple a its.toArray from p) (pi_one (tk := s.toks) I _ (turn_tuple a _) ⟨_, Heap.get?_push_size _ rfl, rfl, rfl⟩ q)
  | s z =>
    obtain rfl : x = .str z := sv
    obtain ⟨t, rfl⟩ := r
    cases ha : z.cps.all (· < 128)
    · exact wpAny_pyIter_wide ha (pi_one (tk := s.toks) I _ (turn_str _ z t "str_iterator" (.inr rfl)) ⟨_, Heap.get?_push_size _ rfl, rfl, rfl⟩ q)
    · exact wpAny_pyIter_ascii ha (pi_one (tk := s.toks) I _ (turn_str _ z t "str_ascii_iterator" (.inl rfl)) ⟨_, Heap.get?_push_size _ rfl, rfl, rfl⟩ q)
end
section
variable {X : Cx} {tg : Expr}
/-- zip(a, b) of any two -/
def iZipS (K : PySem.W.Frag) (ta : TA) : TI := fun σ H R => ta σ H fun vs H1 => ∃ x y S T xs ys, vs = [x, y] ∧ SrcV x S ∧ SrcV y T ∧ S.At K H1 xs ∧ T.At K H1 ys ∧ R (Jz K S T) H1
theorem pi_zipS {e e2 : Expr} {ta : TA} {p pos tpos : Pos} {elts : List Expr} {kk : Nat} (hg : Gl X "zip") (hm : X.mg "zip" = none) (ha : PA X [e, e2] ta) (hs : starEach [e, e2] X.env = (false, eval e X.env) :: starEach [e2] X.env) (hpl : (backTo pos (starEach [e2] X.env)).any (·.1) = false) :
    PI X (.Tuple elts kk tpos) (.Call (.Name "zip" p) [e, e2] [] pos) (iZipS X.K ta) := by
  refine ⟨fun pins s σ H R I h => ?_⟩
  refine PyProof.Rows.Call_ (ld_blt I hg hm PyProof.Rows.boot_zip (PyProof.Rows.callWith_type1 (thn (ha.run pos pins s σ H _ I h) fun us s1 ⟨vs, H1, I1, r1, q1⟩ => ?_) hs hpl))
  obtain ⟨x, y, S, T, xs, ys, rfl, sx, sy, ax, ay, q⟩ := q1
  obtain ⟨u, v, rfl, rx, ry⟩ := vals2 r1
  obtain ⟨o1, G1, B1, g1, i1⟩ := src_begins I1 ax sx rx
  obtain ⟨o2, G2, B2, g2, i2⟩ := src_begins I1 ay sy ry
  refine zip_begins2 B1 B2 g1 g2 fun h' hz hTI hTO e1 e2 hsz hk => wpAny_pyIter_zip hz ?_
  have I2 : Inv X pins σ H1 { s1 with heap := h' } := I1.kept (t' := s1.toks) hk
  have new : ∀ c, c ∈ [s1.heap.objs.size + 4, s1.heap.objs.size + 2, s1.heap.objs.size + 3, s1.heap.objs.size, s1.heap.objs.size + 1] → s1.heap.objs.size ≤ c := fun c hc => by
    simp only [List.mem_cons, List.not_mem_nil, or_false] at hc
    have hc' : (c : Nat) = s1.heap.objs.size + 4 ∨ (c : Nat) = s1.heap.objs.size + 2 ∨ (c : Nat) = s1.heap.objs.size + 3 ∨ (c : Nat) = s1.heap.objs.size ∨ (c : Nat) = s1.heap.objs.size + 1 := hc
    show (s1.heap.objs.size : Nat) ≤ c
    omega
  have ap : Apart (s1.heap.objs.size + 4) (s1.heap.objs.size + 2) (s1.heap.objs.size + 3) s1.heap.objs.size (s1.heap.objs.size + 1) S T := by
    refine ⟨?_, fun b hb => ⟨fun z => Nat.lt_irrefl _ (Nat.lt_of_lt_of_le (src_lt I1 ax b z) (new b hb)), fun z => Nat.lt_irrefl _ (Nat.lt_of_lt_of_le (src_lt I1 ay b z) (new b hb))⟩⟩
    generalize s1.heap.objs.size = n
    simp only [List.nodup_cons, List.mem_cons, List.mem_singleton, not_or, List.not_mem_nil, not_false_eq_true, and_true, List.nodup_nil]
    have f : ∀ {i j : Nat}, i ≠ j → (n + i : Nat) ≠ n + j := fun h z => h (Nat.add_left_cancel z)
    exact ⟨⟨f (by decide), f (by decide), f (j := 0) (by decide), f (by decide)⟩, ⟨f (by decide), f (j := 0) (by decide), f (by decide)⟩, ⟨f (j := 0) (by decide), f (by decide)⟩, f (i := 0) (by decide)⟩
  exact ⟨_, _, _, _, H1, rfl, I2, turn_zipS ap, ⟨hz, hTI, ⟨_, _, hTO⟩, i1 _ _ e1, i2 _ _ e2⟩, fun c hc => I1.fpOk (new c hc) (I1.hok.fresh (new c hc)), q⟩
/-- enumerate(a) of any -/
def iEnumS (K : PySem.W.Frag) (ta : TA) : TI := fun σ H R => ta σ H fun vs H1 => ∃ x S xs, vs = [x] ∧ SrcV x S ∧ S.At K H1 xs ∧ R (Je K S) H1
theorem pi_enumS {e : Expr} {ta : TA} {p pos tpos : Pos} {elts : List Expr} {kk : Nat} (hg : Gl X "enumerate") (hm : X.mg "enumerate" = none) (ha : PA X [e] ta) (hs : starEach [e] X.env = (false, eval e X.env) :: starEach [] X.env) :
    PI X (.Tuple elts kk tpos) (.Call (.Name "enumerate" p) [e] [] pos) (iEnumS X.K ta) := by
  refine ⟨fun pins s σ H R I h => ?_⟩
  refine PyProof.Rows.Call_ (ld_blt I hg hm PyProof.Rows.boot_enumerate (PyProof.Rows.callWith_type1 (thn (ha.run pos pins s σ H _ I h) fun us s1 ⟨vs, H1, I1, r1, q1⟩ => ?_) hs rfl))
  obtain ⟨x, S, xs, rfl, sx, ax, q⟩ := q1
  obtain ⟨u, rfl, rx⟩ := vals1 r1
  obtain ⟨o1, G1, B1, g1, i1⟩ := src_begins I1 ax sx rx
  refine enum_begin B1 g1 fun h' he e1 hsz hk => wpAny_pyIter_enum he ?_
  have new : ∀ c, c ∈ [s1.heap.objs.size + 1, s1.heap.objs.size] → s1.heap.objs.size ≤ c := fun c hc => by
    simp only [List.mem_cons, List.not_mem_nil, or_false] at hc
    have hc' : (c : Nat) = s1.heap.objs.size + 1 ∨ (c : Nat) = s1.heap.objs.size := hc
    show (s1.heap.objs.size : Nat) ≤ c
    omega
  have out : ∀ c, c ∈ [s1.heap.objs.size + 1, s1.heap.objs.size] → c ∉ S.ads := fun c hc z => Nat.lt_irrefl _ (Nat.lt_of_lt_of_le (src_lt I1 ax c z) (new c hc))
  exact ⟨_, _, _, _, H1, rfl, I1.kept (t' := s1.toks) hk, turn_enumS (Nat.succ_ne_self _) (out _ (by simp)) (out _ (by simp)), ⟨⟨_, he⟩, i1 _ _ e1⟩, fun c hc => I1.fpOk (new c hc) (I1.hok.fresh (new c hc)), q⟩
end
end W
/-! W12: iterables by data. -/
namespace W
open PySem L2
/-- a dict locked: everything else as it was -/
def Lckd (H H' : Hp) (d : Addr) (u : HO) (od : Obj) : Prop := H' d = some (.frz od u) ∧ (H d = some u ∨ H' = H) ∧ ∀ b, b ≠ d → H' b = H b
section
variable {X : Cx} {pins : List (Addr × Obj)} {σ : St} {H : Hp} {s : Shared}
theorem lock_rd {d : Addr} {u : HO} (I : Inv X pins σ H s) (h : Rd H d u) (mu : Mut (some u)) : ∃ od H', Inv X pins σ H' s ∧ Lckd H H' d u od := by
  rcases h with h | ⟨o, h⟩
  · obtain ⟨od, I'⟩ := I.lock h mu
    exact ⟨od, _, I', upd_same, .inl h, fun b hb => upd_ne hb⟩
  · exact ⟨o, H, I, h, .inr rfl, fun _ _ => rfl⟩
/-- what a value's walk is -/
def IterV (K : PySem.W.Frag) (x : V) (H : Hp) (R : It → Hp → Prop) : Prop :=
  (∃ S xs, SrcV x S ∧ S.At K H xs ∧ R (Js K S) H) ∨
  (∃ d kvs, x = .ref d ∧ Rd H d (.dK kvs) ∧ ∀ od H', Lckd H H' d (.dK kvs) od → R (Itk d od kvs) H') ∨
  (∃ d kvs, x = .ref d ∧ Rd H d (.dT kvs) ∧ ∀ od H', Lckd H H' d (.dT kvs) od → R (Itkt d od kvs) H')
def iVal (K : PySem.W.Frag) (te : TE) : TI := fun σ H R => te σ H fun x H1 => IterV K x H1 R
theorem pi_val {tg e : Expr} {te : TE} (he : PE X e te) : PI X tg e (iVal X.K te) := by
  refine ⟨fun pins s σ H R I h => ?_⟩
  refine thn (he.run pins s σ H _ I h) fun u s1 ⟨x, H1, I1, r1, q1⟩ => ?_
  rcases q1 with ⟨S, xs, sv, at1, q⟩ | ⟨d, kvs, rfl, hd, q⟩ | ⟨d, kvs, rfl, hd, q⟩
  · exact src_iter I1 at1 sv r1 q
  · obtain ⟨od, H', I2, lk⟩ := lock_rd I1 hd trivial
    obtain rfl : u = Value.ref d := r1
    obtain ⟨hs, hgd, hx, es, ep, vs, hdt, hsz, kv, hm⟩ := I2.frzK lk.1
    refine iter_keys hs hgd hx hdt (pi_one (tk := s1.toks) I2 _ (turn_keys _ hdt) ⟨_, Heap.get?_push_size _ rfl, rfl, ?_⟩ (q od H' lk))
    rw [hsz] <;> rfl
  · obtain ⟨od, H', I2, lk⟩ := lock_rd I1 hd trivial
    obtain rfl : u = Value.ref d := r1
    obtain ⟨hs, hgd, hx, es, ep, hdt, hsz, ent⟩ := I2.frzT lk.1
    refine iter_keys hs hgd hx hdt (pi_one (tk := s1.toks) I2 _ (turn_keysT _ hdt) ⟨_, Heap.get?_push_size _ rfl, rfl, ?_⟩ (q od H' lk))
    rw [hsz] <;> rfl
/-- d.values() -/
def iValues (td : TE) : TI := fun σ H R => td σ H fun x H1 => ∃ d kvs, x = .ref d ∧ Rd H1 d (.dK kvs) ∧ ∀ od H', Lckd H1 H' d (.dK kvs) od → R (Itd d od kvs) H'
theorem pi_valuesR {tg e : Expr} {td : TE} {apos cpos : Pos} (he : PE X e td) (hbase : attributeBase e "values" X.env (eval e X.env) = eval e X.env) (hline : (apos.endLine == cpos.line) = true) : PI X tg (.Call (.Attribute e "values" apos) [] [] cpos) (iValues td) := by
  refine ⟨fun pins s σ H R I h => ?_⟩
  refine wpAny_Call_method (T := "dict") (id := "dict.values") hbase rfl hline PySem.F.plainAttrs_dict PySem.F.slot_dict_values PySem.F.type_dict_values (thn (he.run pins s σ H _ I h) fun u s1 ⟨x, H1, I0, rx, d, kvs, ex, hd0, q⟩ => ?_)
  subst ex
  obtain rfl : u = Value.ref d := rx
  obtain ⟨od, H', I1, lk⟩ := lock_rd I0 hd0 trivial
  obtain ⟨hs, hgd, hx, es, ep, vs, hdt, hsz, kv, hm⟩ := I1.frzK lk.1
  have hl : kvs.length = vs.length := Paired.length kv
  refine ⟨hm.dictOf.typeIs, hm.dictOf.mapOf.noDict, ?_⟩
  have I2 : Inv X pins σ H' { s1 with heap := s1.heap.push { cls := .type "dict_values", data := .fields #[.ref d] } } := I1.kept (t' := s1.toks) fun b ob w => Heap.get?_push_of_some _ w
  have fin : wpAny (model X.prog X.w) X.A (pyIter (.ref s1.heap.objs.size)) (PIE X pins σ tg R) X.xe { s1 with heap := s1.heap.push { cls := .type "dict_values", data := .fields #[.ref d] } } := by
    refine wpAny_pyIter_values (d := d) (knd := mixKind X.prog X.w) ⟨_, Heap.get?_push_size _ rfl, rfl, rfl⟩ (hm.push _) (pi_one (tk := s1.toks) I2 _ (turn_vals _ hdt) ⟨_, Heap.get?_push_size _ rfl, rfl, ?_⟩ (q od H' lk))
    rw [hl] <;> rfl
  show wpAny _ _ (callWith cpos (.builtin "dict.values") [.ref d] [] []) _ X.xe s1
  exact method_meetsIn PySem.F.slot_dict_values PySem.F.entry_dict_values rfl (PySem.evalArgs_none ⟨rfl, hm.dictOf.typeIs, PySem.F.args_dict_values_1 _, _, meets_dict_values (mixKind X.prog X.w) d hs, ⟨vs, hm.dictOf⟩, fin⟩)
/-- d.items(), keys ints and texts -/
def iItemsR (td : TE) : TI := fun σ H R => td σ H fun x H1 => ∃ d kvs, x = .ref d ∧ Rd H1 d (.dK kvs) ∧ ∀ od H', Lckd H1 H' d (.dK kvs) od → R (Iti d od kvs) H'
theorem pi_itemsR {e : Expr} {td : TE} {apos cpos : Pos} {elts : List Expr} {kk : Nat} {tpos : Pos} (he : PE X e td) (hbase : attributeBase e "items" X.env (eval e X.env) = eval e X.env) (hline : (apos.endLine == cpos.line) = true) :
    PI X (.Tuple elts kk tpos) (.Call (.Attribute e "items" apos) [] [] cpos) (iItemsR td) := by
  refine ⟨fun pins s σ H R I h => ?_⟩
  refine wpAny_Call_method (T := "dict") (id := "dict.items") hbase rfl hline PySem.F.plainAttrs_dict PySem.F.slot_dict_items PySem.F.type_dict_items (thn (he.run pins s σ H _ I h) fun u s1 ⟨x, H1, I0, rx, d, kvs, ex, hd0, q⟩ => ?_)
  subst ex
  obtain rfl : u = Value.ref d := rx
  obtain ⟨od, H', I1, lk⟩ := lock_rd I0 hd0 trivial
  obtain ⟨hs, hgd, hx, es, ep, vs, hdt, hsz, kv, hm⟩ := I1.frzK lk.1
  have hl : kvs.length = vs.length := Paired.length kv
  refine ⟨hm.dictOf.typeIs, hm.dictOf.mapOf.noDict, ?_⟩
  have I2 : Inv X pins σ H' { s1 with heap := s1.heap.push { cls := .type "dict_items", data := .fields #[.ref d] } } := I1.kept (t' := s1.toks) fun b ob w => Heap.get?_push_of_some _ w
  have fin : wpAny (model X.prog X.w) X.A (pyIter (.ref s1.heap.objs.size)) (PIE X pins σ (.Tuple elts kk tpos) R) X.xe { s1 with heap := s1.heap.push { cls := .type "dict_items", data := .fields #[.ref d] } } := by
    refine wpAny_pyIter_items (d := d) (knd := mixKind X.prog X.w) ⟨_, Heap.get?_push_size _ rfl, rfl, rfl⟩ (hm.push _) (pi_one (tk := s1.toks) I2 _ (turn_items _ hdt) ⟨.none, .none, ?_⟩ (q od H' lk))
    rw [hl]
    exact Heap.get?_push_size _ rfl
  show wpAny _ _ (callWith cpos (.builtin "dict.items") [.ref d] [] []) _ X.xe s1
  exact method_meetsIn PySem.F.slot_dict_items PySem.F.entry_dict_items rfl (PySem.evalArgs_none ⟨rfl, hm.dictOf.typeIs, PySem.F.args_dict_items_1 _, _, meets_dict_items (mixKind X.prog X.w) d hs, ⟨vs, hm.dictOf⟩, fin⟩)
end
/-! ### a walk of data -/
/-- J yields the data l, in every heap that keeps what H0 keeps; xx: owned things stand too -/
def WalkD (g : Gd) (f : Fm) (ca A : List Addr) (H0 : Hp) (xx : Bool) (J : It) (l : List D) : Prop :=
  ∀ H ca2 A2, Here g f ca2 A2 H → Pre ca ca2 → Le (msk (bad g f ca A) H0) (msk (bad g f ca2 A2) H) → (xx = true → ∀ a o, a ∈ A → H0 a = some o → H a = some o) →
    (∀ i, i < l.length → J.go i H) ∧ J.stop l.length H ∧ ∀ i x H', i < l.length → J.yld i H x H' → Nw H H' ∧ ∃ d, l[i]? = some d ∧ Rep g.dA ca2 (msk (bad g f ca2 A2) H') d x
def PostI (g : Gd) (xr : XR) (f : Fm) (ca A : List Addr) (σ : St) (H : Hp) (xx : Bool) (W : WX) (r : R D) (Q : It → Hp → Prop) : Prop := match r with
  | .ok (.lst l) s' => ∀ J H' ca', Stp g (f.A0 ++ A) ca H ca' H' s' → WalkD g f ca' A H' xx J l → Q J H'
  | .ok _ _ => False
  | .exc c x s' => g.ex = true ∧ ∀ cls od H' ca', Stp g (f.A0 ++ A) ca H ca' H' s' → xr c x cls od H' ca' → W cls od σ H'
  | .stuck => False
def tI (g : Gd) (xr : XR) (F : Nat → List D → M D) (O : Nat → Bool) (xx : Bool) (W : WX) (m : E) : TI := fun σ H R =>
  ∃ f e s ca A, EOk g f O σ H e s ca A ∧ PostI g xr f ca A σ H xx W (den F m e s) R
theorem _root_.L2.PI.imp {X : Cx} {tg e : Expr} {t t' : TI} (h : PI X tg e t) (i : ∀ σ H R, t' σ H R → t σ H R) : PI X tg e t' := ⟨fun pins s σ H R I q => h.run pins s σ H R I (i σ H R q)⟩
section
variable {g : Gd} {xr : XR} {F : Nat → List D → M D} {O : Nat → Bool} {W : WX} {f : Fm} {L ca ca1 A : List Addr} {σ : St} {H0 H H1 : Hp} {s s1 : MS} {k : Kd} {r : R D} {e : Env} {xx : Bool} {K : PySem.W.Frag}
theorem PostI.from {Q : It → Hp → Prop} (st : Stp g (f.A0 ++ A) ca H ca1 H1 s1) (p : PostI g xr f ca A σ H xx W r Q) : PostI g xr f ca1 A σ H1 xx W r Q := by
  cases r with
  | ok d s' =>
    cases d with
    | lst b => exact fun v H' ca' t q => p v H' ca' (st.trans t) q
    | _ => exact p
  | exc c x s' => exact ⟨p.1, fun cls od H' ca' t q => p.2 cls od H' ca' (st.trans t) q⟩
  | stuck => exact p
/-- a part in front of an iterable -/
theorem tE.frontI {a : E} {m : D → M D} {Q : It → Hp → Prop} {Q' : VK} {k' : Kd} (ok : EOk g f O σ H e s ca A) (p : PostI g xr f ca A σ H xx W (M.bind (den F a e) m s) Q)
    (h : ∀ d s1 v H1 ca1, EOk g f O σ H1 e s1 ca1 A → Stp g (f.A0 ++ A) ca H ca1 H1 s1 → RepD g f ca1 A H H1 k' d v → PostI g xr f ca1 A σ H1 xx W (m d s1) Q → Q' v H1) : tE g xr F O k' W a σ H Q' := by
  refine ⟨f, e, s, ca, A, ok, ?_⟩
  unfold M.bind at p
  cases q : den F a e s with
  | ok d s1 =>
    rw [q] at p
    exact fun v H1 ca1 st r => h d s1 v H1 ca1 (ok.step st) st r (p.from st)
  | exc c x s1 => rw [q] at p; exact p
  | stuck => rw [q] at p; exact p
/-- what the items of data stand for, where they stand -/
structure SrcD (g : Gd) (K : PySem.W.Frag) (f : Fm) (ca A : List Addr) (H : Hp) (xx : Bool) (S : Src) (xs : List V) (l : List D) : Prop where
  stay : ∀ H2 ca2 A2, Here g f ca2 A2 H2 → Pre ca ca2 → Le (msk (bad g f ca A) H) (msk (bad g f ca2 A2) H2) → (xx = true → ∀ a o, a ∈ A → H a = some o → H2 a = some o) → S.At K H2 xs ∧ Reps g.dA ca2 (msk (bad g f ca2 A2) H2) l xs
theorem SrcD.now {S : Src} {xs : List V} {l : List D} (h : SrcD g K f ca A H xx S xs l) (he : Here g f ca A H) : S.At K H xs ∧ Reps g.dA ca (msk (bad g f ca A) H) l xs := h.stay H ca A he (.refl _) (.refl _) fun _ _ _ _ e => e
theorem signs_reps {dA : Addr} {ca : List Addr} {H : Hp} : ∀ {t : List Nat}, 1 ≤ sizeLine → Reps dA ca H (t.map fun c => .str [c]) (t.map fun c => V.str ⟨#[c]⟩)
  | [], _ => rfl
  | c :: t, h => ⟨_, _, rfl, ⟨rfl, h⟩, signs_reps h⟩
theorem srcD_tup {l : List D} {v : V} (r : RepI g f ca A H (.tup l) v) : ∃ S xs, SrcV v S ∧ SrcD g K f ca A H xx S xs l := by
  obtain ⟨a, xs, rfl, h1, h2⟩ : Rep g.dA ca (msk (bad g f ca A) H) (.tup l) v := r.1
  refine ⟨.t a, xs, rfl, ⟨fun H2 ca2 A2 he pr le _ => ⟨SqT.of (msk_some (le.t _ _ h1)).2, Reps.le pr le _ _ h2⟩⟩⟩
theorem srcD_str {t : List Nat} {v : V} (r : RepI g f ca A H (.str t) v) : ∃ S xs, SrcV v S ∧ SrcD g K f ca A H xx S xs (t.map fun c => .str [c]) := by
  obtain ⟨rfl, _⟩ := k_str r.1
  exact ⟨.s ⟨t.toArray⟩, _, rfl, ⟨fun H2 ca2 A2 he pr le _ => ⟨rfl, by
    show Reps _ _ _ _ (signs ⟨t.toArray⟩)
    unfold signs
    exact signs_reps (by decide)⟩⟩⟩
theorem srcD_lst {l : List D} {v : V} (r : RepK g f ca A H true (.lst l) v) : ∃ S xs, SrcV v S ∧ SrcD g K f ca A H xx S xs l := by
  obtain ⟨a, xs, rfl, h1, h2⟩ := r
  exact ⟨.l a, xs, rfl, ⟨fun H2 ca2 A2 he pr le _ => ⟨SqL.of (msk_some (le.l _ _ h1)).2, Reps.le pr le _ _ h2⟩⟩⟩
theorem walk_src {S : Src} {xs : List V} {l : List D} (h : SrcD g K f ca A H xx S xs l) : WalkD g f ca A H xx (Js K S) l := by
  intro H2 ca2 A2 he pr le ow
  obtain ⟨a1, r1⟩ := h.stay H2 ca2 A2 he pr le ow
  have ln := r1.length
  have item : ∀ i x, i < l.length → xs[i]? = some x → ∃ d, l[i]? = some d ∧ Rep g.dA ca2 (msk (bad g f ca2 A2) H2) d x := fun i x _ q => r1.getv q
  cases S with
  | l a => exact ⟨fun i hi => ⟨xs, xs[i]'(by omega), a1, by simp [ln, hi]⟩, ⟨xs, a1, by omega⟩, fun i x H' hi y => by obtain ⟨rfl, y⟩ := y; exact ⟨.refl _, item i x hi (y xs a1)⟩⟩
  | t a => exact ⟨fun i hi => ⟨xs, xs[i]'(by omega), a1, by simp [ln, hi]⟩, ⟨xs, a1, by omega⟩, fun i x H' hi y => by obtain ⟨rfl, y⟩ := y; exact ⟨.refl _, item i x hi (y xs a1)⟩⟩
  | s z =>
    have a1 : xs = signs z := a1
    have e : z.cps.size = l.length := by rw [← ln, a1]; simp [signs]
    refine ⟨fun i hi => by show i < z.cps.size; omega, by show z.cps.size ≤ l.length; omega, fun i x H' hi y => ?_⟩
    obtain ⟨rfl, c, hc, rfl⟩ := y
    exact ⟨.refl _, item i _ hi (by rw [a1]; simp [signs, hc])⟩
theorem enumL_get : ∀ {l : List D} {k : Int} {i : Nat}, (enumL k l)[i]? = (l[i]?).map fun d => .tup [.int (k + (i : Nat)), d]
  | [], _, i => by simp [enumL]
  | d :: l, k, 0 => by simp [enumL]
  | d :: l, k, i + 1 => by
    have := enumL_get (l := l) (k := k + 1) (i := i)
    simp only [enumL, List.getElem?_cons_succ, this]
    congr 2
    funext d
    rw [show k + 1 + (i : Nat) = k + ((i + 1 : Nat) : Int) by omega]
theorem zipL_get : ∀ {l m : List D} {i : Nat} {a b : D}, l[i]? = some a → m[i]? = some b → (zipL l m)[i]? = some (.tup [a, b])
  | _ :: _, _ :: _, 0, _, _, h, h' => by
    simp at h h'
    subst h h'
    rfl
  | _ :: _, _ :: _, i + 1, _, _, h, h' => by
    simp only [zipL, List.getElem?_cons_succ]
    exact zipL_get (by simpa using h) (by simpa using h')
theorem zipL_len : ∀ {l m : List D}, (zipL l m).length = min l.length m.length
  | [], m => by simp [zipL]
  | _ :: _, [] => by simp [zipL]
  | _ :: l, _ :: m => by simp [zipL, zipL_len, Nat.succ_min_succ]
theorem enumL_len : ∀ {l : List D} {k : Int}, (enumL k l).length = l.length
  | [], _ => rfl
  | _ :: l, k => by simp [enumL, enumL_len]
theorem rep_pair {ca2 A2 : List Addr} {H2 : Hp} {q : Addr} {a b : D} {x y : V} (he : Here g f ca2 A2 H2) (hq : H2 q = none) (r1 : Rep g.dA ca2 (msk (bad g f ca2 A2) H2) a x) (r2 : Rep g.dA ca2 (msk (bad g f ca2 A2) H2) b y) :
    Rep g.dA ca2 (msk (bad g f ca2 A2) (upd H2 q (.tup [x, y]))) (.tup [a, b]) (.ref q) := rep_newT he hq ⟨x, [y], rfl, r1, y, [], rfl, r2, rfl⟩
theorem walk_zip {S T : Src} {xs ys : List V} {l m : List D} (h : SrcD g K f ca A H xx S xs l) (h' : SrcD g K f ca A H xx T ys m) : WalkD g f ca A H xx (Jz K S T) (zipL l m) := by
  intro H2 ca2 A2 he pr le ow
  obtain ⟨a1, r1⟩ := h.stay H2 ca2 A2 he pr le ow
  obtain ⟨a2, r2⟩ := h'.stay H2 ca2 A2 he pr le ow
  have l1 := r1.length
  have l2 := r2.length
  rw [zipL_len]
  refine ⟨fun i hi => ⟨xs, ys, a1, a2, by omega, by omega⟩, ⟨xs, ys, a1, a2, by rw [l1, l2]⟩, fun i v H' hi y => ?_⟩
  obtain ⟨q, x, y, rfl, hq, rfl, e1, e2⟩ := y
  obtain ⟨a, ea, ra⟩ := r1.getv (e1 xs a1)
  obtain ⟨b, eb, rb⟩ := r2.getv (e2 ys a2)
  exact ⟨.upd hq, _, zipL_get ea eb, rep_pair he hq ra rb⟩
theorem walk_enum' {S : Src} {xs : List V} {l : List D} (h : SrcD g K f ca A H xx S xs l) : WalkD g f ca A H xx (Je K S) (enumL 0 l) := by
  intro H2 ca2 A2 he pr le ow
  obtain ⟨a1, r1⟩ := h.stay H2 ca2 A2 he pr le ow
  have l1 := r1.length
  rw [enumL_len]
  refine ⟨fun i hi => ⟨xs, a1, by omega⟩, ⟨xs, a1, l1.symm⟩, fun i v H' hi y => ?_⟩
  obtain ⟨q, x, rfl, hq, rfl, e1⟩ := y
  obtain ⟨a, ea, ra⟩ := r1.getv (e1 xs a1)
  exact ⟨.upd hq, _, by rw [enumL_get, ea]; rfl, rep_pair he hq (by show V.int _ = V.int _; rw [Int.zero_add]) ra⟩
/-- a dict locked: a step -/
theorem Lckd.stp {H' : Hp} {d : Addr} {u : HO} {od : Obj} (lk : Lckd H H' d u od) (hu : isDct u = true) (sr : SRel g ca H s) (n : d ∉ g.dA :: ca) (nL : d ∉ L) (nsl : d ≠ g.sl) : Stp g L ca H ca H' s := by
  have same : ∀ a o, a ≠ d → H a = some o → H' a = some o := fun a o h e => by rw [lk.2.2 a h]; exact e
  refine ⟨⟨same _ _ (fun z => n (by simp [← z])) sr.dr, same _ _ (Ne.symm nsl) sr.scr, sr.nsl, sr.cs, fun i a kv h1 h2 => ?_, sr.nd⟩, ⟨[], by simp, by simp⟩, fun a o hn e => ?_, fun a o hL hn e => same a o (fun z => nL (z ▸ hL)) e⟩
  · have ha : a ≠ d := fun z => n (by rw [← z]; exact List.mem_cons_of_mem _ (List.mem_of_getElem? h1))
    rcases sr.ce i a kv h1 h2 with ⟨kvs, q1, q2, q3⟩ | ⟨kvs, q1, q2, q3⟩
    · exact .inl ⟨kvs, same _ _ ha q1, q2, q3⟩
    · exact .inr ⟨kvs, same _ _ ha q1, q2, q3⟩
  · by_cases ha : a = d
    · subst ha
      rcases lk.2.1 with z | z
      · rw [z] at e
        cases e
        exact ⟨_, lk.1, .inr ⟨hu, od, rfl⟩⟩
      · exact ⟨o, by rw [z]; exact e, .refl _⟩
    · exact ⟨o, same a o ha e, .refl _⟩
end
end W
/-! V12: values and items of a dict with tuple keys. -/
namespace W
open PySem L2
/-- the values, tuple keys -/
def Jtd (d : Addr) (o : Obj) (kvs : List (List Key × V)) : It :=
  ⟨fun i H => H d = some (.frz o (.dT kvs)) ∧ i < kvs.length, fun i H x H' => H' = H ∧ ∃ k, kvs[i]? = some (k, x), fun i H => H d = some (.frz o (.dT kvs)) ∧ kvs.length ≤ i⟩
/-- the pairs, each a new tuple of the key's own tuple and the value -/
def Jti (d : Addr) (o : Obj) (kvs : List (List Key × V)) : It :=
  ⟨fun i H => H d = some (.frz o (.dT kvs)) ∧ i < kvs.length, fun i H x H' => ∃ T k v q, kvs[i]? = some (k, v) ∧ x = .ref T ∧ H T = none ∧ H q = some (.tup (k.map kV)) ∧ H' = upd H T (.tup [.ref q, v]), fun i H => H d = some (.frz o (.dT kvs)) ∧ kvs.length ≤ i⟩
section
variable {X : Cx} {pins : List (Addr × Obj)} {σ : St} {H : Hp} {s : Shared}
theorem frzV {d : Addr} {o : Obj} {kvs : List (List Key × V)} (I : Inv X pins σ H s) (h : H d = some (.frz o (.dT kvs))) :
    (d == sysModules) = false ∧ s.heap.get? d = some o ∧ o.ExactDict ∧ ∃ (es : Array DictEntry) (ep : Nat), o.data = .dict es ep ∧ s.heap.DictRaw d es ep ∧ es.size = kvs.length ∧
      ∀ (i : Nat) (k : List Key) (v : V), kvs[i]? = some (k, v) → ∃ (hi : i < es.size) (q : Addr), es[i].key = .ref q ∧ H q = some (.tup (k.map kV)) ∧ RelV v es[i].val := by
  obtain ⟨hd, z, hs, xs, pr, o', es, ep, ho, hx, hdt, he, _⟩ := I.hok d _ h
  rw [hd] at ho
  cases ho
  have l1 : es.size = xs.length := size_of_entries he
  have l2 : kvs.length = xs.length := Paired.length pr
  refine ⟨hs, hd, hx, es, ep, hdt, ⟨o, hd, hx, hdt⟩, by omega, fun i k v e => ?_⟩
  obtain ⟨b, hb, e1, e2, e3⟩ := paired_get pr e
  have q := entry_at he i
  have hi : i < es.size := by
    have := (List.getElem?_eq_some_iff.mp hb).1
    omega
  rw [hb, Array.getElem?_eq_getElem hi] at q
  have q := Option.some.inj q
  exact ⟨hi, b.2.1, by rw [q]; rfl, e2, by rw [q]; exact e3⟩
end
section
variable {P : Program} {w : World} {K : PySem.W.Frag} {tg : Expr} {d : Addr} {o : Obj} {es : Array DictEntry} {ep : Nat}
theorem turn_tvals {kvs : List (List Key × V)} (it : Addr) (hod : o.data = .dict es ep) : Turn P w K tg (Jtd d o kvs) [it] it (fun i h => h.IsValIter it d i kvs.length ep) where
  mem := by simp
  obj := fun i h st b hb => by
    have e : b = it := by simpa using hb
    subst e
    obtain ⟨oi, e, c, dd⟩ := st
    exact ⟨oi, e, fun v z => by rw [dd] at z; cases z⟩
  keep := fun i h h' st k => st.at fun oi e => k it (by simp) oi e
  item := by
    intro X hP hw hK hc i pins s σ H E I hf st hg
    subst hP hw hK
    obtain ⟨hd, hi⟩ := hg
    obtain ⟨f0, f1, f2, f3, f4, f5⟩ := hf it (by simp)
    obtain ⟨hs, hgd, hx, es', ep', hdt, hm, hsz, ent⟩ := frzV I hd
    obtain ⟨rfl, rfl⟩ := dict_ep hod hdt
    obtain ⟨⟨k, v⟩, hkv⟩ : ∃ p, kvs[i]? = some p := ⟨kvs[i], List.getElem?_eq_getElem hi⟩
    obtain ⟨hi', q, _, _, ru⟩ := ent i k v hkv
    rw [← hsz] at st
    refine wpAny_pyNext_values_item_raw st hm hi' fun h' st' sb => ?_
    have I1 : Inv X pins σ H { s with heap := h' } := I.turned (t' := s.toks) (fun b ob hb e => (sb.2 b hb).trans e) f0 f1 f3 f4 f5
    obtain ⟨oi, e, c, dd⟩ := id st'
    refine ⟨_, rfl, go_of (s := { s with heap := h' }) e c dd (by decide) ⟨v, H, I1, ru, ⟨rfl, k, hkv⟩, ?_, fun b hb => (hf b hb).1⟩⟩
    show h'.IsValIter it d (i + 1) kvs.length _
    rw [← hsz]
    exact st'
  done := by
    intro X hP hw hK hc i pins s σ H E I hf st hg
    subst hP hw hK
    obtain ⟨hd, hi⟩ := hg
    obtain ⟨f0, f1, f2, f3, f4, f5⟩ := hf it (by simp)
    obtain ⟨hs, hgd, hx, es', ep', hdt, hm, hsz, ent⟩ := frzV I hd
    obtain ⟨rfl, rfl⟩ := dict_ep hod hdt
    rw [← hsz] at st
    exact wpAny_pyNext_values_end_raw (I.ok.hd hc) st hm (by omega) fun h' eb => ⟨rfl, I.turned (t' := s.toks) (fun b ob hb e => eb b ob hb e) f0 f1 f3 f4 f5⟩
  self := fun A i s Q E st h => wpAny_pyIter_valiter st h
theorem turn_titems {kvs : List (List Key × V)} {elts : List Expr} {kk : Nat} {tpos : Pos} (it : Addr) (hod : o.data = .dict es ep) :
    Turn P w K (.Tuple elts kk tpos) (Jti d o kvs) [it] it (fun i h => ∃ ok ov, IsItemIter h it d i kvs.length ep ok ov) where
  mem := by simp
  obj := fun i h st b hb => by
    have e : b = it := by simpa using hb
    subst e
    obtain ⟨ok, ov, e⟩ := st
    exact ⟨_, e, fun v z => nomatch z⟩
  keep := fun i h h' st k => let ⟨ok, ov, e⟩ := st; ⟨ok, ov, k it (by simp) _ e⟩
  item := by
    intro X hP hw hK hc i pins s σ H E I hf st hg
    subst hP hw hK
    obtain ⟨hd, hi⟩ := hg
    obtain ⟨hs, hgd, hx, es', ep', hdt, hm, hsz, ent⟩ := frzV I hd
    obtain ⟨rfl, rfl⟩ := dict_ep hod hdt
    obtain ⟨⟨k, v⟩, hkv⟩ : ∃ p, kvs[i]? = some p := ⟨kvs[i], List.getElem?_eq_getElem hi⟩
    obtain ⟨hi', q, hkey, hq, ru⟩ := ent i k v hkv
    obtain ⟨ok, ov, he⟩ := st
    rw [← hsz] at he
    have hlt : it < s.heap.objs.size := Heap.lt_size he
    refine wpAny_pyNext_items_item_raw he hm hi' fun h' ho hT hz hk => ?_
    refine ⟨_, rfl, wpAny_letOwnedTupleGo_items (s := { s with heap := h' }) ho fun h'' he' sb => ?_⟩
    have hT2 := (sb.2 _ (Nat.ne_of_gt hlt)).trans hT
    rw [hkey] at hT2
    have new : ObjOk X.prog X.w (upd H s.heap.objs.size (.tup [.ref q, v])) h'' s.heap.objs.size (.tup [.ref q, v]) :=
      ⟨by show 2 ≤ sizeLine; decide, [.ref q, _], .cons rfl (.cons ru .nil), ⟨_, hT2, rfl, _, rfl⟩⟩
    have I1 : Inv X pins σ (upd H s.heap.objs.size (.tup [.ref q, v])) { s with heap := h'' } :=
      I.turnedNew (t' := s.toks) (ch := [it]) (fun b ob hb e => (sb.2 b (by simpa using hb)).trans (hk b ob (by simpa using hb) e)) hf (Nat.le_refl _) new
    refine ⟨.ref s.heap.objs.size, _, I1, rfl, ⟨_, k, v, q, hkv, rfl, I.hok.fresh (Nat.le_refl _), hq, rfl⟩, ⟨es'[i].key, es'[i].val, ?_⟩, fun b hb => ?_⟩
    · rw [← hsz]; exact he'
    · have e : b = it := by simpa using hb
      rw [e, upd_ne (Nat.ne_of_lt hlt)]
      exact (hf it (by simp)).1
  done := by
    intro X hP hw hK hc i pins s σ H E I hf st hg
    subst hP hw hK
    obtain ⟨hd, hi⟩ := hg
    obtain ⟨f0, f1, f2, f3, f4, f5⟩ := hf it (by simp)
    obtain ⟨hs, hgd, hx, es', ep', hdt, hm, hsz, ent⟩ := frzV I hd
    obtain ⟨rfl, rfl⟩ := dict_ep hod hdt
    obtain ⟨ok, ov, he⟩ := st
    rw [← hsz] at he
    exact wpAny_pyNext_items_end_raw (I.ok.hd hc) he hm (by omega) fun h' eb => ⟨rfl, I.turned (t' := s.toks) (fun b ob hb e => eb b ob hb e) f0 f1 f3 f4 f5⟩
  self := fun A i s Q E st h => let ⟨_, _, e⟩ := st; PySem.W.kcp_self e h
end
section
variable {X : Cx} {pins : List (Addr × Obj)} {σ : St} {H : Hp} {s : Shared}
/-- d.values(), d of any keys -/
def jValues (td : TE) : TI := fun σ H R => td σ H fun x H1 => ∃ d, x = .ref d ∧
  ((∃ kvs, Rd H1 d (.dK kvs) ∧ ∀ od H', Lckd H1 H' d (.dK kvs) od → R (Itd d od kvs) H') ∨ (∃ kvs, Rd H1 d (.dT kvs) ∧ ∀ od H', Lckd H1 H' d (.dT kvs) od → R (Jtd d od kvs) H'))
theorem pi_jvalues {tg e : Expr} {td : TE} {apos cpos : Pos} (he : PE X e td) (hbase : attributeBase e "values" X.env (eval e X.env) = eval e X.env) (hline : (apos.endLine == cpos.line) = true) : PI X tg (.Call (.Attribute e "values" apos) [] [] cpos) (jValues td) := by
  refine ⟨fun pins s σ H R I h => ?_⟩
  refine wpAny_Call_method (T := "dict") (id := "dict.values") hbase rfl hline PySem.F.plainAttrs_dict PySem.F.slot_dict_values PySem.F.type_dict_values (thn (he.run pins s σ H _ I h) fun u s1 ⟨x, H1, I0, rx, d, ex, q0⟩ => ?_)
  subst ex
  obtain rfl : u = Value.ref d := rx
  have fin : ∀ {es : Array DictEntry} {ep : Nat} {H' : Hp} {J : It} {o : Obj}, (d == sysModules) = false → s1.heap.get? d = some o → o.ExactDict → o.data = .dict es ep → Inv X pins σ H' s1 → (∀ it, Turn X.prog X.w X.K tg J [it] it (fun i h => h.IsValIter it d i es.size ep)) → R J H' →
      s1.TypeIs (.ref d) "dict" ∧ (∀ b, Value.ref d = .ref b → ∃ ob, s1.heap.get? b = some ob ∧ ob.dict = none) ∧ wpAny (model X.prog X.w) X.A (callWith cpos (.builtin "dict.values") [.ref d] [] []) (fun v s' => wpAny (model X.prog X.w) X.A (pyIter v) (PIE X pins σ tg R) X.xe s') X.xe s1 := fun {es ep H' J o} hs hgd hx hdt I1 tn q => by
    have hm : s1.heap.DictRaw d es ep := ⟨o, hgd, hx, hdt⟩
    refine ⟨hm.typeIs, fun b e => by cases e; exact ⟨o, hgd, hx.2.1⟩, ?_⟩
    have I2 : Inv X pins σ H' { s1 with heap := s1.heap.push { cls := .type "dict_values", data := .fields #[.ref d] } } := I1.kept (t' := s1.toks) fun b ob w => Heap.get?_push_of_some _ w
    have fin : wpAny (model X.prog X.w) X.A (pyIter (.ref s1.heap.objs.size)) (PIE X pins σ tg R) X.xe { s1 with heap := s1.heap.push { cls := .type "dict_values", data := .fields #[.ref d] } } := by
      refine wpAny_pyIter_values_raw (d := d) ⟨_, Heap.get?_push_size _ rfl, rfl, rfl⟩ (hm.at fun o e => Heap.get?_push_of_some _ e) (pi_one (tk := s1.toks) I2 _ (tn _) ⟨_, Heap.get?_push_size _ rfl, rfl, rfl⟩ q)
    exact method_meetsIn PySem.F.slot_dict_values PySem.F.entry_dict_values rfl (PySem.evalArgs_none ⟨rfl, hm.typeIs, PySem.F.args_dict_values_1 _, _, meets_dict_values_raw d hs, ⟨es, ep, hm⟩, fin⟩)
  rcases q0 with ⟨kvs, hd0, q⟩ | ⟨kvs, hd0, q⟩
  · obtain ⟨od, H', I1, lk⟩ := lock_rd I0 hd0 trivial
    obtain ⟨hs, hgd, hx, es, ep, vs, hdt, hsz, kv, hm⟩ := I1.frzK lk.1
    exact fin hs hgd hx hdt I1 (fun it => by rw [hsz]; exact turn_vals it hdt) (q od H' lk)
  · obtain ⟨od, H', I1, lk⟩ := lock_rd I0 hd0 trivial
    obtain ⟨hs, hgd, hx, es, ep, hdt, hm, hsz, ent⟩ := frzV I1 lk.1
    exact fin hs hgd hx hdt I1 (fun it => by rw [hsz]; exact turn_tvals it hdt) (q od H' lk)
/-- d.items(), d of any keys -/
def jItems (td : TE) : TI := fun σ H R => td σ H fun x H1 => ∃ d, x = .ref d ∧
  ((∃ kvs, Rd H1 d (.dK kvs) ∧ ∀ od H', Lckd H1 H' d (.dK kvs) od → R (Iti d od kvs) H') ∨ (∃ kvs, Rd H1 d (.dT kvs) ∧ ∀ od H', Lckd H1 H' d (.dT kvs) od → R (Jti d od kvs) H'))
theorem pi_jitems {e : Expr} {td : TE} {apos cpos : Pos} {elts : List Expr} {kk : Nat} {tpos : Pos} (he : PE X e td) (hbase : attributeBase e "items" X.env (eval e X.env) = eval e X.env) (hline : (apos.endLine == cpos.line) = true) :
    PI X (.Tuple elts kk tpos) (.Call (.Attribute e "items" apos) [] [] cpos) (jItems td) := by
  refine ⟨fun pins s σ H R I h => ?_⟩
  refine wpAny_Call_method (T := "dict") (id := "dict.items") hbase rfl hline PySem.F.plainAttrs_dict PySem.F.slot_dict_items PySem.F.type_dict_items (thn (he.run pins s σ H _ I h) fun u s1 ⟨x, H1, I0, rx, d, ex, q0⟩ => ?_)
  subst ex
  obtain rfl : u = Value.ref d := rx
  have fin : ∀ {es : Array DictEntry} {ep : Nat} {H' : Hp} {J : It} {o : Obj}, (d == sysModules) = false → s1.heap.get? d = some o → o.ExactDict → o.data = .dict es ep → Inv X pins σ H' s1 → (∀ it, Turn X.prog X.w X.K (.Tuple elts kk tpos) J [it] it (fun i h => ∃ ok ov, IsItemIter h it d i es.size ep ok ov)) → R J H' →
      s1.TypeIs (.ref d) "dict" ∧ (∀ b, Value.ref d = .ref b → ∃ ob, s1.heap.get? b = some ob ∧ ob.dict = none) ∧ wpAny (model X.prog X.w) X.A (callWith cpos (.builtin "dict.items") [.ref d] [] []) (fun v s' => wpAny (model X.prog X.w) X.A (pyIter v) (PIE X pins σ (.Tuple elts kk tpos) R) X.xe s') X.xe s1 := fun {es ep H' J o} hs hgd hx hdt I1 tn q => by
    have hm : s1.heap.DictRaw d es ep := ⟨o, hgd, hx, hdt⟩
    refine ⟨hm.typeIs, fun b e => by cases e; exact ⟨o, hgd, hx.2.1⟩, ?_⟩
    have I2 : Inv X pins σ H' { s1 with heap := s1.heap.push { cls := .type "dict_items", data := .fields #[.ref d] } } := I1.kept (t' := s1.toks) fun b ob w => Heap.get?_push_of_some _ w
    have fin : wpAny (model X.prog X.w) X.A (pyIter (.ref s1.heap.objs.size)) (PIE X pins σ (.Tuple elts kk tpos) R) X.xe { s1 with heap := s1.heap.push { cls := .type "dict_items", data := .fields #[.ref d] } } := by
      refine wpAny_pyIter_items_raw (d := d) ⟨_, Heap.get?_push_size _ rfl, rfl, rfl⟩ (hm.at fun o e => Heap.get?_push_of_some _ e) (pi_one (tk := s1.toks) I2 _ (tn _) ⟨.none, .none, Heap.get?_push_size _ rfl⟩ q)
    exact method_meetsIn PySem.F.slot_dict_items PySem.F.entry_dict_items rfl (PySem.evalArgs_none ⟨rfl, hm.typeIs, PySem.F.args_dict_items_1 _, _, meets_dict_items_raw d hs, ⟨es, ep, hm⟩, fin⟩)
  rcases q0 with ⟨kvs, hd0, q⟩ | ⟨kvs, hd0, q⟩
  · obtain ⟨od, H', I1, lk⟩ := lock_rd I0 hd0 trivial
    obtain ⟨hs, hgd, hx, es, ep, vs, hdt, hsz, kv, hm⟩ := I1.frzK lk.1
    exact fin hs hgd hx hdt I1 (fun it => by rw [hsz]; exact turn_items it hdt) (q od H' lk)
  · obtain ⟨od, H', I1, lk⟩ := lock_rd I0 hd0 trivial
    obtain ⟨hs, hgd, hx, es, ep, hdt, hm, hsz, ent⟩ := frzV I1 lk.1
    exact fin hs hgd hx hdt I1 (fun it => by rw [hsz]; exact turn_titems it hdt) (q od H' lk)
end
end W
/-! W13: readings of iterables. -/
namespace W
open PySem L2
section
variable {X : Cx} {g : Gd} {xr : XR} {F : Nat → List D → M D} {O : Nat → Bool} {W : WX} {f : Fm} {L ca ca1 A : List Addr} {σ : St} {H0 H H1 : Hp} {s s1 : MS} {k ka kb : Kd} {e : Env} {xx : Bool} {K : PySem.W.Frag} {pos : Pos}
theorem bind_assoc' {α β γ : Type} (m : M α) (f : α → M β) (h : β → M γ) (s : MS) : M.bind (M.bind m f) h s = M.bind m (fun a => M.bind (f a) h) s := by
  unfold M.bind
  cases m s <;> rfl
theorem Pre.trans {a b c : List Addr} (h : Pre a b) (h' : Pre b c) : Pre a c := by
  obtain ⟨m, rfl⟩ := h
  obtain ⟨n, rfl⟩ := h'
  exact ⟨m ++ n, by simp⟩
theorem rangeL_get : ∀ {n : Nat} {a c : Int} {i : Nat}, i < n → (rangeL n a c)[i]? = some (.int (a + (i : Nat) * c))
  | n + 1, a, c, 0, _ => by simp [rangeL]
  | n + 1, a, c, i + 1, h => by
    simp only [rangeL, List.getElem?_cons_succ]
    rw [rangeL_get (Nat.lt_of_succ_lt_succ h)]
    congr 2
    rw [show ((i + 1 : Nat) : Int) = (i : Int) + 1 by omega, Int.add_mul]
    omega
theorem rangeL_len : ∀ {n : Nat} {a c : Int}, (rangeL n a c).length = n
  | 0, _, _ => rfl
  | n + 1, _, _ => by simp [rangeL, rangeL_len]
theorem walk_rng {lo c : Int} {n : Nat} : WalkD g f ca A H xx (Itc lo c n) (rangeL n lo c) := by
  intro H2 ca2 A2 he pr le ow
  rw [rangeL_len]
  refine ⟨fun i hi => hi, Nat.le_refl _, fun i x H' hi y => ?_⟩
  obtain ⟨rfl, rfl⟩ := y
  exact ⟨.refl _, _, rangeL_get hi, rfl⟩
theorem walk_rng1 {lo : Int} {n : Nat} : WalkD g f ca A H xx (Itr lo n) (rangeL n lo 1) := by
  intro H2 ca2 A2 he pr le ow
  rw [rangeL_len]
  refine ⟨fun i hi => hi, Nat.le_refl _, fun i x H' hi y => ?_⟩
  obtain ⟨rfl, rfl⟩ := y
  exact ⟨.refl _, _, rangeL_get hi, by show V.int _ = V.int _; rw [Int.mul_one]⟩
theorem walk_dK {d : Addr} {od : Obj} {kvs : List (Key × V)} {ks : List D} (h : H d = some (.frz od (.dK kvs))) (n : d ∉ bad g f ca A) (p : KsR kO ks (kvs.map (·.1))) : WalkD g f ca A H xx (Itk d od kvs) ks := by
  intro H2 ca2 A2 he pr le ow
  have h2 := (msk_some (le.z _ _ _ (msk_of n h))).2
  have ln : ks.length = kvs.length := by rw [p.length, List.length_map]
  refine ⟨fun i hi => ⟨h2, by omega⟩, ⟨h2, by omega⟩, fun i x H' hi y => ?_⟩
  obtain ⟨rfl, k, v, hk, rfl⟩ := y
  obtain ⟨j, e1, e2⟩ := p.get (List.getElem?_eq_getElem hi)
  rw [List.getElem?_map, hk] at e1
  cases e1
  exact ⟨.refl _, _, List.getElem?_eq_getElem hi, kO_rep e2⟩
theorem walk_dT {d : Addr} {od : Obj} {kvs : List (List Key × V)} {ks : List D} (h : H d = some (.frz od (.dT kvs))) (n : d ∉ bad g f ca A) (p : KsR kTO ks (kvs.map (·.1))) : WalkD g f ca A H xx (Itkt d od kvs) ks := by
  intro H2 ca2 A2 he pr le ow
  have h2 := (msk_some (le.z _ _ _ (msk_of n h))).2
  have ln : ks.length = kvs.length := by rw [p.length, List.length_map]
  refine ⟨fun i hi => ⟨h2, by omega⟩, ⟨h2, by omega⟩, fun i x H' hi y => ?_⟩
  obtain ⟨rfl, k, v, q, hk, rfl, hq⟩ := y
  obtain ⟨j, e1, e2⟩ := p.get (List.getElem?_eq_getElem hi)
  rw [List.getElem?_map, hk] at e1
  cases e1
  refine ⟨.refl _, _, List.getElem?_eq_getElem hi, ?_⟩
  cases hd : ks[i] with
  | tup l =>
    rw [hd] at e2
    exact ⟨q, _, rfl, msk_of (he.tup hq) hq, ksO_reps e2⟩
  | _ => rw [hd] at e2; cases e2
theorem walk_vals {d : Addr} {od : Obj} {kvs : List (Key × V)} {vs : List D} (h : H d = some (.frz od (.dK kvs))) (n : d ∉ bad g f ca A) (p : Reps g.dA ca (msk (bad g f ca A) H) vs (kvs.map (·.2))) : WalkD g f ca A H xx (Itd d od kvs) vs := by
  intro H2 ca2 A2 he pr le ow
  have h2 := (msk_some (le.z _ _ _ (msk_of n h))).2
  have p2 := Reps.le pr le _ _ p
  have ln : kvs.length = vs.length := by rw [← p2.length, List.length_map]
  refine ⟨fun i hi => ⟨h2, by omega⟩, ⟨h2, by omega⟩, fun i x H' hi y => ?_⟩
  obtain ⟨rfl, k, hk⟩ := y
  exact ⟨.refl _, p2.getv (by rw [List.getElem?_map, hk]; rfl)⟩
theorem walk_tvals {d : Addr} {od : Obj} {kvs : List (List Key × V)} {vs : List D} (h : H d = some (.frz od (.dT kvs))) (n : d ∉ bad g f ca A) (p : Reps g.dA ca (msk (bad g f ca A) H) vs (kvs.map (·.2))) : WalkD g f ca A H xx (Jtd d od kvs) vs := by
  intro H2 ca2 A2 he pr le ow
  have h2 := (msk_some (le.z _ _ _ (msk_of n h))).2
  have p2 := Reps.le pr le _ _ p
  have ln : kvs.length = vs.length := by rw [← p2.length, List.length_map]
  refine ⟨fun i hi => ⟨h2, by omega⟩, ⟨h2, by omega⟩, fun i x H' hi y => ?_⟩
  obtain ⟨rfl, k, hk⟩ := y
  exact ⟨.refl _, p2.getv (by rw [List.getElem?_map, hk]; rfl)⟩
theorem walk_itemsT {d : Addr} {od : Obj} {kvs : List (List Key × V)} {ks vs : List D} (h : H d = some (.frz od (.dT kvs))) (n : d ∉ bad g f ca A) (pk : KsR kTO ks (kvs.map (·.1))) (p : Reps g.dA ca (msk (bad g f ca A) H) vs (kvs.map (·.2))) : WalkD g f ca A H xx (Jti d od kvs) (zipL ks vs) := by
  intro H2 ca2 A2 he pr le ow
  have h2 := (msk_some (le.z _ _ _ (msk_of n h))).2
  have p2 := Reps.le pr le _ _ p
  have ln : kvs.length = vs.length := by rw [← p2.length, List.length_map]
  have lk : ks.length = kvs.length := by rw [pk.length, List.length_map]
  rw [zipL_len]
  refine ⟨fun i hi => ⟨h2, by omega⟩, ⟨h2, by omega⟩, fun i x H' hi y => ?_⟩
  obtain ⟨T, k, v, q, hk, rfl, hT, hq, rfl⟩ := y
  have hi' : i < ks.length := by omega
  obtain ⟨j, e1, e2⟩ := pk.get (List.getElem?_eq_getElem hi')
  rw [List.getElem?_map, hk] at e1
  cases e1
  obtain ⟨b, eb, rb⟩ := p2.getv (i := i) (x := v) (by rw [List.getElem?_map, hk]; rfl)
  refine ⟨.upd hT, _, zipL_get (List.getElem?_eq_getElem hi') eb, rep_pair he hT ?_ rb⟩
  cases hd : ks[i] with
  | tup l =>
    rw [hd] at e2
    exact ⟨q, _, rfl, msk_of (he.tup hq) hq, ksO_reps e2⟩
  | _ => rw [hd] at e2; cases e2
theorem walk_itemsK {d : Addr} {od : Obj} {kvs : List (Key × V)} {ks vs : List D} (h : H d = some (.frz od (.dK kvs))) (n : d ∉ bad g f ca A) (pk : KsR kO ks (kvs.map (·.1))) (p : Reps g.dA ca (msk (bad g f ca A) H) vs (kvs.map (·.2))) : WalkD g f ca A H xx (Iti d od kvs) (zipL ks vs) := by
  intro H2 ca2 A2 he pr le ow
  have h2 := (msk_some (le.z _ _ _ (msk_of n h))).2
  have p2 := Reps.le pr le _ _ p
  have ln : kvs.length = vs.length := by rw [← p2.length, List.length_map]
  have lk : ks.length = kvs.length := by rw [pk.length, List.length_map]
  rw [zipL_len]
  refine ⟨fun i hi => ⟨h2, by omega⟩, ⟨h2, by omega⟩, fun i x H' hi y => ?_⟩
  obtain ⟨T, k, v, hk, rfl, hT, rfl⟩ := y
  have hi' : i < ks.length := by omega
  obtain ⟨j, e1, e2⟩ := pk.get (List.getElem?_eq_getElem hi')
  rw [List.getElem?_map, hk] at e1
  cases e1
  obtain ⟨b, eb, rb⟩ := p2.getv (i := i) (x := v) (by rw [List.getElem?_map, hk]; rfl)
  exact ⟨.upd hT, _, zipL_get (List.getElem?_eq_getElem hi') eb, rep_pair he hT (kO_rep e2) rb⟩
theorem ne_sl {d : Addr} {u : HO} (sr : SRel g ca H s) (h : Rd H d u) (hu : isDct u = true) : d ≠ g.sl := fun z => by
  subst z
  rcases h with h | ⟨o, h⟩
  · rw [sr.scr] at h
    cases h
    cases hu
  · rw [sr.scr] at h
    cases h
/-- a kept dict's walk: it is locked -/
theorem lck_of {H' : Hp} {d : Addr} {u : HO} {od : Obj} (ok : EOk g f O σ H e s ca A) (lk : Lckd H H' d u od) (hu : isDct u = true) (h : Rd (msk (bad g f ca A) H) d u) : Stp g (f.A0 ++ A) ca H ca H' s ∧ d ∉ bad g f ca A := by
  have n : d ∉ bad g f ca A := by rcases h with h | ⟨o, h⟩ <;> exact (msk_some h).1
  have h' : Rd H d u := h.elim (fun z => .inl (msk_some z).2) fun ⟨o, z⟩ => .inr ⟨o, (msk_some z).2⟩
  refine ⟨lk.stp hu ok.sr (bad_out n) (fun z => n ?_) (ne_sl ok.sr h' hu), n⟩
  simp only [List.mem_cons, List.mem_append] at z ⊢
  exact .inr (.inr z)
theorem unmask {d : Addr} {u : HO} {L : List Addr} (h : Rd (msk L H) d u) : Rd H d u := h.elim (fun z => .inl (msk_some z).2) fun ⟨o, z⟩ => .inr ⟨o, (msk_some z).2⟩
theorem i_itv {tg a : Expr} {ma : E} (ha : PE X a (tE g xr F O ka W ma)) (hk : ka ≠ .I) : PI X tg a (tI g xr F O xx W (.itv ma)) := by
  refine (pi_val ha).imp fun σ H R h => ?_
  obtain ⟨f, e, s, ca, A, ok, p⟩ := h
  refine tE.frontI ok p fun d s1 v H1 ca1 ok1 st1 r1 p1 => ?_
  cases d with
  | tup l =>
    obtain ⟨S, xs, sv, sd⟩ := srcD_tup (K := X.K) (xx := xx) r1.toI
    exact .inl ⟨S, xs, sv, (sd.now ok1.here).1, p1 _ H1 ca1 (.refl ok1.sr) (walk_src sd)⟩
  | str l =>
    obtain ⟨S, xs, sv, sd⟩ := srcD_str (K := X.K) (xx := xx) r1.toI
    exact .inl ⟨S, xs, sv, (sd.now ok1.here).1, p1 _ H1 ca1 (.refl ok1.sr) (walk_src sd)⟩
  | lst l =>
    obtain ⟨S, xs, sv, sd⟩ := srcD_lst (K := X.K) (xx := xx) (r1.kept hk)
    exact .inl ⟨S, xs, sv, (sd.now ok1.here).1, p1 _ H1 ca1 (.refl ok1.sr) (walk_src sd)⟩
  | dct ks vs =>
    have r := r1.kept hk
    obtain ⟨a, rfl, ⟨kvs, h1, h2, h3⟩ | ⟨kvs, h1, h2, h3⟩⟩ := r
    · refine .inr (.inl ⟨a, kvs, rfl, unmask h1, fun od H' lk => ?_⟩)
      obtain ⟨st, n⟩ := lck_of ok1 lk rfl h1
      exact p1 _ H' ca1 st (walk_dK lk.1 n h2)
    · refine .inr (.inr ⟨a, kvs, rfl, unmask h1, fun od H' lk => ?_⟩)
      obtain ⟨st, n⟩ := lck_of ok1 lk rfl h1
      exact p1 _ H' ca1 st (walk_dT lk.1 n h2)
  | _ => exact p1.elim
theorem i_itl {tg a : Expr} {ma : E} (ha : PE X a (tE g xr F O ka W ma)) : PI X tg a (tI g xr F O true W (.itl ma)) := by
  refine (pi_val ha).imp fun σ H R h => ?_
  obtain ⟨f, e, s, ca, A, ok, p⟩ := h
  refine tE.frontI ok p fun d s1 v H1 ca1 ok1 st1 r1 p1 => ?_
  cases d with
  | tup l =>
    obtain ⟨S, xs, sv, sd⟩ := srcD_tup (K := X.K) (xx := true) r1.toI
    exact .inl ⟨S, xs, sv, (sd.now ok1.here).1, p1 _ H1 ca1 (.refl ok1.sr) (walk_src sd)⟩
  | lst l =>
    obtain ⟨⟨a, xs, rfl, h1, h2⟩, n⟩ := r1.toI
    have sd : SrcD g X.K f ca1 A H1 true (.l a) xs l := by
      refine ⟨fun H2 ca2 A2 he pr le ow => ⟨SqL.of ?_, Reps.le pr le _ _ h2⟩⟩
      rcases (n a rfl rfl).2 with z | z
      · exact ow rfl a _ z h1
      · exact (msk_some (le.l _ _ (msk_of z h1))).2
    exact .inl ⟨.l a, xs, rfl, (sd.now ok1.here).1, p1 _ H1 ca1 (.refl ok1.sr) (walk_src sd)⟩
  | _ => exact p1.elim
theorem i_values {tg a : Expr} {ma : E} {apos cpos : Pos} (ha : PE X a (tE g xr F O ka W ma)) (hk : ka ≠ .I) (hb : attributeBase a "values" X.env (eval a X.env) = eval a X.env) (hl : (apos.endLine == cpos.line) = true) : PI X tg (.Call (.Attribute a "values" apos) [] [] cpos) (tI g xr F O xx W (.itvs ma)) := by
  refine (pi_jvalues ha hb hl).imp fun σ H R h => ?_
  obtain ⟨f, e, s, ca, A, ok, p⟩ := h
  refine tE.frontI ok p fun d s1 v H1 ca1 ok1 st1 r1 p1 => ?_
  cases d with
  | dct ks vs =>
    obtain ⟨a, rfl, ⟨kvs, h1, h2, h3⟩ | ⟨kvs, h1, h2, h3⟩⟩ := r1.kept hk
    · refine ⟨a, rfl, .inl ⟨kvs, unmask h1, fun od H' lk => ?_⟩⟩
      obtain ⟨st, n⟩ := lck_of ok1 lk rfl h1
      exact p1 _ H' ca1 st (walk_vals lk.1 n (h3.stp st))
    · refine ⟨a, rfl, .inr ⟨kvs, unmask h1, fun od H' lk => ?_⟩⟩
      obtain ⟨st, n⟩ := lck_of ok1 lk rfl h1
      exact p1 _ H' ca1 st (walk_tvals lk.1 n (h3.stp st))
  | _ => exact p1.elim
theorem i_items {a : Expr} {ma : E} {apos cpos : Pos} {elts : List Expr} {kk : Nat} {tpos : Pos} (ha : PE X a (tE g xr F O ka W ma)) (hk : ka ≠ .I) (hb : attributeBase a "items" X.env (eval a X.env) = eval a X.env) (hl : (apos.endLine == cpos.line) = true) :
    PI X (.Tuple elts kk tpos) (.Call (.Attribute a "items" apos) [] [] cpos) (tI g xr F O xx W (.iti ma)) := by
  refine (pi_jitems ha hb hl).imp fun σ H R h => ?_
  obtain ⟨f, e, s, ca, A, ok, p⟩ := h
  refine tE.frontI ok p fun d s1 v H1 ca1 ok1 st1 r1 p1 => ?_
  cases d with
  | dct ks vs =>
    obtain ⟨a, rfl, ⟨kvs, h1, h2, h3⟩ | ⟨kvs, h1, h2, h3⟩⟩ := r1.kept hk
    · refine ⟨a, rfl, .inl ⟨kvs, unmask h1, fun od H' lk => ?_⟩⟩
      obtain ⟨st, n⟩ := lck_of ok1 lk rfl h1
      exact p1 _ H' ca1 st (walk_itemsK lk.1 n h2 (h3.stp st))
    · refine ⟨a, rfl, .inr ⟨kvs, unmask h1, fun od H' lk => ?_⟩⟩
      obtain ⟨st, n⟩ := lck_of ok1 lk rfl h1
      exact p1 _ H' ca1 st (walk_itemsT lk.1 n h2 (h3.stp st))
  | _ => exact p1.elim
/-- what zip and enumerate take -/
theorem seq_src {d : D} {l : List D} {v : V} (r : RepD g f ca A H0 H k d v) (hk : k ≠ .I ∨ xx = true) (h : seqS d = some l) : ∃ S xs, SrcV v S ∧ SrcD g K f ca A H xx S xs l := by
  cases d with
  | tup l' => cases h; exact srcD_tup r.toI
  | str l' => cases h; exact srcD_str r.toI
  | lst l' =>
    cases h
    rcases hk with hk | rfl
    · exact srcD_lst (r.kept hk)
    · obtain ⟨⟨a, xs, rfl, h1, h2⟩, n⟩ := r.toI
      refine ⟨.l a, xs, rfl, ⟨fun H2 ca2 A2 he pr le ow => ⟨SqL.of ?_, Reps.le pr le _ _ h2⟩⟩⟩
      rcases (n a rfl rfl).2 with z | z
      · exact ow rfl a _ z h1
      · exact (msk_some (le.l _ _ (msk_of z h1))).2
  | _ => cases h
theorem SrcD.step {S : Src} {xs : List V} {l : List D} (ok : EOk g f O σ H e s ca A) (st : Stp g (f.A0 ++ A) ca H ca1 H1 s1) (h : SrcD g K f ca A H xx S xs l) : SrcD g K f ca1 A H1 xx S xs l :=
  ⟨fun H2 ca2 A2 he pr le ow => h.stay H2 ca2 A2 he (Pre.trans st.pre' pr) ((st.le (f.A0 ++ A)).trans le) fun hx a o ha e => ow hx a o ha (st.ex a o (List.mem_append_right _ ha) (ok.an a ha).2 e)⟩
theorem i_zip {a b : Expr} {ma mb : E} {p : Pos} {elts : List Expr} {kk : Nat} {tpos : Pos} (hg : Gl X "zip") (hm : X.mg "zip" = none) (ha : PE X a (tE g xr F O ka W ma)) (hb : PE X b (tE g xr F O kb W mb)) (hk : ka ≠ .I ∨ xx = true) (hk' : kb ≠ .I ∨ xx = true)
    (hs : starEach [a, b] X.env = (false, eval a X.env) :: starEach [b] X.env) (hs2 : starEach [b] X.env = (false, eval b X.env) :: starEach [] X.env) (hpl : (backTo pos (starEach [b] X.env)).any (·.1) = false) :
    PI X (.Tuple elts kk tpos) (.Call (.Name "zip" p) [a, b] [] pos) (tI g xr F O xx W (.itz (.itq ma) (.itq mb))) := by
  refine (pi_zipS hg hm (pa_cons ha (pa_cons hb pa_nil hs2) hs) hs hpl).imp fun σ H R h => ?_
  obtain ⟨f, e, s, ca, A, ok, p⟩ := h
  change PostI g xr f ca A σ H xx W (M.bind (M.bind (den F ma e) _) _ s) R at p
  rw [bind_assoc'] at p
  refine tE.frontI ok p fun d s1 v H1 ca1 ok1 st1 r1 p1 => ?_
  cases q : seqS d with
  | none =>
    change PostI g xr f ca1 A σ H1 xx W (M.bind (match seqS d with | some l => M.pure (D.lst l) | none => M.stuck) _ s1) R at p1
    rw [q] at p1
    exact p1.elim
  | some l =>
    change PostI g xr f ca1 A σ H1 xx W (M.bind (match seqS d with | some l => M.pure (D.lst l) | none => M.stuck) _ s1) R at p1
    rw [q] at p1
    obtain ⟨S, xs, sv, sd⟩ := seq_src (K := X.K) r1 hk q
    change PostI g xr f ca1 A σ H1 xx W (M.bind (M.bind (den F mb e) _) _ s1) R at p1
    rw [bind_assoc'] at p1
    refine tE.frontI ok1 p1 fun d2 s2 v2 H2 ca2 ok2 st2 r2 p2 => ?_
    cases q2 : seqS d2 with
    | none =>
      change PostI g xr f ca2 A σ H2 xx W (M.bind (match seqS d2 with | some l => M.pure (D.lst l) | none => M.stuck) _ s2) R at p2
      rw [q2] at p2
      exact p2.elim
    | some m =>
      change PostI g xr f ca2 A σ H2 xx W (M.bind (match seqS d2 with | some l => M.pure (D.lst l) | none => M.stuck) _ s2) R at p2
      rw [q2] at p2
      obtain ⟨T, ys, tv, td⟩ := seq_src (K := X.K) r2 hk' q2
      have sd2 := sd.step ok1 st2
      exact ⟨v, v2, S, T, xs, ys, rfl, sv, tv, (sd2.now ok2.here).1, (td.now ok2.here).1, p2 _ H2 ca2 (.refl ok2.sr) (walk_zip sd2 td)⟩
theorem i_enum {a : Expr} {ma : E} {p : Pos} {elts : List Expr} {kk : Nat} {tpos : Pos} (hg : Gl X "enumerate") (hm : X.mg "enumerate" = none) (ha : PE X a (tE g xr F O ka W ma)) (hk : ka ≠ .I ∨ xx = true) (hs : starEach [a] X.env = (false, eval a X.env) :: starEach [] X.env) :
    PI X (.Tuple elts kk tpos) (.Call (.Name "enumerate" p) [a] [] pos) (tI g xr F O xx W (.ite1 (.itq ma))) := by
  refine (pi_enumS hg hm (pa_cons ha pa_nil hs) hs).imp fun σ H R h => ?_
  obtain ⟨f, e, s, ca, A, ok, p⟩ := h
  change PostI g xr f ca A σ H xx W (M.bind (M.bind (den F ma e) _) _ s) R at p
  rw [bind_assoc'] at p
  refine tE.frontI ok p fun d s1 v H1 ca1 ok1 st1 r1 p1 => ?_
  cases q : seqS d with
  | none =>
    change PostI g xr f ca1 A σ H1 xx W (M.bind (match seqS d with | some l => M.pure (D.lst l) | none => M.stuck) _ s1) R at p1
    rw [q] at p1
    exact p1.elim
  | some l =>
    change PostI g xr f ca1 A σ H1 xx W (M.bind (match seqS d with | some l => M.pure (D.lst l) | none => M.stuck) _ s1) R at p1
    rw [q] at p1
    obtain ⟨S, xs, sv, sd⟩ := seq_src (K := X.K) r1 hk q
    exact ⟨v, S, xs, rfl, sv, (sd.now ok1.here).1, p1 _ H1 ca1 (.refl ok1.sr) (walk_enum' sd)⟩
/-! ### ranges -/
theorem small_62 {i : Int} (h : small i = true) : -(2 ^ 62) ≤ i ∧ i < 2 ^ 62 := by
  have : i.natAbs ≤ 1000000000 := Nat.le_of_ble_eq_true h
  omega
theorem i_range1 {tg a : Expr} {ma : E} {p : Pos} (hg : Gl X "range") (hm : X.mg "range" = none) (ha : PE X a (tE g xr F O ka W ma)) (hs : starEach [a] X.env = (false, eval a X.env) :: starEach [] X.env) :
    PI X tg (.Call (.Name "range" p) [a] [] pos) (tI g xr F O xx W (.itr1 ma)) := by
  refine (pi_range1 hg hm (pa_cons ha pa_nil hs) (by rw [hs]; rfl)).imp fun σ H R h => ?_
  obtain ⟨f, e, s, ca, A, ok, p⟩ := h
  refine tE.frontI ok p fun d s1 v H1 ca1 ok1 st1 r1 p1 => ?_
  cases d with
  | int i =>
    obtain rfl := k_int r1.items
    change PostI g xr f ca1 A σ H1 xx W ((bif small i then M.pure (D.lst (rangeL i.toNat 0 1)) else M.stuck) s1) R at p1
    cases q : small i with
    | false => rw [q] at p1; exact p1.elim
    | true =>
      rw [q] at p1
      obtain ⟨b1, b2⟩ := small_62 q
      exact ⟨i, rfl, b1, b2, p1 _ H1 ca1 (.refl ok1.sr) walk_rng1⟩
  | _ => exact p1.elim
theorem i_range2 {tg a b : Expr} {ma mb : E} {p : Pos} (hg : Gl X "range") (hm : X.mg "range" = none) (ha : PE X a (tE g xr F O ka W ma)) (hb : PE X b (tE g xr F O kb W mb)) (hs : starEach [a, b] X.env = (false, eval a X.env) :: starEach [b] X.env) (hs2 : starEach [b] X.env = (false, eval b X.env) :: starEach [] X.env) :
    PI X tg (.Call (.Name "range" p) [a, b] [] pos) (tI g xr F O xx W (.itr2 ma mb)) := by
  refine (pi_range2 hg hm (pa_cons ha (pa_cons hb pa_nil hs2) hs) (by rw [hs, hs2]; rfl) (by rw [hs2]; rfl)).imp fun σ H R h => ?_
  obtain ⟨f, e, s, ca, A, ok, p⟩ := h
  refine tE.frontI ok p fun d s1 v H1 ca1 ok1 st1 r1 p1 => ?_
  cases d with
  | int i =>
    obtain rfl := k_int r1.items
    refine tE.frontI ok1 p1 fun d2 s2 v2 H2 ca2 ok2 st2 r2 p2 => ?_
    cases d2 with
    | int j =>
      obtain rfl := k_int r2.items
      change PostI g xr f ca2 A σ H2 xx W ((bif small i && small j then M.pure (D.lst (rangeL (j - i).toNat i 1)) else M.stuck) s2) R at p2
      cases q : small i && small j with
      | false => rw [q] at p2; exact p2.elim
      | true =>
        rw [q] at p2
        obtain ⟨c1, c2⟩ := Bool.and_eq_true_iff.mp q
        obtain ⟨b1, b2⟩ := small_62 c1
        obtain ⟨b3, b4⟩ := small_62 c2
        exact ⟨i, j, rfl, ⟨b1, b2, b3, b4⟩, p2 _ H2 ca2 (.refl ok2.sr) walk_rng1⟩
    | _ => exact p2.elim
  | _ => exact p1.elim
end
end W
/-! W14: targets, comprehensions that make lists. -/
namespace W
open PySem L2
section
variable {g : Gd} {xr : XR} {F : Nat → List D → M D} {O : Nat → Bool} {W : WX} {f : Fm} {L ca ca1 A : List Addr} {σ : St} {H0 H H1 : Hp} {s s1 : MS} {k ka kb : Kd} {e : Env} {xx : Bool} {K : PySem.W.Frag} {pos : Pos}
/-! ### slots -/
theorem getS_set : ∀ {e : Env} {i j : Nat} {v : Option D}, getS (setS e i v) j = if i = j ∧ i < e.length then v else getS e j
  | [], i, j, v => by simp [setS, getS]
  | x :: e, 0, 0, v => by simp [setS, getS]
  | x :: e, 0, j + 1, v => by simp [setS, getS]
  | x :: e, i + 1, 0, v => by simp [setS, getS]
  | x :: e, i + 1, j + 1, v => by
    simp only [setS, getS, getS_set, List.length_cons, Nat.add_right_cancel_iff, Nat.add_lt_add_iff_right]
theorem setS_len : ∀ {e : Env} {i : Nat} {v : Option D}, (setS e i v).length = e.length
  | [], _, _ => rfl
  | _ :: _, 0, _ => rfl
  | _ :: _, i + 1, _ => by simp [setS, setS_len]
theorem wipeL_len : ∀ {vs : List Nat} {e : Env}, (wipeL e vs).length = e.length
  | [], _ => rfl
  | v :: vs, e => by simp only [wipeL, setS_len, wipeL_len]
theorem wipeL_get : ∀ {vs : List Nat} {e : Env} {i : Nat} {d : D}, getS (wipeL e vs) i = some d → getS e i = some d ∧ i ∉ vs
  | [], _, _, _, h => ⟨h, by simp⟩
  | v :: vs, e, i, d, h => by
    simp only [wipeL, getS_set] at h
    by_cases c : v = i ∧ v < (wipeL e vs).length
    · rw [if_pos c] at h; cases h
    · rw [if_neg c] at h
      obtain ⟨h1, h2⟩ := wipeL_get h
      refine ⟨h1, fun z => ?_⟩
      rcases List.mem_cons.mp z with rfl | z
      · refine c ⟨rfl, ?_⟩
        rw [wipeL_len]
        exact getS_lt h1
      · exact h2 z
where
  getS_lt : ∀ {e : Env} {i : Nat} {d : D}, getS e i = some d → i < e.length
    | [], _, _, h => by cases h
    | _ :: _, 0, _, _ => by simp
    | _ :: e, i + 1, _, h => by simpa using getS_lt (e := e) h
theorem wipe_get : ∀ {vs : List Nat} {σ : St} {i : Nat}, i ∉ vs → (wipe σ vs)[i]? = σ[i]?
  | [], _, _, _ => rfl
  | v :: vs, σ, i, h => by
    simp only [List.mem_cons, not_or] at h
    unfold wipe
    rw [List.getElem?_set_ne (Ne.symm h.1)]
    exact wipe_get h.2
/-- slots that are no longer owned -/
def less (O : Nat → Bool) (vs : List Nat) : Nat → Bool := fun i => O i && !vs.contains i
theorem less_true {vs : List Nat} {i : Nat} (h : less O vs i = true) : O i = true ∧ i ∉ vs := by
  unfold less at h
  rw [Bool.and_eq_true] at h
  exact ⟨h.1, by simpa using h.2⟩
theorem less_false {vs : List Nat} {i : Nat} (h : less O vs i = false) (n : i ∉ vs) : O i = false := by
  unfold less at h
  rw [Bool.and_eq_false_iff] at h
  rcases h with h | h
  · exact h
  · simp at h
    exact absurd h n
theorem EOk.wipe {vs : List Nat} (ok : EOk g f O σ H e s ca A) : EOk g f (less O vs) (wipe σ vs) H (wipeL e vs) s ca A :=
  ⟨by rw [wipe_length, wipeL_len]; exact ok.len, ok.sr, fun i d h o => by
      obtain ⟨h1, h2⟩ := wipeL_get h
      rw [wipe_get h2]
      exact ok.kp i d h1 (less_false o h2), fun i d h o => by
      obtain ⟨h1, h2⟩ := wipeL_get h
      rw [wipe_get h2]
      exact ok.ow i d h1 (less_true o).1,
    fun i j d d' a ne oi oj h h' w => by
      obtain ⟨h1, h2⟩ := wipeL_get h
      obtain ⟨h3, h4⟩ := wipeL_get h'
      rw [wipe_get h2] at w
      rw [wipe_get h4]
      exact ok.od i j d d' a ne (less_true oi).1 (less_true oj).1 h1 h3 w, ok.fr, ok.fx, ok.a0, ok.an, ok.pre, ok.nt, ok.ns⟩
/-- a kept value stored -/
theorem EOk.set {i : Nat} {d : D} {v : V} (ok : EOk g f O σ H e s ca A) (ho : O i = false) (r : Rep g.dA ca (msk (bad g f ca A) H) d v) : EOk g f O (σ.set i (some v)) H (setS e i (some d)) s ca A := by
  have other : ∀ {j : Nat} {d' : D}, O j = true → getS (setS e i (some d)) j = some d' → i ≠ j ∧ getS e j = some d' := fun {j d'} oj h => by
    have ne : i ≠ j := fun z => by rw [z, oj] at ho; cases ho
    rw [getS_set, if_neg (fun z => ne z.1)] at h
    exact ⟨ne, h⟩
  refine ⟨by rw [List.length_set, setS_len]; exact ok.len, ok.sr, fun j d' h o => ?_, fun j d' h o => ?_, fun j j' d1 d2 a ne oj oj' h h' w => ?_, ok.fr, ok.fx, ok.a0, ok.an, ok.pre, ok.nt, ok.ns⟩
  · rw [getS_set] at h
    by_cases c : i = j ∧ i < e.length
    · rw [if_pos c] at h
      cases h
      obtain ⟨rfl, c⟩ := c
      exact ⟨v, by rw [List.getElem?_set_self (by rw [ok.len]; exact c)], r⟩
    · rw [if_neg c] at h
      obtain ⟨v', e1, r'⟩ := ok.kp j d' h o
      refine ⟨v', ?_, r'⟩
      by_cases ij : i = j
      · subst ij
        exact absurd ⟨rfl, wipeL_get.getS_lt h⟩ c
      · rw [List.getElem?_set_ne ij]; exact e1
  · obtain ⟨ne, h⟩ := other o h
    rw [List.getElem?_set_ne ne]
    exact ok.ow j d' h o
  · obtain ⟨n1, h⟩ := other oj h
    obtain ⟨n2, h'⟩ := other oj' h'
    rw [List.getElem?_set_ne n1] at w
    rw [List.getElem?_set_ne n2]
    exact ok.od j j' d1 d2 a ne oj oj' h h' w
/-- a new thing of one's own, told in the mask -/
theorem EOk.add {D : Addr} {o : HO} (ok : EOk g f O σ H e s ca A) (hD : H D = none) (ho : isTup o = false) : EOk g f O σ (upd H D o) e s ca (D :: A) := by
  have nw : Nw H (upd H D o) := .upd hD
  have le := le_new (g := g) (f := f) (ca := ca) (A := A) hD nw
  have hf : f.H0 D = none := by
    cases q : f.H0 D with
    | none => rfl
    | some u =>
      exfalso
      obtain ⟨m, e0, _⟩ := ok.pre
      by_cases hp : D ∈ g.dA :: f.ca0
      · refine ok.sr.some (a := D) ?_ hD
        rw [e0]
        rcases List.mem_cons.mp hp with rfl | z
        · exact List.mem_cons_self
        · exact List.mem_cons_of_mem _ (List.mem_append_left _ z)
      · obtain ⟨o', h', _⟩ := ok.fr D u hp q
        rw [hD] at h'; cases h'
  refine ⟨ok.len, ok.sr.nw nw, fun i d h oo => ?_, fun i d h oo => ?_, ok.od, fun a u hn h => ?_, fun a u ha h => nw _ _ (ok.fx a u ha h), ok.a0, fun a ha => ?_, ok.pre, fun a ha => ?_, fun z => ?_⟩
  · obtain ⟨v, e1, r⟩ := ok.kp i d h oo
    exact ⟨v, e1, Rep.le (.refl _) le _ _ r⟩
  · obtain ⟨a, e1, ha, r⟩ := ok.ow i d h oo
    refine ⟨a, e1, List.mem_cons_of_mem _ ha, ?_⟩
    cases d with
    | lst l =>
      obtain ⟨xs, h1, h2⟩ := r
      exact ⟨xs, nw _ _ h1, Reps.le (.refl _) le _ _ h2⟩
    | dct ks vs =>
      rcases r with ⟨kvs, h1, h2, h3⟩ | ⟨kvs, h1, h2, h3⟩
      · exact .inl ⟨kvs, nw _ _ h1, h2, Reps.le (.refl _) le _ _ h3⟩
      · exact .inr ⟨kvs, nw _ _ h1, h2, Reps.le (.refl _) le _ _ h3⟩
    | _ => exact r
  · obtain ⟨o', h', sm⟩ := ok.fr a u hn h
    exact ⟨o', nw _ _ h', sm⟩
  · rcases List.mem_cons.mp ha with rfl | ha
    · exact ⟨hf, fun z => ok.sr.some z hD⟩
    · exact ok.an a ha
  · simp only [List.mem_cons, List.mem_append] at ha
    have old : a ∈ bad g f ca A → ∃ u, upd H D o a = some u ∧ isTup u = false := fun z => by
      obtain ⟨u, e1, t⟩ := ok.nt a z
      exact ⟨u, nw _ _ e1, t⟩
    rcases ha with z | z | z | z | z
    · exact old (by simp [z])
    · exact old (by simp [z])
    · exact old (by simp [z])
    · exact ⟨o, by rw [z, upd_same], ho⟩
    · exact old (by simp [z])
  · rcases List.mem_cons.mp z with z | z
    · rw [← z, ok.sr.scr] at hD
      cases hD
    · exact ok.ns z
/-- .. written again; no slot holds it -/
theorem EOk.put {D : Addr} {o : HO} (ok : EOk g f O σ H e s ca A) (hD : D ∈ A) (ho : isTup o = false) (ns : D ≠ g.sl) (no : ∀ (j : Nat) d, O j = true → getS e j = some d → σ[j]? ≠ some (some (.ref D))) : EOk g f O σ (upd H D o) e s ca A := by
  have hb : D ∈ bad g f ca A := by simp [hD]
  have same : msk (bad g f ca A) (upd H D o) = msk (bad g f ca A) H := by
    funext a
    unfold msk
    by_cases z : a ∈ bad g f ca A
    · rw [if_pos z, if_pos z]
    · rw [if_neg z, if_neg z, upd_ne (fun w => z (by rw [w]; exact hb))]
  have hn := (ok.an D hD).2
  have hf := (ok.an D hD).1
  refine ⟨ok.len, ⟨by rw [upd_ne (fun z => hn (by simp [← z]))]; exact ok.sr.dr, by rw [upd_ne (Ne.symm ns)]; exact ok.sr.scr, ok.sr.nsl, ok.sr.cs, fun i a kv h1 h2 => ?_, ok.sr.nd⟩, fun i d h oo => ?_, fun i d h oo => ?_, ok.od, fun a u hn' h => ?_, fun a u ha h => ?_, ok.a0, ok.an, ok.pre, fun a ha => ?_, ok.ns⟩
  · have ha : a ≠ D := fun z => hn (by rw [← z]; exact List.mem_cons_of_mem _ (List.mem_of_getElem? h1))
    rcases ok.sr.ce i a kv h1 h2 with ⟨kvs, q1, q2, q3⟩ | ⟨kvs, q1, q2, q3⟩
    · exact .inl ⟨kvs, by rw [upd_ne ha]; exact q1, q2, q3⟩
    · exact .inr ⟨kvs, by rw [upd_ne ha]; exact q1, q2, q3⟩
  · rw [same]; exact ok.kp i d h oo
  · obtain ⟨a, e1, ha, r⟩ := ok.ow i d h oo
    have ne : a ≠ D := fun z => no i d oo h (by rw [e1, z])
    refine ⟨a, e1, ha, ?_⟩
    cases d with
    | lst l =>
      obtain ⟨xs, h1, h2⟩ := r
      exact ⟨xs, by rw [upd_ne ne]; exact h1, by rw [same]; exact h2⟩
    | dct ks vs =>
      rcases r with ⟨kvs, h1, h2, h3⟩ | ⟨kvs, h1, h2, h3⟩
      · exact .inl ⟨kvs, by rw [upd_ne ne]; exact h1, h2, by rw [same]; exact h3⟩
      · exact .inr ⟨kvs, by rw [upd_ne ne]; exact h1, h2, by rw [same]; exact h3⟩
    | _ => exact r
  · obtain ⟨o', h', sm⟩ := ok.fr a u hn' h
    exact ⟨o', by rw [upd_ne (ne_of_none h hf)]; exact h', sm⟩
  · rw [upd_ne (ne_of_none h hf)]; exact ok.fx a u ha h
  · by_cases z : a = D
    · exact ⟨o, by rw [z, upd_same], ho⟩
    · rw [upd_ne z]; exact ok.nt a ha
end
/-! ### targets -/
section
variable {X : Cx} {g : Gd} {xr : XR} {F : Nat → List D → M D} {O : Nat → Bool} {W : WX}
/-- a target's reading -/
def tG (g : Gd) (O : Nat → Bool) (m : E) : TG := fun v σ H Q => ∃ f e s ca A d e', EOk g f O σ H e s ca A ∧ Rep g.dA ca (msk (bad g f ca A) H) d v ∧ tgt m d e = some e' ∧
  ∀ σ', EOk g f O σ' H e' s ca A → (∀ vs, (∀ i ∈ slotsT m, i ∈ vs) → wipe σ' vs = wipe σ vs) → Q σ' H
def tGs (g : Gd) (O : Nat → Bool) (m : E) : TGs := fun xs σ H Q => ∃ f e s ca A l e', EOk g f O σ H e s ca A ∧ Reps g.dA ca (msk (bad g f ca A) H) l xs ∧ tgt m (.lst l) e = some e' ∧
  ∀ σ', EOk g f O σ' H e' s ca A → (∀ vs, (∀ i ∈ slotsT m, i ∈ vs) → wipe σ' vs = wipe σ vs) → Q σ' H
theorem wipe_set {σ : St} {i : Nat} {x : Option V} : ∀ {vs : List Nat}, i ∈ vs → wipe (σ.set i x) vs = wipe σ vs
  | v :: vs, h => by
    unfold wipe
    by_cases c : i ∈ vs
    · rw [wipe_set c]
    · obtain rfl : i = v := (List.mem_cons.mp h).resolve_right c
      have key : ∀ (ws : List Nat), i ∉ ws → wipe (σ.set i x) ws = (wipe σ ws).set i x := by
        intro ws
        induction ws with
        | nil => intro _; rfl
        | cons w ws ih =>
          intro hw
          simp only [List.mem_cons, not_or] at hw
          unfold wipe
          rw [ih hw.2, List.set_comm _ _ hw.1]
      rw [key vs c, List.set_set]
theorem _root_.L2.PG.imp {tg : Expr} {t t' : TG} (h : PG X tg t) (i : ∀ v σ H Q, t' v σ H Q → t v σ H Q) : PG X tg t' := ⟨fun pins s σ H x u Q I r q => h.run pins s σ H x u Q I r (i x σ H Q q)⟩
theorem _root_.L2.PGs.imp {tg : List Expr} {t t' : TGs} (h : PGs X tg t) (i : ∀ v σ H Q, t' v σ H Q → t v σ H Q) : PGs X tg t' := ⟨fun pins s σ H x u Q I r q => h.run pins s σ H x u Q I r (i x σ H Q q)⟩
theorem g_name {i : Nat} {x : Str} {pos : Pos} (hN : X.N.Nodup) (hi : X.N[i]? = some x) (hx : Loc X.env.scope x) (hf : X.fn x = true ∨ X.env.scope.names.lookup x = some .local) (ho : O i = false) : PG X (.Name x pos) (tG g O (.tname i)) := by
  refine (pg_name hN hi hx hf).imp fun v σ H Q h => ?_
  obtain ⟨f, e, s, ca, A, d, e', ok, r, ht, q⟩ := h
  cases ht
  exact q _ (ok.set ho r) fun vs h => wipe_set (h i (by simp [slotsT]))
theorem gs_nil : PGs X [] (tGs g O .nil) := by
  refine pgs_nil.imp fun v σ H Q h => ?_
  obtain ⟨f, e, s, ca, A, l, e', ok, r, ht, q⟩ := h
  cases l with
  | nil =>
    cases r
    cases ht
    exact ⟨rfl, q σ ok fun _ _ => rfl⟩
  | cons _ _ => cases ht
theorem gs_cons {a : Expr} {as : List Expr} {m r : E} (h1 : PG X a (tG g O m)) (h2 : PGs X as (tGs g O r)) (h : ∀ {t : TG} {u : TGs}, PG X a t → PGs X as u → PGs X (a :: as) (gCons t u)) : PGs X (a :: as) (tGs g O (.cons m r)) := by
  refine (h h1 h2).imp fun v σ H Q h => ?_
  obtain ⟨f, e, s, ca, A, l, e', ok, rr, ht, q⟩ := h
  cases l with
  | nil => cases ht
  | cons x l =>
    obtain ⟨y, ys, rfl, r1, r2⟩ := rr
    change (match tgt m x e with | some σ' => tgt r (.lst l) σ' | none => none) = some e' at ht
    cases c : tgt m x e with
    | none => rw [c] at ht; cases ht
    | some e1 =>
      rw [c] at ht
      refine ⟨y, ys, rfl, f, e, s, ca, A, x, e1, ok, r1, c, fun σ1 ok1 w1 => ⟨f, e1, s, ca, A, l, e', ok1, r2, ht, fun σ2 ok2 w2 => q σ2 ok2 fun vs hv => ?_⟩⟩
      rw [w2 vs fun i hi => hv i (List.mem_append_right _ hi), w1 vs fun i hi => hv i (List.mem_append_left _ hi)]
theorem g_tup {es : List Expr} {kk : Nat} {m : E} {pos : Pos} (h : PGs X es (tGs g O m)) (hp : ∀ {t : TGs}, PGs X es t → PG X (.Tuple es kk pos) (gTup X.K es.length t)) (hl : ∀ (l : List D) (e e' : Env), tgt m (.lst l) e = some e' → l.length = es.length) : PG X (.Tuple es kk pos) (tG g O (.ttup m)) := by
  refine (hp h).imp fun v σ H Q h => ?_
  obtain ⟨f, e, s, ca, A, d, e', ok, r, ht, q⟩ := h
  cases d with
  | tup l =>
    obtain ⟨a, xs, rfl, h1, h2⟩ := r
    have ht : tgt m (.lst l) e = some e' := ht
    exact ⟨a, xs, rfl, SqT.of (msk_some h1).2, by rw [h2.length]; exact hl l e e' ht, f, e, s, ca, A, l, e', ok, h2, ht, q⟩
  | _ => cases ht
end
end W
/-! W15: list comprehensions. -/
namespace W
open PySem L2
theorem wipe_at {σ : St} {i : Nat} : ∀ {vs : List Nat}, i ∈ vs → i < σ.length → (wipe σ vs)[i]? = some none
  | v :: vs, h, l => by
    unfold wipe
    by_cases c : v = i
    · subst c
      rw [List.getElem?_set_self (by rw [wipe_length]; exact l)]
    · rw [List.getElem?_set_ne c]
      exact wipe_at ((List.mem_cons.mp h).resolve_left (Ne.symm c)) l
theorem wipe_wipe {σ : St} {vs : List Nat} : wipe (wipe σ vs) vs = wipe σ vs := by
  apply List.ext_getElem?
  intro i
  by_cases h : i ∈ vs
  · by_cases l : i < σ.length
    · rw [wipe_at h (by rw [wipe_length]; exact l), wipe_at h l]
    · rw [List.getElem?_eq_none (by rw [wipe_length, wipe_length]; omega), List.getElem?_eq_none (by rw [wipe_length]; omega)]
  · rw [wipe_get h]
theorem mapL_cons {f : D → M (List D)} {d : D} {l r : List D} {s s' : MS} (h : mapL f (d :: l) s = .ok r s') : ∃ x s1 r', f d s = .ok x s1 ∧ mapL f l s1 = .ok r' s' ∧ r = x ++ r' := by
  unfold mapL M.bind at h
  cases q : f d s with
  | ok x s1 =>
    rw [q] at h
    change M.bind (mapL f l) (fun r => M.pure (x ++ r)) s1 = _ at h
    unfold M.bind at h
    cases q2 : mapL f l s1 with
    | ok r' s2 =>
      rw [q2] at h
      cases h
      exact ⟨x, s1, r', rfl, q2, rfl⟩
    | exc c x s2 => rw [q2] at h; cases h
    | stuck => rw [q2] at h; cases h
  | exc c x s2 => rw [q] at h; cases h
  | stuck => rw [q] at h; cases h
theorem bind_ok {α β : Type} {m : M α} {f : α → M β} {s s' : MS} {b : β} (h : M.bind m f s = .ok b s') : ∃ a s1, m s = .ok a s1 ∧ f a s1 = .ok b s' := by
  unfold M.bind at h
  cases q : m s with
  | ok a s1 => rw [q] at h; exact ⟨a, s1, rfl, h⟩
  | exc c x s2 => rw [q] at h; cases h
  | stuck => rw [q] at h; cases h
section
variable {X : Cx} {g : Gd} {xr : XR} {F : Nat → List D → M D} {O : Nat → Bool} {W : WX} {f : Fm} {L ca ca1 A : List Addr} {σ : St} {H0 H H1 : Hp} {s s1 : MS} {k ka kb : Kd} {e : Env} {D0 : Addr}
theorem PostE.nox {m : M D} {s : MS} {Q : VK} (p : PostE g xr f ca A σ H0 H k W (M.nox m s) Q) : ∃ d s', m s = .ok d s' ∧ ∀ v H' ca', Stp g (f.A0 ++ A) ca H ca' H' s' → RepD g f ca' A H0 H' k d v → Q v H' := by
  unfold M.nox at p
  cases q : m s with
  | ok d s' => rw [q] at p; exact ⟨d, s', rfl, p⟩
  | exc c x s' => rw [q] at p; exact p.elim
  | stuck => rw [q] at p; exact p.elim
/-- what a block knows while its list grows at D0 -/
structure Grow (g : Gd) (f : Fm) (O : Nat → Bool) (σ : St) (e : Env) (ca1 A : List Addr) (H1 : Hp) (D0 : Addr) (H : Hp) (s : MS) (ca : List Addr) : Prop where
  ok : EOk g f O σ H e s ca (D0 :: A)
  st : Stp g (f.A0 ++ A) ca1 H1 ca H s
theorem Grow.start (ok : EOk g f O σ H1 e s ca1 A) (hD : H1 D0 = none) {o : HO} (ho : isTup o = false) : Grow g f O σ e ca1 A H1 D0 (upd H1 D0 o) s ca1 := ⟨ok.add hD ho, .nw (.upd hD) ok.sr⟩
theorem Grow.step {s2 : MS} {H2 : Hp} {ca2 : List Addr} (G : Grow g f O σ e ca1 A H1 D0 H s ca) (st : Stp g (f.A0 ++ (D0 :: A)) ca H ca2 H2 s2) : Grow g f O σ e ca1 A H1 D0 H2 s2 ca2 :=
  ⟨G.ok.step st, G.st.trans (st.mono fun p hp => (List.mem_append.mp hp).elim (List.mem_append_left _) fun z => List.mem_append_right _ (List.mem_cons_of_mem _ z))⟩
theorem Grow.nsl (ok : EOk g f O σ H1 e s ca1 A) (hD : H1 D0 = none) : D0 ≠ g.sl := fun z => by
  have := ok.sr.scr
  rw [← z, hD] at this
  cases this
theorem Grow.put {s0 : MS} {o : HO} (G : Grow g f O σ e ca1 A H1 D0 H s ca) (ok0 : EOk g f O σ H1 e s0 ca1 A) (hD : H1 D0 = none) (ho : isTup o = false) : Grow g f O σ e ca1 A H1 D0 (upd H D0 o) s ca := by
  have no : ∀ (j : Nat) d, O j = true → getS e j = some d → σ[j]? ≠ some (some (.ref D0)) := fun j d oj h w => by
    obtain ⟨a, e1, ha, _⟩ := ok0.ow j d h oj
    rw [w] at e1
    cases e1
    obtain ⟨u, hu, _⟩ := ok0.nt D0 (by simp [ha])
    rw [hD] at hu; cases hu
  have ok := G.ok.put List.mem_cons_self ho (Grow.nsl ok0 hD) no
  refine ⟨ok, ok.sr, G.st.pre, fun a u hn h => ?_, fun a u hL hn h => ?_⟩
  · rw [upd_ne (ne_of_none h hD)]; exact G.st.fr a u hn h
  · rw [upd_ne (ne_of_none h hD)]; exact G.st.ex a u hL hn h
theorem Grow.le (G : Grow g f O σ e ca1 A H1 D0 H s ca) (hD : H1 D0 = none) : Le (msk (bad g f ca1 A) H1) (msk (bad g f ca (D0 :: A)) H) := by
  obtain ⟨m, rfl, hm⟩ := G.st.pre
  refine Le.ofSm fun a o h => ?_
  obtain ⟨n, h⟩ := msk_some h
  obtain ⟨o', h', sm⟩ := G.st.fr a o (bad_out n) h
  refine ⟨o', msk_of (fun z => n ?_) h', sm⟩
  simp only [List.mem_cons, List.mem_append] at z ⊢
  rcases z with z | (z | z) | z | z | z
  · exact .inl z
  · exact .inr (.inl z)
  · rw [hm a z] at h; cases h
  · exact .inr (.inr (.inl z))
  · rw [z, hD] at h; cases h
  · exact .inr (.inr (.inr z))
theorem Grow.own (G : Grow g f O σ e ca1 A H1 D0 H s ca) {s0 : MS} (ok0 : EOk g f O σ H1 e s0 ca1 A) : ∀ a o, a ∈ A → H1 a = some o → H a = some o := fun a o ha h => G.st.ex a o (List.mem_append_right _ ha) (ok0.an a ha).2 h
theorem Grow.out (G : Grow g f O σ e ca1 A H1 D0 H s ca) {s0 : MS} (ok0 : EOk g f O σ H1 e s0 ca1 A) (hD : H1 D0 = none) : D0 ∉ bad g f ca A := fun z => by
  have h1 := (G.ok.an D0 List.mem_cons_self)
  simp only [List.mem_cons, List.mem_append] at z
  rcases z with z | z | z | z
  · exact h1.2 (by simp [z])
  · exact h1.2 (by simp [z])
  · exact (ok0.a0 D0 z).1 h1.1
  · obtain ⟨u, hu, _⟩ := ok0.nt D0 (by simp [z])
    rw [hD] at hu; cases hu
theorem Grow.walk {xx : Bool} {J : It} {l : List D} (G : Grow g f O σ e ca1 A H1 D0 H s ca) {s0 : MS} (ok0 : EOk g f O σ H1 e s0 ca1 A) (hD : H1 D0 = none) (w : WalkD g f ca1 A H1 xx J l) :
    (∀ i, i < l.length → J.go i H) ∧ J.stop l.length H ∧ ∀ i x H', i < l.length → J.yld i H x H' → Nw H H' ∧ ∃ d, l[i]? = some d ∧ Rep g.dA ca (msk (bad g f ca (D0 :: A)) H') d x :=
  w H ca (D0 :: A) G.ok.here G.st.pre' (G.le hD) fun _ => G.own ok0
abbrev W0 : WX := fun _ _ _ _ => False
theorem ts_nil : PTs X [] (tT g xr F O W0 (.bl true)) := by
  refine ⟨fun pins s σ H Q I h => pts_nil.run pins s σ H Q I ?_⟩
  obtain ⟨f, e, s, ca, A, ok, p⟩ := h
  exact p H ca (.refl ok.sr)
theorem s_lc {elt tg iter : Expr} {ifs : List Expr} {scope : Scope} {own : List (Str × Nat)} {pos : Pos} {me mt mi mc : E} (hc : X.calm = true) (hN : X.N.Nodup) (hi : PI X tg iter (tI g xr F O true W mi)) (ok : BlkOk X.N X.env.scope scope own) (ho : own.map (·.2) = slotsT mt)
    (hg : ∀ (s : Shared) (H : Hp) (C : Addr) (cl : List (Str × Addr)) (fp : List Addr), PG (X.blk s H scope (compEnvC scope cl C X.env) fp) tg (tG g (less O (slotsT mt)) mt))
    (ht : ∀ (s : Shared) (H : Hp) (C : Addr) (cl : List (Str × Addr)) (fp : List Addr), PTs (X.blk s H scope (compEnvC scope cl C X.env) fp) ifs (tT g xr F (less O (slotsT mt)) W0 mc))
    (he : ∀ (s : Shared) (H : Hp) (C : Addr) (cl : List (Str × Addr)) (fp : List Addr), PE (X.blk s H scope (compEnvC scope cl C X.env) fp) elt (tE g xr F (less O (slotsT mt)) ka W0 me)) (hk : ka ≠ .I) (hs : ∀ x, foldedSetIterable iter X.env x = pure x) :
    PE X (.ListComp elt [⟨tg, iter, ifs, 0⟩] scope pos) (tE g xr F O .N W (.lc me mt mi mc)) := by
  refine (pe_lc hc hN hi ok hg ht he hs).imp fun σ H Q h => ?_
  rw [ho]
  exact r_lc hk h
where
  r_lc {σ : St} {H : Hp} {Q : VK} {me mt mi mc : E} {ka : Kd} (hk : ka ≠ .I) (h : tE g xr F O .N W (.lc me mt mi mc) σ H Q) : tLc (tI g xr F O true W mi) (tG g (less O (slotsT mt)) mt) (tT g xr F (less O (slotsT mt)) W0 mc) (tE g xr F (less O (slotsT mt)) ka W0 me) (slotsT mt) σ H Q := by
    obtain ⟨f, e, s, ca, A, ok, p⟩ := h
    obtain ⟨d0, s9, q0, p⟩ := PostE.nox p
    obtain ⟨x, s1, q1, q0⟩ := bind_ok q0
    refine ⟨f, e, s, ca, A, ok, ?_⟩
    rw [q1]
    cases x with
    | lst xs =>
      intro J H1 ca1 st wd D0 hD
      obtain ⟨xs', s1', q2, q0⟩ := bind_ok q0
      cases q2
      obtain ⟨LL, s2, q2, q0⟩ := bind_ok q0
      have hsz : LL.length ≤ sizeLine ∧ d0 = .lst LL ∧ s9 = s2 := by
        cases c : size LL with
        | false => rw [c] at q0; cases q0
        | true =>
          rw [c] at q0
          cases q0
          exact ⟨by rw [← line_eq]; exact Nat.le_of_ble_eq_true c, rfl, rfl⟩
      obtain ⟨hsz, rfl, rfl⟩ := hsz
      have ok1 := ok.step st
      refine ⟨fun i m H => m = xs.length - i ∧ i ≤ xs.length ∧ ∃ s' ca' acc us rest, Grow g f O σ e ca1 A H1 D0 H s' ca' ∧ H D0 = some (.lst us) ∧ Reps g.dA ca' (msk (bad g f ca' (D0 :: A)) H) acc us ∧
        mapL (fun d => match tgt mt d (wipeL e (slotsT mt)) with
          | some σ' => M.bind (den F mc σ') fun b => match b with
            | .bl true => M.bind (den F me σ') fun y => M.pure [y]
            | .bl false => M.pure []
            | _ => M.stuck
          | none => M.stuck) (xs.drop i) s' = .ok rest s9 ∧ acc ++ rest = LL, ⟨_, rfl, Nat.zero_le _, s1, ca1, [], [], LL, Grow.start ok1 hD rfl, upd_same, rfl, q2, rfl⟩, ?_⟩
      rintro i m H2 ⟨rfl, hi, s', ca', acc, us, rest, G, hus, racc, hmap, hLL⟩
      obtain ⟨wgo, wstop, wyld⟩ := G.walk ok1 hD wd
      rcases Nat.lt_or_ge i xs.length with hlt | hge
      · refine .inr ⟨wgo i hlt, _, fun H' w => ⟨xs.length - (i + 1), by omega, w⟩, fun x H' y => ?_⟩
        obtain ⟨nw, d, hd, rd⟩ := wyld i x H' hlt y
        have hdrop : xs.drop i = d :: xs.drop (i + 1) := by
          rw [List.drop_eq_getElem_cons hlt]
          rw [List.getElem?_eq_getElem hlt] at hd
          cases hd
          rfl
        rw [hdrop] at hmap
        obtain ⟨x1, s3, r', f1, f2, rfl⟩ := mapL_cons hmap
        have st1 : Stp g (f.A0 ++ (D0 :: A)) ca' H2 ca' H' s' := .nw nw G.ok.sr
        have G1 := G.step st1
        cases ht : tgt mt d (wipeL e (slotsT mt)) with
        | none => rw [ht] at f1; cases f1
        | some e' =>
          rw [ht] at f1
          obtain ⟨b, s4, f3, f4⟩ := bind_ok f1
          refine ⟨f, _, s', ca', D0 :: A, d, e', G1.ok.wipe, rd, ht, fun σ' ok' w' => ⟨?_, ?_⟩⟩
          · rw [w' _ fun i hi => hi]; exact wipe_wipe
          · refine ⟨f, e', s', ca', D0 :: A, ok', ?_⟩
            rw [f3]
            cases b with
            | bl b =>
              intro H3 ca3 st3
              have G3 := G1.step st3
              have ok3 := ok'.step st3
              have D3 : H3 D0 = some (.lst us) := st3.ex D0 _ (List.mem_append_right _ List.mem_cons_self) (G1.ok.an D0 List.mem_cons_self).2 (nw _ _ hus)
              have racc3 : Reps g.dA ca3 (msk (bad g f ca3 (D0 :: A)) H3) acc us := (racc.stp st1).stp st3
              cases b with
              | false =>
                cases f4
                exact ⟨rfl, hlt, s3, ca3, acc, us, r', G3, D3, racc3, f2, hLL⟩
              | true =>
                obtain ⟨y, s5, f5, f6⟩ := bind_ok f4
                cases f6
                show tE g xr F (less O (slotsT mt)) ka W0 me σ' H3 _
                refine ⟨f, e', s4, ca3, D0 :: A, ok3, ?_⟩
                rw [f5]
                intro v H4 ca4 st4 rv
                have G4 := G3.step st4
                have D4 : H4 D0 = some (.lst us) := st4.ex D0 _ (List.mem_append_right _ List.mem_cons_self) (G3.ok.an D0 List.mem_cons_self).2 D3
                have racc4 := racc3.stp st4
                have ln : us.length = acc.length := racc.length
                have G5 := G4.put (o := .lst (us ++ [v])) ok1 hD rfl
                refine ⟨us, D4, ?_, rfl, hlt, s3, ca4, acc ++ [y], us ++ [v], r', G5, upd_same, ?_, f2, by rw [← hLL]; simp⟩
                · have : (acc ++ ([y] ++ r')).length ≤ sizeLine := by rw [hLL]; exact hsz
                  simp at this
                  omega
                · have same : msk (bad g f ca4 (D0 :: A)) (upd H4 D0 (.lst (us ++ [v]))) = msk (bad g f ca4 (D0 :: A)) H4 := by
                    funext a
                    unfold msk
                    by_cases z : a ∈ bad g f ca4 (D0 :: A)
                    · rw [if_pos z, if_pos z]
                    · rw [if_neg z, if_neg z, upd_ne (fun w => z (by rw [w]; simp))]
                  rw [same]
                  exact racc4.append (Reps.one (rv.kept hk))
            | _ => cases f4
      · have hi' : i = xs.length := by omega
        subst hi'
        rw [List.drop_length] at hmap
        cases hmap
        rw [List.append_nil] at hLL
        subst hLL
        refine .inl ⟨wstop, p _ H2 ca' (st.trans G.st) ⟨D0, us, rfl, st.back ok.sr hD, G.out ok1 hD, hus, racc⟩⟩
    | _ =>
      obtain ⟨_, _, q2, _⟩ := bind_ok q0
      cases q2
end
end W
/-! W16: calls of defs, statements. -/
namespace W
open PySem L2
/-- what a call of a def comes to -/
def PostF (g : Gd) (xr : XR) (A0 ca : List Addr) (H : Hp) (r : R D) (Q : VK) (E : XK) : Prop := match r with
  | .ok d s' => ∀ v H' ca', Stp g A0 ca H ca' H' s' → Rep g.dA ca' (msk (g.dA :: (ca' ++ A0)) H') d v → Q v H'
  | .exc c x s' => g.ex = true ∧ ∀ cls od H' ca', Stp g A0 ca H ca' H' s' → xr c x cls od H' ca' → E cls od H'
  | .stuck => False
def spF (g : Gd) (xr : XR) (np : Nat) (F : List D → M D) : Sp := fun vs H Q E => vs.length = np ∧ ∃ A0 ca l s, SRel g ca H s ∧ (∀ a ∈ A0, a ∉ g.dA :: ca) ∧ (∀ a ∈ A0, ∃ o, H a = some o ∧ isTup o = false) ∧
  Reps g.dA ca (msk (g.dA :: (ca ++ A0)) H) l vs ∧ PostF g xr A0 ca H (F l s) Q E
section
variable {X : Cx} {g : Gd} {xr : XR} {F : Nat → List D → M D} {O : Nat → Bool} {W : WX} {f : Fm} {L ca ca1 A : List Addr} {σ : St} {H0 H H1 : Hp} {s s1 : MS} {k ka kb : Kd} {e : Env}
theorem r_call {i np : Nat} {ms : E} {σ : St} {H : Hp} {Q : VK} {E' : XK} (hE : g.ex = true → ∀ cls od σ H, E' cls od H → W cls od σ H) (hE2 : g.ex = true → ∀ cls od σ H, W cls od σ H → E' cls od H) (hn : ∀ l s, F i l s ≠ .stuck → l.length = np) (h : tE g xr F O .K W (.call i ms) σ H Q) : tCall (spF g xr np (F i)) [] E' (tA g xr F O W ms) σ H Q := by
  obtain ⟨f, e, s, ca, A, ok, p⟩ := h
  refine tE.frontA ok p (fun d s1 => by cases d <;> first | exact .inr ⟨_, rfl⟩ | exact .inl rfl) fun l s1 vs H1 ca1 ok1 st1 r1 p1 => ?_
  change PostE g xr f ca1 A σ H H1 .K W (F i l s1) Q at p1
  rw [List.append_nil]
  refine ⟨?_, f.A0 ++ A, ca1, l, s1, ok1.sr, fun a ha => (List.mem_append.mp ha).elim (fun z => (ok1.a0 a z).2) fun z => (ok1.an a z).2, fun a ha => ok1.nt a (by simp only [List.mem_cons, List.mem_append] at ha ⊢; exact .inr (.inr ha)), r1, ?_⟩
  · rw [r1.length]
    refine hn l s1 fun z => ?_
    rw [z] at p1
    exact p1
  · cases q : F i l s1 with
    | ok d s' =>
      rw [q] at p1
      exact fun v H' ca' st r => p1 v H' ca' st r
    | exc c x s' =>
      rw [q] at p1
      exact ⟨p1.1, fun cls od H' ca' st xx => hE2 p1.1 cls od σ H' (p1.2 cls od H' ca' st xx)⟩
    | stuck => rw [q] at p1; exact p1
/-! ### statements -/
theorem EOk.frame (ok : EOk g f O σ H e s ca A) : Stp g f.A0 f.ca0 f.H0 ca H s := ⟨ok.sr, ok.pre, ok.fr, fun a o ha _ h => ok.fx a o ha h⟩
def PostS (g : Gd) (xr : XR) (f : Fm) (O : Nat → Bool) (W : WX) (r : R Out) (D : Ends) : Prop := match r with
  | .ok (.nx e') s' => ∀ σ' H' ca' A', EOk g f O σ' H' e' s' ca' A' → D.nx σ' H'
  | .ok (.ret d) s' => ∀ v H' ca', Stp g f.A0 f.ca0 f.H0 ca' H' s' → Rep g.dA ca' (msk (g.dA :: (ca' ++ f.A0)) H') d v → D.rt v H'
  | .ok (.brk e') s' => ∀ σ' H' ca' A', EOk g f O σ' H' e' s' ca' A' → D.bk σ' H'
  | .exc c x s' => g.ex = true ∧ ∀ cls od σ' H' ca', Stp g f.A0 f.ca0 f.H0 ca' H' s' → xr c x cls od H' ca' → W cls od σ' H'
  | .stuck => False
def tS (g : Gd) (xr : XR) (F : Nat → List D → M D) (O : Nat → Bool) (W : WX) (m : S) : TS := fun D σ H =>
  ∃ f e s ca A, EOk g f O σ H e s ca A ∧ PostS g xr f O W (denS F m e s) D
theorem _root_.L2.PS.imp {st : Stmt} {t t' : TS} (h : PS X st t) (i : ∀ D σ H, t' D σ H → t D σ H) : PS X st t' := ⟨fun pins s σ H D I q => h.run pins s σ H D I (i D σ H q)⟩
theorem _root_.L2.PSs.imp {st : List Stmt} {t t' : TS} (h : PSs X st t) (i : ∀ D σ H, t' D σ H → t D σ H) : PSs X st t' := ⟨fun pins s σ H D I q => h.run pins s σ H D I (i D σ H q)⟩
/-- an expression in front of the rest of a statement -/
theorem tE.frontS {a : E} {m : D → M Out} {D : Ends} {Q' : VK} {k' : Kd} (ok : EOk g f O σ H e s ca A) (p : PostS g xr f O W (M.bind (den F a e) m s) D)
    (h : ∀ d s1 v H1 ca1, EOk g f O σ H1 e s1 ca1 A → Stp g (f.A0 ++ A) ca H ca1 H1 s1 → RepD g f ca1 A H H1 k' d v → PostS g xr f O W (m d s1) D → Q' v H1) : tE g xr F O k' W a σ H Q' := by
  refine ⟨f, e, s, ca, A, ok, ?_⟩
  unfold M.bind at p
  cases q : den F a e s with
  | ok d s1 =>
    rw [q] at p
    exact fun v H1 ca1 st r => h d s1 v H1 ca1 (ok.step st) st r p
  | exc c x s1 =>
    rw [q] at p
    exact ⟨p.1, fun cls od H' ca' st xx => p.2 cls od σ H' ca' (ok.frame.trans (st.mono fun z hz => List.mem_append_left _ hz)) xx⟩
  | stuck => rw [q] at p; exact p
theorem tE.frontST {a : E} {m : D → M Out} {D : Ends} {Q' : Bool → Hp → Prop} (ok : EOk g f O σ H e s ca A) (p : PostS g xr f O W (M.bind (den F a e) m s) D) (hb : ∀ d s1, m d s1 = R.stuck ∨ ∃ b, d = .bl b)
    (h : ∀ b s1 H1 ca1, EOk g f O σ H1 e s1 ca1 A → PostS g xr f O W (m (.bl b) s1) D → Q' b H1) : tT g xr F O W a σ H Q' := by
  refine ⟨f, e, s, ca, A, ok, ?_⟩
  unfold M.bind at p
  cases q : den F a e s with
  | ok d s1 =>
    rw [q] at p
    rcases hb d s1 with z | ⟨b, rfl⟩
    · change PostS g xr f O W (m d s1) D at p
      rw [z] at p
      exact p.elim
    · exact fun H1 ca1 st => h b s1 H1 ca1 (ok.step st) p
  | exc c x s1 =>
    rw [q] at p
    exact ⟨p.1, fun cls od H' ca' st xx => p.2 cls od σ H' ca' (ok.frame.trans (st.mono fun z hz => List.mem_append_left _ hz)) xx⟩
  | stuck => rw [q] at p; exact p
theorem b_nil : PSs X [] (tS g xr F O W .skip) := pss_nil.imp fun D σ H h => by
  obtain ⟨f, e, s, ca, A, ok, p⟩ := h
  exact p σ H ca A ok
theorem b_cons {st : Stmt} {r : List Stmt} {m n : S} (h1 : PS X st (tS g xr F O W m)) (h2 : PSs X r (tS g xr F O W n)) : PSs X (st :: r) (tS g xr F O W (.seq m n)) := by
  refine (pss_cons h1 h2).imp fun D σ H h => ?_
  obtain ⟨f, e, s, ca, A, ok, p⟩ := h
  refine ⟨f, e, s, ca, A, ok, ?_⟩
  change PostS g xr f O W (M.bind (denS F m e) _ s) D at p
  unfold M.bind at p
  cases q : denS F m e s with
  | ok o s1 =>
    rw [q] at p
    cases o with
    | nx e' => exact fun σ' H' ca' A' ok' => ⟨f, e', s1, ca', A', ok', p⟩
    | ret d => exact p
    | brk e' => exact p
  | exc c x s1 => rw [q] at p; exact p
  | stuck => rw [q] at p; exact p
theorem p_ex {a : Expr} {m : E} {pos : Pos} (ha : PE X a (tE g xr F O ka W m)) (hs : swapsWith a none pos.line X.env = pure false) : PS X (.Expr a pos) (tS g xr F O W (.ex m)) := by
  refine (ps_expr ha hs).imp fun D σ H h => ?_
  obtain ⟨f, e, s, ca, A, ok, p⟩ := h
  exact tE.frontS ok p fun d s1 v H1 ca1 ok1 st1 r1 p1 => p1 σ H1 ca1 A ok1
theorem p_ite {c : Expr} {a b : List Stmt} {mc : E} {ma mb : S} {pos : Pos} (hc : PT X c (tT g xr F O W mc)) (ha : PSs X a (tS g xr F O W ma)) (hb : PSs X b (tS g xr F O W mb)) : PS X (.If c a b pos) (tS g xr F O W (.ite mc ma mb)) := by
  refine (ps_if hc ha hb).imp fun D σ H h => ?_
  obtain ⟨f, e, s, ca, A, ok, p⟩ := h
  refine tE.frontST ok p (fun d s1 => by cases d <;> first | exact .inr ⟨_, rfl⟩ | exact .inl rfl) fun b s1 H1 ca1 ok1 p1 => ?_
  cases b with
  | true => exact ⟨f, e, s1, ca1, A, ok1, p1⟩
  | false => exact ⟨f, e, s1, ca1, A, ok1, p1⟩
/-- a result seen by the caller -/
theorem rep_out {d : D} {v : V} (ok : EOk g f O σ H e s ca A) (r : RepI g f ca A H d v) : Rep g.dA ca (msk (g.dA :: (ca ++ f.A0)) H) d v := by
  have le : Le (msk (bad g f ca A) H) (msk (g.dA :: (ca ++ f.A0)) H) := Le.of fun a o h => by
    obtain ⟨n, h⟩ := msk_some h
    refine msk_of (fun z => n ?_) h
    simp only [List.mem_cons, List.mem_append] at z ⊢
    rcases z with z | z | z
    · exact .inl z
    · exact .inr (.inl z)
    · exact .inr (.inr (.inl z))
  have out : ∀ a, v = .ref a → isObjD d = true → a ∉ g.dA :: (ca ++ f.A0) := fun a e1 o z => by
    obtain ⟨n1, n2⟩ := r.2 a e1 o
    have hA0 : a ∈ f.A0 := by
      simp only [List.mem_cons, List.mem_append] at z n1
      rcases z with z | z | z
      · exact absurd (.inl z) n1
      · exact absurd (.inr z) n1
      · exact z
    rcases n2 with n2 | n2
    · exact (ok.a0 a hA0).1 (ok.an a n2).1
    · exact n2 (by simp [hA0])
  cases d with
  | lst l =>
    obtain ⟨a, xs, rfl, h1, h2⟩ := r.1
    exact ⟨a, xs, rfl, msk_of (out a rfl rfl) h1, Reps.le (.refl _) le _ _ h2⟩
  | dct ks vs =>
    obtain ⟨a, rfl, h⟩ := r.1
    have n := out a rfl rfl
    have rd : ∀ u, Rd H a u → Rd (msk (g.dA :: (ca ++ f.A0)) H) a u := fun u z => z.elim (fun z => .inl (msk_of n z)) fun ⟨o, z⟩ => .inr ⟨o, msk_of n z⟩
    rcases h with ⟨kvs, h1, h2, h3⟩ | ⟨kvs, h1, h2, h3⟩
    · exact ⟨a, rfl, .inl ⟨kvs, rd _ h1, h2, Reps.le (.refl _) le _ _ h3⟩⟩
    · exact ⟨a, rfl, .inr ⟨kvs, rd _ h1, h2, Reps.le (.refl _) le _ _ h3⟩⟩
  | _ => exact Rep.le (H := msk (bad g f ca A) H) (.refl _) le _ _ r.1
theorem p_ret {a : Expr} {m : E} {pos : Pos} (ha : PE X a (tE g xr F O ka W m)) : PS X (.Return (some a) pos) (tS g xr F O W (.ret m)) := by
  refine (ps_ret ha).imp fun D σ H h => ?_
  obtain ⟨f, e, s, ca, A, ok, p⟩ := h
  exact tE.frontS ok p fun d s1 v H1 ca1 ok1 st1 r1 p1 => p1 v H1 ca1 ok1.frame (rep_out ok1 r1.toI)
/-- never, where no exception is served -/
theorem p_raise0 {st : Stmt} {c : Nat} {m : E} (hx : g.ex = false) : PS X st (tS g xr F O W (.raise c m)) := ps_never.imp fun D σ H h => by
  obtain ⟨f, e, s, ca, A, ok, p⟩ := h
  change PostS g xr f O W (M.bind (den F m e) (fun x => M.exc c x) s) D at p
  unfold M.bind at p
  cases q : den F m e s with
  | ok d s1 =>
    rw [q] at p
    have z : g.ex = true := p.1
    rw [hx] at z
    cases z
  | exc c x s1 =>
    rw [q] at p
    have z : g.ex = true := p.1
    rw [hx] at z
    cases z
  | stuck => rw [q] at p; exact p
theorem p_asg {tg a : Expr} {mt : E} {m : E} {pos : Pos} (ha : PE X a (tE g xr F O ka W m)) (hk : ka ≠ .I) (hg : PG X tg (tG g O mt)) (hs : swapsWithSole [tg] a pos.line X.env = pure false) (hw : swappedStores [tg] a X.env = pure none) (h1 : (assignEach [tg] X.env).map (·.2) = [assign tg X.env]) : PS X (.Assign [tg] a pos) (tS g xr F O W (.asg mt m)) := by
  refine (ps_asg ha hg hs hw h1).imp fun D σ H h => ?_
  obtain ⟨f, e, s, ca, A, ok, p⟩ := h
  refine tE.frontS ok p fun d s1 v H1 ca1 ok1 st1 r1 p1 => ?_
  change PostS g xr f O W ((match tgt mt d e with | some σ' => M.pure (Out.nx σ') | none => M.stuck) s1) D at p1
  cases q : tgt mt d e with
  | none => rw [q] at p1; exact p1.elim
  | some e' =>
    rw [q] at p1
    exact ⟨f, e, s1, ca1, A, d, e', ok1, r1.kept hk, q, fun σ' ok' _ => p1 σ' H1 ca1 A ok'⟩
end
end W
/-! W17: built-in functions by data. -/
namespace W
open PySem L2
/-- a built-in function of one datum -/
def rP1 (g : Gd) (p : D → Option D) : List V → Hp → VK → Prop := fun xs H Q => ∃ (f : Fm) (ca A : List Addr) (d z : D) (x : V), xs = [x] ∧ Here g f ca A H ∧ RepI g f ca A H d x ∧ p d = some z ∧ ∀ v H', Nw H H' → RepN g f ca A H H' z v → Q v H'
theorem RepN.since {g : Gd} {f : Fm} {ca A : List Addr} {H0 H H' : Hp} {d : D} {v : V} (h : ∀ p, H p = none → H0 p = none) (r : RepN g f ca A H H' d v) : RepN g f ca A H0 H' d v := by
  cases d with
  | lst l => obtain ⟨a, xs, e, n, r⟩ := r; exact ⟨a, xs, e, h a n, r⟩
  | dct ks vs => obtain ⟨a, e, n, r⟩ := r; exact ⟨a, e, h a n, r⟩
  | _ => exact r
section
variable {X : Cx} {g : Gd} {xr : XR} {F : Nat → List D → M D} {O : Nat → Bool} {W : WX} {k ka kb : Kd} {pos : Pos}
theorem r_prim1 {p : Prim} {ma : E} {σ : St} {H : Hp} {Q : VK} (h : tE g xr F O .N W (.prim p (.cons ma .nil)) σ H Q) : tCB (rP1 g fun d => p.run [d]) (tCons (tE g xr F O ka W ma) tNil) σ H Q := by
  obtain ⟨f, e, s, ca, A, ok, q⟩ := h
  change PostE g xr f ca A σ H H .N W (M.bind (M.bind (den F ma e) _) _ s) Q at q
  rw [bind_assoc'] at q
  refine tE.front ok q fun d s1 v H1 ca1 ok1 st1 r1 q1 => ?_
  change PostE g xr f ca1 A σ H H1 .N W (M.ofO (p.run [d]) s1) Q at q1
  cases c : p.run [d] with
  | none => rw [c] at q1; exact q1.elim
  | some z =>
    rw [c] at q1
    exact ⟨f, ca1, A, d, z, v, rfl, ok1.here, r1.toI, c, fun v' H' nw r => q1.end ok1 nw (r.since fun p hp => st1.back ok.sr hp)⟩
theorem s_prim1 {id : String} {x : Str} {p : Prim} {a : Expr} {ma : E} {pp : Pos} (hc : CallR X (.builtin id) (rP1 g fun d => p.run [d])) (hg : Gl X x) (hm : X.mg x = none) (hv : bootBuiltins x = some (.builtin id)) (hn : x ≠ "__name__") (hd : (x == ("__debug__" : Str)) = false)
    (ha : PE X a (tE g xr F O ka W ma)) (hs : starEach [a] X.env = (false, eval a X.env) :: starEach [] X.env) : PE X (.Call (.Name x pp) [a] [] pos) (tE g xr F O .N W (.prim p (.cons ma .nil))) :=
  (pe_callB hc hg hm hv (pa_cons ha pa_nil hs) hn hd hs rfl).imp fun σ H Q h => r_prim1 h
theorem s_primT {T : String} {x : Str} {p : Prim} {a : Expr} {ma : E} {pp : Pos} (hc : CallR X (.type T) (rP1 g fun d => p.run [d])) (hg : Gl X x) (hm : X.mg x = none) (hv : bootBuiltins x = some (.type T)) (hn : x ≠ "__name__") (hd : (x == ("__debug__" : Str)) = false)
    (ha : PE X a (tE g xr F O ka W ma)) (hs : starEach [a] X.env = (false, eval a X.env) :: starEach [] X.env) : PE X (.Call (.Name x pp) [a] [] pos) (tE g xr F O .N W (.prim p (.cons ma .nil))) :=
  (pe_callTy hc hg hm hv (pa_cons ha pa_nil hs) hn hd hs rfl).imp fun σ H Q h => r_prim1 h
theorem call_lenW : CallR X (.builtin "len") (rP1 g fun d => Prim.run .len [d]) := by
  intro pins s σ H xs us Q I r h
  obtain ⟨f, ca, A, d, z, x, rfl, he, rd, hp, q⟩ := h
  change (match lenO d with | some n => some (D.int n) | none => none) = some z at hp
  cases c : lenO d with
  | none => rw [c] at hp; cases hp
  | some n =>
    rw [c] at hp
    cases hp
    have fin : Q (.int n) H := q _ _ (.refl _) rfl
    cases d with
    | str t =>
      cases c
      obtain ⟨rfl, hl⟩ := k_str rd.1
      exact call_len pins s σ H _ us Q I r ⟨_, _, rfl, ⟨by simpa [Str.length] using hl, by simp [Str.length]⟩, fin⟩
    | tup l =>
      cases c
      obtain ⟨a, xs, rfl, h1, _, h2⟩ := k_tup rd.1
      exact call_len pins s σ H _ us Q I r ⟨_, _, rfl, .inr ⟨xs, SqT.of h1, h2.length.symm⟩, fin⟩
    | lst l =>
      cases c
      obtain ⟨a, xs, rfl, h1, h2⟩ := k_lst rd.1
      exact call_len pins s σ H _ us Q I r ⟨_, _, rfl, .inl ⟨xs, SqL.of h1, h2.length.symm⟩, fin⟩
    | dct ks vs =>
      cases c
      obtain ⟨a, rfl, ⟨kvs, h1, h2, h3⟩ | ⟨kvs, h1, h2, h3⟩⟩ := k_dct rd.1
      · obtain ⟨u, rfl, ru⟩ := vals1 r
        cases ru
        have ln : ks.length = kvs.length := by rw [h2.length, List.length_map]
        rw [ln] at fin
        exact d_len I h1 fun t s' I' => ⟨.int kvs.length, H, I', ⟨t, rfl⟩, fin⟩
      · obtain ⟨u, rfl, ru⟩ := vals1 r
        cases ru
        obtain ⟨z, hd, ys, rel, dd⟩ := dt_rd I.hok h1
        have hl : kvs.length = ys.length := Paired.length rel
        have ln : ks.length = ys.length := by rw [h2.length, List.length_map, hl]
        rw [ln] at fin
        exact call_len_dictH hd dd (by rw [← hl]; rw [sizeLine_eq] at z; omega) ⟨.int ((ys.length : Nat) : Int), H, I.tok _, ⟨_, rfl⟩, fin⟩
    | set l => cases rd.1
    | _ => cases c
theorem bls_of {dA : Addr} {ca : List Addr} {H : Hp} : ∀ {l : List D} {xs : List V} {bs : List Bool}, Reps dA ca H l xs → blsO l = some bs → xs = bs.map V.bl
  | [], _, _, r, h => by cases r; cases h; rfl
  | d :: l, _, _, r, h => by
    obtain ⟨x, ys, rfl, r1, r2⟩ := r
    cases d with
    | bl b =>
      change (match blsO l with | some r => some (b :: r) | none => none) = some _ at h
      cases c : blsO l with
      | none => rw [c] at h; cases h
      | some r =>
        rw [c] at h
        cases h
        cases r1
        rw [bls_of r2 c, List.map_cons]
    | _ => cases h
theorem allB_eq : ∀ bs : List Bool, allB bs = bs.all id
  | [] => rfl
  | b :: bs => by simp [allB, allB_eq bs]
theorem anyB_eq : ∀ bs : List Bool, anyB bs = bs.any id
  | [] => rfl
  | b :: bs => by simp [anyB, anyB_eq bs]
theorem call_allW (hc : X.calm = true) : CallR X (.builtin "all") (rP1 g fun d => Prim.run .all [d]) := by
  intro pins s σ H xs us Q I r h
  obtain ⟨f, ca, A, d, z, x, rfl, he, rd, hp, q⟩ := h
  cases d with
  | lst l =>
    change (match blsO l with | some bs => some (D.bl (allB bs)) | none => none) = some z at hp
    cases c : blsO l with
    | none => rw [c] at hp; cases hp
    | some bs =>
      rw [c] at hp
      cases hp
      obtain ⟨a, xs, rfl, h1, h2⟩ := k_lst rd.1
      refine cr_all hc pins s σ H _ us Q I r ⟨a, bs, rfl, SqL.of (by rw [h1, bls_of h2 c]), ?_⟩
      rw [← allB_eq]
      exact q _ _ (.refl _) rfl
  | _ => cases hp
theorem call_anyW (hc : X.calm = true) : CallR X (.builtin "any") (rP1 g fun d => Prim.run .any [d]) := by
  intro pins s σ H xs us Q I r h
  obtain ⟨f, ca, A, d, z, x, rfl, he, rd, hp, q⟩ := h
  cases d with
  | lst l =>
    change (match blsO l with | some bs => some (D.bl (anyB bs)) | none => none) = some z at hp
    cases c : blsO l with
    | none => rw [c] at hp; cases hp
    | some bs =>
      rw [c] at hp
      cases hp
      obtain ⟨a, xs, rfl, h1, h2⟩ := k_lst rd.1
      refine cr_any hc pins s σ H _ us Q I r ⟨a, bs, rfl, SqL.of (by rw [h1, bls_of h2 c]), ?_⟩
      rw [← anyB_eq]
      exact q _ _ (.refl _) rfl
  | _ => cases hp
/-- tuple(x): of a list, of a tuple -/
theorem call_tupleW : CallR X (.type "tuple") (rP1 g fun d => Prim.run .tuple [d]) := by
  intro pins s σ H xs us Q I r h
  obtain ⟨f, ca, A, d, z, x, rfl, he, rd, hp, q⟩ := h
  cases d with
  | lst l =>
    cases hp
    obtain ⟨a, xs, rfl, h1, h2⟩ := k_lst rd.1
    exact call_tuple_of pins s σ H _ us Q I r ⟨a, xs, rfl, .inl ⟨SqL.of h1, fun p hp => q _ _ (.upd hp) (rep_newT he hp h2)⟩⟩
  | tup l =>
    cases hp
    obtain ⟨a, xs, rfl, h1, h2, h3⟩ := k_tup rd.1
    exact call_tuple_of pins s σ H _ us Q I r ⟨a, xs, rfl, .inr ⟨SqT.of h1, q _ _ (.refl _) (nk_tup h1 h2 h3)⟩⟩
  | _ => cases hp
theorem keysK_reps {dA : Addr} {ca : List Addr} {H : Hp} : ∀ {ks : List D} {l : List Key}, KsR kO ks l → Reps dA ca H ks (l.map kV)
  | [], _, h => by cases h; rfl
  | d :: ks, _, h => by
    obtain ⟨k, r, rfl, h1, h2⟩ := h
    exact ⟨_, _, rfl, kO_rep h1, keysK_reps h2⟩
/-- list(x): of a list, a tuple, a dict -/
theorem keysT_vals {H Hm : Hp} {dA : Addr} {ca : List Addr} (tm : ∀ p ys, H p = some (.tup ys) → Hm p = some (.tup ys)) : ∀ (us : List Value) (kvs : List (List Key × V)) (xs : List (List Key × Addr × Value)) (ks : List D), KT H kvs xs → us.length = xs.length → (∀ (j : Nat) v, us[j]? = some v → ∃ y, xs[j]? = some y ∧ v = .ref y.2.1) → KsR kTO ks (kvs.map (·.1)) →
    Vals (xs.map fun y => V.ref y.2.1) us ∧ Reps dA ca Hm ks (xs.map fun y => V.ref y.2.1) := by
  intro us kvs xs ks rel
  induction rel generalizing us ks with
  | nil =>
    intro h _ hk
    have e1 : us = [] := List.eq_nil_of_length_eq_zero h
    have e2 : ks = [] := by
      have := hk.length
      exact List.eq_nil_of_length_eq_zero this
    subst e1 e2
    exact ⟨.nil, rfl⟩
  | cons r1 r2 ih =>
    rename_i p y kvs xs
    intro h k hk
    cases us with
    | nil => cases h
    | cons u us =>
      obtain ⟨y', e1, e2⟩ := k 0 u rfl
      cases e1
      cases ks with
      | nil => cases hk
      | cons d ks =>
        obtain ⟨j, r', e3, e4, e5⟩ := hk
        rw [List.map_cons] at e3
        cases e3
        obtain ⟨i1, i2⟩ := ih us ks (Nat.succ.inj h) (fun j v e => k (j + 1) v (by simpa using e)) e5
        refine ⟨.cons e2 i1, ?_⟩
        cases d with
        | tup l => exact ⟨_, _, rfl, ⟨_, _, rfl, tm _ _ r1.2.1, ksO_reps e4⟩, i2⟩
        | _ => cases e4
/-- list(d), tuple keys -/
theorem call_listT (hcalm : X.calm = true) : CallR X (.type "list") (fun xs H Q => ∃ (a : Addr) (kvs : List (List Key × V)), xs = [.ref a] ∧ Rd H a (.dT kvs) ∧
    ∀ p ys, H p = none → (∀ dA ca Hm ks, (∀ p ys, H p = some (.tup ys) → Hm p = some (.tup ys)) → KsR kTO ks (kvs.map (·.1)) → Reps dA ca Hm ks ys) → Q (.ref p) (upd H p (.lst ys))) := by
  intro pins s σ H xs us Q I r q
  obtain ⟨a, kvs, ex, hd, q⟩ := q
  subst ex
  obtain ⟨u, eu, rx⟩ := vals1 r
  subst eu
  cases rx
  obtain ⟨z, lo, xs, rel, dd⟩ := dt_rd I.hok hd
  obtain ⟨es, ep, raw, ez, ent⟩ := Heap.DictOfH.raw (knd := tupleKind (mixKind X.prog X.w)) dd
  have lk : kvs.length = xs.length := Paired.length rel
  refine PySem.W.kdl_call (KdlSrc.rawDict (es := es) (ep := ep) lo) (I.ok.hd hcalm) raw (by rw [ez, ← lk]; exact z) fun h' tk acc c' hk hD hacc => ?_
  have l1 : acc.toList.length = xs.length := by rw [Array.length_toList, hacc.1, ez]
  have l2 : ∀ (j : Nat) v, acc.toList[j]? = some v → ∃ y, xs[j]? = some y ∧ v = .ref y.2.1 := fun j v e => by
    obtain ⟨hi, ev⟩ := hacc.2 j v (by rw [← Array.getElem?_toList]; exact e)
    obtain ⟨y, y1, y2, _⟩ := ent j hi
    exact ⟨y, y1, by rw [ev, y2]⟩
  have hv : Vals (xs.map fun y => V.ref y.2.1) acc.toList := by
    have all : ∀ (xs : List (List Key × Addr × Value)) (us : List Value), us.length = xs.length → (∀ (j : Nat) v, us[j]? = some v → ∃ y, xs[j]? = some y ∧ v = .ref y.2.1) → Vals (xs.map fun y => V.ref y.2.1) us := by
      intro xs
      induction xs with
      | nil =>
        intro us l1 _
        rw [List.eq_nil_of_length_eq_zero l1]
        exact .nil
      | cons x xs ih =>
        intro us l1 l2
        cases us with
        | nil => cases l1
        | cons u us =>
          obtain ⟨y', e1, e2⟩ := l2 0 u rfl
          cases e1
          exact .cons e2 (ih us (Nat.succ.inj l1) fun j v e => l2 (j + 1) v (by simpa using e))
    exact all xs _ l1 l2
  refine ⟨.ref s.heap.objs.size, upd H s.heap.objs.size (.lst (xs.map fun y => V.ref y.2.1)), I.laid (t' := tk) hk (Nat.le_refl _)
    (show ObjOk X.prog X.w _ _ _ (.lst (xs.map fun y => V.ref y.2.1)) from ⟨by rw [List.length_map, ← lk]; exact z, acc.toList, c', hv, by rw [Array.toArray_toList]; exact hD⟩), rfl, q _ _ (I.hok.fresh (Nat.le_refl _)) fun dA ca Hm ks tm hk => (keysT_vals tm acc.toList kvs xs ks rel l1 l2 hk).2⟩
theorem call_listW (hc : X.calm = true) : CallR X (.type "list") (rP1 g fun d => Prim.run .list [d]) := by
  intro pins s σ H xs us Q I r h
  obtain ⟨f, ca, A, d, z, x, rfl, he, rd, hp, q⟩ := h
  cases d with
  | lst l =>
    cases hp
    obtain ⟨a, xs, rfl, h1, h2⟩ := k_lst rd.1
    exact call_list_of pins s σ H _ us Q I r ⟨a, xs, rfl, .inl (SqL.of h1), fun p hp => q _ _ (.upd hp) (repN_lst he hp hp h2)⟩
  | tup l =>
    cases hp
    obtain ⟨a, xs, rfl, h1, h2, h3⟩ := k_tup rd.1
    exact call_list_of pins s σ H _ us Q I r ⟨a, xs, rfl, .inr (SqT.of h1), fun p hp => q _ _ (.upd hp) (repN_lst he hp hp h3)⟩
  | dct ks vs =>
    cases hp
    obtain ⟨a, rfl, ⟨kvs, h1, h2, h3⟩ | ⟨kvs, h1, h2, h3⟩⟩ := k_dct rd.1
    · refine call_listD hc pins s σ H _ us Q I r ⟨a, kvs, rfl, h1, fun p hp => q _ _ (.upd hp) (repN_lst he hp hp ?_)⟩
      have := keysK_reps (dA := g.dA) (ca := ca) (H := msk (bad g f ca A) H) h2
      rw [List.map_map] at this
      exact this
    · exact call_listT hc pins s σ H _ us Q I r ⟨a, kvs, rfl, h1, fun p ys hp hr => q _ _ (.upd hp) (repN_lst he hp hp (hr _ _ _ _ (fun p ys e => msk_of (he.tup e) e) h2))⟩
  | _ => cases hp
end
end W
/-! W18: isinstance, subscripts, slices. -/
namespace W
open PySem L2
def tyName : Nat → String
  | 0 => "int"
  | 1 => "bool"
  | 2 => "str"
  | 3 => "tuple"
  | 4 => "list"
  | _ => "dict"
def clsD : D → Option String
  | .non => some "NoneType"
  | .bl _ => some "bool"
  | .int _ => some "int"
  | .str _ => some "str"
  | .tup _ => some "tuple"
  | .lst _ => some "list"
  | .dct _ _ => some "dict"
  | _ => none
theorem tyIs_kit {t : Nat} {d : D} {b : Bool} (ht : t ≤ 5) (h : tyIs t d = some b) : ∃ c, clsD d = some c ∧ kitB c (tyName t) = some b := by
  have key : ∀ t, t ≤ 5 → t = 0 ∨ t = 1 ∨ t = 2 ∨ t = 3 ∨ t = 4 ∨ t = 5 := fun t h => by omega
  rcases key t ht with rfl | rfl | rfl | rfl | rfl | rfl <;> cases d <;> first | (cases h; done) | (cases h; exact ⟨_, rfl, by decide +kernel⟩)
section
variable {X : Cx} {g : Gd} {xr : XR} {F : Nat → List D → M D} {O : Nat → Bool} {W : WX} {k ka kb : Kd} {pos : Pos}
theorem kit_D {pins : List (Addr × Obj)} {σ : St} {H : Hp} {s : Shared} {dA : Addr} {ca : List Addr} {d : D} {x : V} {u : Value} {c : String} (I : Inv X pins σ H s) (r : Rep dA ca H d x) (rx : RelV x u) (hc : clsD d = some c) :
    ∃ P : Heap → Prop, PySem.W.KitX X.K u (.type c) P ∧ P s.heap ∧ u ≠ .builtin "__main__.__loader__#opaque" := by
  cases d with
  | non => cases hc; cases r; cases rx; exact ⟨_, PySem.W.kitx_none, trivial, fun z => nomatch z⟩
  | bl b => cases hc; cases r; cases rx; exact ⟨_, PySem.W.kitx_bool, trivial, fun z => nomatch z⟩
  | int i => cases hc; cases r; obtain ⟨t, rfl⟩ := rx; exact ⟨_, PySem.W.kitx_int, trivial, fun z => nomatch z⟩
  | str i => cases hc; obtain ⟨rfl, _⟩ := r; obtain ⟨t, rfl⟩ := rx; exact ⟨_, PySem.W.kitx_str, trivial, fun z => nomatch z⟩
  | tup l =>
    cases hc
    obtain ⟨a, xs, rfl, h1, _⟩ := r
    cases rx
    obtain ⟨_, _, ⟨o, q1, q2, _⟩, _⟩ := I.tuple (SqT.of h1)
    exact ⟨_, PySem.W.kitx_tuple, ⟨o, q1, q2⟩, fun z => nomatch z⟩
  | lst l =>
    cases hc
    obtain ⟨a, xs, rfl, h1, _⟩ := r
    cases rx
    obtain ⟨_, _, n, _, q1⟩ := (show ObjOk X.prog X.w H s.heap a (.lst xs) from I.hok a _ h1)
    exact ⟨_, PySem.W.kitx_list, ⟨_, q1, rfl⟩, fun z => nomatch z⟩
  | dct ks vs =>
    cases hc
    obtain ⟨a, rfl, ⟨kvs, h1, _⟩ | ⟨kvs, h1, _⟩⟩ := r
    · cases rx
      obtain ⟨_, _, vs, _, o, es, ep, q1, q2, _⟩ := dk_rd I.hok h1
      exact ⟨_, PySem.W.kitx_dict, ⟨o, q1, q2.1⟩, fun z => nomatch z⟩
    · cases rx
      obtain ⟨_, _, vs, _, o, es, ep, q1, q2, _⟩ := dt_rd I.hok h1
      exact ⟨_, PySem.W.kitx_dict, ⟨o, q1, q2.1⟩, fun z => nomatch z⟩
  | _ => cases hc
def rIs (g : Gd) (t : Nat) : List V → Hp → VK → Prop := fun xs H Q => ∃ (f : Fm) (ca A : List Addr) (d : D) (x : V) (b : Bool), xs = [x, .ty (tyName t)] ∧ RepI g f ca A H d x ∧ tyIs t d = some b ∧ Q (.bl b) H
theorem call_isW {t : Nat} (ht : t ≤ 5) : CallR X (.builtin "isinstance") (rIs g t) := by
  intro pins s σ H xs us Q I r h
  obtain ⟨f, ca, A, d, x, b, rfl, rd, hb, q⟩ := h
  obtain ⟨u1, u2, rfl, r1, r2⟩ := vals2 r
  obtain rfl : u2 = .type (tyName t) := r2
  obtain ⟨c, hc, kb⟩ := tyIs_kit ht hb
  obtain ⟨P, Z, p, hx⟩ := kit_D I rd.1.full r1 hc
  exact PySem.W.kia_one Z I.kIn p (kit_ty kb) hx fun tk => ⟨.bl b, H, I.tok tk, rfl, q⟩
theorem s_isT {t : Nat} {a : Expr} {ma : E} {pp p2 : Pos} {y : Str} (ht : t ≤ 5) (hg : Gl X "isinstance") (hm : X.mg "isinstance" = none) (ha : PE X a (tE g xr F O ka W ma)) (hy : PE X (.Name y p2) (tC (.ty (tyName t))))
    (hs : starEach [a, .Name y p2] X.env = (false, eval a X.env) :: starEach [.Name y p2] X.env) : PE X (.Call (.Name "isinstance" pp) [a, .Name y p2] [] pos) (tE g xr F O .K W (.prim (.isT [t]) (.cons ma .nil))) := by
  refine (pe_callB (call_isW (g := g) ht) hg hm (by decide +kernel) (pa_cons ha (pa_cons hy pa_nil (by rfl)) hs) (by decide) (by decide) hs (by rfl)).imp fun σ H Q h => ?_
  obtain ⟨f, e, s, ca, A, ok, q⟩ := h
  change PostE g xr f ca A σ H H .K W (M.bind (M.bind (den F ma e) _) _ s) Q at q
  rw [bind_assoc'] at q
  refine tE.front ok q fun d s1 v H1 ca1 ok1 st1 r1 q1 => ?_
  change PostE g xr f ca1 A σ H H1 .K W (M.ofO (match anyTy [t] d with | some b => some (D.bl b) | none => none) s1) Q at q1
  have e1 : anyTy [t] d = tyIs t d := by
    unfold anyTy
    cases c : tyIs t d with
    | none => rfl
    | some b => cases b <;> rfl
  rw [e1] at q1
  cases c : tyIs t d with
  | none => rw [c] at q1; exact q1.elim
  | some b =>
    rw [c] at q1
    exact ⟨f, ca1, A, d, v, b, rfl, r1.toI, c, q1 _ H1 ca1 (.refl ok1.sr) rfl⟩
/-! ### subscripts -/
theorem atI_eq {α : Type} (xs : List α) (i : Int) : _root_.W.atI xs i = L2.atI xs i := rfl
theorem atI_rep {dA : Addr} {ca : List Addr} {H : Hp} {l : List D} {xs : List V} {i : Int} {d : D} (r : Reps dA ca H l xs) (h : _root_.W.atI l i = some d) : ∃ v, L2.atI xs i = some v ∧ Rep dA ca H d v := by
  unfold _root_.W.atI at h
  unfold L2.atI
  rw [r.length]
  change (_root_.W.ixN l.length i).bind _ = _ at h
  cases c : _root_.W.ixN l.length i with
  | none => rw [c] at h; cases h
  | some j =>
    rw [c] at h
    have c' : L2.ixN l.length i = some j := c
    rw [c']
    exact r.get h
/-- x[y] -/
def rIdx (g : Gd) : R2 := fun x y H Q => ∃ (f : Fm) (ca A : List Addr) (d e z : D), Here g f ca A H ∧ RepI g f ca A H d x ∧ RepI g f ca A H e y ∧ D.idx d e = some z ∧ ∀ v, RepK g f ca A H true z v → Q v H
theorem ix_W (hu : X.A.units + 12 < cLine) : IxR X (rIdx g) := by
  intro value slice pins s σ H x y v u Q I rx ry h hs
  obtain ⟨f, ca, A, d, e, z, he, h1, h2, h3, q⟩ := h
  cases d with
  | tup l =>
    cases e <;> first | (cases h3; done) | skip
    rename_i i
    obtain ⟨a, xs, rfl, ha, na, ra⟩ := k_tup h1.1
    obtain rfl := k_int h2.1
    obtain ⟨w, e1, r1⟩ := atI_rep ra h3
    exact ix_tup value slice pins s σ H _ _ v u Q I rx ry ⟨a, xs, i, w, rfl, rfl, SqT.of ha, e1, q w r1⟩ hs
  | lst l =>
    cases e <;> first | (cases h3; done) | skip
    rename_i i
    obtain ⟨a, xs, rfl, ha, ra⟩ := k_lst h1.1
    obtain rfl := k_int h2.1
    obtain ⟨w, e1, r1⟩ := atI_rep ra h3
    exact ix_list value slice pins s σ H _ _ v u Q I rx ry ⟨a, xs, i, w, rfl, rfl, SqL.of ha, e1, q w r1⟩ hs
  | str t =>
    cases e <;> first | (cases h3; done) | skip
    rename_i i
    obtain ⟨rfl, hl⟩ := k_str h1.1
    obtain rfl := k_int h2.1
    change (match _root_.W.atI t i with | some c => some (D.str [c]) | none => none) = some z at h3
    cases c : _root_.W.atI t i with
    | none => rw [c] at h3; cases h3
    | some ch =>
      rw [c] at h3
      cases h3
      exact ix_str value slice pins s σ H _ _ v u Q I rx ry ⟨_, i, ch, rfl, rfl, by simpa [Str.length] using hl, c, q _ ⟨rfl, by show 1 ≤ sizeLine; decide⟩⟩ hs
  | dct ks vs =>
    have h3 : (bif kOk e ks then look e ks vs else none) = some z := by cases e <;> exact h3
    cases hk : kOk e ks with
    | false => rw [hk] at h3; cases h3
    | true =>
      rw [hk] at h3
      have h3 : look e ks vs = some z := h3
      obtain ⟨a, rfl, r⟩ := k_dct h1.1
      cases rx
      obtain ⟨o, sy, _, hl⟩ := say_of (P := X.prog) (w := X.w) (s := s) r h2.1.full hk
      rcases hl with ⟨e1, _⟩ | ⟨d', w, e1, eo, rw'⟩
      · rw [h3] at e1; cases e1
      · rw [h3] at e1
        cases e1
        have dg : DGet H a y (some w) := by
          cases sy with
          | k e2 ey => exact .inl ⟨_, _, e2, ey, eo.symm⟩
          | t e2 ey eb => exact .inr ⟨_, _, _, e2, ey, eb, eo.symm⟩
          | k0 e2 ey eb => cases eo
          | t0 e2 ey => cases eo
        refine PyProof.Rows.tail_any (dict_typeIs I dg) PySem.F.slot_dict_getitem.lookup (d_getItem (by omega) I dg ry fun w' s' I' r' => ⟨w, H, I', r', q w rw'⟩) hs
  | _ => cases h3
theorem s_idx {a b : Expr} {ma mb : E} (hu : X.A.units + 12 < cLine) (ha : PE X a (tE g xr F O ka W ma)) (hb : PE X b (tE g xr F O kb W mb)) (hs : PlainIx b) : PE X (.Subscript a b pos) (tE g xr F O .K W (.idx ma mb)) := by
  refine (pe_ix (ix_W (g := g) hu) ha hb hs).imp fun σ H Q h => ?_
  obtain ⟨f, e, s, ca, A, ok, p⟩ := h
  refine tE.front ok p fun d s1 v H1 ca1 ok1 st1 r1 p1 => tE.front ok1 p1 fun d' s2 v' H2 ca2 ok2 st2 r2 p2 => ?_
  change PostE g xr f ca2 A σ H H2 .K W (M.ofO (D.idx d d') s2) Q at p2
  cases q : D.idx d d' with
  | none => rw [q] at p2; exact p2.elim
  | some z =>
    rw [q] at p2
    exact ⟨f, ca2, A, d, d', z, ok2.here, r1.toI.stp st2, r2.toI, q, fun w r => p2 w H2 ca2 (.refl ok2.sr) r⟩
/-! ### slices -/
def rCut (g : Gd) : V → Option Int → Option Int → Hp → VK → Prop := fun x lo hi H Q => ∃ (f : Fm) (ca A : List Addr) (d z : D), Here g f ca A H ∧ RepI g f ca A H d x ∧ D.cut d lo hi = some z ∧ ∀ v H', Nw H H' → RepN g f ca A H H' z v → Q v H'
theorem sIx_eq (n d : Nat) (o : Option Int) : _root_.W.sIx n d o = HT.sIx n d o := by cases o <;> rfl
theorem cutL_reps {dA : Addr} {ca : List Addr} {H : Hp} {l : List D} {xs : List V} {lo hi : Option Int} (r : Reps dA ca H l xs) : Reps dA ca H (cutL l lo hi) (cutV xs lo hi) := by
  unfold cutL cutV
  rw [r.length, sIx_eq, sIx_eq]
  exact (r.drop _).take _
theorem sl_W : SlR X (rCut g) := by
  intro pins s σ H x v vl vu lo hi sl Q I rx hs pl pu h
  obtain ⟨f, ca, A, d, z, he, h1, h2, q⟩ := h
  cases d with
  | lst l =>
    cases h2
    obtain ⟨a, xs, rfl, ha, ra⟩ := k_lst h1.1
    exact sl_list pins s σ H _ v vl vu lo hi sl Q I rx hs pl pu ⟨a, xs, rfl, SqL.of ha, fun p hp => q _ _ (.upd hp) (repN_lst he hp hp (cutL_reps ra))⟩
  | tup l =>
    cases h2
    obtain ⟨a, xs, rfl, ha, na, ra⟩ := k_tup h1.1
    refine sl_tupA pins s σ H _ v vl vu lo hi sl Q I rx hs pl pu ⟨a, xs, rfl, SqT.of ha, fun hw => ?_, fun _ p hp => q _ _ (.upd hp) (rep_newT he hp (cutL_reps ra))⟩
    refine q _ _ (.refl _) ?_
    have : cutL l lo hi = l := by
      unfold cutL
      rw [sIx_eq, sIx_eq, ← ra.length, hw.1, hw.2, List.drop_zero, Nat.sub_zero, ra.length, List.take_length]
    rw [this]
    exact nk_tup ha na ra
  | str t =>
    cases h2
    obtain ⟨rfl, hl⟩ := k_str h1.1
    refine sl_str pins s σ H _ v vl vu lo hi sl Q I rx hs pl pu ⟨_, rfl, by simpa [Str.length] using hl, ?_⟩
    have e : cutS ⟨t.toArray⟩ lo hi = ⟨(cutL t lo hi).toArray⟩ := by
      unfold cutS cutL
      simp [Str.length, ← sIx_eq]
    rw [e]
    refine q _ _ (.refl _) ⟨rfl, Nat.le_trans ?_ hl⟩
    unfold cutL
    rw [List.length_take, List.length_drop]
    omega
  | _ => cases h2
/-- a slice's part -/
def partM (F : Nat → List D → M D) (m : E) (e : Env) : M (Option Int) := bif isNonE m then M.pure none else M.bind (den F m e) fun y => M.bind (asInt y) fun i => M.pure (some i)
theorem po_W {o : Option Expr} {m : E} (h : (o = none ∧ isNonE m = true) ∨ ∃ a, o = some a ∧ isNonE m = false ∧ PE X a (tE g xr F O ka W m)) : ∃ t, PO X o t ∧ ∀ {f : Fm} {ca A : List Addr} {σ : St} {H0 H : Hp} {s : MS} {e : Env} {k : Kd} {mm : Option Int → M D} {Q : VK} {Q' : Option Int → Hp → Prop}, EOk g f O σ H e s ca A →
    PostE g xr f ca A σ H0 H k W (M.bind (partM F m e) mm s) Q → (∀ oi s1 H1 ca1, EOk g f O σ H1 e s1 ca1 A → Stp g (f.A0 ++ A) ca H ca1 H1 s1 → PostE g xr f ca1 A σ H0 H1 k W (mm oi s1) Q → Q' oi H1) → t σ H Q' := by
  rcases h with ⟨rfl, hm⟩ | ⟨a, rfl, hm, h⟩
  · refine ⟨_, po_none, fun {f ca A σ H0 H s e k mm Q Q'} ok p h => ?_⟩
    unfold partM at p
    rw [hm] at p
    exact h none s H ca ok (.refl ok.sr) p
  · refine ⟨_, po_some h, fun {f ca A σ H0 H s e k mm Q Q'} ok p h => ?_⟩
    unfold partM at p
    rw [hm] at p
    change PostE g xr f ca A σ H0 H k W (M.bind (M.bind (den F m e) _) mm s) Q at p
    rw [bind_assoc'] at p
    refine tE.front ok p fun d s1 v H1 ca1 ok1 st1 r1 p1 => ?_
    cases d with
    | int i =>
      obtain rfl := k_int r1.items
      exact ⟨i, rfl, h (some i) s1 H1 ca1 ok1 st1 p1⟩
    | _ => exact p1.elim
theorem s_cut {a : Expr} {lo hi : Option Expr} {ma ml mh : E} {p2 : Pos} {kl kh : Kd} (ha : PE X a (tE g xr F O ka W ma)) (hl : (lo = none ∧ isNonE ml = true) ∨ ∃ b, lo = some b ∧ isNonE ml = false ∧ PE X b (tE g xr F O kl W ml)) (hh : (hi = none ∧ isNonE mh = true) ∨ ∃ b, hi = some b ∧ isNonE mh = false ∧ PE X b (tE g xr F O kh W mh)) :
    PE X (.Subscript a (.Slice lo hi none p2) pos) (tE g xr F O .N W (.cut ma ml mh)) := by
  obtain ⟨tl, pl, ql⟩ := po_W hl
  obtain ⟨th, ph, qh⟩ := po_W hh
  refine (pe_slice (sl_W (g := g)) ha pl ph).imp fun σ H Q h => ?_
  obtain ⟨f, e, s, ca, A, ok, p⟩ := h
  refine tE.front ok p fun d s1 v H1 ca1 ok1 st1 r1 p1 => ql ok1 p1 fun l s2 H2 ca2 ok2 st2 p2 => qh ok2 p2 fun h s3 H3 ca3 ok3 st3 p3 => ?_
  change PostE g xr f ca3 A σ H H3 .N W (M.ofO (D.cut d l h) s3) Q at p3
  cases q : D.cut d l h with
  | none => rw [q] at p3; exact p3.elim
  | some z =>
    rw [q] at p3
    exact ⟨f, ca3, A, d, z, ok3.here, (r1.toI.stp st2).stp st3, q, fun w H' nw r => p3.end ok3 nw (r.since fun p hp => st1.back ok.sr (st2.back ok1.sr (st3.back ok2.sr hp)))⟩
end
end W
/-! W19: dicts: stores, displays, comprehensions (keys that are ints and texts). -/
namespace W
open PySem L2
section
variable {κ : Type} [DecidableEq κ] {fk : D → Option κ} {dA : Addr} {ca : List Addr} {H : Hp}
theorem putK_new {kvs : List (κ × V)} {k : κ} {v : V} (h : (valV kvs k).isSome = false) : putK kvs k v = kvs ++ [(k, v)] := by
  unfold putK
  rw [if_neg (by rw [valV_any, h]; exact Bool.false_ne_true)]
theorem putK_old {kvs : List (κ × V)} {k : κ} {v : V} (h : (valV kvs k).isSome = true) : putK kvs k v = kvs.map fun kv => if kv.1 = k then (kv.1, v) else kv := by
  unfold putK
  rw [if_pos (by rw [valV_any, h])]
theorem map_other {kvs : List (κ × V)} {k : κ} {v : V} (h : k ∉ kvs.map (·.1)) : (kvs.map fun kv => if kv.1 = k then (kv.1, v) else kv) = kvs := by
  induction kvs with
  | nil => rfl
  | cons p r ih =>
    simp only [List.map_cons, List.mem_cons, not_or] at h
    rw [List.map_cons, if_neg (fun z => h.1 z.symm), ih h.2]
theorem map_keys {kvs : List (κ × V)} {k : κ} {v : V} : ((kvs.map fun kv => if kv.1 = k then (kv.1, v) else kv).map (·.1)) = kvs.map (·.1) := by
  induction kvs with
  | nil => rfl
  | cons p r ih =>
    rw [List.map_cons, List.map_cons, List.map_cons, ih]
    by_cases c : p.1 = k
    · rw [if_pos c]
    · rw [if_neg c]
theorem putV_rel (hf : ∀ {d e : D} {k j : κ}, fk d = some k → fk e = some j → keq d e = decide (k = j)) {kd d : D} {k : κ} {v : V} (hk : fk kd = some k) (rv : Rep dA ca H d v) :
    ∀ {ks vs : List D} {kvs : List (κ × V)}, KsR fk ks (kvs.map (·.1)) → Reps dA ca H vs (kvs.map (·.2)) → (kvs.map (·.1)).Nodup → Reps dA ca H (putV kd d ks vs) ((kvs.map fun kv => if kv.1 = k then (kv.1, v) else kv).map (·.2))
  | [], vs, kvs, h, h', nd => by
    have e : kvs = [] := by
      have : kvs.map (·.1) = [] := h
      simpa using this
    subst e
    have : putV kd d [] vs = vs := by cases vs <;> rfl
    rw [this]
    exact h'
  | k' :: ks, vs, [], h, h', nd => by
    obtain ⟨_, _, e, _⟩ := h
    simp at e
  | k' :: ks, vs, p :: kvs, h, h', nd => by
    obtain ⟨q, r, e, h1, h2⟩ := h
    rw [List.map_cons] at e
    cases e
    cases vs with
    | nil =>
      have z : List.map (·.2) (p :: kvs) = [] := h'
      cases z
    | cons v0 vs =>
      obtain ⟨x, ys, e, r1, r2⟩ := h'
      rw [List.map_cons] at e
      cases e
      have hq : keq kd k' = decide (k = p.1) := hf hk h1
      rw [List.map_cons, List.nodup_cons] at nd
      unfold putV
      rw [hq]
      by_cases c : p.1 = k
      · rw [decide_eq_true c.symm, List.map_cons, if_pos c, map_other (by rw [← c]; exact nd.1)]
        exact ⟨_, _, rfl, rv, r2⟩
      · rw [decide_eq_false (fun z => c z.symm), List.map_cons, if_neg c]
        exact ⟨_, _, rfl, r1, putV_rel hf hk rv h2 r2 nd.2⟩
theorem KsR.snoc : ∀ {ks : List D} {l : List κ} {d : D} {k : κ}, KsR fk ks l → fk d = some k → KsR fk (ks ++ [d]) (l ++ [k])
  | [], _, d, k, h, e => by cases h; exact ⟨k, [], rfl, e, rfl⟩
  | a :: ks, _, d, k, h, e => by
    obtain ⟨q, r, rfl, h1, h2⟩ := h
    exact ⟨q, _, rfl, h1, h2.snoc e⟩
/-- d[k] = v, by data and on the table -/
theorem put_rel (hf : ∀ {d e : D} {k j : κ}, fk d = some k → fk e = some j → keq d e = decide (k = j)) {kd d : D} {k : κ} {v : V} (hk : fk kd = some k) (rv : Rep dA ca H d v) {ks vs : List D} {kvs : List (κ × V)}
    (h : KsR fk ks (kvs.map (·.1))) (h' : Reps dA ca H vs (kvs.map (·.2))) (nd : (kvs.map (·.1)).Nodup) :
    KsR fk (put kd d ks vs).1 ((putK kvs k v).map (·.1)) ∧ Reps dA ca H (put kd d ks vs).2 ((putK kvs k v).map (·.2)) ∧ ((putK kvs k v).map (·.1)).Nodup := by
  have hh := has_val hf hk h
  unfold put
  cases c : has kd ks with
  | true =>
    rw [putK_old (by rw [← hh, c])]
    refine ⟨by rw [map_keys]; exact h, putV_rel hf hk rv h h' nd, by rw [map_keys]; exact nd⟩
  | false =>
    have c' : (valV kvs k).isSome = false := by rw [← hh, c]
    rw [putK_new c', List.map_append, List.map_append]
    refine ⟨h.snoc hk, h'.append (Reps.one rv), ?_⟩
    have z : k ∉ kvs.map (·.1) := by
      refine valV_not ?_
      cases e : valV kvs k with
      | none => rfl
      | some _ => rw [e] at c'; cases c'
    rw [List.nodup_append]
    exact ⟨nd, by simp, fun a ha b hb => by simp at hb; subst hb; exact fun w => z (w ▸ ha)⟩
end
section
variable {X : Cx} {g : Gd} {xr : XR} {F : Nat → List D → M D} {O : Nat → Bool} {W : WX} {k ka kb : Kd} {pos : Pos}
/-! ### displays -/
def trsOf (g : Gd) (xr : XR) (F : Nat → List D → M D) (O : Nat → Bool) (W : WX) : E → List (TE × TE)
  | .kv k v r => (tE g xr F O .K W k, tE g xr F O .K W v) :: trsOf g xr F O W r
  | _ => []
/-- pairs of values by pairs of data -/
def PsR (g : Gd) (ca : List Addr) (Hm : Hp) : List D → List (V × V) → Prop
  | [], ps => ps = []
  | p :: l, ps => ∃ a b x y r, p = .tup [a, b] ∧ ps = (x, y) :: r ∧ Rep g.dA ca Hm a x ∧ Rep g.dA ca Hm b y ∧ PsR g ca Hm l r
def PostP (g : Gd) (xr : XR) (f : Fm) (ca A : List Addr) (σ : St) (H : Hp) (W : WX) (r : R D) (Q : List (V × V) → Hp → Prop) : Prop := match r with
  | .ok (.lst l) s' => ∀ ps H' ca', Stp g (f.A0 ++ A) ca H ca' H' s' → PsR g ca' (msk (bad g f ca' A) H') l ps → Q ps H'
  | .ok _ _ => False
  | .exc c x s' => g.ex = true ∧ ∀ cls od H' ca', Stp g (f.A0 ++ A) ca H ca' H' s' → xr c x cls od H' ca' → W cls od σ H'
  | .stuck => False
theorem PostP.from {f : Fm} {ca ca1 A : List Addr} {σ : St} {H H1 : Hp} {s1 : MS} {r : R D} {Q : List (V × V) → Hp → Prop} (st : Stp g (f.A0 ++ A) ca H ca1 H1 s1) (p : PostP g xr f ca A σ H W r Q) : PostP g xr f ca1 A σ H1 W r Q := by
  cases r with
  | ok d s' =>
    cases d with
    | lst b => exact fun v H' ca' t q => p v H' ca' (st.trans t) q
    | _ => exact p
  | exc c x s' => exact ⟨p.1, fun cls od H' ca' t q => p.2 cls od H' ca' (st.trans t) q⟩
  | stuck => exact p
def isKv : E → Bool
  | .nil => true
  | .kv _ _ r => isKv r
  | _ => false
def lenKv : E → Nat
  | .kv _ _ r => lenKv r + 1
  | _ => 0
theorem pairs_run : ∀ (m : E) {f : Fm} {ca A : List Addr} {σ : St} {H : Hp} {s : MS} {e : Env} {Q : List (V × V) → Hp → Prop}, isKv m = true → EOk g f O σ H e s ca A → PostP g xr f ca A σ H W (den F m e s) Q → tPairs (trsOf g xr F O W m) σ H Q
  | .nil, f, ca, A, σ, H, s, e, Q, _, ok, p => p [] H ca (.refl ok.sr) rfl
  | .kv mk mv mr, f, ca, A, σ, H, s, e, Q, hm, ok, p => by
    show tE g xr F O .K W mk σ H _
    refine ⟨f, e, s, ca, A, ok, ?_⟩
    change PostP g xr f ca A σ H W (M.bind (den F mk e) _ s) Q at p
    unfold M.bind at p
    cases q : den F mk e s with
    | stuck => rw [q] at p; exact p
    | exc c x s1 => rw [q] at p; exact p
    | ok a s1 =>
      rw [q] at p
      intro x H1 ca1 st1 ra
      have p1 := p.from st1
      have ok1 := ok.step st1
      show tE g xr F O .K W mv σ H1 _
      refine ⟨f, e, s1, ca1, A, ok1, ?_⟩
      change PostP g xr f ca1 A σ H1 W (M.bind (den F mv e) (fun y => M.bind (den F mr e) fun z => M.bind (asLst z) fun l => M.pure (D.lst (.tup [a, y] :: l))) s1) Q at p1
      unfold M.bind at p1
      cases q2 : den F mv e s1 with
      | stuck => rw [q2] at p1; exact p1
      | exc c x s2 => rw [q2] at p1; exact p1
      | ok b s2 =>
        rw [q2] at p1
        intro y H2 ca2 st2 rb
        have p2 := p1.from st2
        have ok2 := ok1.step st2
        refine pairs_run mr (e := e) (s := s2) hm ok2 ?_
        change PostP g xr f ca2 A σ H2 W (M.bind (den F mr e) (fun z => M.bind (asLst z) fun l => M.pure (D.lst (.tup [a, b] :: l))) s2) Q at p2
        unfold M.bind at p2
        cases q3 : den F mr e s2 with
        | stuck => rw [q3] at p2; exact p2
        | exc c x s3 => rw [q3] at p2; exact p2
        | ok c s3 =>
          rw [q3] at p2
          cases c with
          | lst l => exact fun ps H3 ca3 st3 r => p2 _ H3 ca3 st3 ⟨a, b, x, y, ps, rfl, rfl, Rep.stp st3 (Rep.stp st2 ra), Rep.stp st3 rb, r⟩
          | _ => exact p2.elim
theorem PsR.len {ca : List Addr} {Hm : Hp} : ∀ {l : List D} {ps : List (V × V)}, PsR g ca Hm l ps → ps.length = l.length
  | [], _, h => by cases h; rfl
  | _ :: l, _, h => by
    obtain ⟨_, _, _, _, r, _, rfl, _, _, h⟩ := h
    simp [h.len]
theorem kv_len : ∀ (m : E) {e : Env} {s s' : MS} {l : List D}, isKv m = true → den F m e s = .ok (.lst l) s' → l.length = lenKv m
  | .nil, e, s, s', l, _, h => by cases h; rfl
  | .kv mk mv mr, e, s, s', l, hm, h => by
    obtain ⟨a, s1, _, h⟩ := bind_ok h
    obtain ⟨b, s2, _, h⟩ := bind_ok h
    obtain ⟨c, s3, h1, h⟩ := bind_ok h
    cases c with
    | lst l' =>
      obtain ⟨_, _, q, h⟩ := bind_ok h
      cases q
      cases h
      simp [lenKv, kv_len mr hm h1]
    | _ => obtain ⟨_, _, q, _⟩ := bind_ok h; cases q
/-- pairs into a table -/
theorem puts_K {ca : List Addr} {Hm : Hp} : ∀ {l : List D} {ps : List (V × V)} {ks' vs' ks vs : List D} {kvs : List (Key × V)}, PsR g ca Hm l ps → pairsK false l = some (ks', vs') → KsR kO ks (kvs.map (·.1)) → Reps g.dA ca Hm vs (kvs.map (·.2)) → (kvs.map (·.1)).Nodup →
    ∃ more : List (Key × V), ps = more.map (fun kv => (kV kv.1, kv.2)) ∧ KsR kO (puts ks' vs' ks vs).1 ((mergeK kvs more).map (·.1)) ∧ Reps g.dA ca Hm (puts ks' vs' ks vs).2 ((mergeK kvs more).map (·.2))
  | [], _, _, _, ks, vs, kvs, h, hp, p1, p2, nd => by
    cases h
    cases hp
    exact ⟨[], rfl, p1, p2⟩
  | _ :: l, _, ks', vs', ks, vs, kvs, h, hp, p1, p2, nd => by
    obtain ⟨a, b, x, y, r, rfl, rfl, ra, rb, h⟩ := h
    change (bif keyOk false a then match pairsK false l with | some (ks, vs) => some (a :: ks, b :: vs) | none => none else none) = some (ks', vs') at hp
    cases c : keyOk false a with
    | false => rw [c] at hp; cases hp
    | true =>
      rw [c] at hp
      change (match pairsK false l with | some (ks, vs) => some (a :: ks, b :: vs) | none => none) = some (ks', vs') at hp
      cases c2 : pairsK false l with
      | none => rw [c2] at hp; cases hp
      | some q =>
        obtain ⟨k2, v2⟩ := q
        rw [c2] at hp
        cases hp
        obtain ⟨j, ej⟩ := kO_of ra c
        obtain ⟨n1, n2, n3⟩ := put_rel keq_kO ej rb p1 p2 nd
        obtain ⟨more, rfl, m1, m2⟩ := puts_K h c2 n1 n2 n3
        exact ⟨(j, y) :: more, by rw [List.map_cons, rep_kO ra ej], m1, m2⟩
theorem s_dct {keys : List (Option Expr)} {values : List Expr} {m : E} (hm : isKv m = true) (hl15 : lenKv m ≤ 15) (h : PPs X pos keys values (trsOf g xr F O W m)) (hall : keys.all (·.isSome) = true) (hl : keys.length = values.length) (h0 : keys ≠ []) (h15 : keys.length ≤ 15) :
    PE X (.Dict keys values pos) (tE g xr F O .N W (.dct false m)) := by
  refine (pe_disp h hall hl h0 h15).imp fun σ H Q h => ?_
  obtain ⟨f, e, s, ca, A, ok, p⟩ := h
  intro q hq
  have G := Grow.start ok hq (o := .dK []) rfl
  refine pairs_run m hm G.ok ?_
  change PostE g xr f ca A σ H H .N W (M.bind (den F m e) _ s) Q at p
  unfold M.bind at p
  cases c : den F m e s with
  | stuck => rw [c] at p; exact p.elim
  | exc c' x s1 =>
    rw [c] at p
    exact ⟨p.1, fun cls od H' ca' st xx => p.2 cls od H' ca' (G.step st).st xx⟩
  | ok d s1 =>
    rw [c] at p
    cases d with
    | lst l =>
      intro ps H2 ca2 st2 rp
      have G2 := G.step st2
      refine ⟨st2.ex q _ (List.mem_append_right _ List.mem_cons_self) (G.ok.an q List.mem_cons_self).2 upd_same, ?_⟩
      change PostE g xr f ca A σ H H .N W ((match pairsK false l with | some (ks, vs) => M.pure (D.dct (puts ks vs [] []).1 (puts ks vs [] []).2) | none => M.stuck) s1) Q at p
      cases c2 : pairsK false l with
      | none => rw [c2] at p; exact p.elim
      | some w =>
        obtain ⟨k2, v2⟩ := w
        rw [c2] at p
        obtain ⟨more, e1, m1, m2⟩ := puts_K (kvs := []) (ks := []) (vs := []) rp c2 rfl rfl List.nodup_nil
        refine ⟨more, e1, ?_, ?_⟩
        · have := rp.len
          rw [kv_len m hm c, e1, List.length_map] at this
          omega
        · have G3 := G2.put (o := .dK (mergeK [] more)) ok hq rfl
          refine p _ _ ca2 G3.st ⟨q, rfl, hq, G3.out ok hq, .inl ⟨_, upd_same, m1, ?_⟩⟩
          have same : msk (bad g f ca2 (q :: A)) (upd H2 q (.dK (mergeK [] more))) = msk (bad g f ca2 (q :: A)) H2 := by
            funext a
            unfold msk
            by_cases z : a ∈ bad g f ca2 (q :: A)
            · rw [if_pos z, if_pos z]
            · rw [if_neg z, if_neg z, upd_ne (fun w => z (by rw [w]; simp))]
          rw [same]
          exact m2
    | _ => exact p.elim
theorem s_dct0 {T : Bool} : PE X (.Dict [] [] pos) (tE g xr F O .N W (.dct T .nil)) := by
  cases T with
  | false =>
    refine pe_dnewK.imp fun σ H Q h => ?_
    obtain ⟨f, e, s, ca, A, ok, p⟩ := h
    exact fun q hq => p.end ok (.upd hq) ⟨q, rfl, hq, ok.here.free hq, .inl ⟨[], upd_same, rfl, rfl⟩⟩
  | true =>
    refine pe_dnewT.imp fun σ H Q h => ?_
    obtain ⟨f, e, s, ca, A, ok, p⟩ := h
    exact fun q hq => p.end ok (.upd hq) ⟨q, rfl, hq, ok.here.free hq, .inr ⟨[], upd_same, rfl, rfl⟩⟩
/-! ### comprehensions that make dicts -/
theorem foldD_cons {f : D → List D × List D → M (List D × List D)} {d : D} {l : List D} {a r : List D × List D} {s s' : MS} (h : foldD f (d :: l) a s = .ok r s') : ∃ x s1, f d a s = .ok x s1 ∧ foldD f l x s1 = .ok r s' := bind_ok h
theorem s_dc {kx vx tg iter : Expr} {ifs : List Expr} {scope : Scope} {own : List (Str × Nat)} {mk mv mt mi mc : E} (hc : X.calm = true) (hN : X.N.Nodup) (hi : PI X tg iter (tI g xr F O true W mi)) (ok : BlkOk X.N X.env.scope scope own) (ho : own.map (·.2) = slotsT mt)
    (hg : ∀ (s : Shared) (H : Hp) (C : Addr) (cl : List (Str × Addr)) (fp : List Addr), PG (X.blk s H scope (compEnvC scope cl C X.env) fp) tg (tG g (less O (slotsT mt)) mt))
    (ht : ∀ (s : Shared) (H : Hp) (C : Addr) (cl : List (Str × Addr)) (fp : List Addr), PTs (X.blk s H scope (compEnvC scope cl C X.env) fp) ifs (tT g xr F (less O (slotsT mt)) W0 mc))
    (hk : ∀ (s : Shared) (H : Hp) (C : Addr) (cl : List (Str × Addr)) (fp : List Addr), PE (X.blk s H scope (compEnvC scope cl C X.env) fp) kx (tE g xr F (less O (slotsT mt)) ka W0 mk)) (nk : ka ≠ .I)
    (he : ∀ (s : Shared) (H : Hp) (C : Addr) (cl : List (Str × Addr)) (fp : List Addr), PE (X.blk s H scope (compEnvC scope cl C X.env) fp) vx (tE g xr F (less O (slotsT mt)) kb W0 mv)) (nv : kb ≠ .I) (hs : ∀ x, foldedSetIterable iter X.env x = pure x) :
    PE X (.DictComp kx vx [⟨tg, iter, ifs, 0⟩] scope pos) (tE g xr F O .N W (.dc false mk mv mt mi mc)) := by
  refine (pe_dc hc hN hi ok hg ht hk he hs).imp fun σ H Q h => ?_
  rw [ho]
  exact r_dc nk nv h
where
  r_dc {σ : St} {H : Hp} {Q : VK} {mk mv mt mi mc : E} {ka kb : Kd} (nk : ka ≠ .I) (nv : kb ≠ .I) (h : tE g xr F O .N W (.dc false mk mv mt mi mc) σ H Q) : tDc (tI g xr F O true W mi) (tG g (less O (slotsT mt)) mt) (tT g xr F (less O (slotsT mt)) W0 mc) (tE g xr F (less O (slotsT mt)) ka W0 mk) (tE g xr F (less O (slotsT mt)) kb W0 mv) (slotsT mt) σ H Q := by
    obtain ⟨f, e, s, ca, A, ok, p⟩ := h
    obtain ⟨d0, s9, q0, p⟩ := PostE.nox p
    obtain ⟨x, s1, q1, q0⟩ := bind_ok q0
    refine ⟨f, e, s, ca, A, ok, ?_⟩
    rw [q1]
    cases x with
    | lst xs =>
      intro J H1 ca1 st wd D0 hD
      obtain ⟨xs', s1', q2, q0⟩ := bind_ok q0
      cases q2
      obtain ⟨LL, s2, q2, q0⟩ := bind_ok q0
      cases q0
      have ok1 := ok.step st
      refine ⟨fun i m H => m = xs.length - i ∧ i ≤ xs.length ∧ ∃ s' ca' acc kvs, Grow g f O σ e ca1 A H1 D0 H s' ca' ∧ H D0 = some (.dK kvs) ∧ (kvs.map (·.1)).Nodup ∧ KsR kO acc.1 (kvs.map (·.1)) ∧ Reps g.dA ca' (msk (bad g f ca' (D0 :: A)) H) acc.2 (kvs.map (·.2)) ∧
        foldD (fun d acc => match tgt mt d (wipeL e (slotsT mt)) with
          | some σ' => M.bind (den F mc σ') fun b => match b with
            | .bl true => M.bind (den F mk σ') fun y => M.bind (den F mv σ') fun z => bif keyOk false y && roomy acc.1 then M.pure (put y z acc.1 acc.2) else M.stuck
            | .bl false => M.pure acc
            | _ => M.stuck
          | none => M.stuck) (xs.drop i) acc s' = .ok LL s9, ⟨_, rfl, Nat.zero_le _, s1, ca1, ([], []), [], Grow.start ok1 hD rfl, upd_same, List.nodup_nil, (show KsR kO ([] : List D) (([] : List (Key × V)).map (·.1)) from rfl), (show Reps g.dA ca1 (msk (bad g f ca1 (D0 :: A)) (upd H1 D0 (.dK []))) ([] : List D) (([] : List (Key × V)).map (·.2)) from rfl), q2⟩, ?_⟩
      rintro i m H2 ⟨rfl, hi, s', ca', acc, kvs, G, hus, nd, pk, pv, hmap⟩
      obtain ⟨wgo, wstop, wyld⟩ := G.walk ok1 hD wd
      rcases Nat.lt_or_ge i xs.length with hlt | hge
      · refine .inr ⟨wgo i hlt, _, fun H' w => ⟨xs.length - (i + 1), by omega, w⟩, fun x H' y => ?_⟩
        obtain ⟨nw, d, hd, rd⟩ := wyld i x H' hlt y
        have hdrop : xs.drop i = d :: xs.drop (i + 1) := by
          rw [List.drop_eq_getElem_cons hlt]
          rw [List.getElem?_eq_getElem hlt] at hd
          cases hd
          rfl
        rw [hdrop] at hmap
        obtain ⟨x1, s3, f1, f2⟩ := foldD_cons hmap
        have st1 : Stp g (f.A0 ++ (D0 :: A)) ca' H2 ca' H' s' := .nw nw G.ok.sr
        have G1 := G.step st1
        cases ht : tgt mt d (wipeL e (slotsT mt)) with
        | none => rw [ht] at f1; cases f1
        | some e' =>
          rw [ht] at f1
          obtain ⟨b, s4, f3, f4⟩ := bind_ok f1
          refine ⟨f, _, s', ca', D0 :: A, d, e', G1.ok.wipe, rd, ht, fun σ' ok' w' => ⟨?_, ?_⟩⟩
          · rw [w' _ fun i hi => hi]; exact wipe_wipe
          · refine ⟨f, e', s', ca', D0 :: A, ok', ?_⟩
            rw [f3]
            have keep : ∀ {ca3 : List Addr} {H H3 : Hp} {s3 : MS} {ca0 : List Addr} {s0 : MS}, Grow g f O σ e ca1 A H1 D0 H s0 ca0 → Stp g (f.A0 ++ (D0 :: A)) ca0 H ca3 H3 s3 → H D0 = some (.dK kvs) → H3 D0 = some (.dK kvs) := fun G st h => st.ex D0 _ (List.mem_append_right _ List.mem_cons_self) (G.ok.an D0 List.mem_cons_self).2 h
            cases b with
            | bl b =>
              intro H3 ca3 st3
              have G3 := G1.step st3
              have ok3 := ok'.step st3
              have D3 := keep G1 st3 (nw _ _ hus)
              have pv3 := (pv.stp st1).stp st3
              cases b with
              | false =>
                cases f4
                exact ⟨rfl, hlt, s3, ca3, acc, kvs, G3, D3, nd, pk, pv3, f2⟩
              | true =>
                obtain ⟨y, s5, f5, f6⟩ := bind_ok f4
                obtain ⟨z, s6, f7, f8⟩ := bind_ok f6
                show tE g xr F (less O (slotsT mt)) ka W0 mk σ' H3 _
                refine ⟨f, e', s4, ca3, D0 :: A, ok3, ?_⟩
                rw [f5]
                intro v H4 ca4 st4 rv
                have G4 := G3.step st4
                have D4 := keep G3 st4 D3
                show tE g xr F (less O (slotsT mt)) kb W0 mv σ' H4 _
                refine ⟨f, e', s5, ca4, D0 :: A, ok3.step st4, ?_⟩
                rw [f7]
                intro w H5 ca5 st5 rw'
                have G5 := G4.step st5
                have D5 := keep G4 st5 D4
                have pv5 := (pv3.stp st4).stp st5
                cases c : keyOk false y && roomy acc.1 with
                | false => rw [c] at f8; cases f8
                | true =>
                  rw [c] at f8
                  cases f8
                  obtain ⟨c1, c2⟩ := Bool.and_eq_true_iff.mp c
                  have ry := Rep.stp st5 (rv.kept nk)
                  obtain ⟨j, ej⟩ := kO_of ry c1
                  obtain ⟨n1, n2, n3⟩ := put_rel keq_kO ej (rw'.kept nv) pk pv5 nd
                  have ln : kvs.length = acc.1.length := by rw [pk.length, List.length_map]
                  have G6 := G5.put (o := .dK (putK kvs j w)) ok1 hD rfl
                  refine ⟨kvs, j, rep_kO ry ej, D5, ?_, rfl, hlt, _, ca5, _, _, G6, upd_same, n3, n1, ?_, f2⟩
                  · have : acc.1.length < line := by
                      have := c2
                      unfold roomy at this
                      simpa using this
                    rw [ln, ← line_eq]
                    exact this
                  · have same : msk (bad g f ca5 (D0 :: A)) (upd H5 D0 (.dK (putK kvs j w))) = msk (bad g f ca5 (D0 :: A)) H5 := by
                      funext a
                      unfold msk
                      by_cases z : a ∈ bad g f ca5 (D0 :: A)
                      · rw [if_pos z, if_pos z]
                      · rw [if_neg z, if_neg z, upd_ne (fun w => z (by rw [w]; simp))]
                    rw [same]
                    exact n2
            | _ => cases f4
      · have hi' : i = xs.length := by omega
        subst hi'
        rw [List.drop_length] at hmap
        cases hmap
        exact .inl ⟨wstop, p _ H2 ca' (st.trans G.st) ⟨D0, rfl, st.back ok.sr hD, G.out ok1 hD, .inl ⟨kvs, hus, pk, pv⟩⟩⟩
    | _ =>
      obtain ⟨_, _, q2, _⟩ := bind_ok q0
      cases q2
end
end W
/-! Y1: loops: the frame put anew at a loop's start; for, while. -/
namespace W
open PySem L2
def noStar : Expr → Bool
  | .Starred _ _ => false
  | _ => true
def noSlice : Expr → Bool
  | .Slice _ _ _ _ => false
  | _ => true
def noSet : Expr → Bool
  | .Set _ _ _ => false
  | _ => true
def noCall0 : Expr → Bool
  | .Call _ [] [] _ => false
  | _ => true
section
variable {X : Cx} {g : Gd} {xr : XR} {F : Nat → List D → M D} {O O' : Nat → Bool} {W : WX} {f : Fm} {L ca ca' A A' : List Addr} {σ σ' : St} {H H' : Hp} {s s' : MS} {k ka kb : Kd} {e e' : Env}
/-- the frame of a place: what is owned there is not told -/
abbrev fmAt (f : Fm) (ca A : List Addr) (H : Hp) : Fm := ⟨f.A0, msk A H, ca⟩
theorem EOk.notA (ok : EOk g f O σ H e s ca A) {a : Addr} {o : HO} (h : f.H0 a = some o) : a ∉ A := fun z => by
  rw [(ok.an a z).1] at h
  cases h
theorem EOk.rebase (ok : EOk g f O σ H e s ca A) : EOk g (fmAt f ca A H) O σ H e s ca A := by
  refine ⟨ok.len, ok.sr, ok.kp, ok.ow, ok.od, fun a o _ h => ⟨o, (msk_some h).2, .refl _⟩, fun a o _ h => (msk_some h).2, fun a ha => ⟨fun z => ?_, (ok.a0 a ha).2⟩, fun a ha => ⟨if_pos ha, (ok.an a ha).2⟩, ⟨[], by simp, by simp⟩, ok.nt, ok.ns⟩
  obtain ⟨h1, _⟩ := ok.a0 a ha
  obtain ⟨o, h2, _⟩ := ok.nt a (by simp only [List.mem_cons, List.mem_append]; exact .inr (.inr (.inl ha)))
  have nA : a ∉ A := fun y => h1 (ok.an a y).1
  have := msk_of nA h2
  rw [show msk A H a = none from z] at this
  cases this
/-- what stood at the entry stands at the place -/
theorem EOk.there (ok : EOk g f O σ H e s ca A) {a : Addr} {o : HO} (hn : a ∉ g.dA :: f.ca0) (h : f.H0 a = some o) : ∃ o', msk A H a = some o' ∧ Sm o o' ∧ a ∉ g.dA :: ca := by
  obtain ⟨o1, h1, s1⟩ := ok.fr a o hn h
  obtain ⟨m, e1, hm⟩ := ok.pre
  exact ⟨o1, msk_of (ok.notA h) h1, s1, by rw [e1]; exact pre_out hm hn h⟩
theorem EOk.far (ok : EOk g f O σ H e s ca A) (sr : SRel g ca' H' s') (st : ∃ m, ca' = ca ++ m ∧ ∀ a ∈ m, msk A H a = none) : ∃ m, ca' = f.ca0 ++ m ∧ ∀ a ∈ m, f.H0 a = none := by
  obtain ⟨m, e1, hm⟩ := ok.pre
  obtain ⟨m2, e2, hm2⟩ := st
  refine ⟨m ++ m2, by rw [e2, e1, List.append_assoc], pre_new (H1 := msk A H) hm (fun a o hn h => ?_) hm2 (by rw [← e1, ← e2]; exact sr.nd)⟩
  obtain ⟨o', h1, h2, _⟩ := ok.there hn h
  exact ⟨o', h1, h2⟩
theorem EOk.unbase (ok : EOk g f O σ H e s ca A) (ok' : EOk g (fmAt f ca A H) O' σ' H' e' s' ca' A') : EOk g f O' σ' H' e' s' ca' A' := by
  have far := ok.far ok'.sr ok'.pre
  refine ⟨ok'.len, ok'.sr, ok'.kp, ok'.ow, ok'.od, fun a o hn h => ?_, fun a o ha h => ?_, fun a ha => ⟨(ok.a0 a ha).1, (ok'.a0 a ha).2⟩, fun a ha => ⟨?_, (ok'.an a ha).2⟩, far, ok'.nt, ok'.ns⟩
  · obtain ⟨o1, h1, s1, n1⟩ := ok.there hn h
    obtain ⟨o2, h2, s2⟩ := ok'.fr a o1 n1 h1
    exact ⟨o2, h2, s1.trans s2⟩
  · exact ok'.fx a o ha (msk_of (ok.notA h) (ok.fx a o ha h))
  · obtain ⟨n1, n2⟩ := ok'.an a ha
    cases q : f.H0 a with
    | none => rfl
    | some o =>
      exfalso
      obtain ⟨m, e1, _⟩ := far
      have hn : a ∉ g.dA :: f.ca0 := fun z => n2 (by
        rw [e1]
        simp only [List.mem_cons, List.mem_append] at z ⊢
        rcases z with z | z
        · exact .inl z
        · exact .inr (.inl z))
      obtain ⟨o1, h1, _, _⟩ := ok.there hn q
      rw [show msk A H a = none from n1] at h1
      cases h1
theorem Stp.unbase (ok : EOk g f O σ H e s ca A) (st : Stp g f.A0 ca (msk A H) ca' H' s') : Stp g f.A0 f.ca0 f.H0 ca' H' s' := by
  refine ⟨st.sr, ok.far st.sr st.pre, fun a o hn h => ?_, fun a o ha hn h => ?_⟩
  · obtain ⟨o1, h1, s1, n1⟩ := ok.there hn h
    obtain ⟨o2, h2, s2⟩ := st.fr a o1 n1 h1
    exact ⟨o2, h2, s1.trans s2⟩
  · obtain ⟨o1, h1, s1, n1⟩ := ok.there hn h
    exact st.ex a o ha n1 (msk_of (ok.notA h) (ok.fx a o ha h))
theorem PostS.rebase {r : R Out} {D : Ends} (ok : EOk g f O σ H e s ca A) (p : PostS g xr f O W r D) : PostS g xr (fmAt f ca A H) O W r D := by
  cases r with
  | ok o s' =>
    cases o with
    | nx e' => exact fun σ' H' ca' A' ok' => p σ' H' ca' A' (ok.unbase ok')
    | ret d => exact fun v H' ca' st r => p v H' ca' (Stp.unbase ok st) r
    | brk e' => exact fun σ' H' ca' A' ok' => p σ' H' ca' A' (ok.unbase ok')
  | exc c x s' => exact ⟨p.1, fun cls od σ' H' ca' st xx => p.2 cls od σ' H' ca' (Stp.unbase ok st) xx⟩
  | stuck => exact p
/-- what is told at a place stands later -/
theorem EOk.le (ok' : EOk g (fmAt f ca A H) O' σ' H' e' s' ca' A') : Le (msk (bad g f ca A) H) (msk (bad g f ca' A') H') := Le.ofSm fun a o h => by
  obtain ⟨n, h⟩ := msk_some h
  have nA : a ∉ A := fun z => n (by simp only [List.mem_cons, List.mem_append]; exact .inr (.inr (.inr z)))
  have n1 : a ∉ g.dA :: ca := bad_out n
  have h0 : msk A H a = some o := msk_of nA h
  obtain ⟨o', h', sm⟩ := ok'.fr a o n1 h0
  obtain ⟨m, e1, hm⟩ := ok'.pre
  refine ⟨o', msk_of (fun z => ?_) h', sm⟩
  simp only [List.mem_cons, List.mem_append] at z n
  rcases z with z | z | z | z
  · exact n (.inl z)
  · exact (pre_out hm n1 h0) (by rw [← e1]; exact List.mem_cons_of_mem _ z)
  · exact n (.inr (.inr (.inl z)))
  · have := (ok'.an a z).1
    rw [show msk A H a = none from this] at h0
    cases h0
/-- a turn's body -/
def forB (F : Nat → List D → M D) (mt : E) (mb : S) (d : D) (σ : Env) : M Out := match tgt mt d σ with
  | some σ' => denS F mb σ'
  | none => M.stuck
theorem forL_cons {b : D → Env → M Out} {d : D} {l : List D} {e : Env} : forL b (d :: l) e = M.bind (b d e) fun o => match o with
    | .nx σ' => forL b l σ'
    | .ret x => M.pure (.ret x)
    | .brk σ' => M.pure (.nx σ') := rfl
theorem p_for {tg iter : Expr} {body : List Stmt} {mt mi : E} {mb : S} {pos : Pos} (hp : PassesOwn (model X.prog X.w) X.A X.env X.xe) (hc : X.calm = true) (hi : PI X tg iter (tI g xr F O false W mi)) (hg : PG X tg (tG g O mt)) (hb : PSs X body (tS g xr F O W mb)) (hs : ∀ x, foldedSetIterable iter X.env x = pure x) :
    PS X (.For tg iter body [] pos) (tS g xr F O W (.for mt mi mb)) := by
  refine (ps_for hp hc hi hg hb hs).imp fun D σ H h => ?_
  obtain ⟨f, e, s, ca, A, ok, p⟩ := h
  refine ⟨f, e, s, ca, A, ok, ?_⟩
  change PostS g xr f O W (M.bind (den F mi e) (fun x => M.bind (asLst x) fun l => forL _ l e) s) D at p
  unfold M.bind at p
  cases q : den F mi e s with
  | stuck => rw [q] at p; exact p
  | exc c x s1 =>
    rw [q] at p
    exact ⟨p.1, fun cls od H' ca' st xx => p.2 cls od σ H' ca' (ok.frame.trans (st.mono fun z hz => List.mem_append_left _ hz)) xx⟩
  | ok d s1 =>
    rw [q] at p
    cases d with
    | lst l =>
      intro J H1 ca1 st1 wk
      have ok1 := ok.step st1
      have p1 := PostS.rebase ok1 (show PostS g xr f O W (forL (forB F mt mb) l e s1) D from p)
      refine ⟨fun i m σ2 H2 => m + i = l.length ∧ ∃ e2 s2 ca2 A2, EOk g (fmAt f ca1 A H1) O σ2 H2 e2 s2 ca2 A2 ∧ PostS g xr (fmAt f ca1 A H1) O W (forL (forB F mt mb) (l.drop i) e2 s2) D, ⟨l.length, rfl, e, s1, ca1, A, ok1.rebase, p1⟩, ?_⟩
      rintro i m σ2 H2 ⟨hm, e2, s2, ca2, A2, ok2, p2⟩
      obtain ⟨m2, ec, _⟩ := ok2.pre
      obtain ⟨w1, w2, w3⟩ := wk H2 ca2 A2 ⟨ok2.nt⟩ ⟨m2, ec⟩ ok2.le (by simp)
      by_cases hi : i < l.length
      · refine .inr ⟨w1 i hi, fun σ3 H3 => ∃ e3 s3 ca3 A3, EOk g (fmAt f ca1 A H1) O σ3 H3 e3 s3 ca3 A3 ∧ PostS g xr (fmAt f ca1 A H1) O W (forL (forB F mt mb) (l.drop (i + 1)) e3 s3) D, fun σ3 H3 h => ⟨m - 1, by omega, by omega, h⟩, fun x H3 y => ?_⟩
        obtain ⟨nw, d, hd, rd⟩ := w3 i x H3 hi y
        have ok3 := ok2.step (Stp.nw nw ok2.sr)
        have ed : l.drop i = d :: l.drop (i + 1) := by
          rw [List.drop_eq_getElem_cons hi]
          rw [List.getElem?_eq_getElem hi] at hd
          cases hd
          rfl
        rw [ed, forL_cons] at p2
        cases t : tgt mt d e2 with
        | none =>
          have q0 : forB F mt mb d e2 = M.stuck := by unfold forB; rw [t]
          rw [q0] at p2
          exact p2.elim
        | some e3 =>
          have q0 : forB F mt mb d e2 = denS F mb e3 := by unfold forB; rw [t]
          rw [q0] at p2
          unfold M.bind at p2
          refine ⟨fmAt f ca1 A H1, e2, s2, ca2, A2, d, e3, ok3, rd, t, fun σ3 ok4 _ => ⟨fmAt f ca1 A H1, e3, s2, ca2, A2, ok4, ?_⟩⟩
          cases qb : denS F mb e3 s2 with
          | stuck => rw [qb] at p2; exact p2
          | exc c x s3 => rw [qb] at p2; exact p2
          | ok o s3 =>
            rw [qb] at p2
            cases o with
            | nx e4 => exact fun σ4 H4 ca4 A4 ok5 => ⟨e4, s3, ca4, A4, ok5, p2⟩
            | ret d => exact p2
            | brk e4 => exact p2
      · have ei : i = l.length := by omega
        subst ei
        rw [List.drop_length] at p2
        exact .inl ⟨w2, p2 σ2 H2 ca2 A2 ok2⟩
    | _ => exact p.elim
theorem whileL_succ {c : Env → M D} {b : Env → M Out} {n : Nat} {e : Env} : whileL c b (n + 1) e = M.bind (c e) fun x => match x with
    | .bl true => M.bind (b e) fun o => match o with
      | .nx σ' => whileL c b n σ'
      | .ret x => M.pure (.ret x)
      | .brk σ' => M.pure (.nx σ')
    | .bl false => M.pure (.nx e)
    | _ => M.stuck := rfl
theorem p_while {c : Expr} {body : List Stmt} {mc : E} {mb : S} {pos : Pos} (hp : PassesOwn (model X.prog X.w) X.A X.env X.xe) (hc : PT X c (tT g xr F O W mc)) (hb : PSs X body (tS g xr F O W mb)) :
    PS X (.While c body [] pos) (tS g xr F O W (.while mc mb)) := by
  refine (ps_while hp hc hb).imp fun D σ H h => ?_
  obtain ⟨f, e, s, ca, A, ok, p⟩ := h
  refine ⟨fun m σ2 H2 => ∃ e2 s2 ca2 A2, EOk g f O σ2 H2 e2 s2 ca2 A2 ∧ PostS g xr f O W (whileL (den F mc) (denS F mb) m e2 s2) D, ⟨1000000, e, s, ca, A, ok, p⟩, ?_⟩
  rintro m σ2 H2 ⟨e2, s2, ca2, A2, ok2, p2⟩
  cases m with
  | zero => exact p2.elim
  | succ n =>
    rw [whileL_succ] at p2
    refine tE.frontST ok2 p2 (fun d s1 => by cases d <;> first | exact .inr ⟨_, rfl⟩ | exact .inl rfl) fun b s3 H3 ca3 ok3 p3 => ?_
    cases b with
    | false => exact p3 σ2 H3 ca3 A2 ok3
    | true =>
      refine (if_pos rfl).mpr ⟨fun σ4 H4 => ∃ e4 s4 ca4 A4, EOk g f O σ4 H4 e4 s4 ca4 A4 ∧ PostS g xr f O W (whileL (den F mc) (denS F mb) n e4 s4) D, fun σ4 H4 h => ⟨n, Nat.lt_succ_self n, h⟩, ⟨f, e2, s3, ca3, A2, ok3, ?_⟩⟩
      change PostS g xr f O W (M.bind (denS F mb e2) _ s3) D at p3
      unfold M.bind at p3
      cases qb : denS F mb e2 s3 with
      | stuck => rw [qb] at p3; exact p3
      | exc c x s4 => rw [qb] at p3; exact p3
      | ok o s4 =>
        rw [qb] at p3
        cases o with
        | nx e4 => exact fun σ4 H4 ca4 A4 ok5 => ⟨e4, s4, ca4, A4, ok5, p3⟩
        | ret d => exact p3
        | brk e4 => exact p3
end
end W
/-! Y2: lists and dicts of one's own: made, stored, changed. -/
namespace W
open PySem L2
section
variable {X : Cx} {g : Gd} {xr : XR} {F : Nat → List D → M D} {O O' : Nat → Bool} {W : WX} {f : Fm} {L ca ca' A A' : List Addr} {σ σ' : St} {H H' : Hp} {s s' : MS} {k ka kb : Kd} {e e' : Env}
/-- a step, and one new thing that it made is tracked -/
theorem EOk.stepN {a : Addr} {o : HO} (k : EOk g f O σ H e s ca A) (st : Stp g (f.A0 ++ A) ca H ca' H' s') (h0 : H a = none) (hb : a ∉ bad g f ca' A) (ha : H' a = some o) (ht : isTup o = false) : EOk g f O σ H' e s' ca' (a :: A) := by
  have k' := k.step st
  have le : Le (msk (bad g f ca A) H) (msk (bad g f ca' (a :: A)) H') := Le.ofSm fun p u h => by
    obtain ⟨n, h⟩ := msk_some h
    have n1 : p ∉ g.dA :: ca := bad_out n
    obtain ⟨o', h', sm⟩ := st.fr p u n1 h
    obtain ⟨m, e1, hm⟩ := st.pre
    refine ⟨o', msk_of (fun z => ?_) h', sm⟩
    simp only [List.mem_cons, List.mem_append] at z n
    rcases z with z | z | z | z | z
    · exact n (.inl z)
    · exact pre_out hm n1 h (by rw [← e1]; exact List.mem_cons_of_mem _ z)
    · exact n (.inr (.inr (.inl z)))
    · rw [z, h0] at h; cases h
    · exact n (.inr (.inr (.inr z)))
  have pp := st.pre'
  refine ⟨k'.len, k'.sr, fun i d h o => ?_, fun i d h o => ?_, k'.od, k'.fr, k'.fx, k'.a0, fun b hb' => ?_, k'.pre, fun b hb' => ?_, fun z => ?_⟩
  · obtain ⟨v, e1, r⟩ := k.kp i d h o
    exact ⟨v, e1, Rep.le pp le _ _ r⟩
  · obtain ⟨b, e1, hb', r⟩ := k.ow i d h o
    refine ⟨b, e1, List.mem_cons_of_mem _ hb', ?_⟩
    have keep : ∀ o, H b = some o → H' b = some o := fun o => st.ex b o (List.mem_append_right _ hb') (k.an b hb').2
    cases d with
    | lst l =>
      obtain ⟨xs, h1, h2⟩ := r
      exact ⟨xs, keep _ h1, Reps.le pp le _ _ h2⟩
    | dct ks vs =>
      rcases r with ⟨kvs, h1, h2, h3⟩ | ⟨kvs, h1, h2, h3⟩
      · exact .inl ⟨kvs, keep _ h1, h2, Reps.le pp le _ _ h3⟩
      · exact .inr ⟨kvs, keep _ h1, h2, Reps.le pp le _ _ h3⟩
    | _ => exact r
  · rcases List.mem_cons.mp hb' with z | z
    · subst z
      have out := bad_out hb
      refine ⟨?_, out⟩
      cases q : f.H0 b with
      | none => rfl
      | some u =>
        exfalso
        obtain ⟨m, e1, _⟩ := k'.pre
        have hn : b ∉ g.dA :: f.ca0 := fun z => out (by
          rw [e1]
          simp only [List.mem_cons, List.mem_append] at z ⊢
          rcases z with z | z
          · exact .inl z
          · exact .inr (.inl z))
        obtain ⟨o', h', _⟩ := k.fr b u hn q
        rw [h0] at h'
        cases h'
    · exact k'.an b z
  · by_cases z : b = a
    · subst z
      exact ⟨o, ha, ht⟩
    · refine k'.nt b ?_
      simp only [List.mem_cons, List.mem_append] at hb' ⊢
      rcases hb' with y | y | y | y | y
      · exact .inl y
      · exact .inr (.inl y)
      · exact .inr (.inr (.inl y))
      · exact absurd y z
      · exact .inr (.inr (.inr y))
  · rcases List.mem_cons.mp z with z | z
    · rw [← z, k.sr.scr] at h0
      cases h0
    · exact k.ns z
theorem EOk.clear {i : Nat} (ok : EOk g f O σ H e s ca A) : EOk g f O σ H (setS e i none) s ca A := by
  have get : ∀ {j : Nat} {d : D}, getS (setS e i none) j = some d → getS e j = some d := fun {j d} h => by
    rw [getS_set] at h
    split at h
    · cases h
    · exact h
  exact ⟨by rw [setS_len]; exact ok.len, ok.sr, fun j d h o => ok.kp j d (get h) o, fun j d h o => ok.ow j d (get h) o, fun j j' d d' a ne oj oj' h h' w => ok.od j j' d d' a ne oj oj' (get h) (get h') w, ok.fr, ok.fx, ok.a0, ok.an, ok.pre, ok.nt, ok.ns⟩
/-- a slot takes a thing of one's own -/
theorem EOk.setO {i : Nat} {a : Addr} {d : D} (ok : EOk g f O σ H e s ca A) (ho : O i = true) (ha : a ∈ A) (own : Own g f ca A H a d) (no : ∀ (j : Nat) d', j ≠ i → O j = true → getS e j = some d' → σ[j]? ≠ some (some (.ref a))) :
    EOk g f O (σ.set i (some (.ref a))) H (setS e i (some d)) s ca A := by
  have get : ∀ {j : Nat} {d' : D}, getS (setS e i (some d)) j = some d' → (j = i ∧ i < e.length ∧ d' = d) ∨ (j ≠ i ∧ getS e j = some d') := fun {j d'} h => by
    rw [getS_set] at h
    by_cases c : i = j ∧ i < e.length
    · rw [if_pos c] at h
      exact .inl ⟨c.1.symm, c.2, (Option.some.inj h).symm⟩
    · rw [if_neg c] at h
      refine .inr ⟨fun z => c ⟨z.symm, ?_⟩, h⟩
      rw [← z]
      exact wipeL_get.getS_lt h
  refine ⟨by rw [List.length_set, setS_len]; exact ok.len, ok.sr, fun j d' h o => ?_, fun j d' h o => ?_, fun j j' d1 d2 b ne oj oj' h h' w => ?_, ok.fr, ok.fx, ok.a0, ok.an, ok.pre, ok.nt, ok.ns⟩
  · rcases get h with ⟨e1, _, _⟩ | ⟨n1, h1⟩
    · rw [e1, ho] at o; cases o
    · rw [List.getElem?_set_ne (Ne.symm n1)]
      exact ok.kp j d' h1 o
  · rcases get h with ⟨e1, e2, e3⟩ | ⟨n1, h1⟩
    · subst e1 e3
      exact ⟨a, by rw [List.getElem?_set_self (by rw [ok.len]; exact e2)], ha, own⟩
    · rw [List.getElem?_set_ne (Ne.symm n1)]
      exact ok.ow j d' h1 o
  · rcases get h with ⟨e1, e2, e3⟩ | ⟨n1, h1⟩
    · subst e1
      rw [List.getElem?_set_self (by rw [ok.len]; exact e2)] at w
      cases w
      rcases get h' with ⟨f1, _, _⟩ | ⟨m1, h2⟩
      · exact absurd f1.symm ne
      · rw [List.getElem?_set_ne (Ne.symm m1)]
        exact no j' d2 m1 oj' h2
    · rw [List.getElem?_set_ne (Ne.symm n1)] at w
      rcases get h' with ⟨f1, f2, f3⟩ | ⟨m1, h2⟩
      · subst f1
        rw [List.getElem?_set_self (by rw [ok.len]; exact f2)]
        intro z
        cases z
        exact no j d1 n1 oj h1 w
      · rw [List.getElem?_set_ne (Ne.symm m1)]
        exact ok.od j j' d1 d2 b ne oj oj' h1 h2 w
theorem set_same {σ : St} {i : Nat} {x : Option V} (h : σ[i]? = some x) : σ.set i x = σ := by
  apply List.ext_getElem?
  intro j
  rw [List.getElem?_set]
  split
  · rename_i z
    subst z
    split
    · exact h.symm
    · rename_i y
      rw [List.getElem?_eq_none (by omega)]
  · rfl
theorem setS_setS {i : Nat} {x y : Option D} : ∀ {e : Env} {i : Nat}, setS (setS e i x) i y = setS e i y
  | [], _ => rfl
  | _ :: _, 0 => rfl
  | _ :: l, i + 1 => congrArg (_ :: ·) (setS_setS (i := i) (e := l))
/-- a slot's own thing changed -/
theorem EOk.mut {i : Nat} {a : Addr} {d d' : D} {o : HO} (ok : EOk g f O σ H e s ca A) (ho : O i = true) (hi : getS e i = some d) (hs : σ[i]? = some (some (.ref a))) (ha : a ∈ A) (ht : isTup o = false) (own : Own g f ca A (upd H a o) a d') :
    EOk g f O σ (upd H a o) (setS e i (some d')) s ca A := by
  have get : ∀ {j : Nat} {d : D}, getS (setS e i none) j = some d → j ≠ i ∧ getS e j = some d := fun {j d} h => by
    rw [getS_set] at h
    split at h
    · cases h
    · rename_i c
      exact ⟨fun z => c ⟨z.symm, by rw [← z]; exact wipeL_get.getS_lt h⟩, h⟩
  have no : ∀ (j : Nat) d, O j = true → getS (setS e i none) j = some d → σ[j]? ≠ some (some (.ref a)) := fun j d' oj h => by
    obtain ⟨n, h⟩ := get h
    exact ok.od i j _ _ a (Ne.symm n) ho oj hi h hs
  have k := (ok.clear (i := i)).put ha ht (fun z => ok.ns (by rw [← z]; exact ha)) no
  have k2 := k.setO (i := i) ho ha own fun j d' _ oj h => no j d' oj h
  rw [set_same hs, setS_setS (i := i)] at k2
  exact k2
/-- the mask does not see what is one's own -/
theorem msk_upd {a : Addr} {o : HO} (ha : a ∈ A) : msk (bad g f ca A) (upd H a o) = msk (bad g f ca A) H := by
  funext b
  unfold msk
  by_cases z : b ∈ bad g f ca A
  · rw [if_pos z, if_pos z]
  · rw [if_neg z, if_neg z, upd_ne (fun w => z (by rw [w]; simp [ha]))]
/-- what a new value is, tracked -/
theorem EOk.own {d : D} {v : V} (ok : EOk g f O σ H e s ca A) (st : Stp g (f.A0 ++ A) ca H ca' H' s') (r : RepN g f ca' A H H' d v) (hd : (∃ l, d = .lst l) ∨ ∃ ks vs, d = .dct ks vs) :
    ∃ a, v = .ref a ∧ a ∉ A ∧ EOk g f O σ H' e s' ca' (a :: A) ∧ Own g f ca' (a :: A) H' a d := by
  rcases hd with ⟨l, rfl⟩ | ⟨ks, vs, rfl⟩
  · obtain ⟨a, xs, rfl, h0, hb, h1, h2⟩ := r
    exact ⟨a, rfl, fun z => hb (by simp [z]), ok.stepN st h0 hb h1 rfl, xs, h1, h2⟩
  · obtain ⟨a, rfl, h0, hb, h⟩ := r
    refine ⟨a, rfl, fun z => hb (by simp [z]), ?_, h⟩
    rcases h with ⟨kvs, h1, _⟩ | ⟨kvs, h1, _⟩
    · exact ok.stepN st h0 hb h1 rfl
    · exact ok.stepN st h0 hb h1 rfl
theorem EOk.held (ok : EOk g f O σ H e s ca A) {a : Addr} (ha : a ∉ A) : ∀ (j : Nat) d', O j = true → getS e j = some d' → σ[j]? ≠ some (some (.ref a)) := fun j d' oj h w => by
  obtain ⟨b, e1, hb, _⟩ := ok.ow j d' h oj
  rw [e1] at w
  cases w
  exact ha hb
end
end W
/-! Y3: values stored side by side; new things stored. -/
namespace W
open PySem L2
section
variable {X : Cx} {g : Gd} {xr : XR} {F : Nat → List D → M D} {O O' : Nat → Bool} {W : WX} {f : Fm} {L ca ca' A A' : List Addr} {σ σ' : St} {H H' : Hp} {s s' : MS} {k ka kb kc : Kd} {e e' : Env}
theorem EOk.leN {a : Addr} (k : EOk g f O σ H e s ca A) (st : Stp g (f.A0 ++ A) ca H ca' H' s') (h0 : H a = none) : Le (msk (bad g f ca A) H) (msk (bad g f ca' (a :: A)) H') := Le.ofSm fun p u h => by
  obtain ⟨n, h⟩ := msk_some h
  have n1 : p ∉ g.dA :: ca := bad_out n
  obtain ⟨o', h', sm⟩ := st.fr p u n1 h
  obtain ⟨m, e1, hm⟩ := st.pre
  refine ⟨o', msk_of (fun z => ?_) h', sm⟩
  simp only [List.mem_cons, List.mem_append] at z n
  rcases z with z | z | z | z | z
  · exact n (.inl z)
  · exact pre_out hm n1 h (by rw [← e1]; exact List.mem_cons_of_mem _ z)
  · exact n (.inr (.inr (.inl z)))
  · rw [z, h0] at h; cases h
  · exact n (.inr (.inr (.inr z)))
theorem Own.to {a : Addr} {d : D} (pp : Pre ca ca') (le : Le (msk (bad g f ca A) H) (msk (bad g f ca' A') H')) (keep : ∀ o, H a = some o → H' a = some o) (r : Own g f ca A H a d) : Own g f ca' A' H' a d := by
  cases d with
  | lst l =>
    obtain ⟨xs, h1, h2⟩ := r
    exact ⟨xs, keep _ h1, Reps.le pp le _ _ h2⟩
  | dct ks vs =>
    rcases r with ⟨kvs, h1, h2, h3⟩ | ⟨kvs, h1, h2, h3⟩
    · exact .inl ⟨kvs, keep _ h1, h2, Reps.le pp le _ _ h3⟩
    · exact .inr ⟨kvs, keep _ h1, h2, Reps.le pp le _ _ h3⟩
  | _ => exact r
/-- a value at hand: of one's own, or kept -/
def VOk (g : Gd) (f : Fm) (ca A : List Addr) (H : Hp) (n : Bool) (d : D) (v : V) : Prop := if n = true then ∃ a, v = .ref a ∧ a ∈ A ∧ Own g f ca A H a d else Rep g.dA ca (msk (bad g f ca A) H) d v
theorem VOk.stp {n : Bool} {d : D} {v : V} (ok : EOk g f O σ H e s ca A) (st : Stp g (f.A0 ++ A) ca H ca' H' s') (r : VOk g f ca A H n d v) : VOk g f ca' A H' n d v := by
  cases n with
  | true =>
    obtain ⟨a, e1, ha, own⟩ := r
    exact ⟨a, e1, ha, own.to st.pre' (st.le (f.A0 ++ A)) fun o => st.ex a o (List.mem_append_right _ ha) (ok.an a ha).2⟩
  | false => exact Rep.le st.pre' (st.le (f.A0 ++ A)) _ _ r
theorem VOk.stpN {n : Bool} {d : D} {v : V} {a : Addr} (ok : EOk g f O σ H e s ca A) (st : Stp g (f.A0 ++ A) ca H ca' H' s') (h0 : H a = none) (r : VOk g f ca A H n d v) : VOk g f ca' (a :: A) H' n d v := by
  cases n with
  | true =>
    obtain ⟨b, e1, hb, own⟩ := r
    exact ⟨b, e1, List.mem_cons_of_mem _ hb, own.to st.pre' (ok.leN st h0) fun o => st.ex b o (List.mem_append_right _ hb) (ok.an b hb).2⟩
  | false => exact Rep.le st.pre' (ok.leN st h0) _ _ r
theorem EOk.setV {i : Nat} {n : Bool} {d : D} {v : V} (ok : EOk g f O σ H e s ca A) (ho : O i = n) (r : VOk g f ca A H n d v) (no : n = true → ∀ (j : Nat) d', j ≠ i → O j = true → getS e j = some d' → σ[j]? ≠ some (some v)) : EOk g f O (σ.set i (some v)) H (setS e i (some d)) s ca A := by
  cases n with
  | true =>
    obtain ⟨a, rfl, ha, own⟩ := r
    exact ok.setO ho ha own (no rfl)
  | false => exact ok.set ho r
/-- one value: of one's own (n), or kept -/
theorem tE.frontV {a : E} {m : D → M Out} {D : Ends} {Q' : VK} {k' : Kd} {n : Bool} (ok : EOk g f O σ H e s ca A) (p : PostS g xr f O W (M.bind (den F a e) m s) D) (hk : k' = .N ∨ (n = false ∧ k' ≠ .I))
    (h : ∀ d s1 v H1 ca1 A1, EOk g f O σ H1 e s1 ca1 A1 → (∀ n' d' v', VOk g f ca A H n' d' v' → VOk g f ca1 A1 H1 n' d' v') → (∀ a, a ∈ A → a ∈ A1) → (contOk n d = true → VOk g f ca1 A1 H1 n d v) → (n = true → isCont d = true → ∃ a, v = .ref a ∧ a ∉ A) → PostS g xr f O W (m d s1) D → Q' v H1) : tE g xr F O k' W a σ H Q' := by
  refine tE.frontS ok p fun d s1 v H1 ca1 ok1 st1 r1 p1 => ?_
  cases n with
  | false =>
    have hk' : k' ≠ .I := by
      rcases hk with rfl | ⟨_, hk⟩
      · decide
      · exact hk
    exact h d s1 v H1 ca1 A ok1 (fun n' d' v' r => r.stp ok st1) (fun _ h => h) (fun _ => r1.kept hk') (fun z => nomatch z) p1
  | true =>
    obtain rfl : k' = .N := by
      rcases hk with rfl | ⟨z, _⟩
      · rfl
      · cases z
    by_cases hd : isCont d = true
    · have hd' : (∃ l, d = .lst l) ∨ ∃ ks vs, d = .dct ks vs := by
        cases d <;> first | exact .inl ⟨_, rfl⟩ | exact .inr ⟨_, _, rfl⟩ | cases hd
      obtain ⟨b, rfl, hb, ok2, own⟩ := ok.own st1 r1 hd'
      have h0 : H b = none := by
        rcases hd' with ⟨l, rfl⟩ | ⟨ks, vs, rfl⟩
        · obtain ⟨b', xs, e1, h0, _⟩ := r1
          cases e1
          exact h0
        · obtain ⟨b', e1, h0, _⟩ := r1
          cases e1
          exact h0
      exact h d s1 _ H1 ca1 (b :: A) ok2 (fun n' d' v' r => r.stpN ok st1 h0) (fun _ h => List.mem_cons_of_mem _ h) (fun _ => ⟨b, rfl, List.mem_cons_self .., own⟩) (fun _ _ => ⟨b, rfl, hb⟩) p1
    · exact h d s1 v H1 ca1 A ok1 (fun n' d' v' r => r.stp ok st1) (fun _ h => h) (fun z => absurd z hd) (fun _ z => absurd z hd) p1
theorem bif_S {c : Bool} {m : M Out} {s : MS} {D : Ends} (p : PostS g xr f O W ((bif c then m else M.stuck) s) D) : c = true ∧ PostS g xr f O W (m s) D := by
  cases c with
  | true => exact ⟨rfl, p⟩
  | false => exact p.elim
/-- a new list or dict stored -/
theorem p_newG {i : Nat} {st : Stmt} {te : TE} {m : E} (hp : PS X st (tAsg te (gName i))) (hi : ∀ σ H Q, tE g xr F O .N W m σ H Q → te σ H Q) (ho : O i = true) : PS X st (tS g xr F O W (.new i m)) := by
  refine hp.imp fun D σ H h => ?_
  obtain ⟨f, e, s, ca, A, ok, p⟩ := h
  refine hi _ _ _ (tE.frontV (n := true) ok p (.inl rfl) fun d s1 v H1 ca1 A1 ok1 _ _ vo fr p1 => ?_)
  obtain ⟨hc, p1⟩ := bif_S p1
  have vo := vo hc
  obtain ⟨b, rfl, hb⟩ := fr rfl hc
  exact p1 _ H1 ca1 A1 (ok1.setV ho vo fun _ j d' _ oj h => ok.held hb j d' oj h)
theorem r_par2 {b c : Bool} {i j : Nat} {x y : E} {D : Ends} {σ : St} {H : Hp} (hij : i ≠ j) (hi : O i = b) (hj : O j = c) (h1 : ka = .N ∨ (b = false ∧ ka ≠ .I)) (h2 : kb = .N ∨ (c = false ∧ kb ≠ .I)) (h : tS g xr F O W (.par2 b c i j x y) D σ H)
    {Q : List V → Hp → Prop} (hQ : ∀ v w H1, (∀ H2, Nw H1 H2 → D.nx ((σ.set i (some v)).set j (some w)) H2) → Q [v, w] H1) : tCons (tE g xr F O ka W x) (tCons (tE g xr F O kb W y) tNil) σ H Q := by
  obtain ⟨f, e, s, ca, A, ok, p⟩ := h
  refine tE.frontV (n := b) ok p h1 fun d1 s1 v1 H1 ca1 A1 ok1 tr1 sub1 vo1 fr1 p1 => ?_
  refine tE.frontV (n := c) ok1 p1 h2 fun d2 s2 v2 H2 ca2 A2 ok2 tr2 sub2 vo2 fr2 p2 => ?_
  obtain ⟨hc, p2⟩ := bif_S p2
  obtain ⟨c1, c2⟩ := Bool.and_eq_true_iff.mp hc
  refine hQ v1 v2 H2 fun H3 nw => ?_
  have st3 : Stp g (f.A0 ++ A2) ca2 H2 ca2 H3 s2 := .nw nw ok2.sr
  have ok3 := ok2.step st3
  have w1 := (tr2 _ _ _ (vo1 c1)).stp ok2 st3
  have w2 := (vo2 c2).stp ok2 st3
  have k1 := ok3.setV (i := i) hi w1 fun z j' d' _ oj h => by
    subst z
    obtain ⟨a, rfl, ha⟩ := fr1 rfl c1
    exact ok.held ha j' d' oj h
  have k2 := k1.setV (i := j) hj w2 fun z j' d' ne oj h => by
    subst z
    obtain ⟨a, rfl, ha⟩ := fr2 rfl c2
    by_cases q : i = j'
    · subst q
      rw [getS_set] at h
      by_cases t : i < e.length
      · rw [List.getElem?_set_self (by rw [ok.len]; exact t)]
        intro z
        cases z
        have hb : b = true := by rw [← hi, oj]
        subst hb
        obtain ⟨a', e1, ha', _⟩ := vo1 c1
        cases e1
        exact ha ha'
      · rw [if_neg (fun z => t z.2)] at h
        exact absurd (wipeL_get.getS_lt h) t
    · rw [getS_set, if_neg (fun z => q z.1)] at h
      rw [List.getElem?_set_ne q]
      exact ok1.held ha j' d' oj h
  exact p2 _ H3 ca2 A2 k2
theorem r_par3 {b c d : Bool} {i j l : Nat} {x y z : E} {D : Ends} {σ : St} {H : Hp} (hij : i ≠ j) (hil : i ≠ l) (hjl : j ≠ l) (hi : O i = b) (hj : O j = c) (hl : O l = d) (h1 : ka = .N ∨ (b = false ∧ ka ≠ .I)) (h2 : kb = .N ∨ (c = false ∧ kb ≠ .I)) (h3 : kc = .N ∨ (d = false ∧ kc ≠ .I)) (h : tS g xr F O W (.par3 b c d i j l x y z) D σ H)
    {Q : List V → Hp → Prop} (hQ : ∀ u v w H1, (∀ H2, Nw H1 H2 → D.nx (((σ.set i (some u)).set j (some v)).set l (some w)) H2) → Q [u, v, w] H1) : tCons (tE g xr F O ka W x) (tCons (tE g xr F O kb W y) (tCons (tE g xr F O kc W z) tNil)) σ H Q := by
  obtain ⟨f, e, s, ca, A, ok, p⟩ := h
  refine tE.frontV (n := b) ok p h1 fun d1 s1 v1 H1 ca1 A1 ok1 tr1 sub1 vo1 fr1 p1 => ?_
  refine tE.frontV (n := c) ok1 p1 h2 fun d2 s2 v2 H2 ca2 A2 ok2 tr2 sub2 vo2 fr2 p2 => ?_
  refine tE.frontV (n := d) ok2 p2 h3 fun d3 s3 v3 H3 ca3 A3 ok3 tr3 sub3 vo3 fr3 p3 => ?_
  obtain ⟨hc, p3⟩ := bif_S p3
  obtain ⟨c1, hc⟩ := Bool.and_eq_true_iff.mp hc
  obtain ⟨c2, c3⟩ := Bool.and_eq_true_iff.mp hc
  refine hQ v1 v2 v3 H3 fun H4 nw => ?_
  have st4 : Stp g (f.A0 ++ A3) ca3 H3 ca3 H4 s3 := .nw nw ok3.sr
  have ok4 := ok3.step st4
  have w1 := (tr3 _ _ _ (tr2 _ _ _ (vo1 c1))).stp ok3 st4
  have w2 := (tr3 _ _ _ (vo2 c2)).stp ok3 st4
  have w3 := (vo3 c3).stp ok3 st4
  have own : ∀ {n : Bool} {dd : _root_.W.D} {v : V} {B : List Addr} {cc : List Addr} {HH : Hp} {a : Addr}, n = true → VOk g f cc B HH n dd v → v = .ref a → a ∈ B := fun {n dd v B cc HH a} hn r e1 => by
    subst hn
    obtain ⟨a', e2, ha', _⟩ := r
    rw [e1] at e2
    cases e2
    exact ha'
  have slot : ∀ {σ' : St} {e' : Env} {q j' : Nat} {dd dd' : _root_.W.D} {v : V} {a : Addr}, σ'.length = e'.length → getS (setS e' q (some dd)) j' = some dd' → (q = j' → v ≠ .ref a) → (q ≠ j' → getS e' j' = some dd' → σ'[j']? ≠ some (some (.ref a))) → (σ'.set q (some v))[j']? ≠ some (some (.ref a)) := fun {σ' e' q j' dd dd' v a} ln h y1 y2 => by
    by_cases t : q = j'
    · subst t
      rw [getS_set] at h
      by_cases t : q < e'.length
      · rw [List.getElem?_set_self (by rw [ln]; exact t)]
        intro z
        exact y1 rfl (Option.some.inj (Option.some.inj z))
      · rw [if_neg (fun z => t z.2)] at h
        exact absurd (wipeL_get.getS_lt h) t
    · rw [getS_set, if_neg (fun z => t z.1)] at h
      rw [List.getElem?_set_ne t]
      exact y2 t h
  have k1 := ok4.setV (i := i) hi w1 fun z j' d' _ oj h => by
    subst z
    obtain ⟨a, rfl, ha⟩ := fr1 rfl c1
    exact ok.held ha j' d' oj h
  have k2 := k1.setV (i := j) hj w2 fun z j' d' ne oj h => by
    subst z
    obtain ⟨a, rfl, ha⟩ := fr2 rfl c2
    refine slot ok.len h (fun q z => ?_) fun q h => ok1.held ha j' d' oj h
    subst q
    exact ha (own (by rw [← hi, oj]) (vo1 c1) z)
  have k3 := k2.setV (i := l) hl w3 fun z j' d' ne oj h => by
    subst z
    obtain ⟨a, rfl, ha⟩ := fr3 rfl c3
    refine slot k1.len h (fun q z => ?_) fun q h => slot ok.len h (fun q z => ?_) fun q h => ok2.held ha j' d' oj h
    · subst q
      exact ha (own (by rw [← hj, oj]) (vo2 c2) z)
    · subst q
      exact ha (sub2 _ (own (by rw [← hi, oj]) (vo1 c1) z))
  exact p3 _ H4 ca3 A3 k3
section
variable {a b c : Expr} {x y z : Str}
theorem p_par2 {n1 n2 : Bool} {i j : Nat} {ma mb : E} {px py pt pt2 pos : Pos} {kt k2 : Nat} (hc : X.calm = true) (hN : X.N.Nodup) (hi : X.N[i]? = some x) (hj : X.N[j]? = some y) (hij : i ≠ j) (lx : L2.Loc X.env.scope x) (ly : L2.Loc X.env.scope y)
    (fx : X.fn x = true ∨ X.env.scope.names.lookup x = some .local) (fy : X.fn y = true ∨ X.env.scope.names.lookup y = some .local)
    (ha : PE X a (tE g xr F O ka W ma)) (hb : PE X b (tE g xr F O kb W mb)) (hs : starEach [a, b] X.env = (false, eval a X.env) :: starEach [b] X.env) (hs2 : starEach [b] X.env = (false, eval b X.env) :: starEach [] X.env)
    (oi : O i = n1) (oj : O j = n2) (h1 : ka = .N ∨ (n1 = false ∧ ka ≠ .I)) (h2 : kb = .N ∨ (n2 = false ∧ kb ≠ .I))
    (hw : (swappedStores [.Tuple [.Name x px, .Name y py] kt pt] (.Tuple [a, b] k2 pt2) X.env = pure (some [x, y]) ∧ X.env.scope.names.lookup x = some .local ∧ X.env.scope.names.lookup y = some .local) ∨ swappedStores [.Tuple [.Name x px, .Name y py] kt pt] (.Tuple [a, b] k2 pt2) X.env = pure none) :
    PS X (.Assign [.Tuple [.Name x px, .Name y py] kt pt] (.Tuple [a, b] k2 pt2) pos) (tS g xr F O W (.par2 n1 n2 i j ma mb)) := by
  have hA : PA X [a, b] (tCons (tE g xr F O ka W ma) (tCons (tE g xr F O kb W mb) tNil)) := pa_cons ha (pa_cons hb pa_nil hs2) hs
  rcases hw with ⟨hw, l1, l2⟩ | hw
  · exact (ps_par hc hN hi hj hij l1 l2 hA hw).imp fun D σ H h => r_par2 hij oi oj h1 h2 h fun v w H1 q => ⟨v, w, rfl, q H1 (.refl _)⟩
  · refine (ps_asg (pe_tup hA) (pg_tup hc (pgs_cons (pg_name hN hi lx fx) (pgs_cons (pg_name hN hj ly fy) pgs_nil)) (n := 2)) (hw := hw)).imp fun D σ H h => ?_
    refine r_par2 hij oi oj h1 h2 h (Q := fun xs H1 => xs.length ≤ sizeLine ∧ ∀ p, H1 p = none → gTup X.K 2 (gCons (gName i) (gCons (gName j) gNil)) (.ref p) σ (upd H1 p (.tup xs)) D.nx) fun v w H1 q => ⟨by show 2 ≤ sizeLine; decide, fun p hp => ⟨p, [v, w], rfl, SqT.of upd_same, rfl, v, [w], rfl, w, [], rfl, rfl, q _ (.upd hp)⟩⟩
theorem p_par3 {n1 n2 n3 : Bool} {i j l : Nat} {ma mb mc : E} {px py pz pt pt2 pos : Pos} {kt k2 : Nat} (hc : X.calm = true) (hN : X.N.Nodup) (hi : X.N[i]? = some x) (hj : X.N[j]? = some y) (hl : X.N[l]? = some z) (hij : i ≠ j) (hil : i ≠ l) (hjl : j ≠ l)
    (lx : L2.Loc X.env.scope x) (ly : L2.Loc X.env.scope y) (lz : L2.Loc X.env.scope z)
    (fx : X.fn x = true ∨ X.env.scope.names.lookup x = some .local) (fy : X.fn y = true ∨ X.env.scope.names.lookup y = some .local) (fz : X.fn z = true ∨ X.env.scope.names.lookup z = some .local)
    (ha : PE X a (tE g xr F O ka W ma)) (hb : PE X b (tE g xr F O kb W mb)) (hc' : PE X c (tE g xr F O kc W mc)) (hs : starEach [a, b, c] X.env = (false, eval a X.env) :: starEach [b, c] X.env) (hs2 : starEach [b, c] X.env = (false, eval b X.env) :: starEach [c] X.env) (hs3 : starEach [c] X.env = (false, eval c X.env) :: starEach [] X.env)
    (oi : O i = n1) (oj : O j = n2) (ol : O l = n3) (h1 : ka = .N ∨ (n1 = false ∧ ka ≠ .I)) (h2 : kb = .N ∨ (n2 = false ∧ kb ≠ .I)) (h3 : kc = .N ∨ (n3 = false ∧ kc ≠ .I))
    (hw : (swappedStores [.Tuple [.Name x px, .Name y py, .Name z pz] kt pt] (.Tuple [a, b, c] k2 pt2) X.env = pure (some [x, y, z]) ∧ X.env.scope.names.lookup x = some .local ∧ X.env.scope.names.lookup y = some .local ∧ X.env.scope.names.lookup z = some .local) ∨ swappedStores [.Tuple [.Name x px, .Name y py, .Name z pz] kt pt] (.Tuple [a, b, c] k2 pt2) X.env = pure none) :
    PS X (.Assign [.Tuple [.Name x px, .Name y py, .Name z pz] kt pt] (.Tuple [a, b, c] k2 pt2) pos) (tS g xr F O W (.par3 n1 n2 n3 i j l ma mb mc)) := by
  have hA : PA X [a, b, c] (tCons (tE g xr F O ka W ma) (tCons (tE g xr F O kb W mb) (tCons (tE g xr F O kc W mc) tNil))) := pa_cons ha (pa_cons hb (pa_cons hc' pa_nil hs3) hs2) hs
  rcases hw with ⟨hw, l1, l2, l3⟩ | hw
  · exact (ps_par3 hc hN hi hj hl hij hil hjl l1 l2 l3 hA hw).imp fun D σ H h => r_par3 hij hil hjl oi oj ol h1 h2 h3 h fun u v w H1 q => ⟨u, v, w, rfl, q H1 (.refl _)⟩
  · refine (ps_asg (pe_tup hA) (pg_tup hc (pgs_cons (pg_name hN hi lx fx) (pgs_cons (pg_name hN hj ly fy) (pgs_cons (pg_name hN hl lz fz) pgs_nil))) (n := 3)) (hw := hw)).imp fun D σ H h => ?_
    refine r_par3 hij hil hjl oi oj ol h1 h2 h3 h (Q := fun xs H1 => xs.length ≤ sizeLine ∧ ∀ p, H1 p = none → gTup X.K 3 (gCons (gName i) (gCons (gName j) (gCons (gName l) gNil))) (.ref p) σ (upd H1 p (.tup xs)) D.nx) fun u v w H1 q => ⟨by show 3 ≤ sizeLine; decide, fun p hp => ⟨p, [u, v, w], rfl, SqT.of upd_same, rfl, u, [v, w], rfl, v, [w], rfl, w, [], rfl, rfl, q _ (.upd hp)⟩⟩
end
end
end W
/-! Y4: d[k] = v, xs[i] = v, append, extend, clear. -/
namespace W
open PySem L2
section
variable {X : Cx} {pins : List (Addr × Obj)} {σ : St} {H : Hp} {s : Shared}
/-- an empty dict: of either kind of keys -/
def Conv (H H0 : Hp) (a : Addr) : Prop := H0 = H ∨ (H a = some (.dK []) ∧ H0 = upd H a (.dT [])) ∨ (H a = some (.dT []) ∧ H0 = upd H a (.dK []))
theorem conv_ok {a : Addr} {H0 : Hp} (I : Inv X pins σ H s) (c : Conv H H0 a) : Inv X pins σ H0 s := by
  rcases c with rfl | ⟨e, rfl⟩ | ⟨e, rfl⟩
  · exact I
  · obtain ⟨z, hd, vs, rel, dd⟩ := dk_of I.hok e
    cases rel
    have he : ∃ q, s.heap.get? a = some q := let ⟨q, _, _, hq, _⟩ := dd; ⟨q, hq⟩
    obtain ⟨o, es, ep, h1, h2, h3, h4, _, h5⟩ := dtOf_nil dd
    exact d_write (t' := s.toks) I (by rw [e]; exact True.intro) (Heap.SameBut.refl _ _) he ⟨z, hd, [], .nil, o, es, ep, h1, h2, h3, h4, h5⟩
  · obtain ⟨z, hd, xs, rel, dd⟩ := dt_of I.hok e
    cases rel
    have he : ∃ q, s.heap.get? a = some q := let ⟨q, _, _, hq, _⟩ := dd; ⟨q, hq⟩
    exact d_write (t' := s.toks) I (by rw [e]; exact True.intro) (Heap.SameBut.refl _ _) he (dk_new z hd .nil (dkOf_nil dd))
/-- .. stored: the keys are unlike -/
def rSetDN : TSet := fun o i v H Q => ∃ a H0 H', o = .ref a ∧ Conv H H0 a ∧ DPut H0 a i v H' ∧
  ((∀ kvs : List (Key × V), H a = some (.dK kvs) → (kvs.map (·.1)).Nodup) → (∀ kvs : List (List Key × V), H a = some (.dT kvs) → (kvs.map (·.1)).Nodup) → Q H')
theorem set_dictN (hu : X.A.units + 1 < cLine) : PSet X rSetDN := by
  intro pins s σ H o i v ov iv u Q I ro ri rv h
  obtain ⟨a, H0, H', eo, cv, g, q⟩ := h
  have q' := q (fun kvs e => nodup_k I.hok (.inl e)) (fun kvs e => nodup_t I.hok (.inl e))
  exact set_dict hu pins s σ H0 o i v ov iv u Q (conv_ok I cv) ro ri rv ⟨a, H', eo, g, q'⟩
def rSetW : TSet := fun o i v H Q => rSetL o i v H Q ∨ rSetDN o i v H Q
theorem set_W (hu : X.A.units + 1 < cLine) : PSet X rSetW := by
  intro pins s σ H o i v ov iv u Q I ro ri rv h
  rcases h with h | h
  · exact set_list pins s σ H o i v ov iv u Q I ro ri rv h
  · exact set_dictN hu pins s σ H o i v ov iv u Q I ro ri rv h
end
theorem kOk_K {k : D} {ks : List D} {l : List Key} (p : KsR kO ks l) (h : kOk k ks = true) : isKey1 k = true ∨ (ks = [] ∧ isKeyT k = true) := by
  cases ks with
  | nil => exact (Bool.or_eq_true_iff.mp h).imp id fun z => ⟨rfl, z⟩
  | cons d ks =>
    obtain ⟨j, r, _, h1, _⟩ := p
    have := (key1_of h1).2
    change (bif isKeyT d then isKeyT k else isKey1 k) = true at h
    rw [this] at h
    exact .inl h
theorem kOk_T {k : D} {ks : List D} {l : List (List Key)} (p : KsR kTO ks l) (h : kOk k ks = true) : isKeyT k = true ∨ (ks = [] ∧ isKey1 k = true) := by
  cases ks with
  | nil => exact (Bool.or_eq_true_iff.mp h).symm.imp id fun z => ⟨rfl, z⟩
  | cons d ks =>
    obtain ⟨j, r, _, h1, _⟩ := p
    have := keyT_of h1
    change (bif isKeyT d then isKeyT k else isKey1 k) = true at h
    rw [this] at h
    exact .inl h
section
variable {X : Cx} {g : Gd} {xr : XR} {F : Nat → List D → M D} {O O' : Nat → Bool} {W : WX} {f : Fm} {L ca ca' A A' : List Addr} {σ σ' : St} {H H' : Hp} {s s' : MS} {k ka kb kc : Kd} {e e' : Env}
/-- a dict of one's own takes a pair: by data -/
theorem own_put {a : Addr} {ks vs : List D} {y d : D} {w v : V} {Q : Hp → Prop} (own : DctAt g.dA ca (msk (bad g f ca A) H) H a ks vs) (ha : a ∈ A) (ry : Rep g.dA ca (msk (bad g f ca A) H) y w) (rv : Rep g.dA ca (msk (bad g f ca A) H) d v) (hk : kOk y ks = true) (hl : ks.length < line)
    (q : ∀ o, isTup o = false → DctAt g.dA ca (msk (bad g f ca A) (upd H a o)) (upd H a o) a (_root_.W.put y d ks vs).1 (_root_.W.put y d ks vs).2 → Q (upd H a o)) : rSetDN (.ref a) w v H Q := by
  have fin : ∀ o, isTup o = false → DctAt g.dA ca (msk (bad g f ca A) H) (upd H a o) a (_root_.W.put y d ks vs).1 (_root_.W.put y d ks vs).2 → Q (upd H a o) := fun o t h => q o t (by rw [msk_upd ha]; exact h)
  have hl' : ks.length < sizeLine := by rw [← line_eq]; exact hl
  have up : ∀ {o o' : HO}, upd (upd H a o) a o' = upd H a o' := fun {o o'} => by
    funext b
    unfold L2.upd
    split <;> rfl
  rcases own with ⟨kvs, h1, h2, h3⟩ | ⟨kvs, h1, h2, h3⟩
  · have ln : kvs.length = ks.length := by rw [h2.length, List.length_map]
    rcases kOk_K h2 hk with z | ⟨rfl, z⟩
    · obtain ⟨j, hj⟩ := kO_of ry z
      obtain rfl := rep_kO ry hj
      refine ⟨a, H, _, rfl, .inl rfl, .k h1 (by omega), fun nk _ => ?_⟩
      obtain ⟨p1, p2, _⟩ := put_rel keq_kO hj rv h2 h3 (nk kvs h1)
      exact fin _ rfl (.inl ⟨_, upd_same, p1, p2⟩)
    · obtain ⟨j, hj⟩ := kTO_of ry z
      obtain ⟨b, rfl, hb⟩ := rep_kTO ry hj
      have e0 : kvs = [] := List.eq_nil_of_length_eq_zero (by rw [ln]; rfl)
      subst e0
      have hb' : (upd H a (.dT [])) b = some (.tup (j.map kV)) := by
        have hb2 := msk_some hb
        rw [upd_ne (fun z => hb2.1 (by rw [z]; simp [ha]))]
        exact hb2.2
      refine ⟨a, upd H a (.dT []), _, rfl, .inr (.inl ⟨h1, rfl⟩), .t upd_same hb' (by show 0 < sizeLine; decide), fun _ _ => ?_⟩
      rw [up]
      have n0 : KsR kTO [] (([] : List (List Key × V)).map (·.1)) := rfl
      obtain ⟨p1, p2, _⟩ := put_rel (dA := g.dA) (ca := ca) (H := msk (bad g f ca A) H) (vs := vs) keq_kTO hj rv n0 (by obtain rfl := reps_nil h3 rfl; rfl) (by simp)
      exact fin _ rfl (.inr ⟨_, upd_same, p1, p2⟩)
  · have ln : kvs.length = ks.length := by rw [h2.length, List.length_map]
    rcases kOk_T h2 hk with z | ⟨rfl, z⟩
    · obtain ⟨j, hj⟩ := kTO_of ry z
      obtain ⟨b, rfl, hb⟩ := rep_kTO ry hj
      refine ⟨a, H, _, rfl, .inl rfl, .t h1 (msk_some hb).2 (by omega), fun _ nk => ?_⟩
      obtain ⟨p1, p2, _⟩ := put_rel keq_kTO hj rv h2 h3 (nk kvs h1)
      exact fin _ rfl (.inr ⟨_, upd_same, p1, p2⟩)
    · obtain ⟨j, hj⟩ := kO_of ry z
      obtain rfl := rep_kO ry hj
      have e0 : kvs = [] := List.eq_nil_of_length_eq_zero (by rw [ln]; rfl)
      subst e0
      refine ⟨a, upd H a (.dK []), _, rfl, .inr (.inr ⟨h1, rfl⟩), .k upd_same (by show 0 < sizeLine; decide), fun _ _ => ?_⟩
      rw [up]
      have n0 : KsR kO [] (([] : List (Key × V)).map (·.1)) := rfl
      obtain ⟨p1, p2, _⟩ := put_rel (dA := g.dA) (ca := ca) (H := msk (bad g f ca A) H) (vs := vs) keq_kO hj rv n0 (by obtain rfl := reps_nil h3 rfl; rfl) (by simp)
      exact fin _ rfl (.inl ⟨_, upd_same, p1, p2⟩)
/-- a value put into the thing that a slot holds -/
theorem put_own {i : Nat} {a : Addr} {d0 d1 y dn : D} {v w : V} {Q : Hp → Prop} (ok : EOk g f O σ H e s ca A) (ho : O i = true) (hi : getS e i = some d0) (hs : σ[i]? = some (some (.ref a))) (ry : Rep g.dA ca (msk (bad g f ca A) H) y w) (rv : Rep g.dA ca (msk (bad g f ca A) H) d1 v)
    (hp : putO d0 y d1 = some dn) (q : ∀ H', EOk g f O σ H' (setS e i (some dn)) s ca A → Q H') : rSetW (.ref a) w v H Q := by
  obtain ⟨a', e1, ha, own⟩ := ok.ow i d0 hi ho
  rw [hs] at e1
  cases e1
  cases d0 with
  | lst l =>
    cases y with
    | int j =>
      change (match _root_.W.ixN l.length j with | some j => some (D.lst (l.set j d1)) | none => none) = some dn at hp
      cases c : _root_.W.ixN l.length j with
      | none => rw [c] at hp; cases hp
      | some n =>
        rw [c] at hp
        cases hp
        obtain ⟨xs, h1, h2⟩ := own
        refine .inl ⟨a, xs, j, n, rfl, ry, h1, by rw [h2.length]; exact c, q _ (ok.mut ho hi hs ha rfl ⟨_, upd_same, by rw [msk_upd ha]; exact h2.set rv n⟩)⟩
    | _ => cases hp
  | dct ks vs =>
    change (bif kOk y ks && Nat.blt ks.length line then some (D.dct (_root_.W.put y d1 ks vs).1 (_root_.W.put y d1 ks vs).2) else none) = some dn at hp
    cases c : kOk y ks && Nat.blt ks.length line with
    | false => rw [c] at hp; cases hp
    | true =>
      rw [c] at hp
      cases hp
      obtain ⟨c1, c2⟩ := Bool.and_eq_true_iff.mp c
      exact .inr (own_put own ha ry rv c1 (Nat.le_of_ble_eq_true c2) fun o t h => q _ (ok.mut ho hi hs ha t h))
  | _ => exact own.elim
theorem notCel {i : Nat} {d : D} (ok : EOk g f O σ H e s ca A) (ho : O i = true) (hi : getS e i = some d) : ∃ a, σ[i]? = some (some (.ref a)) ∧ a ∈ A ∧ Own g f ca A H a d ∧ ((∃ l, d = .lst l) ∨ ∃ ks vs, d = .dct ks vs) := by
  obtain ⟨a, e1, ha, own⟩ := ok.ow i d hi ho
  refine ⟨a, e1, ha, own, ?_⟩
  cases d <;> first | exact .inl ⟨_, rfl⟩ | exact .inr ⟨_, _, rfl⟩ | exact own.elim
theorem p_put {i : Nat} {x : Str} {y b : Expr} {my mb : E} {px ps pos : Pos} (hu : X.A.units + 1 < cLine) (ho : PE X (.Name x px) (tVar i)) (hO : O i = true) (hy : PE X y (tE g xr F O kb W my)) (hk : kb ≠ .I) (hb : PE X b (tE g xr F O ka W mb)) (hk' : ka ≠ .I) (hn : noSlice y = true) (hs : swapsWithSole [.Subscript (.Name x px) y ps] b pos.line X.env = pure false) :
    PS X (.Assign [.Subscript (.Name x px) y ps] b pos) (tS g xr F O W (.put i my mb)) := by
  refine (ps_asg hb (pg_sub ho hy (set_W hu) (fun v => by cases y <;> first | rfl | cases hn)) hs).imp fun D σ H h => ?_
  obtain ⟨f, e, s, ca, A, ok, p⟩ := h
  change PostS g xr f O W ((match getS e i with
    | some _ => M.bind (den F mb e) fun v => M.bind (den F my e) fun y => putM i y v e
    | none => M.stuck) s) D at p
  cases q : getS e i with
  | none => rw [q] at p; exact p.elim
  | some d0 =>
    rw [q] at p
    obtain ⟨a, e1, ha, own, hd⟩ := notCel ok hO q
    refine tE.frontS ok p fun d1 s1 v1 H1 ca1 ok1 st1 r1 p1 => ⟨_, e1, ?_⟩
    refine tE.frontS ok1 p1 fun d2 s2 v2 H2 ca2 ok2 st2 r2 p2 => ?_
    unfold putM at p2
    rw [q] at p2
    have p3 : PostS g xr f O W ((match putO d0 d2 d1 with
      | some d' => M.pure (Out.nx (setS e i (some d')))
      | none => M.stuck) s2) D := by
      rcases hd with ⟨l, rfl⟩ | ⟨ks, vs, rfl⟩ <;> exact p2
    cases c : putO d0 d2 d1 with
    | none => rw [c] at p3; exact p3.elim
    | some dn =>
      rw [c] at p3
      exact put_own ok2 hO q e1 (r2.kept hk) ((r1.kept hk').stp st2) c fun H' ok' => p3 σ H' ca2 A ok'
theorem base_ok {o : Expr} {n : Str} {env : PySem.Env} {m : Sem Value} (h : noCall0 o = true) : attributeBase o n env m = m := by
  unfold attributeBase
  split
  · cases h
  · rfl
/-- few plain arguments -/
theorem p_app {i : Nat} {x : Str} {b : Expr} {mb : E} {px apos cpos pos : Pos} (ho : PE X (.Name x px) (tVar i)) (hO : O i = true) (hb : PE X b (tE g xr F O ka W mb)) (hk : ka ≠ .I) (hn : noStar b = true) (hline : (apos.endLine == cpos.line) = true) :
    PS X (.Expr (.Call (.Attribute (.Name x px) "append" apos) [b] [] cpos) pos) (tS g xr F O W (.app i mb)) := by
  have hs : starEach [b] X.env = (false, eval b X.env) :: starEach [] X.env := by cases b <;> first | rfl | cases hn
  refine (ps_expr (pe_bm PySem.F.plainAttrs_list PySem.F.slot_list_append PySem.F.type_list_append mt_append ho (pa_cons hb pa_nil hs) rfl (by rw [hs]; rfl) hline hs rfl)).imp fun D σ H h => ?_
  obtain ⟨f, e, s, ca, A, ok, p⟩ := h
  change PostS g xr f O W ((match getS e i with
    | some (.lst l) => M.bind (den F mb e) fun v => bif Nat.blt l.length line then M.pure (Out.nx (setS e i (some (.lst (l ++ [v]))))) else M.stuck
    | _ => M.stuck) s) D at p
  cases q : getS e i with
  | none => rw [q] at p; exact p.elim
  | some d0 =>
    rw [q] at p
    cases d0 with
    | lst l =>
      obtain ⟨a, e1, ha, own, hd⟩ := notCel ok hO q
      obtain ⟨xs, h1, h2⟩ := own
      refine ⟨_, e1, .inl ⟨rfl, xs, SqL.of h1⟩, ?_⟩
      refine tE.frontS ok p fun d1 s1 v1 H1 ca1 ok1 st1 r1 p1 => ?_
      obtain ⟨c, p1⟩ := bif_S p1
      obtain ⟨a', e2, _, xs', h1', h2'⟩ := ok1.ow i _ q hO
      rw [e1] at e2
      cases e2
      have c' : l.length < line := Nat.le_of_ble_eq_true c
      refine ⟨a, xs', v1, rfl, rfl, h1', by rw [h2'.length, ← line_eq]; exact c', ?_⟩
      exact p1 _ _ ca1 A (ok1.mut hO q e1 ha rfl ⟨_, upd_same, by rw [msk_upd ha]; exact h2'.append (.one (r1.kept hk))⟩)
    | _ => exact p.elim
theorem p_ext {i : Nat} {x : Str} {b : Expr} {mb : E} {px apos cpos pos : Pos} (ho : PE X (.Name x px) (tVar i)) (hO : O i = true) (hb : PE X b (tE g xr F O ka W mb)) (hk : ka ≠ .I) (hn : noStar b = true) (hline : (apos.endLine == cpos.line) = true) :
    PS X (.Expr (.Call (.Attribute (.Name x px) "extend" apos) [b] [] cpos) pos) (tS g xr F O W (.ext i mb)) := by
  have hs : starEach [b] X.env = (false, eval b X.env) :: starEach [] X.env := by cases b <;> first | rfl | cases hn
  refine (ps_expr (pe_bm PySem.F.plainAttrs_list PySem.F.slot_list_extend PySem.F.type_list_extend mt_extend ho (pa_cons hb pa_nil hs) rfl (by rw [hs]; rfl) hline hs rfl)).imp fun D σ H h => ?_
  obtain ⟨f, e, s, ca, A, ok, p⟩ := h
  change PostS g xr f O W ((match getS e i with
    | some (.lst l) => M.bind (den F mb e) fun v => match v with
      | .lst m => bif Nat.ble (l.length + m.length) line then M.pure (Out.nx (setS e i (some (.lst (l ++ m))))) else M.stuck
      | _ => M.stuck
    | _ => M.stuck) s) D at p
  cases q : getS e i with
  | none => rw [q] at p; exact p.elim
  | some d0 =>
    rw [q] at p
    cases d0 with
    | lst l =>
      obtain ⟨a, e1, ha, own, hd⟩ := notCel ok hO q
      obtain ⟨xs, h1, h2⟩ := own
      refine ⟨_, e1, .inl ⟨rfl, xs, SqL.of h1⟩, ?_⟩
      refine tE.frontS ok p fun d1 s1 v1 H1 ca1 ok1 st1 r1 p1 => ?_
      cases d1 with
      | lst m =>
        obtain ⟨c, p1⟩ := bif_S p1
        obtain ⟨a', e2, _, xs', h1', h2'⟩ := ok1.ow i _ q hO
        rw [e1] at e2
        cases e2
        obtain ⟨b', ys, rfl, g1, g2⟩ := k_lst (r1.kept hk)
        refine ⟨a, b', xs', ys, rfl, rfl, h1', g1, by rw [h2'.length, g2.length, ← line_eq]; exact Nat.le_of_ble_eq_true c, ?_⟩
        exact p1 _ _ ca1 A (ok1.mut hO q e1 ha rfl ⟨_, upd_same, by rw [msk_upd ha]; exact h2'.append g2⟩)
      | _ => exact p1.elim
    | _ => exact p.elim
/-- layer = late: a thing of one's own goes to another name -/
theorem p_mov {i j : Nat} {x y : Str} {px py pos : Pos} (hN : X.N.Nodup) (hi : X.N[i]? = some x) (hx : L2.Loc X.env.scope x) (hf : X.fn x = true ∨ X.env.scope.names.lookup x = some .local) (ho : PE X (.Name y py) (tVar j)) (oi : O i = true) (oj : O j = true) (ne : i ≠ j) :
    PS X (.Assign [.Name x px] (.Name y py) pos) (tS g xr F O W (.mov i j)) := by
  refine (ps_set hN hi hx ho rfl hf).imp fun D σ H h => ?_
  obtain ⟨f, e, s, ca, A, ok, p⟩ := h
  change PostS g xr f O W ((match getS e j with
    | some d => M.pure (Out.nx (setS (setS e j none) i (some d)))
    | none => M.stuck) s) D at p
  cases q : getS e j with
  | none => rw [q] at p; exact p.elim
  | some d =>
    rw [q] at p
    obtain ⟨a, e1, ha, own, hd⟩ := notCel ok oj q
    refine ⟨_, e1, p _ H ca A ((ok.clear (i := j)).setO oi ha own fun l d' nl ol h => ?_)⟩
    rw [getS_set] at h
    split at h
    · cases h
    · rename_i c
      have nj : j ≠ l := fun z => c ⟨z, wipeL_get.getS_lt q⟩
      exact ok.od j l d d' a nj oj ol q h e1
theorem p_brk {pos : Pos} : PS X (.Break pos) (tS g xr F O W .brk) := ps_break.imp fun D σ H h => by
  obtain ⟨f, e, s, ca, A, ok, p⟩ := h
  exact p σ H ca A ok
theorem p_skip {pos : Pos} : PS X (.Pass pos) (tS g xr F O W .skip) := ps_pass.imp fun D σ H h => by
  obtain ⟨f, e, s, ca, A, ok, p⟩ := h
  exact p σ H ca A ok
end
end W
/-! Z1: sum(rows, []): lists put behind one another. -/
namespace W
open PySem L2
section
variable {X : Cx} {pins : List (Addr × Obj)} {σ : St} {H : Hp} {s : Shared}
/-- the same place within a built-in's own body -/
theorem Inv.within {A' : Around} {E' : Value → Shared → Prop} (I : Inv X pins σ H s) (hd : X.calm = true → A'.handled = none) (hf : A'.frames = X.A.frames) : Inv { X with A := A', xe := E' } pins σ H s :=
  ⟨⟨I.ok.mod, I.ok.kind, I.ok.glob, I.ok.blt, I.ok.above, I.ok.inj, I.ok.has, I.ok.cab, hd, hf.trans I.ok.frames, I.ok.stk, I.ok.exf, I.ok.bs, I.ok.bsz, I.ok.noex, I.ok.exfs, I.ok.funs, I.ok.frf⟩,
    I.os, I.bare, I.base, I.loc, I.cell, I.free, I.freeC, I.pin, I.hok, I.len⟩
theorem Inv.outward {A' : Around} {E' : Value → Shared → Prop} (ok : X.Ok) (I : Inv { X with A := A', xe := E' } pins σ H s) : Inv X pins σ H s :=
  ⟨ok, I.os, I.bare, I.base, I.loc, I.cell, I.free, I.freeC, I.pin, I.hok, I.len⟩
theorem fp_of {b : Addr} (I : Inv X pins σ H s) {H' : Hp} (f : FpOk X pins H b) (h : H' b = none) : FpOk X pins H' b := ⟨h, f.2⟩
/-- the items' own lists, one behind another -/
def Rows (H : Hp) : List V → List V → Prop
  | [], ys => ys = []
  | v :: r, ys => ∃ b y z, v = .ref b ∧ H b = some (.lst y) ∧ Rows H r z ∧ ys = y ++ z
theorem Rows.mono {H H' : Hp} (n : ∀ a xs, H a = some (.lst xs) → H' a = some (.lst xs)) : ∀ {r ys : List V}, Rows H r ys → Rows H' r ys
  | [], _, h => h
  | _ :: _, _, ⟨b, y, z, e1, e2, e3, e4⟩ => ⟨b, y, z, e1, n _ _ e2, e3.mono n, e4⟩
theorem sumL_loop (hc : X.calm = true) {S it L : Addr} {R : Result → Shared → Prop} (hne : S ≠ it) (rows : List V) : ∀ (r : List V) (i : Nat) (H : Hp) (s : Shared) (tot : Addr) (xs ys : List V) (c : Nat), rows.drop i = r →
    Inv X pins σ H s → s.heap.get? S = some { cls := .type "list", dict := none, data := .seq #[.ref tot] c, slots := #[] } → s.heap.IsListIter it L i → H L = some (.lst rows) → Rows H r ys → H tot = some (.lst xs) → xs.length + ys.length ≤ sizeLine →
    FpOk X pins H S → FpOk X pins H it →
    (∀ H' s' p, Inv X pins σ H' s' → Nw H H' → H' p = some (.lst (xs ++ ys)) → (p = tot ∨ H p = none) → R (.ok (.ret (.ref p))) s') →
    codeAny (model X.prog X.w) X.A (.builtin "sum.loop" ⟨[.ref it, .ref S, rawInt 2, rawInt 0], []⟩) R s := by
  intro r
  induction r with
  | nil =>
    intro i H s tot xs ys c hr I hS hit hL hrow hT hz fS fI hR
    obtain ⟨its, n, rv, hl, _⟩ := I.lst hL
    have hh := I.ok.hd hc
    have hend : its.toArray[i]? = none := by
      have : rows.length ≤ i := by
        have := congrArg List.length hr
        simp only [List.length_drop, List.length_nil] at this
        omega
      rw [List.getElem?_toArray]
      exact List.getElem?_eq_none (by rw [← rv.length]; exact this)
    refine codeAny_builtin PySem.F.entry_sum_loop ?_
    rw [Around.under_plainId PySem.F.plain_sum_loop _]
    show wpAny _ X.A.in1 (seqItems? (.ref S) >>= _) _ _ s
    refine wpAny_bind (wpAny_seqItems hS rfl ?_)
    show wpAny _ X.A.in1 (tryCatch (pyNext (.ref it)) _ >>= _) _ _ s
    refine wpAny_bind (wpAny_tryCatch (wpAny_pyNext_list_end (A := X.A.in1) hh hit (I.list (SqL.of hL)).choose_spec.2.1.isList (by
      have h1 := (I.list (SqL.of hL)).choose_spec.1
      have : rows.length ≤ i := by
        have := congrArg List.length hr
        simp only [List.length_drop, List.length_nil] at this
        omega
      rw [List.getElem?_toArray]
      exact List.getElem?_eq_none (by rw [← h1.length]; exact this)) fun h' he => ?_))
    cases hrow
    refine wpAny_pure (hR H _ tot (I.turnedL (t' := s.toks) (ch := [it]) (fun b o hb e => he b o (by simpa using hb) e) (fun b hb => by rw [List.mem_singleton.mp hb]; exact fI)) (.refl _) (by simpa using hT) (.inl rfl))
  | cons v r ih =>
    intro i H s tot xs ys c hr I hS hit hL hrow hT hz fS fI hR
    obtain ⟨b, y, z, rfl, hb, hrow', rfl⟩ := hrow
    have hget : rows[i]? = some (.ref b) := by
      have := congrArg (·[0]?) hr
      simpa using this
    obtain ⟨its, rv, hl, _⟩ := I.list (SqL.of hL)
    obtain ⟨u, hu, ru⟩ := rv.get hget
    obtain rfl : u = Value.ref b := ru
    refine codeAny_builtin PySem.F.entry_sum_loop ?_
    rw [Around.under_plainId PySem.F.plain_sum_loop _]
    show wpAny _ X.A.in1 (seqItems? (.ref S) >>= _) _ _ s
    refine wpAny_bind (wpAny_seqItems hS rfl ?_)
    show wpAny _ X.A.in1 (tryCatch (pyNext (.ref it)) _ >>= _) _ _ s
    refine wpAny_bind (wpAny_tryCatch (wpAny_pyNext_list_item (A := X.A.in1) (x := .ref b) hit hl.isList (by rw [List.getElem?_toArray]; exact hu) fun h1 hit1 hs1 => ?_))
    have I1 : Inv X pins σ H { s with heap := h1 } := I.turnedL (t' := s.toks) (ch := [it]) (fun c o hb e => hs1.extBut c o (by simpa using hb) e) (fun b hb => by rw [List.mem_singleton.mp hb]; exact fI)
    have hS1 : h1.get? S = some { cls := .type "list", dict := none, data := .seq #[.ref tot] c, slots := #[] } := hs1.extBut _ _ hne hS
    show wpAny _ X.A.in1 ((holding [Value.ref b] (binaryOp .Add (.ref tot) (.ref b))).attempt >>= _) _ _ _
    have I2 := I1.pinned (fp := [S, it]) (fun c hc => by
      rcases List.mem_cons.mp hc with rfl | hc
      · exact fS
      · rw [List.mem_singleton.mp hc]; exact fI) (fun c hc => by
      rcases List.mem_cons.mp hc with rfl | hc
      · exact ⟨_, hS1, fun v z => nomatch z⟩
      · rw [List.mem_singleton.mp hc]
        obtain ⟨o, e, _, d⟩ := hit1
        exact ⟨o, e, fun v z => by rw [d] at z; cases z⟩)
    refine wpAny_bind (wpAny_attempt (wpAny_holding ?_))
    have I3 := Inv.within (A' := X.A.in1) (E' := fun _ _ => False) I2 (fun h => I.ok.hd h) rfl
    refine wpAny_mono (op_cat _ _ σ H _ _ _ _ (fun v' H' => ∃ p, v' = .ref p ∧ H p = none ∧ H' = upd H p (.lst (xs ++ y))) I3 (show RelV (.ref tot) (.ref tot) from rfl) (show RelV (.ref b) (.ref b) from rfl) ⟨tot, b, xs, y, rfl, rfl, hT, hb, by rw [List.length_append] at hz; omega, fun p hp => ⟨p, rfl, hp, rfl⟩⟩) (fun w' s2 hw => ?_) (fun _ _ z => z.elim)
    obtain ⟨v', H2, I4, rw', p, rfl, hp, rfl⟩ := hw
    obtain rfl : w' = Value.ref p := rw'
    have I5 := Inv.outward I.ok I4
    have pin : ∀ c, c ∈ [S, it] → ∀ o, h1.get? c = some o → s2.heap.get? c = some o := fun c hc o e => (I5.pin (c, o) (List.mem_append_right _ (List.mem_append_right _ (mem_pinsAt hc e)))).1
    have hS2 := pin S (by simp) _ hS1
    have hit2 : s2.heap.IsListIter it L (i + 1) := by
      obtain ⟨o, e, q⟩ := hit1
      exact ⟨o, pin it (by simp) _ e, q⟩
    have fS2 : FpOk X pins (upd H p (.lst (xs ++ y))) S := fp_of I fS (I5.pin (S, _) (List.mem_append_right _ (List.mem_append_right _ (mem_pinsAt (by simp) hS1)))).2.1
    have fI2 : FpOk X pins (upd H p (.lst (xs ++ y))) it := by
      obtain ⟨o, e, q⟩ := hit1
      exact fp_of I fI (I5.pin (it, _) (List.mem_append_right _ (List.mem_append_right _ (mem_pinsAt (by simp) e)))).2.1
    have I6 := I5.unpinned
    have nw : Nw H (upd H p (.lst (xs ++ y))) := .upd hp
    show wpAny _ X.A.in1 (updateSeq S (fun _ => #[.ref p]) >>= _) _ _ _
    refine wpAny_bind (wpAny_updateSeq hS2 rfl ?_)
    have hS3 := Heap.get?_update_self (Obj.mapSeq fun _ => #[Value.ref p]) hS2 rfl
    refine wpAny_bind (wpAny_letGo ?_)
    refine wpAny_bind (wpAny_updateSeq hS3 rfl (wpAny_pure ⟨plainId_quiet PySem.F.plain_sum_loop _, ?_⟩))
    have hS4 := Heap.get?_update_self (Obj.mapSeq fun _ => #[Value.ref p]) hS3 rfl
    have oth : ∀ c o, c ≠ S → s2.heap.get? c = some o → ((s2.heap.update S (Obj.mapSeq fun _ => #[Value.ref p])).update S (Obj.mapSeq fun _ => #[Value.ref p])).get? c = some o := fun c o hc e =>
      (Heap.get?_update_other _ _ (Ne.symm hc)).trans ((Heap.get?_update_other _ _ (Ne.symm hc)).trans e)
    have I7 : Inv X pins σ (upd H p (.lst (xs ++ y))) { s2 with heap := (s2.heap.update S (Obj.mapSeq fun _ => #[Value.ref p])).update S (Obj.mapSeq fun _ => #[Value.ref p]), toks := s2.toks } :=
      I6.turnedL (t' := s2.toks) (ch := [S]) (fun c o hc e => oth c o (by simpa using hc) e) (fun c hc => by rw [List.mem_singleton.mp hc]; exact fS2)
    refine ih (i + 1) _ _ p (xs ++ y) z _ (by rw [← List.drop_drop, hr]; rfl) I7 hS4 ?_ (nw _ _ hL) (hrow'.mono fun a xs h => nw _ _ h) upd_same (by rw [List.length_append] at hz ⊢; omega) fS2 fI2 fun H' s' q Iq nq hq ho => ?_
    · obtain ⟨o, e, q⟩ := hit2
      exact ⟨o, oth it o (Ne.symm hne) e, q⟩
    · refine hR H' s' q Iq (nw.trans nq) (by rw [← List.append_assoc]; exact hq) (.inr ?_)
      rcases ho with rfl | ho
      · exact hp
      · exact nw.back ho
def rSumL (K : PySem.W.Frag) : List V → Hp → VK → Prop := fun vs H Q => ∃ (L a : Addr) (rows xs ys : List V), vs = [.ref L, .ref a] ∧ H L = some (.lst rows) ∧ H a = some (.lst xs) ∧ Rows H rows ys ∧ xs.length + ys.length ≤ sizeLine ∧
  ∀ H' p, Nw H H' → H' p = some (.lst (xs ++ ys)) → (p = a ∨ H p = none) → Q (.ref p) H'
theorem call_sumL (hc : X.calm = true) : CallR X (.builtin "sum") (rSumL X.K) := by
  intro pins s σ H xs us Q I r h
  obtain ⟨L, a, rows, xs, ys, rfl, hL, ha, hr, hz, q⟩ := h
  obtain ⟨u, v, rfl, ru, rv⟩ := vals2 r
  obtain rfl : u = Value.ref L := ru
  obtain rfl : v = Value.ref a := rv
  obtain ⟨its, rl, hl, _⟩ := I.list (SqL.of hL)
  refine PySem.call_function_tree PySem.F.kind_sum PySem.F.plain_sum PySem.F.entry_sum (by unfold argsOk; kernel_rfl) ?_
  unfold Builtin.«sum»
  simp only [List.length_cons, List.length_nil]
  rw [if_neg (by decide)]
  refine wpAny_bind (wpAny_of_eq (show Builtin.Builtins.bindParams "sum" ["start"] 0 ⟨[.ref a], []⟩ = pure [some (.ref a)] from rfl) ?_)
  refine wpAny_bind (wpAny_pyIter_list (A := X.A.in1) hl.isList ?_)
  have nI : H s.heap.objs.size = none := I.hok.fresh (Nat.le_refl _)
  have fI : FpOk X pins H s.heap.objs.size := I.fpOk (Nat.le_refl _) nI
  generalize eh : s.heap.push { cls := .type "list_iterator", data := .fields #[.ref L, .int 0 0] } = h1
  have k1 : ∀ b o, s.heap.get? b = some o → h1.get? b = some o := fun b o e => by rw [← eh]; exact Heap.get?_push_of_some _ e
  have z1 : h1.objs.size = s.heap.objs.size + 1 := by rw [← eh, Heap.size_push]
  have hit : h1.IsListIter s.heap.objs.size L 0 := by rw [← eh]; exact ⟨_, Heap.get?_push_size _ rfl, rfl, rfl⟩
  have I1 : Inv X pins σ H { s with heap := h1 } := I.kept (t' := s.toks) k1
  have ty : ∀ (s' : Shared), s'.heap = h1 → s'.TypeIs (.ref a) "list" := fun s' e => by
    obtain ⟨its', n, _, ho, _⟩ := I1.lst ha
    exact ⟨_, by rw [e]; exact ho, rfl⟩
  refine wpAny_bind (wpAny_pure ?_)
  simp only [List.forIn_cons, List.forIn_nil]
  refine wpAny_bind (wpAny_bind (wpAny_bind (wpAny_isInstance (T := "list") (b := false) (ty _ rfl) (by rw [isSubtype_type]; kernel_rfl) ?_)))
  simp only [Bool.false_eq_true, if_false]
  refine wpAny_pure (wpAny_bind (wpAny_bind (wpAny_isInstance (T := "list") (b := false) (ty _ rfl) (by rw [isSubtype_type]; kernel_rfl) ?_)))
  simp only [Bool.false_eq_true, if_false]
  refine wpAny_pure (wpAny_bind (wpAny_bind (wpAny_isInstance (T := "list") (b := false) (ty _ rfl) (by rw [isSubtype_type]; kernel_rfl) ?_)))
  simp only [Bool.false_eq_true, if_false]
  refine wpAny_pure (wpAny_pure ?_)
  refine wpAny_bind (wpAny_newObj_type ?_)
  have nS : H h1.objs.size = none := I1.hok.fresh (Nat.le_refl _)
  have fS : FpOk X pins H h1.objs.size := I1.fpOk (Nat.le_refl _) nS
  have I2 : Inv X pins σ H { s with heap := h1.push { cls := .type "list", data := .seq [Value.ref a].toArray } } := I1.kept (t' := s.toks) fun b o e => Heap.get?_push_of_some _ e
  refine wpAny_pure ⟨plainId_quiet PySem.F.plain_sum_loop _, ?_⟩
  refine sumL_loop hc (fun e => ?_) rows rows 0 H _ a xs ys _ rfl I2 (Heap.get?_push_size _ rfl) (hit.at fun o e => Heap.get?_push_of_some _ e) hL hr ha hz fS fI fun H' s' p I' nw hp ho => ⟨.ref p, H', I', rfl, q H' p nw hp ho⟩
  have e : h1.objs.size = s.heap.objs.size := e
  rw [z1] at e
  exact absurd e (Nat.succ_ne_self _)
end
end W
/-! Z2: data in order: the plain part against the library's order of data. -/
namespace W
open PySem L2
mutual
def pyD : D → PyData
  | .non => .none
  | .bl b => .bool b
  | .int i => .int i
  | .str s => .str ⟨s.toArray⟩
  | .tup l => .tuple (pyDs l)
  | .lst l => .list (pyDs l)
  | _ => .none
def pyDs : List D → List PyData
  | [] => []
  | d :: l => pyD d :: pyDs l
end
theorem pyDs_map : ∀ l : List D, pyDs l = l.map pyD
  | [] => rfl
  | d :: l => congrArg (_ :: ·) (pyDs_map l)
mutual
theorem alike_py : ∀ {d e : D}, alikeD d e = true → PySem.W.alike (pyD d) (pyD e) = true
  | .int _, e, h => by cases e <;> first | rfl | cases h
  | .str _, e, h => by cases e <;> first | rfl | cases h
  | .bl _, e, h => by cases e <;> first | rfl | cases h
  | .non, e, h => by cases e <;> first | rfl | cases h
  | .tup l, e, h => by
    cases e with
    | tup m => exact alike_pys (l := l) (m := m) h
    | _ => cases h
  | .lst l, e, h => by
    cases e with
    | lst m => exact alike_pys (l := l) (m := m) h
    | _ => cases h
  | .dct _ _, e, h => by cases h
  | .set _, e, h => by cases h
  | .drw, e, h => by cases h
  | .cel _, e, h => by cases h
theorem alike_pys : ∀ {l m : List D}, alikeDl l m = true → PySem.W.alikeAll (pyDs l) (pyDs m) = true
  | [], m, _ => by cases m <;> rfl
  | a :: l, [], _ => rfl
  | a :: l, b :: m, h => by
    obtain ⟨h1, h2⟩ := Bool.and_eq_true_iff.mp (show (alikeD a b && alikeDl l m) = true from h)
    show (PySem.W.alike (pyD a) (pyD b) && PySem.W.alikeAll (pyDs l) (pyDs m)) = true
    rw [alike_py h1, alike_pys h2]
    rfl
end
mutual
theorem eqD_eq : ∀ {d e : D}, eqD d e = true → d = e
  | .int i, e, h => by
    cases e with
    | int j => rw [eqI_iff.mp (show eqI i j = true from h)]
    | _ => cases h
  | .str s, e, h => by
    cases e with
    | str t => rw [eqL_iff.mp (show eqL s t = true from h)]
    | _ => cases h
  | .bl a, e, h => by
    cases e with
    | bl b => rw [beq_iff_eq.mp (show (a == b) = true from h)]
    | _ => cases h
  | .non, e, h => by cases e <;> first | rfl | cases h
  | .tup l, e, h => by
    cases e with
    | tup m => rw [eqDl_eq (l := l) (m := m) h]
    | _ => cases h
  | .lst l, e, h => by
    cases e with
    | lst m => rw [eqDl_eq (l := l) (m := m) h]
    | _ => cases h
  | .dct _ _, e, h => by cases h
  | .set _, e, h => by cases h
  | .drw, e, h => by cases h
  | .cel _, e, h => by cases h
theorem eqDl_eq : ∀ {l m : List D}, eqDl l m = true → l = m
  | [], [], _ => rfl
  | [], _ :: _, h => by cases h
  | _ :: _, [], h => by cases h
  | a :: l, b :: m, h => by
    obtain ⟨h1, h2⟩ := Bool.and_eq_true_iff.mp (show (eqD a b && eqDl l m) = true from h)
    rw [eqD_eq h1, eqDl_eq h2]
end
mutual
theorem eqD_py : ∀ {d e : D}, alikeD d e = true → eqD d e = PyData.eqv (pyD d) (pyD e)
  | .int i, e, h => by
    cases e with
    | int j => show eqI i j = (i == j); exact eqI_beq
    | _ => cases h
  | .str s, e, h => by
    cases e with
    | str t => show eqL s t = ((⟨s.toArray⟩ : Str) == ⟨t.toArray⟩); exact eqL_beq
    | _ => cases h
  | .bl a, e, h => by
    cases e with
    | bl b => rfl
    | _ => cases h
  | .non, e, h => by cases e <;> first | rfl | cases h
  | .tup l, e, h => by
    cases e with
    | tup m => exact eqDl_py (l := l) (m := m) h
    | _ => cases h
  | .lst l, e, h => by
    cases e with
    | lst m => exact eqDl_py (l := l) (m := m) h
    | _ => cases h
  | .dct _ _, e, h => by cases h
  | .set _, e, h => by cases h
  | .drw, e, h => by cases h
  | .cel _, e, h => by cases h
theorem eqDl_py : ∀ {l m : List D}, alikeDl l m = true → eqDl l m = PyData.eqvAll (pyDs l) (pyDs m)
  | [], [], _ => rfl
  | [], _ :: _, _ => rfl
  | _ :: _, [], _ => rfl
  | a :: l, b :: m, h => by
    obtain ⟨h1, h2⟩ := Bool.and_eq_true_iff.mp (show (alikeD a b && alikeDl l m) = true from h)
    show (eqD a b && eqDl l m) = (PyData.eqv (pyD a) (pyD b) && PyData.eqvAll (pyDs l) (pyDs m))
    rw [eqD_py h1, eqDl_py h2]
end
mutual
theorem ltD_py : ∀ {d e : D}, alikeD d e = true → ltD d e = PySem.W.dataLt (pyD d) (pyD e)
  | .int i, e, h => by
    cases e with
    | int j => rw [show PySem.W.dataLt (pyD (.int i)) (pyD (.int j)) = decide (i < j) from PySem.W.dataLt_int _ _]; rfl
    | _ => cases h
  | .str s, e, h => by
    cases e with
    | str t => rw [show PySem.W.dataLt (pyD (.str s)) (pyD (.str t)) = _ from PySem.W.dataLt_str _ _]; exact (lt_str_eq s t).symm
    | _ => cases h
  | .bl a, e, h => by
    cases e with
    | bl b => cases a <;> cases b <;> rfl
    | _ => cases h
  | .non, e, h => by cases e <;> first | rfl | cases h
  | .tup l, e, h => by
    cases e with
    | tup m => exact ltDl_py (l := l) (m := m) h
    | _ => cases h
  | .lst l, e, h => by
    cases e with
    | lst m => exact ltDl_py (l := l) (m := m) h
    | _ => cases h
  | .dct _ _, e, h => by cases h
  | .set _, e, h => by cases h
  | .drw, e, h => by cases h
  | .cel _, e, h => by cases h
theorem ltDl_py : ∀ {l m : List D}, alikeDl l m = true → ltDl l m = PyProof.Rows.lexLt PyProof.Rows.itemOrd (PySem.W.keyToksAll (pyDs l)) (PySem.W.keyToksAll (pyDs m))
  | [], [], _ => rfl
  | [], _ :: _, _ => rfl
  | _ :: _, [], _ => rfl
  | a :: l, b :: m, h => by
    obtain ⟨h1, h2⟩ := Bool.and_eq_true_iff.mp (show (alikeD a b && alikeDl l m) = true from h)
    show (bif eqD a b then ltDl l m else ltD a b) = PyProof.Rows.lexLt PyProof.Rows.itemOrd (PySem.W.keyToksAll (pyD a :: pyDs l)) (PySem.W.keyToksAll (pyD b :: pyDs m))
    rw [eqD_py h1]
    cases c : PyData.eqv (pyD a) (pyD b) with
    | true =>
      rw [PySem.W.dataLt_all_yes (alike_py h1) c]
      exact ltDl_py h2
    | false =>
      rw [PySem.W.dataLt_all_no (alike_py h1) c]
      exact ltD_py h1
end
/-- neither is less: the same -/
theorem lt_anti {d e : D} (h : alikeD d e = true) (h' : alikeD e d = true) (h1 : ltD d e = false) (h2 : ltD e d = false) : d = e := by
  cases c : eqD d e with
  | true => exact eqD_eq c
  | false =>
    exfalso
    rw [ltD_py h] at h1
    rw [ltD_py h'] at h2
    have tk := PyProof.Rows.lex_total (O := PyProof.Rows.itemOrd) _ _ h1 h2
    rw [eqD_py h] at c
    have q := (PySem.W.toks_eqv _ _ (alike_py h)).2 c [] [.inl 0]
    rw [tk, PySem.W.lex_pre, PyProof.Rows.lex_irrefl (O := PyProof.Rows.itemOrd)] at q
    cases q
/-- the order of keys, of all data -/
abbrev leP (p q : D × D) : Bool := PySem.W.dataLe false (fun r : D × D => pyD r.1) p q
theorem leP_total : PySem.W.TotalLe leP := PySem.W.sortLe_total _ _ _
theorem leP_lt {p q : D × D} (h : alikeD q.1 p.1 = true) : leP p q = !ltD q.1 p.1 := by
  rw [ltD_py h]
  rfl
def AlikeP (l : List (D × D)) : Prop := ∀ p ∈ l, ∀ q ∈ l, alikeD p.1 q.1 = true
theorem AlikeP.tail {x : D × D} {l : List (D × D)} (h : AlikeP (x :: l)) : AlikeP l := fun p hp q hq => h p (List.mem_cons_of_mem _ hp) q (List.mem_cons_of_mem _ hq)
theorem insP_perm {x : D × D} : ∀ {l : List (D × D)}, (insP x l).Perm (x :: l)
  | [] => .refl _
  | y :: l => by
    show (bif ltD y.1 x.1 then y :: insP x l else x :: y :: l).Perm _
    cases ltD y.1 x.1 with
    | true => exact (List.Perm.cons y insP_perm).trans (List.Perm.swap x y l)
    | false => exact .refl _
theorem srtP_perm : ∀ {l : List (D × D)}, (srtP l).Perm l
  | [] => .refl _
  | x :: l => insP_perm.trans (srtP_perm.cons x)
theorem insP_pw {x : D × D} : ∀ {l : List (D × D)}, AlikeP (x :: l) → l.Pairwise (fun p q => leP p q = true) → (insP x l).Pairwise (fun p q => leP p q = true)
  | [], _, _ => by simp [insP]
  | y :: l, al, pw => by
    show (bif ltD y.1 x.1 then y :: insP x l else x :: y :: l).Pairwise _
    obtain ⟨p1, p2⟩ := List.pairwise_cons.mp pw
    have e1 : leP x y = !ltD y.1 x.1 := leP_lt (al y (by simp) x (by simp))
    cases c : ltD y.1 x.1 with
    | true =>
      rw [c] at e1
      have e2 : leP y x = true := (leP_total.total x y).resolve_left (by rw [e1]; decide)
      refine .cons (fun z hz => ?_) (insP_pw (fun p hp q hq => al p ?_ q ?_) p2)
      · rcases List.mem_cons.mp (insP_perm.mem_iff.mp hz) with rfl | hz
        · exact e2
        · exact p1 z hz
      · rcases List.mem_cons.mp hp with rfl | hp
        · simp
        · simp [hp]
      · rcases List.mem_cons.mp hq with rfl | hq
        · simp
        · simp [hq]
    | false =>
      rw [c] at e1
      refine .cons (fun z hz => ?_) pw
      rcases List.mem_cons.mp hz with rfl | hz
      · exact e1
      · exact leP_total.trans _ _ _ e1 (p1 z hz)
theorem srtP_pw : ∀ {l : List (D × D)}, AlikeP l → (srtP l).Pairwise (fun p q => leP p q = true)
  | [], _ => .nil
  | x :: l, al => insP_pw (fun p hp q hq => al p ((srtP_perm.cons x).mem_iff.mp hp) q ((srtP_perm.cons x).mem_iff.mp hq)) (srtP_pw al.tail)
theorem insP_filter {x z : D × D} : ∀ {l : List (D × D)}, AlikeP (x :: l) → (insP x l).filter (PySem.W.Srt.alike leP z) = (x :: l).filter (PySem.W.Srt.alike leP z)
  | [], _ => rfl
  | y :: l, al => by
    show (bif ltD y.1 x.1 then y :: insP x l else x :: y :: l).filter _ = _
    have e1 : leP x y = !ltD y.1 x.1 := leP_lt (al y (by simp) x (by simp))
    cases c : ltD y.1 x.1 with
    | false => rfl
    | true =>
      rw [c] at e1
      have ih := insP_filter (x := x) (z := z) (l := l) (fun p hp q hq => al p (by
        rcases List.mem_cons.mp hp with rfl | hp
        · simp
        · simp [hp]) q (by
        rcases List.mem_cons.mp hq with rfl | hq
        · simp
        · simp [hq]))
      rw [cond_true, List.filter_cons, ih, List.filter_cons, List.filter_cons, List.filter_cons]
      by_cases hx : PySem.W.Srt.alike leP z x = true
      · have hy : ¬ PySem.W.Srt.alike leP z y = true := fun hy => by
          obtain ⟨_, b⟩ := Bool.and_eq_true_iff.mp hx
          obtain ⟨a, _⟩ := Bool.and_eq_true_iff.mp hy
          rw [leP_total.trans _ _ _ b a] at e1
          cases e1
        rw [if_neg hy, if_pos hx, if_neg hy, if_pos hx]
      · rw [if_neg hx, if_neg hx]
theorem srtP_filter {z : D × D} : ∀ {l : List (D × D)}, AlikeP l → (srtP l).filter (PySem.W.Srt.alike leP z) = l.filter (PySem.W.Srt.alike leP z)
  | [], _ => rfl
  | x :: l, al => by
    show (insP x (srtP l)).filter _ = _
    rw [insP_filter (fun p hp q hq => al p ((srtP_perm.cons x).mem_iff.mp hp) q ((srtP_perm.cons x).mem_iff.mp hq)), List.filter_cons, List.filter_cons, srtP_filter al.tail]
theorem srtP_merge {l : List (D × D)} (al : AlikeP l) : srtP l = l.mergeSort leP :=
  PySem.W.Srt.the leP leP_total.trans (fun x y => Bool.or_eq_true_iff.mpr (leP_total.total x y)) (srtP_pw al) fun z => srtP_filter al
theorem alikeAll_mem : ∀ {l : List D}, alikeAll l = true → ∀ d ∈ l, ∀ e ∈ l, alikeD d e = true ∨ alikeD e d = true
  | [], _, d, hd, _, _ => by cases hd
  | x :: l, h, d, hd, e, he => by
    obtain ⟨h1, h2⟩ := Bool.and_eq_true_iff.mp (show (alikeD x x && (l.all (alikeD x) && alikeAll l)) = true from h)
    obtain ⟨h2, h3⟩ := Bool.and_eq_true_iff.mp h2
    rcases List.mem_cons.mp hd with z | hd'
    · rcases List.mem_cons.mp he with y | he'
      · rw [z, y]
        exact .inl h1
      · rw [z]
        exact .inl (List.all_eq_true.mp h2 e he')
    · rcases List.mem_cons.mp he with y | he'
      · rw [y]
        exact .inr (List.all_eq_true.mp h2 d hd')
      · exact alikeAll_mem h3 d hd' e he'
mutual
theorem alikeD_symm : ∀ {d e : D}, alikeD d e = true → alikeD e d = true
  | .int _, e, h => by cases e <;> first | rfl | cases h
  | .str _, e, h => by cases e <;> first | rfl | cases h
  | .bl _, e, h => by cases e <;> first | rfl | cases h
  | .non, e, h => by cases e <;> first | rfl | cases h
  | .tup l, e, h => by
    cases e with
    | tup m => exact alikeDl_symm (l := l) (m := m) h
    | _ => cases h
  | .lst l, e, h => by
    cases e with
    | lst m => exact alikeDl_symm (l := l) (m := m) h
    | _ => cases h
  | .dct _ _, e, h => by cases h
  | .set _, e, h => by cases h
  | .drw, e, h => by cases h
  | .cel _, e, h => by cases h
theorem alikeDl_symm : ∀ {l m : List D}, alikeDl l m = true → alikeDl m l = true
  | [], m, _ => by cases m <;> rfl
  | a :: l, [], _ => rfl
  | a :: l, b :: m, h => by
    obtain ⟨h1, h2⟩ := Bool.and_eq_true_iff.mp (show (alikeD a b && alikeDl l m) = true from h)
    show (alikeD b a && alikeDl m l) = true
    rw [alikeD_symm h1, alikeDl_symm h2]
    rfl
end
theorem alikeAll_all {l : List D} (h : alikeAll l = true) : ∀ d ∈ l, ∀ e ∈ l, alikeD d e = true := fun d hd e he => (alikeAll_mem h d hd e he).elim id alikeD_symm
theorem alikeP_of {l : List (D × D)} (h : alikeAll (l.map (·.1)) = true) : AlikeP l := fun p hp q hq => alikeAll_all h _ (List.mem_map_of_mem hp) _ (List.mem_map_of_mem hq)
mutual
theorem shal_depth : ∀ {d : D} {n : Nat}, shal d n = true → (pyD d).depth ≤ n
  | .tup l, 0, h => by cases h
  | .tup l, n + 1, h => Nat.succ_le_succ (shals_depth (l := l) h)
  | .lst l, 0, h => by cases h
  | .lst l, n + 1, h => Nat.succ_le_succ (shals_depth (l := l) h)
  | .non, n, _ => Nat.zero_le _
  | .bl _, n, _ => Nat.zero_le _
  | .int _, n, _ => Nat.zero_le _
  | .str _, n, _ => Nat.zero_le _
  | .dct _ _, n, _ => Nat.zero_le _
  | .set _, n, _ => Nat.zero_le _
  | .drw, n, _ => Nat.zero_le _
  | .cel _, n, _ => Nat.zero_le _
theorem shals_depth : ∀ {l : List D} {n : Nat}, shals l n = true → PyData.depthAll (pyDs l) ≤ n
  | [], n, _ => Nat.zero_le _
  | a :: l, n, h => by
    obtain ⟨h1, h2⟩ := Bool.and_eq_true_iff.mp (show (shal a n && shals l n) = true from h)
    exact Nat.max_le.mpr ⟨shal_depth h1, shals_depth h2⟩
end
theorem shals_mem : ∀ {l : List D} {n : Nat}, shals l n = true → ∀ d ∈ l, shal d n = true
  | [], _, _, d, hd => by cases hd
  | a :: l, n, h, d, hd => by
    obtain ⟨h1, h2⟩ := Bool.and_eq_true_iff.mp (show (shal a n && shals l n) = true from h)
    rcases List.mem_cons.mp hd with rfl | hd
    · exact h1
    · exact shals_mem h2 d hd
/-! ### what a heap tells of data -/
mutual
theorem reads_of {P : Program} {w : World} {dA : Addr} {ca : List Addr} {H : Hp} {h : Heap} (ok : HOk P w H h) : ∀ {d : D} {x : V} {v : Value}, alikeD d d = true → Rep dA ca H d x → RelV x v → ∃ as, Reads h v (pyD d) as
  | .int i, x, v, _, r, rx => by
    have r : x = .int i := r
    subst r
    obtain ⟨t, rfl⟩ := rx
    exact ⟨[], .int i t⟩
  | .str s, x, v, _, r, rx => by
    obtain ⟨r, _⟩ : x = .str ⟨s.toArray⟩ ∧ s.length ≤ sizeLine := r
    subst r
    obtain ⟨t, rfl⟩ := rx
    exact ⟨[], .str _ t⟩
  | .bl b, x, v, _, r, rx => by
    have r : x = .bl b := r
    subst r
    obtain rfl : v = .bool b := rx
    exact ⟨[], .bool b⟩
  | .non, x, v, _, r, rx => by
    have r : x = .non := r
    subst r
    obtain rfl : v = .none := rx
    exact ⟨[], .none⟩
  | .tup l, x, v, al, r, rx => by
    obtain ⟨a, xs, rfl, h1, h2⟩ := r
    obtain rfl : v = Value.ref a := rx
    obtain ⟨_, its, rv, o, q1, q2, n, q3⟩ := ok a _ h1
    obtain ⟨as, q⟩ := readsAll_of ok (l := l) al h2 rv
    exact ⟨as, .tuple q1 q2 q3 (by simpa using q)⟩
  | .lst l, x, v, al, r, rx => by
    obtain ⟨a, xs, rfl, h1, h2⟩ := r
    obtain rfl : v = Value.ref a := rx
    obtain ⟨_, its, n, rv, q1⟩ := ok a _ h1
    obtain ⟨as, q⟩ := readsAll_of ok (l := l) al h2 rv
    exact ⟨_, .list q1 rfl rfl (by simpa using q)⟩
  | .dct _ _, x, v, al, r, rx => by cases al
  | .set _, x, v, al, r, rx => by cases al
  | .drw, x, v, al, r, rx => by cases al
  | .cel _, x, v, al, r, rx => by cases al
theorem readsAll_of {P : Program} {w : World} {dA : Addr} {ca : List Addr} {H : Hp} {h : Heap} (ok : HOk P w H h) : ∀ {l : List D} {xs : List V} {vs : List Value}, alikeDl l l = true → Reps dA ca H l xs → Vals xs vs → ∃ as, ReadsAll h vs (pyDs l) as
  | [], xs, vs, _, r, rx => by
    have r : xs = [] := r
    subst r
    cases rx
    exact ⟨[], .nil⟩
  | d :: l, xs, vs, al, r, rx => by
    obtain ⟨h1, h2⟩ := Bool.and_eq_true_iff.mp (show (alikeD d d && alikeDl l l) = true from al)
    obtain ⟨x, ys, rfl, r1, r2⟩ := r
    cases rx with
    | cons q1 q2 =>
      obtain ⟨as, a1⟩ := reads_of ok h1 r1 q1
      obtain ⟨bs, a2⟩ := readsAll_of ok h2 r2 q2
      exact ⟨_, .cons a1 a2⟩
end
end W
/-! Z3: sorted(x) of data. -/
namespace W
open PySem L2
section
variable {prog : Program} {w : World} {A : Around} {E : Value → Shared → Prop} {s : Shared}
/-- the items of a tuple, collected -/
theorem coll_tup {a : Addr} {us : List Value} {Q : List Value → Shared → Prop} (ht : s.heap.IsTuple a us.toArray) (hz : us.length ≤ sizeLine) (h : ∀ h', (∀ b o, s.heap.get? b = some o → h'.get? b = some o) → Q us { s with heap := h' }) :
    wpAny (model prog w) A (collect (.ref a)) Q E s := by
  obtain ⟨o, ho, hc, n, hd⟩ := id ht
  have new : (s.heap.push (PyProof.Rows.seqObj "list" #[] 0)).get? s.heap.objs.size = some (PyProof.Rows.seqObj "list" #[] 0) := Heap.get?_push_size _ rfl
  have old : (s.heap.push (PyProof.Rows.seqObj "list" #[] 0)).get? a = some o := Heap.get?_push_of_some _ ho
  have ne : ∀ b o, s.heap.get? b = some o → b ≠ s.heap.objs.size := fun b o e => Nat.ne_of_lt (Heap.lt_size e)
  unfold collect
  refine wpAny_bind (wpAny_runValue (codeAny_builtin PyProof.Rows.entry_proto_collect' ?_))
  show wpAny _ _ (newList [] >>= fun l => again (.builtin "list.__iadd__" ⟨[l, .ref a], []⟩)) _ _ s
  refine wpAny_bind (wpAny_newList (wpAny_pure ⟨Code.quiet_builtin _ (by decide +kernel), codeAny_builtin PyProof.Rows.entry_list_iadd' ?_⟩))
  show wpAny _ _ (Builtin.List.listExtendWith (.ref s.heap.objs.size) (.ref a) (.ref s.heap.objs.size)) _ _ { s with heap := s.heap.push (PyProof.Rows.seqObj "list" #[] 0) }
  unfold Builtin.List.listExtendWith
  refine wpAny_bind (wpAny_typeOf (T := "tuple") ⟨o, old, hc⟩ ?_)
  rw [if_pos (by simp)]
  refine wpAny_bind (PyProof.Rows.listItems_at old hd ?_)
  refine wpAny_bind (PyProof.Rows.listItems_at (xs := #[]) (n := 0) new rfl ?_)
  rw [if_neg (by simp)]
  refine wpAny_bind (PyProof.Rows.listUpdate_at (xs := #[]) (n := 0) new rfl ?_ (Nat.zero_le _) (by show (#[] ++ us.toArray).size ≤ sizeLine + 1; simp only [Array.size_append, List.size_toArray, List.length_nil]; omega))
  refine wpAny_pure ?_
  refine wpAny_bind (wpAny_load (PyProof.Rows.get?_update_seq new _) ?_)
  show wpAny _ _ (pure ((#[] : Array Value) ++ us.toArray).toList) Q E _
  have e : ((#[] : Array Value) ++ us.toArray).toList = us := by simp
  rw [e]
  exact wpAny_pure (h _ fun b o e => (Heap.get?_update_other _ _ (Ne.symm (ne b o e))).trans (Heap.get?_push_of_some _ e))
end
section
variable {X : Cx} {g : Gd} {pins : List (Addr × Obj)} {σ : St} {H : Hp} {s : Shared} {dA : Addr} {ca : List Addr} {Hm : Hp}
theorem vals_each {κ : Type} {fk : D → Option κ} {kvs : List (Key × Value)} {us : List Value} (hl : us.length = kvs.length) (h : ∀ (j : Nat) v, us[j]? = some v → ∃ k x, kvs[j]? = some (k, x) ∧ keyIs k v = true) : Vals (kvs.map fun p => kV p.1) us := keys_at hl h
/-- what is walked, collected: by data -/
theorem coll_W {A' : Around} {d : D} {l : List D} {x : V} {u : Value} {Q : List Value → Shared → Prop} {E : Value → Shared → Prop} (hh : A'.handled = none) (I : Inv X pins σ H s) (le : Le Hm H)
    (r : (match d with
      | .lst l => ∃ a xs, x = .ref a ∧ H a = some (.lst xs) ∧ Reps dA ca Hm l xs
      | .dct ks vs => ∃ a, x = .ref a ∧ DctR dA ca Hm H a ks vs
      | d => Rep dA ca Hm d x)) (rx : RelV x u) (hs : iterO d = some l) (hz : l.length ≤ sizeLine) (tm : ∀ p ys, H p = some (.tup ys) → Hm p = some (.tup ys))
    (q : ∀ us xs h' tk, Vals xs us → Reps dA ca Hm l xs → (∀ b o, s.heap.get? b = some o → h'.get? b = some o) → Q us { s with heap := h', toks := tk }) : wpAny (model X.prog X.w) A' (collect u) Q E s := by
  cases d with
  | lst l' =>
    cases hs
    obtain ⟨a, xs, rfl, h1, h2⟩ := r
    obtain rfl : u = Value.ref a := rx
    obtain ⟨its, rv, hl, _⟩ := I.list (SqL.of (K := X.K) h1)
    refine PyProof.Rows.collect_list hl.isList (q its xs _ s.toks rv h2 fun b o e => ?_) (by rw [← rv.length, h2.length]; exact hz)
    exact (Heap.get?_update_other _ _ (Nat.ne_of_gt (Heap.lt_size e))).trans (Heap.get?_push_of_some _ e)
  | tup l' =>
    cases hs
    obtain ⟨a, xs, rfl, h1, h2⟩ := r
    obtain rfl : u = Value.ref a := rx
    obtain ⟨its, rv, ht, _⟩ := I.tuple (SqT.of (K := X.K) (le.t _ _ h1))
    exact coll_tup ht (by rw [← rv.length, h2.length]; exact hz) fun h' hk => q its xs h' s.toks rv h2 hk
  | str t =>
    cases hs
    obtain ⟨rfl, _⟩ := r
    obtain ⟨tk, rfl⟩ := rx
    refine wpAny_collect_str hh _ tk (fun s' acc hk h1 h2 h3 hacc => ?_) (by simpa using hz)
    have es : s' = { s with heap := s'.heap, toks := s'.toks } := by
      cases s'
      simp only at h1 h2 h3
      rw [h1, h2, h3]
    rw [es]
    refine q acc.toList (t.map fun c => V.str ⟨#[c]⟩) s'.heap s'.toks ?_ (signs_reps (by decide)) hk
    have ln : acc.toList.length = t.length := by rw [Array.length_toList, hacc.1]; simp
    have : ∀ (us : List Value) (t : List Nat), us.length = t.length → (∀ (j : Nat) v, us[j]? = some v → ∃ c tk, t[j]? = some c ∧ v = .str ⟨#[c]⟩ tk) → Vals (t.map fun c => V.str ⟨#[c]⟩) us := by
      intro us
      induction us with
      | nil => intro t h _; cases t <;> first | exact .nil | cases h
      | cons u us ih =>
        intro t h k
        cases t with
        | nil => cases h
        | cons c t =>
          obtain ⟨c', tk, e1, e2⟩ := k 0 u rfl
          cases e1
          exact .cons ⟨tk, e2⟩ (ih t (Nat.succ.inj h) fun j v e => by
            obtain ⟨c', tk, e1, e2⟩ := k (j + 1) v e
            exact ⟨c', tk, e1, e2⟩)
    refine this _ _ ln fun j v e => ?_
    obtain ⟨c, tk', e1, e2⟩ := hacc.2 j v (by rw [← Array.getElem?_toList]; exact e)
    exact ⟨c, tk', by simpa using e1, e2⟩
  | dct ks vs =>
    have hs : ks = l := Option.some.inj hs
    subst hs
    obtain ⟨a, rfl, ⟨kvs, h1, h2, h3⟩ | ⟨kvs, h1, h2, h3⟩⟩ := r
    · obtain rfl : u = Value.ref a := rx
      obtain ⟨z, lo, vs', rel, dd⟩ := dk_rd I.hok h1
      obtain ⟨ep, hat⟩ := dd.dictAt
      refine PySem.W.kdu_collect (A := A') (PySem.W.kdl_dict (knd := mixKind X.prog X.w) (kvs := vs') (ep := ep) lo) hh hat (by rw [← Paired.length rel]; exact z) fun h' tk acc hk hacc => ?_
      have ek : vs'.map (·.1) = kvs.map (·.1) := rel.keys.symm
      refine q acc.toList ((kvs.map (·.1)).map kV) h' tk ?_ (keysK_reps h2) hk
      have := keys_at (us := acc.toList) (vs := vs') (by rw [Array.length_toList, hacc.1]) fun j v e => hacc.2 j v (by rw [← Array.getElem?_toList]; exact e)
      rw [← ek, List.map_map]
      exact this
    · obtain rfl : u = Value.ref a := rx
      obtain ⟨z, lo, xs, rel, dd⟩ := dt_rd I.hok h1
      obtain ⟨es, ep, raw, ez, ent⟩ := Heap.DictOfH.raw (knd := tupleKind (mixKind X.prog X.w)) dd
      have lk : kvs.length = xs.length := Paired.length rel
      refine PySem.W.kdu_collect (A := A') (KdlSrc.rawDict (es := es) (ep := ep) lo) hh raw (by rw [ez, ← lk]; exact z) fun h' tk acc hk hacc => ?_
      have key : ∀ (us : List Value) (kvs : List (List Key × V)) (xs : List (List Key × Addr × Value)) (ks : List D), KT H kvs xs → us.length = xs.length → (∀ (j : Nat) v, us[j]? = some v → ∃ y, xs[j]? = some y ∧ v = .ref y.2.1) → KsR kTO ks (kvs.map (·.1)) →
          Vals (xs.map fun y => V.ref y.2.1) us ∧ Reps dA ca Hm ks (xs.map fun y => V.ref y.2.1) := by
        intro us kvs xs ks rel
        induction rel generalizing us ks with
        | nil =>
          intro h _ hk
          have e1 : us = [] := List.eq_nil_of_length_eq_zero h
          have e2 : ks = [] := by
            have := hk.length
            exact List.eq_nil_of_length_eq_zero this
          subst e1 e2
          exact ⟨.nil, rfl⟩
        | cons r1 r2 ih =>
          rename_i p y kvs xs
          intro h k hk
          cases us with
          | nil => cases h
          | cons u us =>
            obtain ⟨y', e1, e2⟩ := k 0 u rfl
            cases e1
            cases ks with
            | nil => cases hk
            | cons d ks =>
              obtain ⟨j, r', e3, e4, e5⟩ := hk
              rw [List.map_cons] at e3
              cases e3
              obtain ⟨i1, i2⟩ := ih us ks (Nat.succ.inj h) (fun j v e => k (j + 1) v (by simpa using e)) e5
              refine ⟨.cons e2 i1, ?_⟩
              cases d with
              | tup l => exact ⟨_, _, rfl, ⟨_, _, rfl, tm _ _ r1.2.1, ksO_reps e4⟩, i2⟩
              | _ => cases e4
      obtain ⟨q1, q2⟩ := key acc.toList kvs xs ks rel (by rw [Array.length_toList, hacc.1, ez]) (fun j v e => by
        obtain ⟨hi, ev⟩ := hacc.2 j v (by rw [← Array.getElem?_toList]; exact e)
        obtain ⟨y, y1, y2, _⟩ := ent j hi
        exact ⟨y, y1, by rw [ev, y2]⟩) h2
      exact q acc.toList _ h' tk q1 q2 hk
  | _ => cases hs
theorem items2_map : ∀ l : List (D × D), items2 l = l.map (·.2)
  | [] => rfl
  | (_, x) :: l => congrArg (x :: ·) (items2_map l)
theorem self2_fst : ∀ l : List D, (self2 l).map (·.1) = l
  | [] => rfl
  | x :: l => congrArg (x :: ·) (self2_fst l)
theorem each_of {R : Value → D × D → Prop} {l : List D} {xs : List V} {us : List Value} (h : ∀ d x u, Rep dA ca Hm d x → RelV x u → R u (d, d)) : Reps dA ca Hm l xs → Vals xs us → PySem.W.EachIs R us (self2 l) := by
  intro r v
  induction v generalizing l with
  | nil =>
    cases l with
    | nil => exact .nil
    | cons d l => obtain ⟨_, _, e, _⟩ := r; cases e
  | cons q1 q2 ih =>
    cases l with
    | nil => cases r
    | cons d l =>
      obtain ⟨x, ys, e, r1, r2⟩ := r
      cases e
      exact .cons (h d _ _ r1 q1) (ih r2)
theorem of_each {ps : List (D × D)} {out : List Value} (h : PySem.W.EachIs (fun (u : Value) (p : D × D) => ∃ x, Rep dA ca Hm p.2 x ∧ RelV x u) out ps) : ∃ xs, Vals xs out ∧ Reps dA ca Hm (items2 ps) xs := by
  induction h with
  | nil => exact ⟨[], .nil, rfl⟩
  | cons q1 q2 ih =>
    obtain ⟨x, r, rv⟩ := q1
    obtain ⟨xs, v, rs⟩ := ih
    rename_i a b as bs
    obtain ⟨k, d⟩ := b
    exact ⟨x :: xs, .cons rv v, x, xs, rfl, r, rs⟩
theorem each_mono {α β : Type} {R R' : α → β → Prop} (h : ∀ a b, R a b → R' a b) {as : List α} {bs : List β} (e : PySem.W.EachIs R as bs) : PySem.W.EachIs R' as bs := by
  induction e with
  | nil => exact .nil
  | cons q _ ih => exact .cons (h _ _ q) ih
theorem each_py {h : Heap} {l : List D} {us : List Value} (e : PySem.W.EachIs (fun (u : Value) (p : D × D) => ∃ as, Reads h u (pyD p.1) as) us (self2 l)) : PySem.W.EachIs (fun u d => ∃ as, Reads h u d as) us (l.map pyD) := by
  induction l generalizing us with
  | nil => cases e; exact .nil
  | cons d l ih =>
    cases e with
    | cons q1 q2 => exact .cons q1 (ih q2)
theorem sortable_of {l : List D} (al : alikeAll l = true) (h : (l.all isTupNE || l.all notTN) = true) : PySem.W.Sortable (l.map pyD) := by
  rcases Bool.or_eq_true_iff.mp h with h | h
  · refine .inl fun d hd => ?_
    obtain ⟨e, he, rfl⟩ := List.mem_map.mp hd
    have := List.all_eq_true.mp h e he
    cases e with
    | tup l =>
      cases l with
      | nil => cases this
      | cons a l => exact ⟨_, _, rfl⟩
    | _ => cases this
  · refine .inr fun d hd => ?_
    obtain ⟨e, he, rfl⟩ := List.mem_map.mp hd
    have := List.all_eq_true.mp h e he
    have self := alikeAll_all al e he e he
    cases e <;> first | (cases this; done) | (cases self; done) | exact ⟨(fun z => by cases z), (fun xs z => by cases z)⟩
/-- a new list of the items, sorted -/
theorem sort_call {A' : Around} {l : List D} {us : List Value} {xs : List V} {Q : Value → Shared → Prop} {E : Value → Shared → Prop} (hu : A'.units + 9 < cLine) (I : Inv X pins σ H s) (le : Le Hm H) (ok : sortOk l = true) (hz : l.length ≤ sizeLine) (rv : Vals xs us) (r : Reps dA ca Hm l xs)
    (q : ∀ p s' ys, H p = none → Reps dA ca Hm (sortL l) ys → Inv X pins σ (upd H p (.lst ys)) s' → Q (.ref p) s') :
    wpAny (model X.prog X.w) A' (newList us) (fun v s1 => wpAny (model X.prog X.w) A' (call (.builtin "list.sort") [v]) (fun _ s2 => Q v s2) E s1) E s := by
  obtain ⟨ok1, ok2⟩ := Bool.and_eq_true_iff.mp (show ((alikeAll l && (l.all isTupNE || l.all notTN)) && shals l 8) = true from ok)
  obtain ⟨al, so⟩ := Bool.and_eq_true_iff.mp ok1
  have lu : us.length = l.length := by rw [← rv.length, r.length]
  have zu : us.length ≤ sizeLine := by rw [lu]; exact hz
  refine wpAny_newList ?_ zu
  have hoL : (s.heap.push (PyProof.Rows.seqObj "list" us.toArray 0)).get? s.heap.objs.size = some (PyProof.Rows.seqObj "list" us.toArray 0) := Heap.get?_push_size _ rfl
  show wpAny _ _ _ _ _ { s with heap := s.heap.push (PyProof.Rows.seqObj "list" us.toArray 0) }
  have keep : ∀ b o, s.heap.get? b = some o → (PySem.W.sortingHeap (s.heap.push (PyProof.Rows.seqObj "list" us.toArray 0)) s.heap.objs.size us).get? b = some o := fun b o e =>
    PySem.W.sortingHeap_old (Nat.ne_of_lt (Heap.lt_size e)) (Heap.get?_push_of_some _ e)
  have each : PySem.W.EachIs (fun (u : Value) (p : D × D) => ∃ x, Rep dA ca Hm p.2 x ∧ RelV x u) us (self2 l) := each_of (fun d x u r rx => ⟨x, r, rx⟩) r rv
  have rd0 : PySem.W.EachIs (fun (u : Value) (p : D × D) => ∃ as, Reads (PySem.W.sortingHeap (s.heap.push (PyProof.Rows.seqObj "list" us.toArray 0)) s.heap.objs.size us) u (pyD p.1) as) us (self2 l) := by
    have mem : ∀ d ∈ l, alikeD d d = true := fun d hd => alikeAll_all al d hd d hd
    clear ok ok1 ok2 so al lu hz zu each q hoL
    generalize (PySem.W.sortingHeap (s.heap.push (PyProof.Rows.seqObj "list" us.toArray 0)) s.heap.objs.size us) = h2 at keep
    induction rv generalizing l with
    | nil =>
      cases l with
      | nil => exact .nil
      | cons d l => obtain ⟨_, _, e, _⟩ := r; cases e
    | cons q1 q2 ih =>
      cases l with
      | nil => cases r
      | cons d l =>
        obtain ⟨x, ys, e, r1, r2⟩ := r
        cases e
        obtain ⟨as, rd⟩ := reads_of I.hok (mem d (by simp)) (Rep.le (.refl _) le _ _ r1) q1
        exact .cons ⟨as, PySem.W.reads_keeps keep rd⟩ (ih r2 fun e he => mem e (by simp [he]))
  have rd := each_py rd0
  have aa : PySem.W.AllAlike (l.map pyD) := fun d hd d' hd' => by
    obtain ⟨e, he, rfl⟩ := List.mem_map.mp hd
    obtain ⟨e', he', rfl⟩ := List.mem_map.mp hd'
    exact alike_py (alikeAll_all al e he e' he')
  have S := PySem.W.SortsAt.data (prog := X.prog) (w := X.w) (A := A'.in1) (s := { s with heap := PySem.W.sortingHeap (s.heap.push (PyProof.Rows.seqObj "list" us.toArray 0)) s.heap.objs.size us }) rd aa (sortable_of al so) fun d hd => by
    obtain ⟨e, he, rfl⟩ := List.mem_map.mp hd
    have := shal_depth (shals_mem ok2 e he)
    show A'.units + 1 + _ < cLine
    omega
  refine wpAny_call_entry PyProof.Rows.slot_list_sort ⟨_, hoL, rfl⟩ PyProof.Rows.entry_list_sort
    (PySem.W.list_sort_vals (A := A'.in1) (s := { s with heap := s.heap.push (PyProof.Rows.seqObj "list" us.toArray 0) }) hoL S zu ⟨_, rfl, ?_⟩) (PyProof.Rows.args_list_sort _)
  have ko : PySem.W.KeyedOut false ((self2 l).map fun p => pyD p.1) us (PySem.W.sortVals (PySem.W.dataKind (PySem.W.sortingHeap (s.heap.push (PyProof.Rows.seqObj "list" us.toArray 0)) s.heap.objs.size us) (l.map pyD)) false us us) := by
    have e1 : ((self2 l).map fun p => pyD p.1) = l.map pyD := by
      rw [show (fun p : D × D => pyD p.1) = pyD ∘ Prod.fst from rfl, ← List.map_map, self2_fst]
    rw [e1]
    exact ⟨_, us, aa, rfl, rd⟩
  have out := PySem.W.keyedOut_each (R := fun (u : Value) (p : D × D) => ∃ x, Rep dA ca Hm p.2 x ∧ RelV x u) (fun p : D × D => pyD p.1) ko each
  rw [← srtP_merge (alikeP_of (by rw [self2_fst]; exact al))] at out
  obtain ⟨ys, vys, rys⟩ := of_each out
  generalize PySem.W.sortVals (PySem.W.dataKind (PySem.W.sortingHeap (s.heap.push (PyProof.Rows.seqObj "list" us.toArray 0)) s.heap.objs.size us) (l.map pyD)) false us us = vo at vys
  obtain ⟨e', he'⟩ := PyProof.Rows.sortedHeap_at (vs := us) (out := vo.toArray) hoL
  have ln : ys.length ≤ sizeLine := by
    have e1 : (items2 (srtP (self2 l))).length = l.length := by
      rw [items2_map, List.length_map, srtP_perm.length_eq]
      have := congrArg List.length (self2_fst l)
      rw [List.length_map] at this
      exact this
    rw [rys.length, e1]
    exact hz
  refine q s.heap.objs.size _ ys (I.hok.fresh (Nat.le_refl _)) rys (I.laid (t' := s.toks) (fun b u e => ?_) (Nat.le_refl _) (show ObjOk X.prog X.w _ _ _ (.lst ys) from ⟨ln, vo, e', vys, he'⟩))
  have hb : b < s.heap.objs.size := Heap.lt_size e
  rw [PyProof.Rows.sortedHeap_old (Nat.ne_of_lt hb) (by rw [PyProof.Rows.size_push']; exact Nat.lt_succ_of_lt hb)]
  exact Heap.get?_push_of_some _ e
/-- sorted(x) -/
theorem call_sortedW (hc : X.calm = true) (hu : X.A.units + 12 < cLine) : CallR X (.builtin "sorted") (rP1 g fun d => Prim.run .sorted [d]) := by
  intro pins s σ H xs us Q I r h
  obtain ⟨f, ca, A, d, z, x, rfl, he, rd, hp, q⟩ := h
  obtain ⟨u, rfl, ru⟩ := vals1 r
  have hp : (match someSeq d with | some l => sortO l | none => none) = some z := hp
  cases c : someSeq d with
  | none => rw [c] at hp; cases hp
  | some l =>
    rw [c] at hp
    obtain ⟨h1, h2⟩ := bif_some (show (bif sortOk l && Nat.ble l.length line then some (D.lst (sortL l)) else none) = some z from hp)
    subst h2
    obtain ⟨ok, hl⟩ := Bool.and_eq_true_iff.mp h1
    have hz : l.length ≤ sizeLine := by rw [← line_eq]; exact Nat.le_of_ble_eq_true hl
    have hit : iterO d = some l := by
      cases d with
      | set l' => exact rd.1.elim
      | _ => exact c
    refine Calls.call_function_entry PyProof.Rows.kind_sorted PyProof.Rows.plain_sorted PyProof.Rows.entry_sorted (PyProof.Rows.args_sorted1 _) ?_
    unfold Builtin.«sorted»
    refine wpAny_bind (m := checkCount "sorted" 1 1 _) (wpAny_pure ?_)
    refine wpAny_bind (coll_W (d := d) (x := x) (dA := g.dA) (ca := ca) (Hm := msk (bad g f ca A) H) (I.ok.hd hc) I le_msk ?_ ru hit hz (fun p ys e => msk_of (he.tup e) e) fun us xs h' tk rv rr hk => ?_)
    · have := rd.1
      cases d with
      | lst l' => exact this
      | dct ks vs => exact this
      | _ => exact this
    · have I1 : Inv X pins σ H { s with heap := h', toks := tk } := I.kept hk
      refine wpAny_bind (wpAny_mono (sort_call (A' := X.A.in1) (dA := g.dA) (ca := ca) (Hm := msk (bad g f ca A) H) (by show X.A.units + 1 + 9 < cLine; omega) I1 le_msk ok hz rv rr (Q := EP X pins σ Q) (E := X.xe) fun p s' ys hp' rs I' => ⟨.ref p, _, I', rfl, q _ _ (.upd hp') (repN_lst he hp' hp' rs)⟩) (fun v s1 hv => ?_) fun _ _ z => z)
      refine wpAny_bind (wpAny_holding (wpAny_mono hv (fun w' s2 hw => ?_) fun _ _ z => z))
      exact wpAny_pure ⟨_, rfl, hw⟩
end
end W
/-! Z4: built-ins of two things; dict(pairs); sums of ints. -/
namespace W
open PySem L2
/-- a built-in function of two data, kept -/
def rP2 (g : Gd) (p : D → D → Option D) : List V → Hp → VK → Prop := fun xs H Q => ∃ (f : Fm) (ca A : List Addr) (d e z : D) (x y : V), xs = [x, y] ∧ Here g f ca A H ∧ RepK g f ca A H true d x ∧ RepK g f ca A H true e y ∧ p d e = some z ∧ ∀ v H', Nw H H' → RepK g f ca A H' true z v → Q v H'
section
variable {X : Cx} {g : Gd} {xr : XR} {F : Nat → List D → M D} {O : Nat → Bool} {W : WX} {k ka kb : Kd} {pos : Pos}
theorem r_prim2 {p : Prim} {ma mb : E} {σ : St} {H : Hp} {Q : VK} (hk : ka ≠ .I) (hk' : kb ≠ .I) (h : tE g xr F O .K W (.prim p (.cons ma (.cons mb .nil))) σ H Q) : tCB (rP2 g fun d e => p.run [d, e]) (tCons (tE g xr F O ka W ma) (tCons (tE g xr F O kb W mb) tNil)) σ H Q := by
  obtain ⟨f, e, s, ca, A, ok, q⟩ := h
  change PostE g xr f ca A σ H H .K W (M.bind (M.bind (den F ma e) _) _ s) Q at q
  rw [bind_assoc'] at q
  refine tE.front ok q fun d s1 v H1 ca1 ok1 st1 r1 q1 => ?_
  change PostE g xr f ca1 A σ H H1 .K W (M.bind (M.bind (M.bind (den F mb e) _) _) _ s1) Q at q1
  rw [bind_assoc', bind_assoc'] at q1
  refine tE.front ok1 q1 fun d2 s2 v2 H2 ca2 ok2 st2 r2 q2 => ?_
  change PostE g xr f ca2 A σ H H2 .K W (M.ofO (p.run [d, d2]) s2) Q at q2
  cases c : p.run [d, d2] with
  | none => rw [c] at q2; exact q2.elim
  | some z =>
    rw [c] at q2
    exact ⟨f, ca2, A, d, d2, z, v, v2, rfl, ok2.here, (r1.kept hk).stp st2, r2.kept hk', c, fun v' H' nw r => q2.end ok2 nw r⟩
theorem s_prim2 {id : String} {x : Str} {p : Prim} {a b : Expr} {ma mb : E} {pp : Pos} (hc : CallR X (.builtin id) (rP2 g fun d e => p.run [d, e])) (hg : Gl X x) (hm : X.mg x = none) (hv : bootBuiltins x = some (.builtin id)) (hn : x ≠ "__name__") (hd : (x == ("__debug__" : Str)) = false)
    (ha : PE X a (tE g xr F O ka W ma)) (hb : PE X b (tE g xr F O kb W mb)) (hk : ka ≠ .I) (hk' : kb ≠ .I) (hs : starEach [a, b] X.env = (false, eval a X.env) :: starEach [b] X.env) (hs2 : starEach [b] X.env = (false, eval b X.env) :: starEach [] X.env) :
    PE X (.Call (.Name x pp) [a, b] [] pos) (tE g xr F O .K W (.prim p (.cons ma (.cons mb .nil)))) :=
  (pe_callB hc hg hm hv (pa_cons ha (pa_cons hb pa_nil hs2) hs) hn hd hs (by rw [hs2]; rfl)).imp fun σ H Q h => r_prim2 hk hk' h
theorem call_max2W (hc : X.calm = true) : CallR X (.builtin "max") (rP2 g fun d e => Prim.run .max2 [d, e]) := by
  intro pins s σ H xs us Q I r h
  obtain ⟨f, ca, A, d, e, z, x, y, rfl, he, r1, r2, hp, q⟩ := h
  cases d with
  | int i =>
    cases e with
    | int j =>
      cases hp
      obtain rfl := k_int r1
      obtain rfl := k_int r2
      refine call_max2 hc pins s σ H _ us Q I r ⟨i, j, rfl, ?_⟩
      have := q (.int (bif ltI i j then j else i)) H (.refl _) rfl
      unfold ltI at this
      by_cases c : i < j
      · rw [if_pos c]
        rwa [decide_eq_true c] at this
      · rw [if_neg c]
        rwa [decide_eq_false c] at this
    | _ => cases hp
  | _ => cases hp
theorem call_min2W (hc : X.calm = true) : CallR X (.builtin "min") (rP2 g fun d e => Prim.run .min2 [d, e]) := by
  intro pins s σ H xs us Q I r h
  obtain ⟨f, ca, A, d, e, z, x, y, rfl, he, r1, r2, hp, q⟩ := h
  cases d with
  | int i =>
    cases e with
    | int j =>
      cases hp
      obtain rfl := k_int r1
      obtain rfl := k_int r2
      refine call_min2 hc pins s σ H _ us Q I r ⟨i, j, rfl, ?_⟩
      have := q (.int (bif ltI j i then j else i)) H (.refl _) rfl
      unfold ltI at this
      by_cases c : j < i
      · rw [if_pos c]
        rwa [decide_eq_true c] at this
      · rw [if_neg c]
        rwa [decide_eq_false c] at this
    | _ => cases hp
  | _ => cases hp
theorem rows_of {dA : Addr} {ca : List Addr} {Hm H : Hp} (le : Le Hm H) : ∀ {l : List D} {xs : List V} {ls : List (List D)}, Reps dA ca Hm l xs → lstsO l = some ls → ∃ ys, Rows H xs ys ∧ Reps dA ca Hm (catL ls) ys
  | [], xs, ls, r, h => by
    cases r
    cases h
    exact ⟨[], rfl, rfl⟩
  | d :: l, xs, ls, r, h => by
    obtain ⟨x, zs, rfl, r1, r2⟩ := r
    cases d with
    | lst m =>
      change (match lstsO l with | some r => some (m :: r) | none => none) = some ls at h
      cases c : lstsO l with
      | none => rw [c] at h; cases h
      | some ms =>
        rw [c] at h
        cases h
        obtain ⟨a, y, rfl, h1, h2⟩ := r1
        obtain ⟨ys, q1, q2⟩ := rows_of le r2 c
        exact ⟨y ++ ys, ⟨a, y, ys, rfl, le.l _ _ h1, q1, rfl⟩, h2.append q2⟩
    | _ => cases h
theorem call_sumLW (hc : X.calm = true) : CallR X (.builtin "sum") (rP2 g fun d e => Prim.run .sumL [d, e]) := by
  intro pins s σ H xs us Q I r h
  obtain ⟨f, ca, A, d, e, z, x, y, rfl, he, r1, r2, hp, q⟩ := h
  cases d with
  | lst l =>
    cases e with
    | lst a =>
      change (match lstsO l with | some ls => bif Nat.ble (a ++ catL ls).length line then some (D.lst (a ++ catL ls)) else none | none => none) = some z at hp
      cases c : lstsO l with
      | none => rw [c] at hp; cases hp
      | some ls =>
        rw [c] at hp
        obtain ⟨h1, h2⟩ := bif_some hp
        subst h2
        obtain ⟨L, rows, rfl, l1, l2⟩ := r1
        obtain ⟨b, xs, rfl, b1, b2⟩ := r2
        obtain ⟨n1, l1⟩ := msk_some l1
        obtain ⟨n2, b1⟩ := msk_some b1
        obtain ⟨ys, q1, q2⟩ := rows_of (H := H) le_msk l2 c
        have hz : xs.length + ys.length ≤ sizeLine := by
          rw [b2.length, q2.length, ← List.length_append, ← line_eq]
          exact Nat.le_of_ble_eq_true h1
        refine call_sumL hc pins s σ H _ us Q I r ⟨L, b, rows, xs, ys, rfl, l1, b1, q1, hz, fun H' p nw hp ho => q _ H' nw ⟨p, _, rfl, msk_of ?_ hp, Reps.le (.refl _) (Le.nw nw _) _ _ (b2.append q2)⟩⟩
        rcases ho with rfl | ho
        · exact n2
        · exact he.free ho
    | _ => cases hp
  | _ => cases hp
theorem pairs_reps {ca : List Addr} {Hm : Hp} : ∀ {l : List D} {xs : List V} {q : List D × List D}, Reps g.dA ca Hm l xs → pairsK false l = some q → ∃ (ps : List Addr) (prs : List (V × V)), xs = ps.map V.ref ∧ PsR g ca Hm l prs ∧ Paired (fun (p : Addr) (q : V × V) => Hm p = some (.tup [q.1, q.2])) ps prs
  | [], xs, q, r, h => by
    cases r
    exact ⟨[], [], rfl, rfl, .nil⟩
  | d :: l, xs, q, r, h => by
    obtain ⟨x, zs, rfl, r1, r2⟩ := r
    match d, h, r1 with
    | .tup [k, v], h, r1 =>
      change (bif keyOk false k then (match pairsK false l with | some (ks, vs) => some (k :: ks, v :: vs) | none => none) else none) = some q at h
      cases c : keyOk false k with
      | false => rw [c] at h; cases h
      | true =>
        rw [c] at h
        change (match pairsK false l with | some (ks, vs) => some (k :: ks, v :: vs) | none => none) = some q at h
        cases c2 : pairsK false l with
        | none => rw [c2] at h; cases h
        | some q2 =>
          obtain ⟨a, ys, rfl, h1, y1, t1, rfl, k1, y2, t2, rfl, k2, e⟩ := r1
          cases e
          obtain ⟨ps, prs, rfl, p1, p2⟩ := pairs_reps r2 c2
          exact ⟨a :: ps, (y1, y2) :: prs, rfl, ⟨k, v, y1, y2, prs, rfl, rfl, k1, k2, p1⟩, .cons h1 p2⟩
theorem paired_map {α β γ : Type} {R : α → γ → Prop} {h : β → γ} : ∀ {as : List α} {bs : List β}, Paired R as (bs.map h) → Paired (fun a b => R a (h b)) as bs
  | [], [], _ => .nil
  | [], _ :: _, q => by cases q
  | _ :: _, [], q => by cases q
  | _ :: _, _ :: _, q => by
    cases q with
    | cons q1 q2 => exact .cons q1 (paired_map q2)
theorem paired_mono {α β : Type} {R R' : α → β → Prop} (h : ∀ a b, R a b → R' a b) {as : List α} {bs : List β} (q : Paired R as bs) : Paired R' as bs := by
  induction q with
  | nil => exact .nil
  | cons q1 _ ih => exact .cons (h _ _ q1) ih
theorem call_dictW (hc : X.calm = true) : CallR X (.type "dict") (rP1 g fun d => Prim.run .dict [d]) := by
  intro pins s σ H xs us Q I r h
  obtain ⟨f, ca, A, d, z, x, rfl, he, rd, hp, q⟩ := h
  cases d with
  | lst l =>
    change (match pairsK false l with | some (ks, vs) => some (D.dct (puts ks vs [] []).1 (puts ks vs [] []).2) | none => none) = some z at hp
    cases c : pairsK false l with
    | none => rw [c] at hp; cases hp
    | some w =>
      obtain ⟨k2, v2⟩ := w
      rw [c] at hp
      cases hp
      obtain ⟨a, xs, rfl, h1, h2⟩ := k_lst rd.1
      obtain ⟨ps, prs, rfl, p1, p2⟩ := pairs_reps h2 c
      obtain ⟨more, e1, m1, m2⟩ := puts_K (kvs := []) (ks := []) (vs := []) p1 c rfl rfl List.nodup_nil
      subst e1
      refine call_dictP hc pins s σ H _ us Q I r ⟨a, ps, more, rfl, SqL.of h1, paired_mono (fun p kv h => SqT.of (msk_some h).2) (paired_map (R := fun (p : Addr) (q : V × V) => msk (bad g f ca A) H p = some (.tup [q.1, q.2])) (h := fun kv : Key × V => (kV kv.1, kv.2)) p2), fun p hp => q _ _ (.upd hp) ?_⟩
      exact repN_dK he hp hp m1 m2
  | dct ks vs =>
    obtain ⟨h1, h2⟩ := bif_some (show (bif ks.all isKey1 && !ks.isEmpty then some (D.dct ks vs) else none) = some z from hp)
    subst h2
    obtain ⟨h1, h0⟩ := Bool.and_eq_true_iff.mp h1
    obtain ⟨a, rfl, ⟨kvs, q1, q2, q3⟩ | ⟨kvs, q1, q2, q3⟩⟩ := k_dct rd.1
    · exact call_dictD pins s σ H _ us Q I r ⟨a, kvs, rfl, q1, fun p hp => q _ _ (.upd hp) (repN_dK he hp hp q2 q3)⟩
    · exfalso
      cases ks with
      | nil => cases h0
      | cons k ks =>
        obtain ⟨j, r', _, e1, _⟩ := q2
        rw [List.all_cons, Bool.and_eq_true] at h1
        have t := keyT_of e1
        cases k <;> first | (cases h1.1; done) | (cases t; done)
  | _ => cases hp
end
end W
/-! Z5: list(zip(a, b)). -/
namespace W
open PySem L2
section
variable {prog : Program} {w : World} {A : Around} {E : Value → Shared → Prop} {s : Shared} {z TI TO T i1 i2 : Addr} {fp1 fp2 : List Addr} {n1 n2 i : Nat} {P1 P2 : Nat → Value → Prop} {St1 St2 : Nat → Heap → Prop}
/-- a pair is drawn while an earlier one is still about -/
theorem zheld_item {f : Bool} {oT : Obj} {Q : Value → Shared → Prop} (S : ZipSep2 z TI TO i1 i2 fp1 fp2) (D1 : Draws prog w A i1 fp1 n1 P1 St1) (D2 : Draws prog w A i2 fp2 n2 P2 St2) (hz : IsZipHeld s.heap z TI TO T f) (hT : s.heap.get? T = some oT)
    (hTI : IsTupOf2 s.heap TI (.ref i1) (.ref i2)) (st1 : St1 i s.heap) (st2 : St2 i s.heap) (l1 : i < n1) (l2 : i < n2)
    (hQ : ∀ x1 x2 h' tk, P1 i x1 → P2 i x2 → IsZipHeld h' z TI TO T true → St1 (i + 1) h' → St2 (i + 1) h' → IsTupOf2 h' s.heap.objs.size x1 x2 → (∀ c o, c ≠ z → c ≠ i1 → c ≠ i2 → s.heap.get? c = some o → h'.get? c = some o) → Q (.ref s.heap.objs.size) { s with heap := h', toks := tk }) :
    wpAny (model prog w) A (Builtin.«zip.__next__» ⟨[.ref z], []⟩) (fun fin s' => ∃ v, fin = .done (.ret v) ∧ Q v s') E s := by
  obtain ⟨hp, gs, dr, tk0, os⟩ := s
  show wpAny _ _ (field (.ref z) 2 >>= _) _ _ _
  refine wpAny_bind (wpAny_field hz rfl (x := .bool false) rfl ?_)
  show wpAny _ _ (field (.ref z) 3 >>= _) _ _ _
  refine wpAny_bind (wpAny_field hz rfl (x := .ref TI) rfl (wpAny_bind (wpAny_seqItems hTI rfl ?_)))
  show wpAny _ _ (Builtin.SmallTypes.ownedTupleIsFree (.ref z) >>= _) _ _ _
  refine wpAny_bind (wpAny_tupleHeld_zip hz hT fun g0 hz0 hs0 => ?_)
  replace hs0 : Heap.SameBut z hp g0 := hs0
  simp only [Bool.false_eq_true, if_false]
  refine wpAny_bind ?_
  rw [← Array.forIn_toList]
  simp only [List.forIn_cons, List.forIn_nil]
  refine wpAny_bind (wpAny_bind (wpAny_holding ?_))
  show wpAny _ _ (Builtin.SmallTypes.nextOf (.ref i1) >>= _) _ _ ⟨g0, gs, dr, tk0, os⟩
  refine wpAny_bind (D1.item i _ _ _ l1 (D1.over st1 hs0 S.zf1) fun x1 g1 tk1 q1 sn1 hs1 => wpAny_pure (wpAny_pure ?_))
  replace hs1 : Heap.SameBut i1 g0 g1 := hs1
  refine wpAny_bind (wpAny_bind (wpAny_holding ?_))
  show wpAny _ _ (Builtin.SmallTypes.nextOf (.ref i2) >>= _) _ _ ⟨g1, gs, dr, tk1, os⟩
  refine wpAny_bind (D2.item i _ _ _ l2 (D2.over (D2.over st2 hs0 S.zf2) hs1 S.sep1_2) fun x2 g2 tk2 q2 sn2 hs2 => wpAny_pure (wpAny_pure (wpAny_pure ?_)))
  replace hs2 : Heap.SameBut i2 g1 g2 := hs2
  show wpAny _ _ (newTuple [x1, x2] >>= _) _ _ _
  refine wpAny_bind (wpAny_newTuple (wpAny_pure ⟨_, rfl, ?_⟩))
  have sz : g2.objs.size = hp.objs.size := by rw [hs2.1, hs1.1, hs0.1]
  have tup : IsTupOf2 (g2.push { cls := .type "tuple", data := .seq #[x1, x2] }) g2.objs.size x1 x2 := Heap.get?_push_size _ rfl
  have kp : ∀ c o, c ≠ z → c ≠ i1 → c ≠ i2 → hp.get? c = some o → (g2.push { cls := .type "tuple", data := .seq #[x1, x2] }).get? c = some o := fun c o a b d e => Heap.get?_push_of_some _ (hs2.extBut _ _ d (hs1.extBut _ _ b (hs0.extBut _ _ a e)))
  show Q (.ref g2.objs.size) ⟨g2.push { cls := .type "tuple", data := .seq #[x1, x2] }, gs, dr, tk2, os⟩
  rw [sz] at tup ⊢
  exact hQ x1 x2 _ tk2 q1 q2 (Heap.get?_push_of_some _ (hs2.extBut _ _ S.zi2 (hs1.extBut _ _ S.zi1 hz0))) (D1.frame _ _ _ (D1.over sn1 hs2 S.sep2_1) fun b _ o e => Heap.get?_push_of_some _ e) (D2.frame _ _ _ sn2 fun b _ o e => Heap.get?_push_of_some _ e) tup kp
theorem zheld_end {f : Bool} {oT : Obj} {Q : PySem.Fin → Shared → Prop} (S : ZipSep2 z TI TO i1 i2 fp1 fp2) (D1 : Draws prog w A i1 fp1 n1 P1 St1) (D2 : Draws prog w A i2 fp2 n2 P2 St2) (hz : IsZipHeld s.heap z TI TO T f) (hT : s.heap.get? T = some oT)
    (hTI : IsTupOf2 s.heap TI (.ref i1) (.ref i2)) (st1 : St1 i s.heap) (st2 : St2 i s.heap) (hle1 : i ≤ n1) (hle2 : i ≤ n2) (hend : i = n1 ∨ i = n2)
    (hE : ∀ h' tk e, (∀ c o, c ≠ z → c ≠ i1 → c ≠ i2 → s.heap.get? c = some o → h'.get? c = some o) → (∃ o, h'.get? e = some o ∧ o.cls = .type "StopIteration") → E (.ref e) { s with heap := h', toks := tk }) :
    wpAny (model prog w) A (Builtin.«zip.__next__» ⟨[.ref z], []⟩) Q E s := by
  obtain ⟨hp, gs, dr, tk0, os⟩ := s
  show wpAny _ _ (field (.ref z) 2 >>= _) _ _ _
  refine wpAny_bind (wpAny_field hz rfl (x := .bool false) rfl ?_)
  show wpAny _ _ (field (.ref z) 3 >>= _) _ _ _
  refine wpAny_bind (wpAny_field hz rfl (x := .ref TI) rfl (wpAny_bind (wpAny_seqItems hTI rfl ?_)))
  show wpAny _ _ (Builtin.SmallTypes.ownedTupleIsFree (.ref z) >>= _) _ _ _
  refine wpAny_bind (wpAny_tupleHeld_zip hz hT fun g0 hz0 hs0 => ?_)
  replace hs0 : Heap.SameBut z hp g0 := hs0
  simp only [Bool.false_eq_true, if_false]
  refine wpAny_bind ?_
  rw [← Array.forIn_toList]
  simp only [List.forIn_cons, List.forIn_nil]
  refine wpAny_bind (wpAny_bind (wpAny_holding ?_))
  show wpAny _ _ (Builtin.SmallTypes.nextOf (.ref i1) >>= _) _ _ ⟨g0, gs, dr, tk0, os⟩
  by_cases l1 : i < n1
  · refine wpAny_bind (D1.item i _ _ _ l1 (D1.over st1 hs0 S.zf1) fun x1 g1 tk1 q1 sn1 hs1 => wpAny_pure (wpAny_pure ?_))
    replace hs1 : Heap.SameBut i1 g0 g1 := hs1
    have e2 : i = n2 := by omega
    refine wpAny_bind (wpAny_bind (wpAny_holding ?_))
    show wpAny _ _ (Builtin.SmallTypes.nextOf (.ref i2) >>= _) _ _ ⟨g1, gs, dr, tk1, os⟩
    refine wpAny_bind (D2.done ⟨g1, gs, dr, tk1, os⟩ _ _ (by rw [← e2]; exact D2.over (D2.over st2 hs0 S.zf2) hs1 S.sep1_2) fun q e hq he => ?_)
    exact hE q tk1 e (fun c o a b d x => hq c o d (hs1.extBut _ _ b (hs0.extBut _ _ a x))) he
  · have e1 : i = n1 := by omega
    refine wpAny_bind (D1.done ⟨g0, gs, dr, tk0, os⟩ _ _ (by rw [← e1]; exact D1.over st1 hs0 S.zf1) fun q e hq he => ?_)
    exact hE q tk0 e (fun c o a b d x => hq c o b (hs0.extBut _ _ a x)) he
end
section
variable {X : Cx} {pins : List (Addr × Obj)} {σ : St} {H : Hp} {s : Shared} {z TI TO i1 i2 : Addr} {S T : Src} {xs ys : List V} {i : Nat}
/-- a zip: no pair given out yet, or one that is tracked -/
def ZS (h : Heap) (H : Hp) (z TI TO : Addr) : Prop := IsZip h z TI TO .none ∨ ∃ q f ts, IsZipHeld h z TI TO q f ∧ H q = some (.tup ts)
structure ZAt (h : Heap) (H : Hp) (z TI TO i1 i2 : Addr) (S T : Src) (i : Nat) : Prop where
  zs : ZS h H z TI TO
  ti : IsTupOf2 h TI (.ref i1) (.ref i2)
  to : ∃ a1 a2, IsTupOf2 h TO a1 a2
  s : S.It h i1 i
  t : T.It h i2 i
theorem ZS.obj {h : Heap} (a : ZS h H z TI TO) : ∃ o, h.get? z = some o ∧ ∀ v, o.data ≠ .cell v := by
  rcases a with a | ⟨q, f, ts, a, _⟩
  · exact ⟨_, a, fun v q => nomatch q⟩
  · exact ⟨_, a, fun v q => nomatch q⟩
theorem ZS.ty {s : Shared} (a : ZS s.heap H z TI TO) : s.TypeIs (.ref z) "zip" := by
  rcases a with a | ⟨q, f, ts, a, _⟩
  · exact ⟨_, a, rfl⟩
  · exact ⟨_, a, rfl⟩
theorem live_tup {q : Addr} {ts : List V} (I : Inv X pins σ H s) (h : H q = some (.tup ts)) : ∃ o, s.heap.get? q = some o := by
  obtain ⟨_, its, _, o, e, _⟩ := I.hok q _ h
  exact ⟨o, e⟩
theorem zip_step {A : Around} {E : Value → Shared → Prop} {Q : Option Value → Shared → Prop} (hh : A.handled = none) (I : Inv X pins σ H s) (a : Apart z TI TO i1 i2 S T) (st : ZAt s.heap H z TI TO i1 i2 S T i) (a1 : S.At X.K H xs) (a2 : T.At X.K H ys) (l1 : i < xs.length) (l2 : i < ys.length)
    (hf : ∀ b ∈ [z, TI, TO, i1, i2], FpOk X pins H b)
    (hQ : ∀ q x y h' tk, xs[i]? = some x → ys[i]? = some y → H q = none → s.heap.objs.size ≤ q → Inv X pins σ (upd H q (.tup [x, y])) { s with heap := h', toks := tk } → ZAt h' (upd H q (.tup [x, y])) z TI TO i1 i2 S T (i + 1) → (∀ c o, c ∉ [z, TI, TO, i1, i2] → s.heap.get? c = some o → h'.get? c = some o) → Q (some (.ref q)) { s with heap := h', toks := tk }) :
    wpAny (model X.prog X.w) A (pyNext (.ref z)) Q E s := by
  have hh1 : A.in1.handled = none := hh
  obtain ⟨P1, St1, D1, s1, r1, k1⟩ := src_draws (A := A.in1) I hh1 a1 st.s (a.s i1 (by simp)).1
  obtain ⟨P2, St2, D2, s2, r2, k2⟩ := src_draws (A := A.in1) I hh1 a2 st.t (a.s i2 (by simp)).2
  have hn : H s.heap.objs.size = none := I.hok.fresh (Nat.le_refl _)
  have fin : ∀ x1 x2 h' tk, P1 i x1 → P2 i x2 → ZS h' (upd H s.heap.objs.size (.tup [(xs[i]'l1), (ys[i]'l2)])) z TI TO → IsTupOf2 h' TI (.ref i1) (.ref i2) → (∃ b1 b2, IsTupOf2 h' TO b1 b2) → St1 (i + 1) h' → St2 (i + 1) h' → IsTupOf2 h' s.heap.objs.size x1 x2 → (∀ c o, c ∉ [z, TI, TO, i1, i2] → s.heap.get? c = some o → h'.get? c = some o) → Q (some (.ref s.heap.objs.size)) { s with heap := h', toks := tk } := fun x1 x2 h' tk p1 p2 zs ti to n1 n2 tup hk => by
    obtain ⟨x, ex, rx⟩ := r1 i x1 p1
    obtain ⟨y, ey, ry⟩ := r2 i x2 p2
    have e1 : xs[i]'l1 = x := by rw [List.getElem?_eq_getElem l1] at ex; exact Option.some.inj ex
    have e2 : ys[i]'l2 = y := by rw [List.getElem?_eq_getElem l2] at ey; exact Option.some.inj ey
    rw [e1, e2] at zs
    exact hQ s.heap.objs.size x y h' tk ex ey hn (Nat.le_refl _) (I.turnedNew (t' := tk) (ch := [z, TI, TO, i1, i2]) (fun c o hb e => hk c o hb e) hf (Nat.le_refl _) (pair_ok rx ry ⟨_, tup, rfl, _, rfl⟩)) ⟨zs, ti, to, k1 _ _ n1, k2 _ _ n2⟩ hk
  have nd := a.nd
  simp only [List.nodup_cons, List.mem_cons, List.mem_singleton, not_or, List.not_mem_nil, not_false_eq_true, and_true] at nd
  obtain ⟨⟨h1, h2, h3, h4⟩, ⟨h5, h6, h7⟩, ⟨h8, h9⟩, h10, _⟩ := nd
  obtain ⟨b1, b2, hTO⟩ := st.to
  rcases st.zs with hz | ⟨q, f, ts, hz, hq⟩
  · refine wpAny_pyNext_zipD2_item a.sep D1 D2 hz st.ti hTO s1 s2 l1 l2 fun x1 x2 h' tk p1 p2 hz' hTO' n1 n2 tup _ hk => ?_
    refine fin x1 x2 h' tk p1 p2 (.inr ⟨_, false, _, hz', upd_same⟩) (hk TI _ (Ne.symm h1) h5 h6 h7 st.ti) ⟨_, _, hTO'⟩ n1 n2 tup fun c o hc e => ?_
    simp only [List.mem_cons, List.not_mem_nil, or_false, not_or] at hc
    exact hk c o hc.1 hc.2.2.1 hc.2.2.2.1 hc.2.2.2.2 e
  · obtain ⟨oT, hoT⟩ := live_tup I hq
    unfold pyNext
    refine wpAny_bind (wpAny_attempt (wpAny_callSpecial?_slot (name := Str.ofString "__next__") st.zs.ty PySem.F.slot_zip_next (wpAny_call_entry PySem.F.slot_zip_next st.zs.ty PySem.F.entry_zip_next
      (zheld_item a.sep D1 D2 hz hoT st.ti s1 s2 l1 l2 fun x1 x2 h' tk p1 p2 hz' n1 n2 tup hk => wpAny_pure ?_) (PySem.F.args_zip_next_1 _))))
    refine fin x1 x2 h' tk p1 p2 (.inr ⟨q, true, ts, hz', ?_⟩) (hk TI _ (Ne.symm h1) h6 h7 st.ti) ⟨_, _, hk TO _ (Ne.symm h2) h8 h9 hTO⟩ n1 n2 tup fun c o hc e => ?_
    · rw [upd_ne (fun e => by rw [e, hn] at hq; cases hq)]
      exact hq
    · simp only [List.mem_cons, List.not_mem_nil, or_false, not_or] at hc
      exact hk c o hc.1 hc.2.2.2.1 hc.2.2.2.2 e
theorem zip_stop {A : Around} {E : Value → Shared → Prop} {Q : Option Value → Shared → Prop} (hh : A.handled = none) (I : Inv X pins σ H s) (a : Apart z TI TO i1 i2 S T) (st : ZAt s.heap H z TI TO i1 i2 S T i) (a1 : S.At X.K H xs) (a2 : T.At X.K H ys) (e1 : i = min xs.length ys.length)
    (hf : ∀ b ∈ [z, TI, TO, i1, i2], FpOk X pins H b)
    (hQ : ∀ h' tk, Inv X pins σ H { s with heap := h', toks := tk } → (∀ c o, c ∉ [z, TI, TO, i1, i2] → s.heap.get? c = some o → h'.get? c = some o) → Q none { s with heap := h', toks := tk }) :
    wpAny (model X.prog X.w) A (pyNext (.ref z)) Q E s := by
  have hh1 : A.in1.handled = none := hh
  obtain ⟨P1, St1, D1, s1, r1, k1⟩ := src_draws (A := A.in1) I hh1 a1 st.s (a.s i1 (by simp)).1
  obtain ⟨P2, St2, D2, s2, r2, k2⟩ := src_draws (A := A.in1) I hh1 a2 st.t (a.s i2 (by simp)).2
  have fin : ∀ h' tk, (∀ c o, c ≠ z → c ≠ TO → c ≠ i1 → c ≠ i2 → s.heap.get? c = some o → h'.get? c = some o) → Q none { s with heap := h', toks := tk } := fun h' tk hk => by
    have hk' : ∀ c o, c ∉ [z, TI, TO, i1, i2] → s.heap.get? c = some o → h'.get? c = some o := fun c o hc e => by
      simp only [List.mem_cons, List.not_mem_nil, or_false, not_or] at hc
      exact hk c o hc.1 hc.2.2.1 hc.2.2.2.1 hc.2.2.2.2 e
    exact hQ h' tk (I.turnedL (t' := tk) (ch := [z, TI, TO, i1, i2]) (fun c o hb e => hk' c o hb e) hf) hk'
  obtain ⟨b1, b2, hTO⟩ := st.to
  rcases st.zs with hz | ⟨q, f, ts, hz, hq⟩
  · exact wpAny_pyNext_zipD2_end a.sep D1 D2 hz st.ti hTO s1 s2 (by omega) (by omega) (by omega) fin
  · obtain ⟨oT, hoT⟩ := live_tup I hq
    unfold pyNext
    refine wpAny_bind (wpAny_attempt (wpAny_callSpecial?_slot (name := Str.ofString "__next__") st.zs.ty PySem.F.slot_zip_next (wpAny_call_entry PySem.F.slot_zip_next st.zs.ty PySem.F.entry_zip_next
      (zheld_end a.sep D1 D2 hz hoT st.ti s1 s2 (by omega) (by omega) (by omega) fun h' tk e hk he => ?_) (PySem.F.args_zip_next_1 _))))
    obtain ⟨o, ho, hc⟩ := he
    refine wpAny_bind (wpAny_isInstance (T := "StopIteration") (b := true) ⟨o, ho, hc⟩ isSubtype_stop ?_)
    exact wpAny_pure (fin h' tk fun c o a _ b d e => hk c o a b d e)
theorem src_keep {K : PySem.W.Frag} {H' : Hp} {S : Src} {zs : List V} (h : ∀ b o, b ∈ S.ads → H b = some o → H' b = some o) (a : S.At K H zs) : S.At K H' zs := by
  cases S with
  | l b =>
    rcases a with (a | ⟨o, a⟩) | a
    · exact .inl (.inl (h b _ (by simp [Src.ads]) a))
    · exact .inl (.inr ⟨o, h b _ (by simp [Src.ads]) a⟩)
    · exact .inr a
  | t b =>
    rcases a with (a | ⟨o, a⟩) | a
    · exact .inl (.inl (h b _ (by simp [Src.ads]) a))
    · exact .inl (.inr ⟨o, h b _ (by simp [Src.ads]) a⟩)
    · exact .inr a
  | s z => exact a
theorem Src.It.mv {S : Src} {h h' : Heap} {it : Addr} {i : Nat} (st : S.It h it i) (k : ∀ o, h.get? it = some o → h'.get? it = some o) : S.It h' it i := Src.keep st k
/-- the pairs put into a list -/
theorem zip_loop (hc : X.calm = true) {L : Addr} {R : Result → Shared → Prop} (a : Apart z TI TO i1 i2 S T) (hL : L ∉ [z, TI, TO, i1, i2]) (hLS : L ∉ S.ads) (hLT : L ∉ T.ads) (hz : min xs.length ys.length ≤ sizeLine) {H0 : Hp} : ∀ (k i : Nat) (H : Hp) (s : Shared) (ts : List Addr), i + k = min xs.length ys.length →
    Inv X pins σ H s → ZAt s.heap H z TI TO i1 i2 S T i → S.At X.K H xs → T.At X.K H ys → H L = some (.lst (ts.map V.ref)) → ts.length = i → (∀ (j : Nat) (t : Addr), ts[j]? = some t → ∃ x y, xs[j]? = some x ∧ ys[j]? = some y ∧ H t = some (.tup [x, y])) → (∀ b ∈ [z, TI, TO, i1, i2], FpOk X pins H b) → (∀ b o, b ≠ L → H0 b = some o → H b = some o) → H0 L = none →
    (∀ (H' : Hp) (s' : Shared) (ts' : List Addr), Inv X pins σ H' s' → (∀ b o, b ≠ L → H0 b = some o → H' b = some o) → H' L = some (.lst (ts'.map V.ref)) → ts'.length = min xs.length ys.length → (∀ (j : Nat) (t : Addr), ts'[j]? = some t → ∃ x y, xs[j]? = some x ∧ ys[j]? = some y ∧ H' t = some (.tup [x, y])) → R (.ok (.ret .none)) s') →
    codeAny (model X.prog X.w) X.A (.builtin "list.extend.loop" ⟨[.ref L, .ref z, .none], []⟩) R s := by
  intro k
  induction k with
  | zero =>
    intro i H s ts hi I st a1 a2 hLs hl ht hf hk hn hR
    refine codeAny_builtin PySem.F.entry_extend_loop ?_
    rw [Around.under_plainId PySem.F.plain_extend_loop _]
    show wpAny _ X.A.in1 (pyNext (.ref z) >>= _) _ _ s
    refine wpAny_bind (zip_stop (A := X.A.in1) (I.ok.hd hc) I a st a1 a2 (by omega) hf fun h' tk I' _ => ?_)
    exact wpAny_pure (hR H _ ts I' hk hLs (by omega) ht)
  | succ k ih =>
    intro i H s ts hi I st a1 a2 hLs hl ht hf hk hn hR
    refine codeAny_builtin PySem.F.entry_extend_loop ?_
    rw [Around.under_plainId PySem.F.plain_extend_loop _]
    show wpAny _ X.A.in1 (pyNext (.ref z) >>= _) _ _ s
    refine wpAny_bind (zip_step (A := X.A.in1) (I.ok.hd hc) I a st a1 a2 (by omega) (by omega) hf fun q x y h' tk ex ey hq hqs I' st' hk' => ?_)
    have hqL : q ≠ L := fun e => by rw [e, hLs] at hq; cases hq
    have hL1 : upd H q (.tup [x, y]) L = some (.lst (ts.map V.ref)) := by rw [upd_ne (Ne.symm hqL)]; exact hLs
    obtain ⟨its, n, rv, ho, _⟩ := I'.lst hL1
    show wpAny _ X.A.in1 (updateSeq L (·.push (.ref q)) >>= _) _ _ _
    have ln : its.length = i := by rw [← rv.length, List.length_map, hl]
    refine wpAny_bind (wpAny_updateSeq ho rfl (wpAny_pure ⟨plainId_quiet PySem.F.plain_extend_loop _, ?_⟩) (by rw [List.size_toArray]; omega) (by show (its.toArray.push _).size ≤ sizeLine + 1; rw [Array.size_push, List.size_toArray]; omega))
    have nw1 : Nw H (upd H q (.tup [x, y])) := .upd hq
    have I2 : Inv X pins σ (upd (upd H q (.tup [x, y])) L (.lst ((ts ++ [q]).map V.ref))) { s with heap := h'.update L (Obj.mapSeq (·.push (.ref q))), toks := tk } := I'.lset (its' := its ++ [.ref q]) hL1 ho (by simp) (by rw [List.map_append]; exact rv.append (.cons rfl .nil)) (by rw [List.length_map, List.length_append]; simp only [List.length_singleton]; omega)
    have oth : ∀ b, b ≠ L → upd (upd H q (.tup [x, y])) L (.lst ((ts ++ [q]).map V.ref)) b = upd H q (.tup [x, y]) b := fun b hb => upd_ne hb
    have hH : ∀ b o, b ≠ L → H b = some o → upd (upd H q (.tup [x, y])) L (.lst ((ts ++ [q]).map V.ref)) b = some o := fun b o hb e => by rw [oth b hb]; exact nw1 _ _ e
    have hbL : ∀ b ∈ [z, TI, TO, i1, i2], b ≠ L := fun b hb e => hL (e ▸ hb)
    have kp : ∀ b o, b ≠ L → h'.get? b = some o → (h'.update L (Obj.mapSeq (·.push (.ref q)))).get? b = some o := fun b o hb e => (Heap.get?_update_other _ _ (Ne.symm hb)).trans e
    have hb0 : ∀ b ∈ [z, TI, TO, i1, i2], upd (upd H q (.tup [x, y])) L (.lst ((ts ++ [q]).map V.ref)) b = none := fun b hb => by
      rw [oth b (hbL b hb)]
      have hlt : b < s.heap.objs.size := by
        have cs : b = z ∨ b = TI ∨ b = TO ∨ b = i1 ∨ b = i2 := by simpa using hb
        obtain ⟨c1, c2, c3⟩ := st.to
        rcases cs with rfl | rfl | rfl | rfl | rfl
        · obtain ⟨o, e, _⟩ := st.zs.obj; exact Heap.lt_size e
        · exact Heap.lt_size st.ti
        · exact Heap.lt_size c3
        · obtain ⟨o, e, _⟩ := Src.obj st.s; exact Heap.lt_size e
        · obtain ⟨o, e, _⟩ := Src.obj st.t; exact Heap.lt_size e
      rw [upd_ne (Nat.ne_of_lt (Nat.lt_of_lt_of_le hlt hqs))]
      exact (hf b hb).1
    refine ih (i + 1) _ _ (ts ++ [q]) (by omega) I2 ⟨?_, ?_, ?_, ?_, ?_⟩ (src_keep (fun b o hb e => hH b o (fun e' => hLS (e' ▸ hb)) e) a1) (src_keep (fun b o hb e => hH b o (fun e' => hLT (e' ▸ hb)) e) a2) upd_same (by rw [List.length_append, hl]; rfl) (fun j t e => ?_) (fun b hb => fp_of I (hf b hb) (hb0 b hb)) (fun b o hb e => hH b o hb (hk b o hb e)) hn hR
    · rcases st'.zs with w | ⟨q', f', ts', w, hq'⟩
      · exact .inl (kp _ _ (hbL z (by simp)) w)
      · refine .inr ⟨q', f', ts', kp _ _ (hbL z (by simp)) w, ?_⟩
        rw [oth q' (fun e => by rw [e, hL1] at hq'; cases hq')]
        exact hq'
    · exact kp _ _ (hbL TI (by simp)) st'.ti
    · obtain ⟨c1, c2, c3⟩ := st'.to
      exact ⟨c1, c2, kp _ _ (hbL TO (by simp)) c3⟩
    · exact Src.It.mv st'.s fun o e => kp _ _ (hbL i1 (by simp)) e
    · exact Src.It.mv st'.t fun o e => kp _ _ (hbL i2 (by simp)) e
    · by_cases c : j < ts.length
      · rw [List.getElem?_append_left c] at e
        obtain ⟨u, v, e1, e2, e3⟩ := ht j t e
        exact ⟨u, v, e1, e2, hH t _ (fun e' => by rw [e', hLs] at e3; cases e3) e3⟩
      · rw [List.getElem?_append_right (by omega)] at e
        have ej : j = i := by
          have := (List.getElem?_eq_some_iff.mp e).1
          simp only [List.length_singleton] at this
          omega
        subst ej
        rw [hl, Nat.sub_self] at e
        cases e
        exact ⟨x, y, ex, ey, by rw [oth q hqL]; exact upd_same⟩
end
theorem zip_noLen : typeLookup (.type "zip") "__len__" = pure none := by rw [typeLookup_type, builtinLookup_eq_fast]; kernel_rfl
theorem zip_noHint : typeLookup (.type "zip") "__length_hint__" = pure none := by rw [typeLookup_type, builtinLookup_eq_fast]; kernel_rfl
section
variable {X : Cx} {pins : List (Addr × Obj)} {σ : St} {H : Hp} {s : Shared} {z TI TO i1 i2 : Addr} {S T : Src} {xs ys : List V}
/-- list(a zip) -/
theorem zip_list (hc : X.calm = true) (I : Inv X pins σ H s) (a : Apart z TI TO i1 i2 S T) (st : ZAt s.heap H z TI TO i1 i2 S T 0) (a1 : S.At X.K H xs) (a2 : T.At X.K H ys) (hz : min xs.length ys.length ≤ sizeLine) (hf : ∀ b ∈ [z, TI, TO, i1, i2], FpOk X pins H b) {Q : Value → Shared → Prop} {E : Value → Shared → Prop}
    (hQ : ∀ (H' : Hp) (s' : Shared) (L : Addr) (ts : List Addr), Inv X pins σ H' s' → (∀ b o, H b = some o → H' b = some o) → H L = none → H' L = some (.lst (ts.map V.ref)) → ts.length = min xs.length ys.length → (∀ (j : Nat) (t : Addr), ts[j]? = some t → ∃ x y, xs[j]? = some x ∧ ys[j]? = some y ∧ H' t = some (.tup [x, y])) → Q (.ref L) s') :
    wpAny (model X.prog X.w) X.A (call (.type "list") [.ref z]) Q E s := by
  have hn : H s.heap.objs.size = none := I.hok.fresh (Nat.le_refl _)
  have lt : ∀ b ∈ [z, TI, TO, i1, i2], b < s.heap.objs.size := fun b hb => by
    have cs : b = z ∨ b = TI ∨ b = TO ∨ b = i1 ∨ b = i2 := by simpa using hb
    obtain ⟨c1, c2, c3⟩ := st.to
    rcases cs with rfl | rfl | rfl | rfl | rfl
    · obtain ⟨o, e, _⟩ := st.zs.obj; exact Heap.lt_size e
    · exact Heap.lt_size st.ti
    · exact Heap.lt_size c3
    · obtain ⟨o, e, _⟩ := Src.obj st.s; exact Heap.lt_size e
    · obtain ⟨o, e, _⟩ := Src.obj st.t; exact Heap.lt_size e
  have hzL : z ≠ s.heap.objs.size := Nat.ne_of_lt (lt z (by simp))
  refine callType_codes (Q₁ := fun obj s₁ => obj = .ref s.heap.objs.size ∧ s₁ = { s with heap := s.heap.push { cls := .type "list", data := .seq #[] } }) PySem.F.called_list (PySem.F.typeCall_list_1 _) PySem.F.entry_list_init
    (code_list_new _ ⟨rfl, rfl⟩) fun obj s₁ h₁ => ?_
  obtain ⟨rfl, rfl⟩ := h₁
  have o0 : (s.heap.push { cls := .type "list", data := .seq #[] }).get? s.heap.objs.size = some { cls := .type "list", data := .seq #[] } := Heap.get?_push_size _ rfl
  refine ⟨⟨_, o0, rfl⟩, PySem.F.args_list_init_2 _ _, ?_⟩
  show wpAny _ _ (Builtin.List.listItems (.ref s.heap.objs.size) >>= fun old => Builtin.List.listUpdate (.ref s.heap.objs.size) (fun _ => #[]) >>= fun _ => letGo old.toList.reverse >>= fun _ => Builtin.List.listExtendWith (.ref s.heap.objs.size) (.ref z) .none) _ _ _
  refine wpAny_bind ?_
  unfold Builtin.List.listItems
  refine wpAny_bind (wpAny_seqItems o0 rfl (wpAny_pure ?_))
  show wpAny _ _ (updateSeq s.heap.objs.size (fun _ => #[]) >>= _) _ _ _
  refine wpAny_bind (wpAny_updateSeq o0 rfl (wpAny_bind (wpAny_letGo ?_)))
  have o1 := Heap.get?_update_self (Obj.mapSeq (fun _ => (#[] : Array Value))) o0 rfl
  have k1 : ∀ b o, b ≠ s.heap.objs.size → (s.heap.push { cls := .type "list", data := .seq #[] }).get? b = some o → ((s.heap.push { cls := .type "list", data := .seq #[] }).update s.heap.objs.size (Obj.mapSeq (fun _ => (#[] : Array Value)))).get? b = some o := fun b o hb e => (Heap.get?_update_other _ _ (Ne.symm hb)).trans e
  generalize (s.heap.push { cls := .type "list", data := .seq #[] }).update s.heap.objs.size (Obj.mapSeq (fun _ => (#[] : Array Value))) = g1 at o1 k1
  have k1' : ∀ b o, s.heap.get? b = some o → g1.get? b = some o := fun b o e => k1 b o (Nat.ne_of_lt (Heap.lt_size e)) (Heap.get?_push_of_some _ e)
  have ty : ∀ (s' : Shared), s'.heap = g1 → s'.TypeIs (.ref z) "zip" := fun s' e => by
    rcases st.zs with w | ⟨_, _, _, w, _⟩
    · exact ⟨_, by rw [e]; exact k1' _ _ w, rfl⟩
    · exact ⟨_, by rw [e]; exact k1' _ _ w, rfl⟩
  unfold Builtin.List.listExtendWith
  refine wpAny_bind (wpAny_typeOf (ty _ rfl) ?_)
  have h1 : Builtin.List.listSameRef (.ref s.heap.objs.size) (.ref z) = false := by simp [Builtin.List.listSameRef, Ne.symm hzL]
  have h2 : (Value.type "zip" == Value.type "list") = false := by decide
  have h3 : (Value.type "zip" == Value.type "tuple") = false := by decide
  simp only [h1, h2, h3, Bool.or_false, Bool.false_eq_true, if_false]
  have zi : ∀ {A : Around} {E : Value → Shared → Prop} {Q : Value → Shared → Prop}, Q (.ref z) { s with heap := g1 } → wpAny (model X.prog X.w) A (pyIter (.ref z)) Q E { s with heap := g1 } := fun {A E Q} q => by
    rcases st.zs with w | ⟨_, _, _, w, _⟩
    · exact wpAny_pyIter_zip (k1' _ _ w) q
    · refine wpAny_pyIter_slot (ty _ rfl) PySem.F.slot_zip_iter (wpAny_call_entry PySem.F.slot_zip_iter (ty _ rfl) PySem.F.entry_zip_iter ?_ (PySem.F.args_zip_iter_1 _))
      show wpAny _ _ (ret (.ref z)) _ _ _
      exact wpAny_pure ⟨_, rfl, "zip", _, ty _ rfl, PySem.F.slot_zip_next.lookup, q⟩
  refine wpAny_bind (zi ?_)
  refine wpAny_bind (wpAny_holding ?_)
  unfold Builtin.List.listLengthHint
  refine wpAny_bind (wpAny_specialOf (ty _ rfl) zip_noLen ?_)
  show wpAny _ _ (specialOf (Value.ref z) (Str.ofString "__length_hint__") >>= _) _ _ _
  refine wpAny_bind (wpAny_specialOf (ty _ rfl) zip_noHint ?_)
  refine wpAny_pure ?_
  show wpAny _ _ (rule "list.extend.makes-room" >>= fun _ => Builtin.List.listTouch (.ref s.heap.objs.size) >>= fun _ => again (.builtin "list.extend.loop" ⟨[.ref s.heap.objs.size, .ref z, .none], []⟩)) _ _ _
  refine wpAny_bind (wpAny_rule (wpAny_bind ?_))
  show wpAny _ _ (updateSeq s.heap.objs.size (·.push .none) >>= fun _ => updateSeq s.heap.objs.size (·.pop)) _ _ _
  refine wpAny_bind (wpAny_updateSeq o1 rfl ?_)
  have o2 := Heap.get?_update_self (Obj.mapSeq (·.push Value.none)) o1 rfl
  refine wpAny_updateSeq o2 rfl ?_
  have o3 := Heap.get?_update_self (Obj.mapSeq (·.pop)) o2 rfl
  have k3 : ∀ b o, s.heap.get? b = some o → ((g1.update s.heap.objs.size (Obj.mapSeq (·.push Value.none))).update s.heap.objs.size (Obj.mapSeq (·.pop))).get? b = some o := fun b o e => by
    have hb : s.heap.objs.size ≠ b := Nat.ne_of_gt (Heap.lt_size e)
    exact (Heap.get?_update_other _ _ hb).trans ((Heap.get?_update_other _ _ hb).trans (k1' b o e))
  generalize (g1.update s.heap.objs.size (Obj.mapSeq (·.push Value.none))).update s.heap.objs.size (Obj.mapSeq (·.pop)) = g3 at o3 k3
  have I3 : Inv X pins σ (upd H s.heap.objs.size (.lst [])) { s with heap := g3 } := I.laid (t' := s.toks) k3 (Nat.le_refl _) (show ObjOk X.prog X.w _ _ _ (.lst []) from ⟨Nat.zero_le _, [], _, .nil, o3⟩)
  have nw : Nw H (upd H s.heap.objs.size (.lst [])) := .upd hn
  have I4 := Inv.within (A' := X.A.in1) (E' := fun _ _ => False) I3 (fun h => I.ok.hd h) rfl
  have ne : ∀ b ∈ [z, TI, TO, i1, i2], b ≠ s.heap.objs.size := fun b hb => Nat.ne_of_lt (lt b hb)
  refine wpAny_pure ⟨plainId_quiet PySem.F.plain_extend_loop _, ?_⟩
  refine zip_loop (X := { X with A := X.A.in1, xe := fun _ _ => False }) hc (L := s.heap.objs.size) (H0 := H) a (fun hb => ne _ hb rfl) (fun hb => Nat.lt_irrefl _ (src_lt I a1 _ hb)) (fun hb => Nat.lt_irrefl _ (src_lt I a2 _ hb)) hz (min xs.length ys.length) 0 _ _ [] (by omega) I4 ⟨?_, k3 _ _ st.ti, ?_, Src.It.mv st.s fun o e => k3 _ _ e, Src.It.mv st.t fun o e => k3 _ _ e⟩
    (src_keep (fun b o _ e => nw _ _ e) a1) (src_keep (fun b o _ e => nw _ _ e) a2) upd_same rfl (fun j t e => by simp at e) (fun b hb => ⟨by rw [upd_ne (ne b hb)]; exact (hf b hb).1, (hf b hb).2⟩) (fun b o hb e => by rw [upd_ne hb]; exact e) hn fun H' s' ts' I' kk hL' hl' ht' => ⟨rfl, hQ H' s' _ ts' (Inv.outward I.ok I') (fun b o e => kk b o (fun w => by rw [w, hn] at e; cases e) e) hn hL' hl' ht'⟩
  · rcases st.zs with w | ⟨q, f, ts, w, e⟩
    · exact .inl (k3 _ _ w)
    · exact .inr ⟨q, f, ts, k3 _ _ w, nw _ _ e⟩
  · obtain ⟨b1, b2, e⟩ := st.to
    exact ⟨b1, b2, k3 _ _ e⟩
/-- list(zip(a, b)) -/
def tListZip (K : PySem.W.Frag) (ta : TA) : TE := fun σ H Q => ta σ H fun vs H1 => ∃ x y S T xs ys, vs = [x, y] ∧ SrcV x S ∧ SrcV y T ∧ S.At K H1 xs ∧ T.At K H1 ys ∧ min xs.length ys.length ≤ sizeLine ∧
  ∀ (H' : Hp) (L : Addr) (ts : List Addr), (∀ b o, H1 b = some o → H' b = some o) → H1 L = none → H' L = some (.lst (ts.map V.ref)) → ts.length = min xs.length ys.length → (∀ (j : Nat) (t : Addr), ts[j]? = some t → ∃ x y, xs[j]? = some x ∧ ys[j]? = some y ∧ H' t = some (.tup [x, y])) → Q (.ref L) H'
theorem pe_listZip {e e2 : Expr} {ta : TA} {p p2 pos pos2 : Pos} (hc : X.calm = true) (hgl : Gl X "list") (hml : X.mg "list" = none) (hg : Gl X "zip") (hm : X.mg "zip" = none) (ha : PA X [e, e2] ta) (hs : starEach [e, e2] X.env = (false, eval e X.env) :: starEach [e2] X.env) (hpl : (backTo pos2 (starEach [e2] X.env)).any (·.1) = false) :
    PE X (.Call (.Name "list" p) [.Call (.Name "zip" p2) [e, e2] [] pos2] [] pos) (tListZip X.K ta) := by
  refine ⟨fun pins s σ H Q I h => ?_⟩
  refine PyProof.Rows.Call_ (ld_blt I hgl hml (show bootBuiltins "list" = some (.type "list") from by decide +kernel) (PyProof.Rows.callWith_type1 ?_ rfl rfl))
  show wpAny _ _ (spliced ((false, eval (.Call (.Name "zip" p2) [e, e2] [] pos2) X.env) :: backTo pos (starEach [] X.env))) _ _ s
  refine Calls.spliced_cons ?_
  refine PyProof.Rows.Call_ (ld_blt I hg hm PyProof.Rows.boot_zip (PyProof.Rows.callWith_type1 (thn (ha.run pos2 pins s σ H _ I h) fun us s1 ⟨vs, H1, I1, r1, q1⟩ => ?_) hs hpl))
  obtain ⟨x, y, S, T, xs, ys, rfl, sx, sy, ax, ay, hz, q⟩ := q1
  obtain ⟨u, v, rfl, rx, ry⟩ := vals2 r1
  obtain ⟨o1, G1, B1, g1, i1⟩ := src_begins I1 ax sx rx
  obtain ⟨o2, G2, B2, g2, i2⟩ := src_begins I1 ay sy ry
  refine zip_begins2 B1 B2 g1 g2 fun h' hz' hTI hTO e1 e2 hsz hk => Calls.spliced_nil ?_
  have I2 : Inv X pins σ H1 { s1 with heap := h' } := I1.kept (t' := s1.toks) hk
  have new : ∀ c, c ∈ [s1.heap.objs.size + 4, s1.heap.objs.size + 2, s1.heap.objs.size + 3, s1.heap.objs.size, s1.heap.objs.size + 1] → s1.heap.objs.size ≤ c := fun c hc => by
    simp only [List.mem_cons, List.not_mem_nil, or_false] at hc
    have hc' : (c : Nat) = s1.heap.objs.size + 4 ∨ (c : Nat) = s1.heap.objs.size + 2 ∨ (c : Nat) = s1.heap.objs.size + 3 ∨ (c : Nat) = s1.heap.objs.size ∨ (c : Nat) = s1.heap.objs.size + 1 := hc
    show (s1.heap.objs.size : Nat) ≤ c
    omega
  have ap : Apart (s1.heap.objs.size + 4) (s1.heap.objs.size + 2) (s1.heap.objs.size + 3) s1.heap.objs.size (s1.heap.objs.size + 1) S T := by
    refine ⟨?_, fun b hb => ⟨fun z => Nat.lt_irrefl _ (Nat.lt_of_lt_of_le (src_lt I1 ax b z) (new b hb)), fun z => Nat.lt_irrefl _ (Nat.lt_of_lt_of_le (src_lt I1 ay b z) (new b hb))⟩⟩
    generalize s1.heap.objs.size = n
    simp only [List.nodup_cons, List.mem_cons, List.mem_singleton, not_or, List.not_mem_nil, not_false_eq_true, and_true, List.nodup_nil]
    have f : ∀ {i j : Nat}, i ≠ j → (n + i : Nat) ≠ n + j := fun h z => h (Nat.add_left_cancel z)
    exact ⟨⟨f (by decide), f (by decide), f (j := 0) (by decide), f (by decide)⟩, ⟨f (by decide), f (j := 0) (by decide), f (by decide)⟩, ⟨f (j := 0) (by decide), f (by decide)⟩, f (i := 0) (by decide)⟩
  refine zip_list hc I2 ap ⟨.inl hz', hTI, ⟨_, _, hTO⟩, i1 _ _ e1, i2 _ _ e2⟩ ax ay hz (fun c hc => I1.fpOk (new c hc) (I1.hok.fresh (new c hc))) fun H' s' L ts I' kk hn hL hl ht => ⟨.ref L, H', I', rfl, q H' L ts kk hn hL hl ht⟩
end
end W
/-! Z6: lists of what is walked. -/
namespace W
open PySem L2
section
variable {X : Cx} {g : Gd} {xr : XR} {F : Nat → List D → M D} {O : Nat → Bool} {W : WX} {k ka kb : Kd} {pos : Pos}
theorem zip_reps {dA : Addr} {ca : List Addr} {Hm : Hp} : ∀ {l m : List D} {xs ys : List V} {ts : List Addr}, Reps dA ca Hm l xs → Reps dA ca Hm m ys → ts.length = min xs.length ys.length → (∀ (j : Nat) (t : Addr), ts[j]? = some t → ∃ x y, xs[j]? = some x ∧ ys[j]? = some y ∧ Hm t = some (.tup [x, y])) → Reps dA ca Hm (zipL l m) (ts.map V.ref)
  | [], m, xs, ys, ts, r1, r2, h, _ => by
    cases r1
    simp only [List.length_nil, Nat.zero_min] at h
    rw [List.eq_nil_of_length_eq_zero h]
    rfl
  | _ :: _, [], xs, ys, ts, r1, r2, h, _ => by
    cases r2
    simp only [List.length_nil, Nat.min_zero] at h
    rw [List.eq_nil_of_length_eq_zero h]
    rfl
  | a :: l, b :: m, xs, ys, ts, r1, r2, h, k => by
    obtain ⟨x, xs, rfl, p1, p2⟩ := r1
    obtain ⟨y, ys, rfl, q1, q2⟩ := r2
    cases ts with
    | nil => simp at h
    | cons t ts =>
      obtain ⟨x', y', e1, e2, e3⟩ := k 0 t rfl
      cases e1
      cases e2
      refine ⟨_, _, rfl, ⟨t, _, rfl, e3, x, _, rfl, p1, y, _, rfl, q1, rfl⟩, zip_reps p2 q2 ?_ fun j t' e => ?_⟩
      · simp only [List.length_cons, Nat.succ_min_succ] at h
        exact Nat.succ.inj h
      · obtain ⟨x', y', e1, e2, e3⟩ := k (j + 1) t' e
        exact ⟨x', y', e1, e2, e3⟩
theorem s_listZip {a b : Expr} {ma mb : E} {p p2 pos2 : Pos} (hc : X.calm = true) (hgl : Gl X "list") (hml : X.mg "list" = none) (hg : Gl X "zip") (hm : X.mg "zip" = none) (ha : PE X a (tE g xr F O ka W ma)) (hb : PE X b (tE g xr F O kb W mb)) (hk : ka ≠ .I) (hk' : kb ≠ .I)
    (hs : starEach [a, b] X.env = (false, eval a X.env) :: starEach [b] X.env) (hs2 : starEach [b] X.env = (false, eval b X.env) :: starEach [] X.env) (hpl : (backTo pos2 (starEach [b] X.env)).any (·.1) = false) :
    PE X (.Call (.Name "list" p) [.Call (.Name "zip" p2) [a, b] [] pos2] [] pos) (tE g xr F O .N W (.itlst (.itz (.itq ma) (.itq mb)))) := by
  refine (pe_listZip hc hgl hml hg hm (pa_cons ha (pa_cons hb pa_nil hs2) hs) hs hpl).imp fun σ H Q h => ?_
  obtain ⟨f, e, s, ca, A, ok, p⟩ := h
  change PostE g xr f ca A σ H H .N W (M.bind (M.bind (M.bind (den F ma e) _) _) _ s) Q at p
  rw [bind_assoc', bind_assoc'] at p
  refine tE.front ok p fun d s1 v H1 ca1 ok1 st1 r1 p1 => ?_
  cases q : seqS d with
  | none =>
    change PostE g xr f ca1 A σ H H1 .N W (M.bind (match seqS d with | some l => M.pure (D.lst l) | none => M.stuck) _ s1) Q at p1
    rw [q] at p1
    exact p1.elim
  | some l =>
    change PostE g xr f ca1 A σ H H1 .N W (M.bind (match seqS d with | some l => M.pure (D.lst l) | none => M.stuck) _ s1) Q at p1
    rw [q] at p1
    obtain ⟨S, xs, sv, sd⟩ := seq_src (K := X.K) (xx := false) r1 (.inl hk) q
    change PostE g xr f ca1 A σ H H1 .N W (M.bind (M.bind (M.bind (den F mb e) _) _) _ s1) Q at p1
    rw [bind_assoc', bind_assoc'] at p1
    refine tE.front ok1 p1 fun d2 s2 v2 H2 ca2 ok2 st2 r2 p2 => ?_
    cases q2 : seqS d2 with
    | none =>
      change PostE g xr f ca2 A σ H H2 .N W (M.bind (match seqS d2 with | some l => M.pure (D.lst l) | none => M.stuck) _ s2) Q at p2
      rw [q2] at p2
      exact p2.elim
    | some m =>
      change PostE g xr f ca2 A σ H H2 .N W (M.bind (match seqS d2 with | some l => M.pure (D.lst l) | none => M.stuck) _ s2) Q at p2
      rw [q2] at p2
      obtain ⟨T, ys, tv, td⟩ := seq_src (K := X.K) (xx := false) r2 (.inl hk') q2
      have sd2 := (sd.step ok1 st2).now ok2.here
      have td2 := td.now ok2.here
      obtain ⟨hz, p3⟩ := bif_size (l := zipL l m) (m := M.pure (D.lst (zipL l m))) (α := Unit) p2
      refine ⟨v, v2, S, T, xs, ys, rfl, sv, tv, sd2.1, td2.1, ?_, fun H' L ts kk hn hL hl ht => ?_⟩
      · rw [sd2.2.length, td2.2.length, ← zipL_len]
        exact hz
      · have nw : Nw H2 H' := fun b o e => kk b o e
        have free := ok2.here.free hn
        have he' := ok2.here.nw nw
        refine p3.end ok2 nw ⟨L, _, rfl, st1.back ok.sr (st2.back ok1.sr hn), free, hL, ?_⟩
        have le := le_new (g := g) (f := f) (ca := ca2) (A := A) hn nw
        refine zip_reps (Reps.le (.refl _) le _ _ sd2.2) (Reps.le (.refl _) le _ _ td2.2) hl fun j t e => ?_
        obtain ⟨x, y, e1, e2, e3⟩ := ht j t e
        refine ⟨x, y, e1, e2, msk_of (fun z => ?_) e3⟩
        simp only [List.mem_cons, List.mem_append] at z
        have nt : t ∉ bad g f ca2 A := he'.tup e3
        rcases z with z | z | z | z | z
        · exact nt (by simp [z])
        · exact nt (by simp [z])
        · exact nt (by simp [z])
        · rw [z, hL] at e3; cases e3
        · exact nt (by simp [z])
end
end W
/-! W20: does a piece of the small syntax match a piece of the text? -/
namespace W
open PySem L2
structure Cfg where
  N : List Str
  cs : List (Str × D)
  fs : List Str
def opB (b : Bop) (o : Operator) : Bool := decide (o = opOf b)
def cmB (c : Cop) (o : CmpOp) : Bool := decide (o = copOf c)
def sEq (x y : Str) : Bool := decide (x = y)
def nameOk (x : Str) : Bool := !(x == ("__debug__" : Str)) && !(x == ("__classdict__" : Str))
def kOf (sc : Scope) (x : Str) : Option NameKind := sc.names.lookup x
def visB (sc : Scope) (x : Str) : Bool := match kOf sc x with
  | some .local => true
  | some .cell => true
  | some .free => true
  | _ => false
def locB (sc : Scope) (x : Str) : Bool := match kOf sc x with
  | some .local => true
  | some .cell => true
  | _ => false
def glB (sc : Scope) (x : Str) : Bool := match kOf sc x with
  | some .globalImplicit => true
  | _ => false
def nthS (l : List Str) (i : Nat) (x : Str) : Bool := match l[i]? with
  | some y => sEq y x
  | none => false
def flatEq : D → D → Bool
  | .int i, .int j => decide (i = j)
  | .str s, .str t => decide (s = t)
  | _, _ => false
def conB (cs : List (Str × D)) (i : Nat) (x : Str) (d : D) : Bool := match cs[i]? with
  | some p => sEq p.1 x && flatEq p.2 d
  | none => false
def plainT : Expr → Bool
  | .UnaryOp .Not _ _ => false
  | .BoolOp _ _ _ => false
  | .IfExp _ _ _ _ => false
  | .Compare _ _ _ _ => false
  | _ => true
/-- the kind of what an expression gives -/
def kd (ob : List Nat) : E → Kd
  | .var i => bif ob.contains i then .I else .K
  | .prim p _ => match p with
    | .isT _ => .K
    | .sumL => .K
    | .max2 => .K
    | .min2 => .K
    | _ => .N
  | .itlst _ => .N
  | .cut _ _ _ => .N
  | .lst _ => .N
  | .lc _ _ _ _ => .N
  | .dct _ _ => .N
  | .dc _ _ _ _ _ _ => .N
  | _ => .K
def keptB (ob : List Nat) (m : E) : Bool := match kd ob m with
  | .I => false
  | _ => true
def obT (ob : List Nat) (vs : List Nat) : List Nat := ob.filter fun i => !vs.contains i
def ofL (ob : List Nat) : Nat → Bool := fun i => ob.contains i
/-- slots and names of a target -/
def ownB (N : List Str) (vs : List Nat) : List (Str × Nat) := vs.filterMap fun i => match N[i]? with
  | some x => some (x, i)
  | none => none
def tyB (t : Nat) (y : Str) : Bool := match t with
  | 0 => sEq y "int"
  | 1 => sEq y "bool"
  | 2 => sEq y "str"
  | 3 => sEq y "tuple"
  | 4 => sEq y "list"
  | 5 => sEq y "dict"
  | _ => false
def primName : Prim → Option Str
  | .len => some "len"
  | .all => some "all"
  | .any => some "any"
  | .tuple => some "tuple"
  | .list => some "list"
  | .sorted => some "sorted"
  | .dict => some "dict"
  | _ => none
def prim2Name : Prim → Option Str
  | .sumL => some "sum"
  | .max2 => some "max"
  | .min2 => some "min"
  | _ => none
def ownedB (ob : List Nat) (m : E) : Bool := match kd ob m with
  | .N => true
  | _ => false
def parB (m : E) (o : Option Expr) (f : Expr → Bool) : Bool := match o with
  | none => isNonE m
  | some e => !isNonE m && f e
mutual
def mE (C : Cfg) (rs sc : Scope) (ob : List Nat) : E → Expr → Bool
  | .var i, e => match e with
    | .Name x _ => nthS C.N i x && visB sc x && nameOk x
    | _ => false
  | .non, e => match e with
    | .Constant .none _ _ => true
    | _ => false
  | .bl b, e => match e with
    | .Constant (.bool c) _ _ => b == c
    | _ => false
  | .int i, e => match e with
    | .Constant (.int j) _ _ => decide (i = j)
    | _ => false
  | .str s, e => match e with
    | .Constant (.str x) _ _ => sEq x ⟨s.toArray⟩ && Nat.ble s.length line
    | _ => false
  | .glob i d, e => match e with
    | .Name x _ => conB C.cs i x d && glB sc x && nameOk x
    | _ => false
  | .bin op a b, e => match e with
    | .BinOp a' o b' _ => opB op o && mE C rs sc ob a a' && mE C rs sc ob b b'
    | _ => false
  | .cmp c a b, e => match e with
    | .Compare a' [o] [b'] _ => cmB c o && !behindInMarks o b' && mE C rs sc ob a a' && mE C rs sc ob b b'
    | _ => false
  | .cmp2 c c' a b d, e => match e with
    | .Compare a' [o, o'] [b', d'] _ => cmB c o && cmB c' o' && !lastMarks [o, o'] [b', d'] && mE C rs sc ob a a' && mE C rs sc ob b b' && mE C rs sc ob d d'
    | _ => false
  | .and a r, e => match e with
    | .BoolOp .And [a', b'] _ => mE C rs sc ob a a' && mE C rs sc ob r b'
    | .BoolOp .And (a' :: b' :: c' :: es) pos => mE C rs sc ob a a' && mE C rs sc ob r (.BoolOp .And (b' :: c' :: es) pos)
    | _ => false
  | .or a r, e => match e with
    | .BoolOp .Or [a', b'] _ => mE C rs sc ob a a' && mE C rs sc ob r b'
    | .BoolOp .Or (a' :: b' :: c' :: es) pos => mE C rs sc ob a a' && mE C rs sc ob r (.BoolOp .Or (b' :: c' :: es) pos)
    | _ => false
  | .not a, e => match e with
    | .UnaryOp .Not a' _ => mE C rs sc ob a a'
    | _ => false
  | .neg a, e => match e with
    | .UnaryOp .USub a' _ => mE C rs sc ob a a'
    | _ => false
  | .ite c a b, e => match e with
    | .IfExp c' a' b' _ => plainOr c c' && mE C rs sc ob c c' && mE C rs sc ob a a' && mE C rs sc ob b b' && keptB ob a && keptB ob b
    | _ => false
  | .call i as, e => match e with
    | .Call (.Name x _) (a' :: as') [] _ => nthS C.fs i x && glB sc x && nameOk x && noStar a' && as'.all noStar && mA C rs sc ob as (a' :: as')
    | _ => false
  | .prim p as, e => match as with
    | .cons a .nil => (match p with
      | .isT [t] => (match e with
        | .Call (.Name x _) [a', .Name y _] [] _ => sEq x "isinstance" && glB sc x && tyB t y && glB sc y && noStar a' && mE C rs sc ob a a'
        | _ => false)
      | p => (match primName p with
        | some n => (match e with
          | .Call (.Name x _) [a'] [] _ => sEq x n && glB sc x && noStar a' && mE C rs sc ob a a'
          | _ => false)
        | none => false))
    | .cons a (.cons b .nil) => (match prim2Name p with
        | some n => (match e with
          | .Call (.Name x _) [a', b'] [] _ => sEq x n && glB sc x && noStar a' && noStar b' && mE C rs sc ob a a' && keptB ob a && mE C rs sc ob b b' && keptB ob b
          | _ => false)
        | none => false)
    | _ => false
  | .itlst m, e => match m with
    | .itz p q => (match p, q with
      | .itq a, .itq b => (match e with
        | .Call (.Name x _) [.Call (.Name y _) [a', b'] [] _] [] _ => sEq x "list" && glB sc x && sEq y "zip" && glB sc y && noStar a' && noStar b' && mE C rs sc ob a a' && keptB ob a && mE C rs sc ob b b' && keptB ob b
        | _ => false)
      | _, _ => false)
    | _ => false
  | .idx a b, e => match e with
    | .Subscript a' b' _ => noSlice b' && mE C rs sc ob a a' && mE C rs sc ob b b'
    | _ => false
  | .cut a lo hi, e => match e with
    | .Subscript a' (.Slice l h none _) _ => mE C rs sc ob a a' && parB lo l (mE C rs sc ob lo) && parB hi h (mE C rs sc ob hi)
    | _ => false
  | .tup as, e => match e with
    | .Tuple es _ _ => mA C rs sc ob as es
    | _ => false
  | .lst as, e => match e with
    | .List es _ => mA C rs sc ob as es
    | _ => false
  | .dct T as, e => match e with
    | .Dict ks vs _ => (match as with
      | .nil => ks.isEmpty && vs.isEmpty
      | as => !T && mK C rs sc ob as ks vs && isKv as && Nat.ble (lenKv as) 15 && ks.all (·.isSome) && decide (ks.length = vs.length) && !ks.isEmpty && Nat.ble ks.length 15)
    | _ => false
  | .lc m t it c, e => match e with
    | .ListComp e' [⟨tg, iter, ifs, 0⟩] scope _ => mI C rs sc ob true it tg iter && noSet iter && blkC C.N sc scope (ownB C.N (slotsT t)) && decide ((ownB C.N (slotsT t)).map (·.2) = slotsT t) &&
        mG C scope (relS scope sc) (obT ob (slotsT t)) t tg && (match ifs with
          | [] => (match c with | .bl true => true | _ => false)
          | [c'] => mE C scope (relS scope sc) (obT ob (slotsT t)) c c' && plainOr c c'
          | _ => false) && mE C scope (relS scope sc) (obT ob (slotsT t)) m e' && keptB (obT ob (slotsT t)) m
    | _ => false
  | .dc T k v t it c, e => match e with
    | .DictComp k' v' [⟨tg, iter, ifs, 0⟩] scope _ => !T && mI C rs sc ob true it tg iter && noSet iter && blkC C.N sc scope (ownB C.N (slotsT t)) && decide ((ownB C.N (slotsT t)).map (·.2) = slotsT t) &&
        mG C scope (relS scope sc) (obT ob (slotsT t)) t tg && (match ifs with
          | [] => (match c with | .bl true => true | _ => false)
          | [c'] => mE C scope (relS scope sc) (obT ob (slotsT t)) c c' && plainOr c c'
          | _ => false) && mE C scope (relS scope sc) (obT ob (slotsT t)) k k' && keptB (obT ob (slotsT t)) k && mE C scope (relS scope sc) (obT ob (slotsT t)) v v' && keptB (obT ob (slotsT t)) v
    | _ => false
  | _, _ => false
def mA (C : Cfg) (rs sc : Scope) (ob : List Nat) : E → List Expr → Bool
  | .nil, es => es.isEmpty
  | .cons a r, es => match es with
    | e :: es => noStar e && mE C rs sc ob a e && keptB ob a && mA C rs sc ob r es
    | [] => false
  | _, _ => false
def mK (C : Cfg) (rs sc : Scope) (ob : List Nat) : E → List (Option Expr) → List Expr → Bool
  | .nil, ks, vs => ks.isEmpty && vs.isEmpty
  | .kv k v r, ks, vs => match ks, vs with
    | some k' :: ks, v' :: vs => mE C rs sc ob k k' && keptB ob k && mE C rs sc ob v v' && keptB ob v && mK C rs sc ob r ks vs
    | _, _ => false
  | _, _, _ => false
def mI (C : Cfg) (rs sc : Scope) (ob : List Nat) (xx : Bool) : E → Expr → Expr → Bool
  | .itv a, _, e => mE C rs sc ob a e && keptB ob a
  | .itl a, _, e => xx && mE C rs sc ob a e
  | .itvs a, _, e => match e with
    | .Call (.Attribute a' n apos) [] [] cpos => sEq n "values" && noCall0 a' && (apos.endLine == cpos.line) && mE C rs sc ob a a' && keptB ob a
    | _ => false
  | .itr1 a, _, e => match e with
    | .Call (.Name x _) [a'] [] _ => sEq x "range" && glB sc x && noStar a' && mE C rs sc ob a a'
    | _ => false
  | .itr2 a b, _, e => match e with
    | .Call (.Name x _) [a', b'] [] _ => sEq x "range" && glB sc x && noStar a' && noStar b' && mE C rs sc ob a a' && mE C rs sc ob b b'
    | _ => false
  | .itz p q, tg, e => match p, q with
    | .itq a, .itq b => (match tg, e with
      | .Tuple _ _ _, .Call (.Name x _) [a', b'] [] _ => sEq x "zip" && glB sc x && noStar a' && noStar b' && mE C rs sc ob a a' && (keptB ob a || xx) && mE C rs sc ob b b' && (keptB ob b || xx)
      | _, _ => false)
    | _, _ => false
  | .ite1 p, tg, e => match p with
    | .itq a => (match tg, e with
      | .Tuple _ _ _, .Call (.Name x _) [a'] [] _ => sEq x "enumerate" && glB sc x && noStar a' && mE C rs sc ob a a' && (keptB ob a || xx)
      | _, _ => false)
    | _ => false
  | _, _, _ => false
def mG (C : Cfg) (rs sc : Scope) (ob : List Nat) : E → Expr → Bool
  | .tname i, e => match e with
    | .Name x _ => nthS C.N i x && locB rs x && !ob.contains i
    | _ => false
  | .ttup ts, e => match e with
    | .Tuple es _ _ => mGs C rs sc ob ts es
    | _ => false
  | _, _ => false
def mGs (C : Cfg) (rs sc : Scope) (ob : List Nat) : E → List Expr → Bool
  | .nil, es => es.isEmpty
  | .cons a r, es => match es with
    | e :: es => noStar e && mG C rs sc ob a e && mGs C rs sc ob r es
    | [] => false
  | _, _ => false
/-- a test's head that is served -/
def plainOr : E → Expr → Bool
  | .cmp _ _ _, _ => true
  | .cmp2 _ _ _ _ _, _ => true
  | .and a r, e => match e with
    | .BoolOp .And [a', b'] _ => plainOr a a' && plainOr r b'
    | .BoolOp .And (a' :: b' :: c' :: es) pos => plainOr a a' && plainOr r (.BoolOp .And (b' :: c' :: es) pos)
    | _ => false
  | .or a r, e => match e with
    | .BoolOp .Or [a', b'] _ => plainOr a a' && plainOr r b'
    | .BoolOp .Or (a' :: b' :: c' :: es) pos => plainOr a a' && plainOr r (.BoolOp .Or (b' :: c' :: es) pos)
    | _ => false
  | .not a, e => match e with
    | .UnaryOp .Not a' _ => plainOr a a'
    | _ => false
  | _, e => plainT e
end
end W
/-! W21: what matches keeps its reading: the place, the helpers. -/
namespace W
open PySem L2
def bltns : List Str := ["len", "all", "any", "tuple", "list", "isinstance", "int", "bool", "str", "dict", "range", "zip", "enumerate", "sorted", "sum", "min", "max", "abs", "repr", "set"]
/-- a place in the text -/
structure XO (C : Cfg) (g : Gd) (xr : XR) (F : Nat → List D → M D) (W : WX) (X : Cx) (rs sc : Scope) : Prop where
  N : X.N = C.N
  nd : C.N.Nodup
  esc : X.env.scope = sc
  raw : ∀ x k, rs.names.lookup x = some k → k ≠ .free → sc.names.lookup x = some k
  fn : ∀ x, rs.names.lookup x = some .cell → X.fn x = true
  calm : X.calm = true
  hu : X.A.units + 12 < cLine
  blt : ∀ x ∈ bltns, X.mg x = none
  con : ∀ p ∈ C.cs, flat p.2 = true ∧ ∃ u v, X.mg p.1 = some u ∧ RelV v u ∧ ∀ H, Rep g.dA [] H p.2 v
  gx : g.ex = false
  call : ∀ i x, C.fs[i]? = some x → ∃ np k f fd ps, FnOk X.prog X.w X.K X.mg X.base CX0 k f fd ps (spF g xr np (F i)) ∧ Room k X.A ∧ X.mg x = some (.ref f) ∧ PySem.W.keepIn X.K (.ref f) = true ∧ Binds X.K fd ps [] ∧ ∀ l s, F i l s ≠ .stuck → l.length = np
section
variable {C : Cfg} {g : Gd} {xr : XR} {F : Nat → List D → M D} {W : WX} {X : Cx} {rs sc : Scope} {ob : List Nat}
theorem XO.blk (x : XO C g xr F W X rs sc) (s : Shared) (H : Hp) (scope : Scope) (a : Addr) (cl : List (Str × Addr)) (fp : List Addr) : XO C g xr F W0 (X.blk s H scope (compEnvC scope cl a X.env) fp) scope (relS scope sc) := by
  have hsc : (compEnvC scope cl a X.env).scope = relS scope X.env.scope := rfl
  refine ⟨x.N, x.nd, by show (compEnvC scope cl a X.env).scope = _; rw [hsc, x.esc], fun y k h nf => lookup_relS_keep nf h, fun y h => by show (scope.names.lookup y == some .cell) = true; rw [h]; rfl, x.calm, x.hu, x.blt, x.con, x.gx, x.call⟩
theorem sEq_eq {x y : Str} (h : sEq x y = true) : x = y := of_decide_eq_true h
theorem nthS_eq {l : List Str} {i : Nat} {x : Str} (h : nthS l i x = true) : l[i]? = some x := by
  unfold nthS at h
  split at h
  · rename_i y e
    rw [e, sEq_eq h]
  · cases h
theorem nameOk_eq {x : Str} (h : nameOk x = true) : (x == ("__debug__" : Str)) = false ∧ (x == ("__classdict__" : Str)) = false := by
  unfold nameOk at h
  simpa using h
theorem visB_eq (x : XO C g xr F W X rs sc) {y : Str} (h : visB sc y = true) : Vis X.env.scope y := by
  rw [x.esc]
  unfold visB kOf at h
  split at h
  · exact .inl (by assumption)
  · exact .inr (.inl (by assumption))
  · exact .inr (.inr (by assumption))
  · cases h
theorem glB_eq (x : XO C g xr F W X rs sc) {y : Str} (h : glB sc y = true) : Gl X y := by
  show X.env.scope.names.lookup y = _
  rw [x.esc]
  unfold glB kOf at h
  split at h
  · assumption
  · cases h
theorem locB_eq (x : XO C g xr F W X rs sc) {y : Str} (h : locB rs y = true) : L2.Loc X.env.scope y ∧ (X.fn y = true ∨ X.env.scope.names.lookup y = some .local) := by
  unfold L2.Loc
  rw [x.esc]
  unfold locB kOf at h
  split at h
  · have := x.raw y _ (by assumption) (by decide)
    exact ⟨.inl this, .inr this⟩
  · rename_i e
    have := x.raw y _ e (by decide)
    exact ⟨.inr this, .inl (x.fn y e)⟩
  · cases h
theorem flatEq_eq {d e : D} (h : flatEq d e = true) : d = e := by
  cases d <;> cases e <;> first | (cases h; done) | (rw [of_decide_eq_true h])
theorem conB_eq (x : XO C g xr F W X rs sc) {i : Nat} {y : Str} {d : D} (h : conB C.cs i y d = true) : flat d = true ∧ ∃ u v, X.mg y = some u ∧ RelV v u ∧ ∀ H, Rep g.dA [] H d v := by
  unfold conB at h
  split at h
  · rename_i p e
    obtain ⟨h1, h2⟩ := Bool.and_eq_true_iff.mp h
    have := x.con p (List.mem_of_getElem? e)
    rw [sEq_eq h1, flatEq_eq h2] at this
    exact this
  · cases h
theorem star_ok {e : Expr} {es : List Expr} {env : PySem.Env} (h : noStar e = true) : starEach (e :: es) env = (false, eval e env) :: starEach es env := by
  cases e <;> first | rfl | cases h
theorem stars_ok {env : PySem.Env} {pos : Pos} : ∀ {es : List Expr}, es.all noStar = true → (backTo pos (starEach es env)).any (·.1) = false
  | [], _ => rfl
  | e :: es, h => by
    rw [List.all_cons, Bool.and_eq_true] at h
    rw [star_ok h.1]
    have := stars_ok (env := env) (pos := pos) h.2
    simp only [backTo, List.map_cons, List.any_cons, Bool.false_or] at this ⊢
    exact this
theorem slice_ok {b : Expr} (h : noSlice b = true) : PlainIx b := by
  intro o i
  cases b <;> first | rfl | cases h
theorem set_ok {e : Expr} {env : PySem.Env} (h : noSet e = true) : ∀ x, foldedSetIterable e env x = pure x := by
  intro x
  cases e <;> first | rfl | cases h
theorem plain_ok {e : Expr} {env : PySem.Env} (h : plainT e = true) : ∀ whole, PySem.isTrue e env whole = (do let v ← whole; standAt e.pos; holding [v] (truthy v)) := by
  intro whole
  cases e with
  | UnaryOp op a p => cases op <;> first | rfl | cases h
  | BoolOp _ _ _ => cases h
  | IfExp _ _ _ _ => cases h
  | Compare _ _ _ _ => cases h
  | _ => rfl
theorem kd_ne {m : E} (h : keptB ob m = true) : kd ob m ≠ .I := by
  intro z
  unfold keptB at h
  rw [z] at h
  cases h
theorem obT_less {vs : List Nat} : ofL (obT ob vs) = less (ofL ob) vs := by
  funext i
  unfold ofL obT less
  rw [Bool.eq_iff_iff]
  simp [List.contains_eq_mem]
theorem assign_ok {e : Expr} {es : List Expr} {env : PySem.Env} (h : noStar e = true) : (assignEach (e :: es) env).map (·.2) = assign e env :: (assignEach es env).map (·.2) := by
  cases e <;> first | rfl | cases h
end
end W
/-! W22: soundness of expressions. -/
namespace W
open PySem L2
theorem opB_eq {b : Bop} {o : Operator} (h : opB b o = true) : o = opOf b := of_decide_eq_true h
theorem cmB_eq {b : Cop} {o : CmpOp} (h : cmB b o = true) : o = copOf b := of_decide_eq_true h
theorem blt_mem {x : Str} (h : decide (x ∈ bltns) = true) : x ∈ bltns := of_decide_eq_true h
def pK (ob : List Nat) (m : E) (h : keptB ob m = true) : kd ob m = .K ∨ Kd.K = .I ∨ (kd ob m = .N ∧ Kd.K = .K) := by
  have := kd_ne h
  cases q : kd ob m with
  | I => exact absurd q this
  | K => exact .inl rfl
  | N => exact .inr (.inr ⟨rfl, rfl⟩)
abbrev PEm (C : Cfg) (rs sc : Scope) (g : Gd) (xr : XR) (F : Nat → List D → M D) (W : WX) (X : Cx) (ob : List Nat) (m : E) : Prop :=
  (∀ e, mE C rs sc ob m e = true → PE X e (tE g xr F (ofL ob) (kd ob m) W m)) ∧
  (∀ e, mE C rs sc ob m e = true → plainOr m e = true → PT X e (tT g xr F (ofL ob) W m)) ∧
  (∀ op es pos, mE C rs sc ob m (.BoolOp op es pos) = true → plainOr m (.BoolOp op es pos) = true → PW X (.BoolOp op es pos) (tT g xr F (ofL ob) W m))
/-- a plain expression: as a value gives as a test -/
theorem pem_plain {C : Cfg} {rs sc : Scope} {g : Gd} {xr : XR} {F : Nat → List D → M D} {W : WX} {X : Cx} {ob : List Nat} {m : E} (h : ∀ e, mE C rs sc ob m e = true → PE X e (tE g xr F (ofL ob) (kd ob m) W m)) (hk : keptB ob m = true ∨ ∃ i, m = .var i)
    (hp : ∀ e, plainOr m e = plainT e) : PEm C rs sc g xr F W X ob m := by
  refine ⟨h, fun e he hp' => ?_, fun op es pos he hp' => ?_⟩
  · rw [hp] at hp'
    refine (pt_val (h e he) (plain_ok hp')).imp fun σ H Q p => ?_
    obtain ⟨f, e, s, ca, A, ok, p⟩ := p
    refine ⟨f, e, s, ca, A, ok, ?_⟩
    cases q : den F m e s with
    | ok d s1 =>
      rw [q] at p
      cases d with
      | bl b => exact fun v H' ca' t r => ⟨b, k_bl r.items, p H' ca' t⟩
      | _ => exact p.elim
    | exc c x s1 => rw [q] at p; exact p
    | stuck => rw [q] at p; exact p
  · rw [hp] at hp'
    cases hp'
theorem and3 {a b c : Bool} (h : (a && b && c) = true) : a = true ∧ b = true ∧ c = true := by
  rw [Bool.and_eq_true, Bool.and_eq_true] at h
  exact ⟨h.1.1, h.1.2, h.2⟩
theorem and2 {a b : Bool} (h : (a && b) = true) : a = true ∧ b = true := Bool.and_eq_true_iff.mp h
section
variable {C : Cfg} {g : Gd} {xr : XR} {F : Nat → List D → M D} {W : WX} {X : Cx} {rs sc : Scope} {ob : List Nat}
theorem e_var {i : Nat} (x : XO C g xr F W X rs sc) : PEm C rs sc g xr F W X ob (.var i) := by
  refine pem_plain (fun e he => ?_) (.inr ⟨i, rfl⟩) (fun _ => rfl)
  cases e <;> first | (cases he; done) | skip
  rename_i y p
  obtain ⟨h1, h2, h3⟩ := and3 he
  obtain ⟨n1, n2⟩ := nameOk_eq h3
  have hN : X.N[i]? = some y := by rw [x.N]; exact nthS_eq h1
  show PE X _ (tE g xr F (ofL ob) (bif ob.contains i then Kd.I else Kd.K) W (.var i))
  cases c : ob.contains i with
  | true => exact s_varI hN (visB_eq x h2) n1 n2 c
  | false => exact s_varK hN (visB_eq x h2) n1 n2 c
theorem e_const (x : XO C g xr F W X rs sc) : PEm C rs sc g xr F W X ob .non ∧ (∀ b, PEm C rs sc g xr F W X ob (.bl b)) ∧ (∀ i, PEm C rs sc g xr F W X ob (.int i)) ∧ (∀ s, PEm C rs sc g xr F W X ob (.str s)) ∧ ∀ i d, PEm C rs sc g xr F W X ob (.glob i d) := by
  refine ⟨pem_plain (fun e he => ?_) (.inl rfl) (fun _ => rfl), fun b => pem_plain (fun e he => ?_) (.inl rfl) (fun _ => rfl), fun i => pem_plain (fun e he => ?_) (.inl rfl) (fun _ => rfl), fun s => pem_plain (fun e he => ?_) (.inl rfl) (fun _ => rfl), fun i d => pem_plain (fun e he => ?_) (.inl rfl) (fun _ => rfl)⟩
  · cases e <;> first | (cases he; done) | skip
    rename_i c j p
    cases c <;> first | (cases he; done) | exact s_non
  · cases e <;> first | (cases he; done) | skip
    rename_i c j p
    cases c <;> first | (cases he; done) | skip
    rename_i b'
    obtain rfl : b = b' := beq_iff_eq.mp (show (b == b') = true from he)
    exact s_bl
  · cases e <;> first | (cases he; done) | skip
    rename_i c j p
    cases c <;> first | (cases he; done) | skip
    rename_i b'
    obtain rfl : i = b' := of_decide_eq_true he
    exact s_int
  · cases e <;> first | (cases he; done) | skip
    rename_i c j p
    cases c <;> first | (cases he; done) | skip
    rename_i b'
    obtain ⟨h1, h2⟩ := and2 he
    exact s_str (by rw [← line_eq]; exact Nat.le_of_ble_eq_true h2) (sEq_eq h1)
  · cases e <;> first | (cases he; done) | skip
    rename_i y p
    obtain ⟨h1, h2, h3⟩ := and3 he
    obtain ⟨f1, u, v, m1, m2, m3⟩ := conB_eq x h1
    exact s_glob (glB_eq x h2) m1 m2 (nameOk_eq h3).1 f1 m3
theorem e_bin {op : Bop} {a b : E} (x : XO C g xr F W X rs sc) (ha : PEm C rs sc g xr F W X ob a) (hb : PEm C rs sc g xr F W X ob b) : PEm C rs sc g xr F W X ob (.bin op a b) := by
  refine pem_plain (fun e he => ?_) (.inl rfl) (fun _ => rfl)
  cases e <;> first | (cases he; done) | skip
  obtain ⟨h1, h2, h3⟩ := and3 he
  rw [opB_eq h1]
  exact s_bin (Nat.lt_of_le_of_lt (Nat.le_add_right _ 12) x.hu) op (ha.1 _ h2) (hb.1 _ h3)
theorem e_cmp {op : Cop} {a b : E} (x : XO C g xr F W X rs sc) (ha : PEm C rs sc g xr F W X ob a) (hb : PEm C rs sc g xr F W X ob b) : PEm C rs sc g xr F W X ob (.cmp op a b) := by
  have key : ∀ e, mE C rs sc ob (.cmp op a b) e = true → ∃ a' b' pos, e = .Compare a' [copOf op] [b'] pos ∧ behindInMarks (copOf op) b' = false ∧ mE C rs sc ob a a' = true ∧ mE C rs sc ob b b' = true := fun e he => by
    cases e <;> first | (cases he; done) | skip
    rename_i a' os bs pos
    match os, bs, he with
    | [o], [b'], he =>
      obtain ⟨h0, h2⟩ := and2 he
      obtain ⟨h1, h3, h4⟩ := and3 h0
      have e1 := cmB_eq h1
      subst e1
      exact ⟨a', b', pos, rfl, by simpa using h3, h4, h2⟩
  refine ⟨fun e he => ?_, fun e he _ => ?_, fun o es pos he _ => ?_⟩
  · obtain ⟨a', b', pos, rfl, h1, h2, h3⟩ := key e he
    exact s_cmp x.hu op h1 (ha.1 _ h2) (hb.1 _ h3)
  · obtain ⟨a', b', pos, rfl, h1, h2, h3⟩ := key e he
    exact t_cmp x.hu op h1 (ha.1 _ h2) (hb.1 _ h3)
  · obtain ⟨a', b', pos, z, _⟩ := key _ he
    cases z
theorem e_cmp2 {op op' : Cop} {a b d : E} (x : XO C g xr F W X rs sc) (ha : PEm C rs sc g xr F W X ob a) (hb : PEm C rs sc g xr F W X ob b) (hd : PEm C rs sc g xr F W X ob d) : PEm C rs sc g xr F W X ob (.cmp2 op op' a b d) := by
  have key : ∀ e, mE C rs sc ob (.cmp2 op op' a b d) e = true → ∃ a' b' d' pos, e = .Compare a' [copOf op, copOf op'] [b', d'] pos ∧ lastMarks [copOf op, copOf op'] [b', d'] = false ∧ mE C rs sc ob a a' = true ∧ mE C rs sc ob b b' = true ∧ mE C rs sc ob d d' = true := fun e he => by
    cases e <;> first | (cases he; done) | skip
    rename_i a' os bs pos
    match os, bs, he with
    | [o, o'], [b', d'], he =>
      obtain ⟨h0, h5⟩ := and2 he
      obtain ⟨h0, h3, h4⟩ := and3 h0
      obtain ⟨h0, h1, h2⟩ := and3 h0
      have e1 := cmB_eq h0
      have e2 := cmB_eq h1
      subst e1 e2
      exact ⟨a', b', d', pos, rfl, by simpa using h2, h3, h4, h5⟩
  refine ⟨fun e he => ?_, fun e he _ => ?_, fun o es pos he _ => ?_⟩
  · obtain ⟨a', b', d', pos, rfl, h1, h2, h3, h4⟩ := key e he
    exact s_cmp2 x.hu op op' h1 (ha.1 _ h2) (hb.1 _ h3) (hd.1 _ h4)
  · obtain ⟨a', b', d', pos, rfl, h1, h2, h3, h4⟩ := key e he
    exact t_cmp2 x.hu op op' h1 (ha.1 _ h2) (hb.1 _ h3) (hd.1 _ h4)
  · obtain ⟨a', b', d', pos, z, _⟩ := key _ he
    cases z
theorem e_and {a r : E} (ha : PEm C rs sc g xr F W X ob a) (hr : PEm C rs sc g xr F W X ob r) : PEm C rs sc g xr F W X ob (.and a r) := by
  refine ⟨fun e he => ?_, fun e he hp => ?_, fun op es pos he hp => ?_⟩
  · cases e <;> first | (cases he; done) | skip
    rename_i op es pos
    match op, es, he with
    | .And, [a', b'], he => obtain ⟨h1, h2⟩ := and2 he; exact s_and1 (pos' := pos) (ha.1 _ h1) (hr.1 _ h2)
    | .And, a' :: b' :: c' :: es, he => obtain ⟨h1, h2⟩ := and2 he; exact s_and (ha.1 _ h1) (hr.1 _ h2)
  · cases e <;> first | (cases he; done) | skip
    rename_i op es pos
    match op, es, he, hp with
    | .And, [a', b'], he, hp => obtain ⟨h1, h2⟩ := and2 he; obtain ⟨p1, p2⟩ := and2 hp; exact (t_and1 (ha.2.1 _ h1 p1) (hr.2.1 _ h2 p2)).pt
    | .And, a' :: b' :: c' :: es, he, hp => obtain ⟨h1, h2⟩ := and2 he; obtain ⟨p1, p2⟩ := and2 hp; exact (t_and (ha.2.1 _ h1 p1) (hr.2.2 _ _ _ h2 p2)).pt
  · match op, es, he, hp with
    | .And, [a', b'], he, hp => obtain ⟨h1, h2⟩ := and2 he; obtain ⟨p1, p2⟩ := and2 hp; exact t_and1 (ha.2.1 _ h1 p1) (hr.2.1 _ h2 p2)
    | .And, a' :: b' :: c' :: es, he, hp => obtain ⟨h1, h2⟩ := and2 he; obtain ⟨p1, p2⟩ := and2 hp; exact t_and (ha.2.1 _ h1 p1) (hr.2.2 _ _ _ h2 p2)
theorem e_or {a r : E} (ha : PEm C rs sc g xr F W X ob a) (hr : PEm C rs sc g xr F W X ob r) : PEm C rs sc g xr F W X ob (.or a r) := by
  refine ⟨fun e he => ?_, fun e he hp => ?_, fun op es pos he hp => ?_⟩
  · cases e <;> first | (cases he; done) | skip
    rename_i op es pos
    match op, es, he with
    | .Or, [a', b'], he => obtain ⟨h1, h2⟩ := and2 he; exact s_or1 (pos' := pos) (ha.1 _ h1) (hr.1 _ h2)
    | .Or, a' :: b' :: c' :: es, he => obtain ⟨h1, h2⟩ := and2 he; exact s_or (ha.1 _ h1) (hr.1 _ h2)
  · cases e <;> first | (cases he; done) | skip
    rename_i op es pos
    match op, es, he, hp with
    | .Or, [a', b'], he, hp => obtain ⟨h1, h2⟩ := and2 he; obtain ⟨p1, p2⟩ := and2 hp; exact (t_or1 (ha.2.1 _ h1 p1) (hr.2.1 _ h2 p2)).pt
    | .Or, a' :: b' :: c' :: es, he, hp => obtain ⟨h1, h2⟩ := and2 he; obtain ⟨p1, p2⟩ := and2 hp; exact (t_or (ha.2.1 _ h1 p1) (hr.2.2 _ _ _ h2 p2)).pt
  · match op, es, he, hp with
    | .Or, [a', b'], he, hp => obtain ⟨h1, h2⟩ := and2 he; obtain ⟨p1, p2⟩ := and2 hp; exact t_or1 (ha.2.1 _ h1 p1) (hr.2.1 _ h2 p2)
    | .Or, a' :: b' :: c' :: es, he, hp => obtain ⟨h1, h2⟩ := and2 he; obtain ⟨p1, p2⟩ := and2 hp; exact t_or (ha.2.1 _ h1 p1) (hr.2.2 _ _ _ h2 p2)
theorem e_not {a : E} (ha : PEm C rs sc g xr F W X ob a) : PEm C rs sc g xr F W X ob (.not a) := by
  refine ⟨fun e he => ?_, fun e he hp => ?_, fun op es pos he hp => by cases he⟩
  · cases e <;> first | (cases he; done) | skip
    rename_i op a' pos
    cases op <;> first | (cases he; done) | exact s_not (ha.1 _ he)
  · cases e <;> first | (cases he; done) | skip
    rename_i op a' pos
    cases op <;> first | (cases he; done) | exact t_not (ha.2.1 _ he hp)
theorem e_neg {a : E} (ha : PEm C rs sc g xr F W X ob a) : PEm C rs sc g xr F W X ob (.neg a) := by
  refine pem_plain (fun e he => ?_) (.inl rfl) (fun _ => rfl)
  cases e <;> first | (cases he; done) | skip
  rename_i op a' pos
  cases op <;> first | (cases he; done) | exact s_neg (ha.1 _ he)
theorem e_ite {c a b : E} (hc : PEm C rs sc g xr F W X ob c) (ha : PEm C rs sc g xr F W X ob a) (hb : PEm C rs sc g xr F W X ob b) : PEm C rs sc g xr F W X ob (.ite c a b) := by
  refine pem_plain (fun e he => ?_) (.inl rfl) (fun _ => rfl)
  cases e <;> first | (cases he; done) | skip
  obtain ⟨h0, h5⟩ := and2 he
  obtain ⟨h0, h4⟩ := and2 h0
  obtain ⟨h0, h3⟩ := and2 h0
  obtain ⟨h0, h1, h2⟩ := and3 h0
  exact s_ite (hc.2.1 _ h1 h0) (ha.1 _ h2) (hb.1 _ h3) (kd_ne h4) (kd_ne h5)
theorem e_idx {a b : E} (x : XO C g xr F W X rs sc) (ha : PEm C rs sc g xr F W X ob a) (hb : PEm C rs sc g xr F W X ob b) : PEm C rs sc g xr F W X ob (.idx a b) := by
  refine pem_plain (fun e he => ?_) (.inl rfl) (fun _ => rfl)
  cases e <;> first | (cases he; done) | skip
  obtain ⟨h1, h2, h3⟩ := and3 he
  exact s_idx x.hu (ha.1 _ h2) (hb.1 _ h3) (slice_ok h1)
theorem part_ok {m : E} {o : Option Expr} (h : parB m o (mE C rs sc ob m) = true) (hm : PEm C rs sc g xr F W X ob m) : (o = none ∧ isNonE m = true) ∨ ∃ b, o = some b ∧ isNonE m = false ∧ PE X b (tE g xr F (ofL ob) (kd ob m) W m) := by
  cases o with
  | none => exact .inl ⟨rfl, h⟩
  | some b =>
    obtain ⟨h1, h2⟩ := and2 h
    exact .inr ⟨b, rfl, by simpa using h1, hm.1 _ h2⟩
theorem e_cut {a l h : E} (ha : PEm C rs sc g xr F W X ob a) (hl : PEm C rs sc g xr F W X ob l) (hh : PEm C rs sc g xr F W X ob h) : PEm C rs sc g xr F W X ob (.cut a l h) := by
  refine pem_plain (fun e he => ?_) (.inl rfl) (fun _ => rfl)
  cases e <;> first | (cases he; done) | skip
  rename_i a' b' pos
  cases b' <;> first | (cases he; done) | skip
  rename_i lo hi st p2
  cases st <;> first | (cases he; done) | skip
  obtain ⟨h1, h2, h3⟩ := and3 he
  exact s_cut (ha.1 _ h1) (part_ok h2 hl) (part_ok h3 hh)
abbrev PAm (C : Cfg) (rs sc : Scope) (g : Gd) (xr : XR) (F : Nat → List D → M D) (W : WX) (X : Cx) (ob : List Nat) (m : E) : Prop := ∀ es, mA C rs sc ob m es = true → PA X es (tA g xr F (ofL ob) W m)
theorem a_nil' : PAm C rs sc g xr F W X ob .nil := fun es h => by
  cases es with
  | nil => exact a_nil
  | cons _ _ => cases h
theorem a_cons' {a r : E} (ha : PEm C rs sc g xr F W X ob a) (hr : PAm C rs sc g xr F W X ob r) : PAm C rs sc g xr F W X ob (.cons a r) := fun es h => by
  cases es with
  | nil => cases h
  | cons e es =>
    obtain ⟨h0, h4⟩ := and2 h
    obtain ⟨h1, h2, h3⟩ := and3 h0
    exact a_cons (ha.1 _ h2) (kd_ne h3) (hr _ h4) (star_ok h1)
theorem e_tup {as : E} (ha : PAm C rs sc g xr F W X ob as) : PEm C rs sc g xr F W X ob (.tup as) := by
  refine pem_plain (fun e he => ?_) (.inl rfl) (fun _ => rfl)
  cases e <;> first | (cases he; done) | exact s_tup (ha _ he)
theorem e_lst {as : E} (ha : PAm C rs sc g xr F W X ob as) : PEm C rs sc g xr F W X ob (.lst as) := by
  refine pem_plain (fun e he => ?_) (.inl rfl) (fun _ => rfl)
  cases e <;> first | (cases he; done) | exact s_lst (ha _ he)
theorem e_call {i : Nat} {as : E} (x : XO C g xr F W X rs sc) (ha : PAm C rs sc g xr F W X ob as) : PEm C rs sc g xr F W X ob (.call i as) := by
  refine pem_plain (fun e he => ?_) (.inl rfl) (fun _ => rfl)
  cases e <;> first | (cases he; done) | skip
  rename_i fe es kw pos
  match fe, es, kw, he with
  | .Name y p, a' :: as', [], he =>
    obtain ⟨h0, h6⟩ := and2 he
    obtain ⟨h0, h4, h5⟩ := and3 h0
    obtain ⟨h1, h2, h3⟩ := and3 h0
    obtain ⟨np, k, f, fd, ps, Fn, hr, hm, hk, hb, hl⟩ := x.call i y (nthS_eq h1)
    refine (pe_call (E := fun _ _ _ => False) Fn hr (glB_eq x h2) hm hk hb .nil (fun _ _ _ _ _ _ _ h => h.elim) (ha _ h6) (nameOk_eq h3).1 (star_ok h4) (stars_ok h5)).imp fun σ H Q h => ?_
    exact r_call (fun z => by rw [x.gx] at z; cases z) (fun z => by rw [x.gx] at z; cases z) hl h
end
end W
/-! W23: soundness: built-ins, iterables, targets, comprehensions; all expressions. -/
namespace W
open PySem L2
section
variable {C : Cfg} {g : Gd} {xr : XR} {F : Nat → List D → M D} {W : WX} {X : Cx} {rs sc : Scope} {ob : List Nat}
theorem b_mem {y : Str} (x : XO C g xr F W X rs sc) (h : y ∈ bltns) : X.mg y = none := x.blt y h
theorem tyB_eq {t : Nat} {y : Str} (h : tyB t y = true) : t ≤ 5 ∧ y = Str.ofString (tyName t) := by
  unfold tyB at h
  split at h <;> first | exact ⟨by decide, sEq_eq h⟩ | cases h
theorem ty_val {t : Nat} (ht : t ≤ 5) (x : XO C g xr F W X rs sc) {p : Pos} (hg : Gl X (Str.ofString (tyName t))) : PE X (.Name (Str.ofString (tyName t)) p) (tC (.ty (tyName t))) := by
  have key : t = 0 ∨ t = 1 ∨ t = 2 ∨ t = 3 ∨ t = 4 ∨ t = 5 := by omega
  rcases key with rfl | rfl | rfl | rfl | rfl | rfl
  · exact pe_bltn (v := .ty "int") (u := .type "int") hg (x.blt _ (by decide)) (by decide +kernel) rfl (by decide) (by decide)
  · exact pe_bltn (v := .ty "bool") (u := .type "bool") hg (x.blt _ (by decide)) (by decide +kernel) rfl (by decide) (by decide)
  · exact pe_bltn (v := .ty "str") (u := .type "str") hg (x.blt _ (by decide)) (by decide +kernel) rfl (by decide) (by decide)
  · exact pe_bltn (v := .ty "tuple") (u := .type "tuple") hg (x.blt _ (by decide)) (by decide +kernel) rfl (by decide) (by decide)
  · exact pe_bltn (v := .ty "list") (u := .type "list") hg (x.blt _ (by decide)) (by decide +kernel) rfl (by decide) (by decide)
  · exact pe_bltn (v := .ty "dict") (u := .type "dict") hg (x.blt _ (by decide)) (by decide +kernel) rfl (by decide) (by decide)
theorem e_isT {t : Nat} {a : E} (x : XO C g xr F W X rs sc) (ha : PEm C rs sc g xr F W X ob a) : PEm C rs sc g xr F W X ob (.prim (.isT [t]) (.cons a .nil)) := by
  refine pem_plain (fun e he => ?_) (.inl rfl) (fun _ => rfl)
  cases e <;> first | (cases he; done) | skip
  rename_i fe es kw pos
  match fe, es, kw, he with
  | .Name y p, [a', .Name z q], [], he =>
    obtain ⟨h0, h6⟩ := and2 he
    obtain ⟨h0, h4, h5⟩ := and3 h0
    obtain ⟨h1, h2, h3⟩ := and3 h0
    have e1 := sEq_eq h1
    subst e1
    obtain ⟨t5, e2⟩ := tyB_eq h3
    subst e2
    exact s_isT t5 (glB_eq x h2) (x.blt _ (by decide)) (ha.1 _ h6) (ty_val t5 x (glB_eq x h4)) (star_ok h5)
theorem e_prim1 {p : Prim} {n : Str} {a : E} (x : XO C g xr F W X rs sc) (ha : PEm C rs sc g xr F W X ob a) (hk : kd ob (.prim p (.cons a .nil)) = .N) (hm : ∀ e, mE C rs sc ob (.prim p (.cons a .nil)) e = (match e with
          | .Call (.Name x _) [a'] [] _ => sEq x n && glB sc x && noStar a' && mE C rs sc ob a a'
          | _ => false)) (h : ∀ {a' : Expr} {pp pos : Pos}, Gl X n → noStar a' = true → PE X a' (tE g xr F (ofL ob) (kd ob a) W a) → PE X (.Call (.Name n pp) [a'] [] pos) (tE g xr F (ofL ob) .N W (.prim p (.cons a .nil)))) : PEm C rs sc g xr F W X ob (.prim p (.cons a .nil)) := by
  refine pem_plain (fun e he => ?_) (.inl (by unfold keptB; rw [hk])) (fun _ => rfl)
  rw [hm] at he
  rw [hk]
  cases e <;> first | (cases he; done) | skip
  rename_i fe es kw pos
  match fe, es, kw, he with
  | .Name y q, [a'], [], he =>
    obtain ⟨h0, h4⟩ := and2 he
    obtain ⟨h1, h2, h3⟩ := and3 h0
    have e1 := sEq_eq h1
    subst e1
    exact h (glB_eq x h2) h3 (ha.1 _ h4)
theorem e_prim2 {p : Prim} {n : Str} {a b : E} (x : XO C g xr F W X rs sc) (ha : PEm C rs sc g xr F W X ob a) (hb : PEm C rs sc g xr F W X ob b) (hk : kd ob (.prim p (.cons a (.cons b .nil))) = .K) (hm : ∀ e, mE C rs sc ob (.prim p (.cons a (.cons b .nil))) e = (match e with
          | .Call (.Name x _) [a', b'] [] _ => sEq x n && glB sc x && noStar a' && noStar b' && mE C rs sc ob a a' && keptB ob a && mE C rs sc ob b b' && keptB ob b
          | _ => false)) (h : ∀ {a' b' : Expr} {pp pos : Pos}, Gl X n → noStar a' = true → noStar b' = true → PE X a' (tE g xr F (ofL ob) (kd ob a) W a) → PE X b' (tE g xr F (ofL ob) (kd ob b) W b) → kd ob a ≠ .I → kd ob b ≠ .I → PE X (.Call (.Name n pp) [a', b'] [] pos) (tE g xr F (ofL ob) .K W (.prim p (.cons a (.cons b .nil))))) : PEm C rs sc g xr F W X ob (.prim p (.cons a (.cons b .nil))) := by
  refine pem_plain (fun e he => ?_) (.inl (by unfold keptB; rw [hk])) (fun _ => rfl)
  rw [hm] at he
  rw [hk]
  cases e <;> first | (cases he; done) | skip
  rename_i fe es kw pos
  match fe, es, kw, he with
  | .Name y q, [a', b'], [], he =>
    obtain ⟨h0, h7, h8⟩ := and3 he
    obtain ⟨h0, h5, h6⟩ := and3 h0
    obtain ⟨h0, h3, h4⟩ := and3 h0
    obtain ⟨h1, h2⟩ := and2 h0
    have e1 := sEq_eq h1
    subst e1
    exact h (glB_eq x h2) h3 h4 (ha.1 _ h5) (hb.1 _ h7) (kd_ne h6) (kd_ne h8)
theorem e_listZip {a b : E} (x : XO C g xr F W X rs sc) (ha : PEm C rs sc g xr F W X ob a) (hb : PEm C rs sc g xr F W X ob b) : PEm C rs sc g xr F W X ob (.itlst (.itz (.itq a) (.itq b))) := by
  refine pem_plain (fun e he => ?_) (.inl rfl) (fun _ => rfl)
  cases e <;> first | (cases he; done) | skip
  rename_i fe es kw pos
  match fe, es, kw, he with
  | .Name y q, [.Call (.Name z q2) [a', b'] [] pos2], [], he =>
    obtain ⟨h0, h9, h10⟩ := and3 he
    obtain ⟨h0, h7, h8⟩ := and3 h0
    obtain ⟨h0, h5, h6⟩ := and3 h0
    obtain ⟨h0, h3, h4⟩ := and3 h0
    obtain ⟨h1, h2⟩ := and2 h0
    have e1 := sEq_eq h1
    have e2 := sEq_eq h3
    subst e1 e2
    exact s_listZip x.calm (glB_eq x h2) (x.blt _ (by decide)) (glB_eq x h4) (x.blt _ (by decide)) (ha.1 _ h7) (hb.1 _ h9) (kd_ne h8) (kd_ne h10) (star_ok h5) (star_ok h6) (stars_ok (by rw [List.all_cons, h6]; rfl))
theorem e_prim {p : Prim} {as : E} (x : XO C g xr F W X rs sc) (ha : ∀ a r, as = .cons a r → PEm C rs sc g xr F W X ob a) (ha2 : ∀ a b, as = .cons a (.cons b .nil) → PEm C rs sc g xr F W X ob b) : PEm C rs sc g xr F W X ob (.prim p as) := by
  have none' : (∀ e, mE C rs sc ob (.prim p as) e = false) → PEm C rs sc g xr F W X ob (.prim p as) := fun h => ⟨fun e he => (by rw [h] at he; cases he), fun e he => (by rw [h] at he; cases he), fun o es pos he => (by rw [h] at he; cases he)⟩
  cases as with
  | cons a r =>
    have ha1 := ha a r rfl
    cases r with
    | nil =>
      cases p with
      | isT ts =>
        match ts with
        | [t] => exact e_isT x ha1
        | [] => exact none' fun e => rfl
        | _ :: _ :: _ => exact none' fun e => rfl
      | len => exact e_prim1 (n := "len") x ha1 rfl (fun _ => rfl) fun hg hs h => s_prim1 call_lenW hg (x.blt _ (by decide)) PySem.boot_len (by decide) (by decide) h (star_ok hs)
      | all => exact e_prim1 (n := "all") x ha1 rfl (fun _ => rfl) fun hg hs h => s_prim1 (call_allW x.calm) hg (x.blt _ (by decide)) (by decide +kernel) (by decide) (by decide) h (star_ok hs)
      | any => exact e_prim1 (n := "any") x ha1 rfl (fun _ => rfl) fun hg hs h => s_prim1 (call_anyW x.calm) hg (x.blt _ (by decide)) (by decide +kernel) (by decide) (by decide) h (star_ok hs)
      | tuple => exact e_prim1 (n := "tuple") x ha1 rfl (fun _ => rfl) fun hg hs h => s_primT call_tupleW hg (x.blt _ (by decide)) (by decide +kernel) (by decide) (by decide) h (star_ok hs)
      | list => exact e_prim1 (n := "list") x ha1 rfl (fun _ => rfl) fun hg hs h => s_primT (call_listW x.calm) hg (x.blt _ (by decide)) (by decide +kernel) (by decide) (by decide) h (star_ok hs)
      | sorted => exact e_prim1 (n := "sorted") x ha1 rfl (fun _ => rfl) fun hg hs h => s_prim1 (call_sortedW x.calm x.hu) hg (x.blt _ (by decide)) (by decide +kernel) (by decide) (by decide) h (star_ok hs)
      | dict => exact e_prim1 (n := "dict") x ha1 rfl (fun _ => rfl) fun hg hs h => s_primT (call_dictW x.calm) hg (x.blt _ (by decide)) (by decide +kernel) (by decide) (by decide) h (star_ok hs)
      | _ => exact none' fun e => rfl
    | cons b r =>
      cases r with
      | nil =>
        cases p with
        | sumL => exact e_prim2 (n := "sum") x ha1 (ha2 a b rfl) rfl (fun _ => rfl) fun hg hs hs2 h h' hk hk' => s_prim2 (call_sumLW x.calm) hg (x.blt _ (by decide)) (by decide +kernel) (by decide) (by decide) h h' hk hk' (star_ok hs) (star_ok hs2)
        | max2 => exact e_prim2 (n := "max") x ha1 (ha2 a b rfl) rfl (fun _ => rfl) fun hg hs hs2 h h' hk hk' => s_prim2 (call_max2W x.calm) hg (x.blt _ (by decide)) (by decide +kernel) (by decide) (by decide) h h' hk hk' (star_ok hs) (star_ok hs2)
        | min2 => exact e_prim2 (n := "min") x ha1 (ha2 a b rfl) rfl (fun _ => rfl) fun hg hs hs2 h h' hk hk' => s_prim2 (call_min2W x.calm) hg (x.blt _ (by decide)) (by decide +kernel) (by decide) (by decide) h h' hk hk' (star_ok hs) (star_ok hs2)
        | _ => exact none' fun e => rfl
      | _ => exact none' fun e => by cases p <;> rfl
    | _ => exact none' fun e => by cases p <;> rfl
  | _ => exact none' fun e => by cases p <;> rfl
abbrev PIm (C : Cfg) (rs sc : Scope) (g : Gd) (xr : XR) (F : Nat → List D → M D) (W : WX) (X : Cx) (ob : List Nat) (m : E) : Prop := ∀ xx tg e, mI C rs sc ob xx m tg e = true → PI X tg e (tI g xr F (ofL ob) xx W m)
theorem i_itv' {a : E} (ha : PEm C rs sc g xr F W X ob a) : PIm C rs sc g xr F W X ob (.itv a) := fun xx tg e h => by
  obtain ⟨h1, h2⟩ := and2 h
  exact i_itv (ha.1 _ h1) (kd_ne h2)
theorem i_itl' {a : E} (ha : PEm C rs sc g xr F W X ob a) : PIm C rs sc g xr F W X ob (.itl a) := fun xx tg e h => by
  obtain ⟨h1, h2⟩ := and2 h
  obtain rfl : xx = true := h1
  exact i_itl (ha.1 _ h2)
theorem i_vals' {a : E} (ha : PEm C rs sc g xr F W X ob a) : PIm C rs sc g xr F W X ob (.itvs a) := fun xx tg e h => by
  cases e <;> first | (cases h; done) | skip
  rename_i fe es kw cpos
  match fe, es, kw, h with
  | .Attribute a' n apos, [], [], h =>
    obtain ⟨h0, h4, h5⟩ := and3 h
    obtain ⟨h0, h2, h3⟩ := and3 h0
    have e1 := sEq_eq h0
    subst e1
    exact i_values (ha.1 _ h4) (kd_ne h5) (base_ok h2) h3
theorem i_r1' {a : E} (x : XO C g xr F W X rs sc) (ha : PEm C rs sc g xr F W X ob a) : PIm C rs sc g xr F W X ob (.itr1 a) := fun xx tg e h => by
  cases e <;> first | (cases h; done) | skip
  rename_i fe es kw pos
  match fe, es, kw, h with
  | .Name y p, [a'], [], h =>
    obtain ⟨h0, h4⟩ := and2 h
    obtain ⟨h1, h2, h3⟩ := and3 h0
    have e1 := sEq_eq h1
    subst e1
    exact i_range1 (glB_eq x h2) (x.blt _ (by decide)) (ha.1 _ h4) (star_ok h3)
theorem i_r2' {a b : E} (x : XO C g xr F W X rs sc) (ha : PEm C rs sc g xr F W X ob a) (hb : PEm C rs sc g xr F W X ob b) : PIm C rs sc g xr F W X ob (.itr2 a b) := fun xx tg e h => by
  cases e <;> first | (cases h; done) | skip
  rename_i fe es kw pos
  match fe, es, kw, h with
  | .Name y p, [a', b'], [], h =>
    obtain ⟨h0, h6⟩ := and2 h
    obtain ⟨h0, h4, h5⟩ := and3 h0
    obtain ⟨h1, h2, h3⟩ := and3 h0
    have e1 := sEq_eq h1
    subst e1
    exact i_range2 (glB_eq x h2) (x.blt _ (by decide)) (ha.1 _ h5) (hb.1 _ h6) (star_ok h3) (star_ok h4)
theorem kept_or {m : E} {xx : Bool} (h : (keptB ob m || xx) = true) : kd ob m ≠ .I ∨ xx = true := (Bool.or_eq_true_iff.mp h).imp kd_ne id
theorem i_zip' {a b : E} (x : XO C g xr F W X rs sc) (ha : PEm C rs sc g xr F W X ob a) (hb : PEm C rs sc g xr F W X ob b) : PIm C rs sc g xr F W X ob (.itz (.itq a) (.itq b)) := fun xx tg e h => by
  match tg, e, h with
  | .Tuple _ _ _, .Call (.Name y p) [a', b'] [] pos, h =>
    obtain ⟨h0, h8⟩ := and2 h
    obtain ⟨h0, h6, h7⟩ := and3 h0
    obtain ⟨h0, h4, h5⟩ := and3 h0
    obtain ⟨h1, h2, h3⟩ := and3 h0
    have e1 := sEq_eq h1
    subst e1
    exact i_zip (glB_eq x h2) (x.blt _ (by decide)) (ha.1 _ h5) (hb.1 _ h7) (kept_or h6) (kept_or h8) (star_ok h3) (star_ok h4) (stars_ok (by rw [List.all_cons, h4]; rfl))
theorem i_enum' {a : E} (x : XO C g xr F W X rs sc) (ha : PEm C rs sc g xr F W X ob a) : PIm C rs sc g xr F W X ob (.ite1 (.itq a)) := fun xx tg e h => by
  match tg, e, h with
  | .Tuple _ _ _, .Call (.Name y p) [a'] [] pos, h =>
    obtain ⟨h0, h4, h5⟩ := and3 h
    obtain ⟨h1, h2, h3⟩ := and3 h0
    have e1 := sEq_eq h1
    subst e1
    exact i_enum (glB_eq x h2) (x.blt _ (by decide)) (ha.1 _ h4) (kept_or h5) (star_ok h3)
abbrev PGm (C : Cfg) (rs sc : Scope) (g : Gd) (X : Cx) (ob : List Nat) (m : E) : Prop := (∀ e, mG C rs sc ob m e = true → PG X e (tG g (ofL ob) m) ∧ noStar e = true) ∧ (∀ es, mGs C rs sc ob m es = true → PGs X es (tGs g (ofL ob) m) ∧ es.all noStar = true ∧ ∀ l e e', tgt m (.lst l) e = some e' → l.length = es.length)
theorem assigns_ok {env : PySem.Env} : ∀ {es : List Expr}, es.all noStar = true → (assignEach es env).length = es.length ∧ (assignEach es env).findIdx? (·.1) = none
  | [], _ => ⟨rfl, rfl⟩
  | e :: es, h => by
    rw [List.all_cons, Bool.and_eq_true] at h
    obtain ⟨i1, i2⟩ := assigns_ok (env := env) h.2
    have e1 : assignEach (e :: es) env = (false, assign e env) :: assignEach es env := by
      have h1 := h.1
      cases e <;> first | rfl | cases h1
    rw [e1]
    exact ⟨by simp [i1], by rw [List.findIdx?_cons]; simp [i2]⟩
theorem g_all (x : XO C g xr F W X rs sc) : ∀ m : E, PGm C rs sc g X ob m
  | .tname i => ⟨fun e h => by
      cases e <;> first | (cases h; done) | skip
      obtain ⟨h1, h2, h3⟩ := and3 h
      obtain ⟨l1, l2⟩ := locB_eq x h2
      exact ⟨g_name (by rw [x.N]; exact x.nd) (by rw [x.N]; exact nthS_eq h1) l1 l2 (by simpa [ofL] using h3), rfl⟩, fun es h => (by cases h)⟩
  | .ttup ts => ⟨fun e h => by
      cases e <;> first | (cases h; done) | skip
      obtain ⟨h1, h2, h3⟩ := (g_all x ts).2 _ h
      obtain ⟨n1, n2⟩ := assigns_ok (env := X.env) h2
      exact ⟨g_tup h1 (fun hp => pg_tup x.calm hp n1 n2) h3, rfl⟩, fun es h => (by cases h)⟩
  | .nil => ⟨fun e h => (by cases h), fun es h => by
      cases es with
      | nil => exact ⟨gs_nil, rfl, fun l e e' q => by cases l <;> first | rfl | cases q⟩
      | cons _ _ => cases h⟩
  | .cons a r => ⟨fun e h => (by cases h), fun es h => by
      cases es with
      | nil => cases h
      | cons e es =>
        obtain ⟨h1, h2, h3⟩ := and3 h
        obtain ⟨i1, i2, i3⟩ := (g_all x r).2 _ h3
        obtain ⟨j1, j2⟩ := (g_all x a).1 _ h2
        refine ⟨gs_cons j1 i1 (fun p q => pgs_cons p q (assign_ok h1)), by rw [List.all_cons, h1, i2]; rfl, fun l e0 e' q => ?_⟩
        cases l with
        | nil => cases q
        | cons d l =>
          change (match tgt a d e0 with | some σ' => tgt r (.lst l) σ' | none => none) = some e' at q
          cases c : tgt a d e0 with
          | none => rw [c] at q; cases q
          | some e1 =>
            rw [c] at q
            simp [i3 l e1 e' q]⟩
  | .var _ | .non | .bl _ | .int _ | .str _ | .glob _ _ | .bin _ _ _ | .cmp _ _ _ | .cmp2 _ _ _ _ _ | .and _ _ | .or _ _ | .not _ | .neg _ | .ite _ _ _ | .call _ _ | .prim _ _ | .meth _ _ _ | .idx _ _ | .cut _ _ _ | .rev _
  | .star _ _ | .tup _ | .lst _ | .dct _ _ | .kv _ _ _ | .dstar _ _ | .lc _ _ _ _ | .lc2 _ _ _ _ _ _ _ | .dc _ _ _ _ _ _ | .dc2 _ _ _ _ _ _ _ _ _ | .itv _ | .itl _ | .itq _ | .itr1 _ | .itr2 _ _ | .itr3 _ _ _ | .ite1 _ | .itz _ _ | .itz3 _ _ _ | .iti _ | .itvs _
  | .ittup _ | .itlst _ | .itdct _ _ | .itsrt _ | .itmax _ | .srtK _ _ _ | .minK _ _ _ | .lam _ | .drw | .vals _ | .ncel | .deref _ => ⟨fun e h => (by cases h), fun es h => (by cases h)⟩
abbrev PKm (C : Cfg) (rs sc : Scope) (g : Gd) (xr : XR) (F : Nat → List D → M D) (W : WX) (X : Cx) (ob : List Nat) (m : E) : Prop := ∀ ks vs (pos : Pos), mK C rs sc ob m ks vs = true → PPs X pos ks vs (trsOf g xr F (ofL ob) W m)
theorem k_nil' : PKm C rs sc g xr F W X ob .nil := fun ks vs pos h => by
  cases ks <;> cases vs <;> first | (cases h; done) | exact pps_nil
theorem k_kv' {k v r : E} (hk : PEm C rs sc g xr F W X ob k) (hv : PEm C rs sc g xr F W X ob v) (hr : PKm C rs sc g xr F W X ob r) : PKm C rs sc g xr F W X ob (.kv k v r) := fun ks vs pos h => by
  match ks, vs, h with
  | some k' :: ks, v' :: vs, h =>
    obtain ⟨h0, h4, h5⟩ := and3 h
    obtain ⟨h1, h2, h3⟩ := and3 h0
    exact pps_cons ((hk.1 _ h1).imp fun σ H Q q => tE.weak (pK ob k h2) q) ((hv.1 _ h3).imp fun σ H Q q => tE.weak (pK ob v h4) q) (hr _ _ _ h5)
theorem e_dct {T : Bool} {as : E} (hk : PKm C rs sc g xr F W X ob as) : PEm C rs sc g xr F W X ob (.dct T as) := by
  refine pem_plain (fun e he => ?_) (.inl rfl) (fun _ => rfl)
  cases e <;> first | (cases he; done) | skip
  rename_i ks vs pos
  show PE X _ (tE g xr F (ofL ob) .N W (.dct T as))
  by_cases hn : as = .nil
  · subst hn
    obtain ⟨h1, h2⟩ := and2 he
    cases ks <;> cases vs <;> first | (cases h1; done) | (cases h2; done) | exact s_dct0
  · have he' : (!T && mK C rs sc ob as ks vs && isKv as && Nat.ble (lenKv as) 15 && ks.all (·.isSome) && decide (ks.length = vs.length) && !ks.isEmpty && Nat.ble ks.length 15) = true := by
      cases as <;> first | exact he | exact absurd rfl hn
    obtain ⟨h0, h7, h8⟩ := and3 he'
    obtain ⟨h0, h5, h6⟩ := and3 h0
    obtain ⟨h0, h3, h4⟩ := and3 h0
    obtain ⟨h1, h2⟩ := and2 h0
    obtain rfl : T = false := by simpa using h1
    exact s_dct h3 (Nat.le_of_ble_eq_true h4) (hk _ _ pos h2) h5 (of_decide_eq_true h6) (fun z => by rw [z] at h7; cases h7) (Nat.le_of_ble_eq_true h8)
end
end W
/-! W24: soundness: every expression. -/
namespace W
open PySem L2
section
variable {C : Cfg} {g : Gd} {xr : XR} {F : Nat → List D → M D} {W : WX} {X : Cx} {rs sc : Scope} {ob : List Nat} {m : E}
/-- parts that a rule asks for -/
inductive Kid : E → E → Prop
  | q {a : E} : Kid (.itq a) a
  | c1 {a r : E} : Kid (.cons a r) a
  | c2 {a b r : E} : Kid (.cons a (.cons b r)) b
  | z1 {a q : E} : Kid (.itz (.itq a) q) a
  | z2 {a p : E} : Kid (.itz p (.itq a)) a
abbrev PCm (C : Cfg) (rs sc : Scope) (g : Gd) (xr : XR) (F : Nat → List D → M D) (W : WX) (X : Cx) (ob : List Nat) (m : E) : Prop := ∀ a, Kid m a → PEm C rs sc g xr F W X ob a
theorem noE (h : ∀ e, mE C rs sc ob m e = false) : PEm C rs sc g xr F W X ob m := ⟨fun e he => (by rw [h] at he; cases he), fun e he => (by rw [h] at he; cases he), fun o es pos he => (by rw [h] at he; cases he)⟩
theorem noA (h : ∀ es, mA C rs sc ob m es = false) : PAm C rs sc g xr F W X ob m := fun es he => by rw [h] at he; cases he
theorem noI (h : ∀ xx tg e, mI C rs sc ob xx m tg e = false) : PIm C rs sc g xr F W X ob m := fun xx tg e he => by rw [h] at he; cases he
theorem noK (h : ∀ ks vs, mK C rs sc ob m ks vs = false) : PKm C rs sc g xr F W X ob m := fun ks vs pos he => by rw [h] at he; cases he
theorem noC (h : ∀ a, ¬Kid m a) : PCm C rs sc g xr F W X ob m := fun a z => absurd z (h a)
def Snd (m : E) : Prop := ∀ (C : Cfg) (g : Gd) (xr : XR) (F : Nat → List D → M D) (W : WX) (X : Cx) (rs sc : Scope) (ob : List Nat), XO C g xr F W X rs sc → PEm C rs sc g xr F W X ob m ∧ PAm C rs sc g xr F W X ob m ∧ PIm C rs sc g xr F W X ob m ∧ PKm C rs sc g xr F W X ob m ∧ PCm C rs sc g xr F W X ob m
theorem onlyE (h : ∀ (C : Cfg) (g : Gd) (xr : XR) (F : Nat → List D → M D) (W : WX) (X : Cx) (rs sc : Scope) (ob : List Nat), XO C g xr F W X rs sc → PEm C rs sc g xr F W X ob m)
    (h1 : ∀ C rs sc ob es, mA C rs sc ob m es = false) (h2 : ∀ C rs sc ob xx tg e, mI C rs sc ob xx m tg e = false) (h3 : ∀ C rs sc ob ks vs, mK C rs sc ob m ks vs = false) (h4 : ∀ a, ¬Kid m a) : Snd m :=
  fun C g xr F W X rs sc ob x => ⟨h C g xr F W X rs sc ob x, noA (h1 C rs sc ob), noI (h2 C rs sc ob), noK (h3 C rs sc ob), noC h4⟩
theorem onlyI (h : ∀ (C : Cfg) (g : Gd) (xr : XR) (F : Nat → List D → M D) (W : WX) (X : Cx) (rs sc : Scope) (ob : List Nat), XO C g xr F W X rs sc → PIm C rs sc g xr F W X ob m)
    (h1 : ∀ C rs sc ob es, mA C rs sc ob m es = false) (h2 : ∀ C rs sc ob e, mE C rs sc ob m e = false) (h3 : ∀ C rs sc ob ks vs, mK C rs sc ob m ks vs = false) (h4 : ∀ a, ¬Kid m a) : Snd m :=
  fun C g xr F W X rs sc ob x => ⟨noE (h2 C rs sc ob), noA (h1 C rs sc ob), h C g xr F W X rs sc ob x, noK (h3 C rs sc ob), noC h4⟩
theorem tests_ok {ifs : List Expr} {c : E} {O' : List Nat} (h : (match ifs with
          | [] => (match c with | .bl true => true | _ => false)
          | [c'] => mE C rs sc O' c c' && plainOr c c'
          | _ => false) = true) (hc : PEm C rs sc g xr F W0 X O' c) : PTs X ifs (tT g xr F (ofL O') W0 c) := by
  match ifs, c, h, hc with
  | [], .bl true, _, _ => exact ts_nil
  | [c'], c, h, hc =>
    obtain ⟨h1, h2⟩ := and2 (show (mE C rs sc O' c c' && plainOr c c') = true from h)
    exact pts_one (hc.2.1 _ h1 h2)
  | _ :: _ :: _, c, h, hc => cases h
theorem e_lc {m t it c : E} (im : Snd m) (ii : Snd it) (ic : Snd c) (x : XO C g xr F W X rs sc) : PEm C rs sc g xr F W X ob (.lc m t it c) := by
  refine pem_plain (fun e he => ?_) (.inl rfl) (fun _ => rfl)
  cases e <;> first | (cases he; done) | skip
  rename_i e' gens scope pos
  match gens, he with
  | [⟨tg, iter, ifs, 0⟩], he =>
    obtain ⟨h0, h8⟩ := and2 he
    obtain ⟨h0, h6, h7⟩ := and3 h0
    obtain ⟨h0, h4, h5⟩ := and3 h0
    obtain ⟨h1, h2, h3⟩ := and3 h0
    have o : ofL (obT ob (slotsT t)) = less (ofL ob) (slotsT t) := obT_less
    refine s_lc (ka := kd (obT ob (slotsT t)) m) x.calm (by rw [x.N]; exact x.nd) ((ii C g xr F W X rs sc ob x).2.2.1 true tg iter h1) (blkOk_by (by rw [x.N, x.esc]; exact h3)) (of_decide_eq_true h4) (fun s H a cl fp => ?_) (fun s H a cl fp => ?_) (fun s H a cl fp => ?_) (kd_ne h8) (set_ok h2)
    · rw [← o]; exact ((g_all (x.blk s H scope a cl fp) t).1 _ h5).1
    · rw [← o]; exact tests_ok h6 (ic C g xr F W0 _ scope (relS scope sc) _ (x.blk s H scope a cl fp)).1
    · rw [← o]; exact (im C g xr F W0 _ scope (relS scope sc) _ (x.blk s H scope a cl fp)).1.1 _ h7
theorem e_dc {T : Bool} {k v t it c : E} (ik : Snd k) (iv : Snd v) (ii : Snd it) (ic : Snd c) (x : XO C g xr F W X rs sc) : PEm C rs sc g xr F W X ob (.dc T k v t it c) := by
  refine pem_plain (fun e he => ?_) (.inl rfl) (fun _ => rfl)
  cases e <;> first | (cases he; done) | skip
  rename_i k' v' gens scope pos
  match gens, he with
  | [⟨tg, iter, ifs, 0⟩], he =>
    obtain ⟨h0, h10, h11⟩ := and3 he
    obtain ⟨h0, h8, h9⟩ := and3 h0
    obtain ⟨h0, h6, h7⟩ := and3 h0
    obtain ⟨h0, h4, h5⟩ := and3 h0
    obtain ⟨h1, h2, h3⟩ := and3 h0
    have hT : T = false := by cases T <;> first | rfl | cases h1
    subst hT
    have o : ofL (obT ob (slotsT t)) = less (ofL ob) (slotsT t) := obT_less
    refine s_dc (ka := kd (obT ob (slotsT t)) k) (kb := kd (obT ob (slotsT t)) v) x.calm (by rw [x.N]; exact x.nd) ((ii C g xr F W X rs sc ob x).2.2.1 true tg iter h2) (blkOk_by (by rw [x.N, x.esc]; exact h4)) (of_decide_eq_true h5) (fun s H a cl fp => ?_) (fun s H a cl fp => ?_) (fun s H a cl fp => ?_) (kd_ne h9) (fun s H a cl fp => ?_) (kd_ne h11) (set_ok h3)
    · rw [← o]; exact ((g_all (x.blk s H scope a cl fp) t).1 _ h6).1
    · rw [← o]; exact tests_ok h7 (ic C g xr F W0 _ scope (relS scope sc) _ (x.blk s H scope a cl fp)).1
    · rw [← o]; exact (ik C g xr F W0 _ scope (relS scope sc) _ (x.blk s H scope a cl fp)).1.1 _ h8
    · rw [← o]; exact (iv C g xr F W0 _ scope (relS scope sc) _ (x.blk s H scope a cl fp)).1.1 _ h10
theorem noS (h1 : ∀ C rs sc ob e, mE C rs sc ob m e = false) (h2 : ∀ C rs sc ob es, mA C rs sc ob m es = false) (h3 : ∀ C rs sc ob xx tg e, mI C rs sc ob xx m tg e = false) (h4 : ∀ C rs sc ob ks vs, mK C rs sc ob m ks vs = false) (h5 : ∀ a, ¬Kid m a) : Snd m :=
  fun C _ _ _ _ _ rs sc ob _ => ⟨noE (h1 C rs sc ob), noA (h2 C rs sc ob), noI (h3 C rs sc ob), noK (h4 C rs sc ob), noC h5⟩
theorem s_all (m : E) : Snd m := by
  induction m with
  | var i => exact onlyE (fun C g xr F W X rs sc ob x => e_var x) (fun _ _ _ _ _ => rfl) (fun _ _ _ _ _ _ _ => rfl) (fun _ _ _ _ _ _ => rfl) (fun _ h => nomatch h)
  | non => exact onlyE (fun C g xr F W X rs sc ob x => (e_const x).1) (fun _ _ _ _ _ => rfl) (fun _ _ _ _ _ _ _ => rfl) (fun _ _ _ _ _ _ => rfl) (fun _ h => nomatch h)
  | bl b => exact onlyE (fun C g xr F W X rs sc ob x => (e_const x).2.1 b) (fun _ _ _ _ _ => rfl) (fun _ _ _ _ _ _ _ => rfl) (fun _ _ _ _ _ _ => rfl) (fun _ h => nomatch h)
  | int i => exact onlyE (fun C g xr F W X rs sc ob x => (e_const x).2.2.1 i) (fun _ _ _ _ _ => rfl) (fun _ _ _ _ _ _ _ => rfl) (fun _ _ _ _ _ _ => rfl) (fun _ h => nomatch h)
  | str s => exact onlyE (fun C g xr F W X rs sc ob x => (e_const x).2.2.2.1 s) (fun _ _ _ _ _ => rfl) (fun _ _ _ _ _ _ _ => rfl) (fun _ _ _ _ _ _ => rfl) (fun _ h => nomatch h)
  | glob i d => exact onlyE (fun C g xr F W X rs sc ob x => (e_const x).2.2.2.2 i d) (fun _ _ _ _ _ => rfl) (fun _ _ _ _ _ _ _ => rfl) (fun _ _ _ _ _ _ => rfl) (fun _ h => nomatch h)
  | bin op a b ia ib => exact onlyE (fun C g xr F W X rs sc ob x => e_bin x (ia C g xr F W X rs sc ob x).1 (ib C g xr F W X rs sc ob x).1) (fun _ _ _ _ _ => rfl) (fun _ _ _ _ _ _ _ => rfl) (fun _ _ _ _ _ _ => rfl) (fun _ h => nomatch h)
  | cmp op a b ia ib => exact onlyE (fun C g xr F W X rs sc ob x => e_cmp x (ia C g xr F W X rs sc ob x).1 (ib C g xr F W X rs sc ob x).1) (fun _ _ _ _ _ => rfl) (fun _ _ _ _ _ _ _ => rfl) (fun _ _ _ _ _ _ => rfl) (fun _ h => nomatch h)
  | cmp2 c c' a b d ia ib ic => exact onlyE (fun C g xr F W X rs sc ob x => e_cmp2 x (ia C g xr F W X rs sc ob x).1 (ib C g xr F W X rs sc ob x).1 (ic C g xr F W X rs sc ob x).1) (fun _ _ _ _ _ => rfl) (fun _ _ _ _ _ _ _ => rfl) (fun _ _ _ _ _ _ => rfl) (fun _ h => nomatch h)
  | and a b ia ib => exact onlyE (fun C g xr F W X rs sc ob x => e_and (ia C g xr F W X rs sc ob x).1 (ib C g xr F W X rs sc ob x).1) (fun _ _ _ _ _ => rfl) (fun _ _ _ _ _ _ _ => rfl) (fun _ _ _ _ _ _ => rfl) (fun _ h => nomatch h)
  | or a b ia ib => exact onlyE (fun C g xr F W X rs sc ob x => e_or (ia C g xr F W X rs sc ob x).1 (ib C g xr F W X rs sc ob x).1) (fun _ _ _ _ _ => rfl) (fun _ _ _ _ _ _ _ => rfl) (fun _ _ _ _ _ _ => rfl) (fun _ h => nomatch h)
  | not a ia => exact onlyE (fun C g xr F W X rs sc ob x => e_not (ia C g xr F W X rs sc ob x).1) (fun _ _ _ _ _ => rfl) (fun _ _ _ _ _ _ _ => rfl) (fun _ _ _ _ _ _ => rfl) (fun _ h => nomatch h)
  | neg a ia => exact onlyE (fun C g xr F W X rs sc ob x => e_neg (ia C g xr F W X rs sc ob x).1) (fun _ _ _ _ _ => rfl) (fun _ _ _ _ _ _ _ => rfl) (fun _ _ _ _ _ _ => rfl) (fun _ h => nomatch h)
  | ite c a b ic ia ib => exact onlyE (fun C g xr F W X rs sc ob x => e_ite (ic C g xr F W X rs sc ob x).1 (ia C g xr F W X rs sc ob x).1 (ib C g xr F W X rs sc ob x).1) (fun _ _ _ _ _ => rfl) (fun _ _ _ _ _ _ _ => rfl) (fun _ _ _ _ _ _ => rfl) (fun _ h => nomatch h)
  | call f as ia => exact onlyE (fun C g xr F W X rs sc ob x => e_call x (ia C g xr F W X rs sc ob x).2.1) (fun _ _ _ _ _ => rfl) (fun _ _ _ _ _ _ _ => rfl) (fun _ _ _ _ _ _ => rfl) (fun _ h => nomatch h)
  | prim p as ia => exact onlyE (fun C g xr F W X rs sc ob x => e_prim x (fun a r h => (ia C g xr F W X rs sc ob x).2.2.2.2 a (h ▸ .c1)) (fun a b h => (ia C g xr F W X rs sc ob x).2.2.2.2 b (h ▸ .c2))) (fun _ _ _ _ _ => rfl) (fun _ _ _ _ _ _ _ => rfl) (fun _ _ _ _ _ _ => rfl) (fun _ h => nomatch h)
  | idx a b ia ib => exact onlyE (fun C g xr F W X rs sc ob x => e_idx x (ia C g xr F W X rs sc ob x).1 (ib C g xr F W X rs sc ob x).1) (fun _ _ _ _ _ => rfl) (fun _ _ _ _ _ _ _ => rfl) (fun _ _ _ _ _ _ => rfl) (fun _ h => nomatch h)
  | cut a b c ia ib ic => exact onlyE (fun C g xr F W X rs sc ob x => e_cut (ia C g xr F W X rs sc ob x).1 (ib C g xr F W X rs sc ob x).1 (ic C g xr F W X rs sc ob x).1) (fun _ _ _ _ _ => rfl) (fun _ _ _ _ _ _ _ => rfl) (fun _ _ _ _ _ _ => rfl) (fun _ h => nomatch h)
  | tup as ia => exact onlyE (fun C g xr F W X rs sc ob x => e_tup (ia C g xr F W X rs sc ob x).2.1) (fun _ _ _ _ _ => rfl) (fun _ _ _ _ _ _ _ => rfl) (fun _ _ _ _ _ _ => rfl) (fun _ h => nomatch h)
  | lst as ia => exact onlyE (fun C g xr F W X rs sc ob x => e_lst (ia C g xr F W X rs sc ob x).2.1) (fun _ _ _ _ _ => rfl) (fun _ _ _ _ _ _ _ => rfl) (fun _ _ _ _ _ _ => rfl) (fun _ h => nomatch h)
  | dct T as ia => exact onlyE (fun C g xr F W X rs sc ob x => e_dct (ia C g xr F W X rs sc ob x).2.2.2.1) (fun _ _ _ _ _ => rfl) (fun _ _ _ _ _ _ _ => rfl) (fun _ _ _ _ _ _ => rfl) (fun _ h => nomatch h)
  | lc m t i c im it ii ic => exact onlyE (fun C g xr F W X rs sc ob x => e_lc im ii ic x) (fun _ _ _ _ _ => rfl) (fun _ _ _ _ _ _ _ => rfl) (fun _ _ _ _ _ _ => rfl) (fun _ h => nomatch h)
  | dc T k v t i c ik iv it ii ic => exact onlyE (fun C g xr F W X rs sc ob x => e_dc ik iv ii ic x) (fun _ _ _ _ _ => rfl) (fun _ _ _ _ _ _ _ => rfl) (fun _ _ _ _ _ _ => rfl) (fun _ h => nomatch h)
  | itv a ia => exact onlyI (fun C g xr F W X rs sc ob x => i_itv' (ia C g xr F W X rs sc ob x).1) (fun _ _ _ _ _ => rfl) (fun _ _ _ _ _ => rfl) (fun _ _ _ _ _ _ => rfl) (fun _ h => nomatch h)
  | itl a ia => exact onlyI (fun C g xr F W X rs sc ob x => i_itl' (ia C g xr F W X rs sc ob x).1) (fun _ _ _ _ _ => rfl) (fun _ _ _ _ _ => rfl) (fun _ _ _ _ _ _ => rfl) (fun _ h => nomatch h)
  | itr1 a ia => exact onlyI (fun C g xr F W X rs sc ob x => i_r1' x (ia C g xr F W X rs sc ob x).1) (fun _ _ _ _ _ => rfl) (fun _ _ _ _ _ => rfl) (fun _ _ _ _ _ _ => rfl) (fun _ h => nomatch h)
  | itr2 a b ia ib => exact onlyI (fun C g xr F W X rs sc ob x => i_r2' x (ia C g xr F W X rs sc ob x).1 (ib C g xr F W X rs sc ob x).1) (fun _ _ _ _ _ => rfl) (fun _ _ _ _ _ => rfl) (fun _ _ _ _ _ _ => rfl) (fun _ h => nomatch h)
  | itq a ia => exact fun C g xr F W X rs sc ob x => ⟨noE fun _ => rfl, noA fun _ => rfl, noI fun _ _ _ => rfl, noK fun _ _ => rfl, fun b z => by cases z; exact (ia C g xr F W X rs sc ob x).1⟩
  | nil => exact fun C g xr F W X rs sc ob x => ⟨noE fun _ => rfl, a_nil', noI fun _ _ _ => rfl, k_nil', noC (fun _ h => nomatch h)⟩
  | cons a r ia ir => exact fun C g xr F W X rs sc ob x => ⟨noE fun _ => rfl, a_cons' (ia C g xr F W X rs sc ob x).1 (ir C g xr F W X rs sc ob x).2.1, noI fun _ _ _ => rfl, noK fun _ _ => rfl, fun b z => by
      cases z with
      | c1 => exact (ia C g xr F W X rs sc ob x).1
      | c2 => exact (ir C g xr F W X rs sc ob x).2.2.2.2 _ .c1⟩
  | kv k v r ik iv ir => exact fun C g xr F W X rs sc ob x => ⟨noE fun _ => rfl, noA fun _ => rfl, noI fun _ _ _ => rfl, k_kv' (ik C g xr F W X rs sc ob x).1 (iv C g xr F W X rs sc ob x).1 (ir C g xr F W X rs sc ob x).2.2.2.1, noC (fun _ h => nomatch h)⟩
  | itz p q ip iq =>
    refine fun C g xr F W X rs sc ob x => ⟨noE fun _ => rfl, noA fun _ => rfl, ?_, noK fun _ _ => rfl, fun b z => by
      cases z with
      | z1 => exact (ip C g xr F W X rs sc ob x).2.2.2.2 _ .q
      | z2 => exact (iq C g xr F W X rs sc ob x).2.2.2.2 _ .q⟩
    cases p <;> first | exact noI fun _ _ _ => rfl | skip
    cases q <;> first | exact noI fun _ _ _ => rfl | skip
    exact i_zip' x ((ip C g xr F W X rs sc ob x).2.2.2.2 _ .q) ((iq C g xr F W X rs sc ob x).2.2.2.2 _ .q)
  | itlst m im =>
    refine onlyE (fun C g xr F W X rs sc ob x => ?_) (fun _ _ _ _ _ => rfl) (fun _ _ _ _ _ _ _ => rfl) (fun _ _ _ _ _ _ => rfl) (fun _ h => nomatch h)
    cases m <;> first | exact noE fun _ => rfl | skip
    rename_i p q
    cases p <;> first | exact noE fun _ => rfl | skip
    cases q <;> first | exact noE fun _ => rfl | skip
    exact e_listZip x ((im C g xr F W X rs sc ob x).2.2.2.2 _ .z1) ((im C g xr F W X rs sc ob x).2.2.2.2 _ .z2)
  | itvs a ia => exact onlyI (fun C g xr F W X rs sc ob x => i_vals' (ia C g xr F W X rs sc ob x).1) (fun _ _ _ _ _ => rfl) (fun _ _ _ _ _ => rfl) (fun _ _ _ _ _ _ => rfl) (fun _ h => nomatch h)
  | ite1 p ip =>
    refine onlyI (fun C g xr F W X rs sc ob x => ?_) (fun _ _ _ _ _ => rfl) (fun _ _ _ _ _ => rfl) (fun _ _ _ _ _ _ => rfl) (fun _ h => nomatch h)
    cases p <;> first | exact noI fun _ _ _ => rfl | skip
    exact i_enum' x ((ip C g xr F W X rs sc ob x).2.2.2.2 _ .q)
  | _ => exact noS (fun _ _ _ _ _ => rfl) (fun _ _ _ _ _ => rfl) (fun _ _ _ _ _ _ _ => rfl) (fun _ _ _ _ _ _ => rfl) (fun _ h => nomatch h)
end
end W
/-! W25: statements: the checker and its soundness. -/
namespace W
open PySem L2
/-- a comprehension stored on its own line -/
def swB (sc : Scope) (v tg : Expr) : Bool := match v with
  | .ListComp _ _ s p => inLine s p tg
  | .SetComp _ _ s p => inLine s p tg
  | .DictComp _ _ _ s p => inLine s p tg
  | _ => false
where
  inLine (s : Scope) (p : Pos) : Expr → Bool
  | .Name t pos => (if sc.kind.isAnnotationScope then .function else sc.kind) == ScopeKind.function && sc.names.lookup t == some .local && pos.line == p.line && !(s.names.any fun (n, k) => n == t && (k == .local || k == .cell))
  | _ => false
def noComp : Expr → Bool
  | .ListComp _ _ _ _ => false
  | .SetComp _ _ _ _ => false
  | .DictComp _ _ _ _ _ => false
  | _ => true
/-- no pair stored from a pair -/
def noSwap (tg v : Expr) : Bool := match v with
  | .Tuple _ _ _ => (match tg with
    | .Tuple _ _ _ => false
    | .List _ _ => false
    | _ => true)
  | _ => true
/-- a name takes a list's comprehension -/
def lcName (sc : Scope) (e : E) (v tg : Expr) : Bool := match e with
  | .lc _ _ _ _ => (match v with
    | .ListComp _ _ _ _ => (match tg with
      | .Name x _ => decide (sc.names.lookup x = some .local)
      | _ => false)
    | _ => false)
  | _ => false
/-- a, b = x, y with names -/
def parNm (sc : Scope) (N : List Str) : E → List Expr → Bool
  | .nil, [] => true
  | .cons (.tname i) r, .Name x _ :: es => nthS N i x && decide (sc.names.lookup x = some .local) && parNm sc N r es
  | _, _ => false
mutual
def mS (C : Cfg) (rs sc : Scope) (ob : List Nat) : S → Stmt → Bool
  | .asg t e, st => match st with
    | .Assign [tg] v _ => noStar tg && noSwap tg v && mG C rs sc ob t tg && mE C rs sc ob e v && keptB ob e && (!swB sc v tg || lcName sc e v tg)
    | _ => false
  | .ex e, st => match st with
    | .Expr v _ => noComp v && mE C rs sc ob e v
    | _ => false
  | .ite c s r, st => match st with
    | .If c' a b _ => plainOr c c' && mE C rs sc ob c c' && mB C rs sc ob s a && mB C rs sc ob r b
    | _ => false
  | .ret e, st => match st with
    | .Return (some v) _ => mE C rs sc ob e v
    | _ => false
  | .raise _ _, _ => true
  | _, _ => false
def mB (C : Cfg) (rs sc : Scope) (ob : List Nat) : S → List Stmt → Bool
  | .skip, l => l.isEmpty
  | .seq s r, l => match l with
    | st :: l => mS C rs sc ob s st && mB C rs sc ob r l
    | [] => false
  | _, _ => false
end
section
variable {C : Cfg} {g : Gd} {xr : XR} {F : Nat → List D → M D} {W : WX} {X : Cx} {rs sc : Scope} {ob : List Nat}
theorem noComp_ok {v : Expr} {l : Nat} {env : PySem.Env} {tg : Option Expr} (h : noComp v = true) : swapsWith v tg l env = pure false := by
  cases v <;> first | rfl | cases h
theorem swB_ok {v tg : Expr} {l : Nat} {env : PySem.Env} (h : env.scope = sc) : swapsWithSole [tg] v l env = pure (swB sc v tg) := by
  subst h
  show swapsWith v (some tg) l env = _
  cases v <;> first | rfl | (cases tg <;> rfl)
theorem noSwap_ok {v tg : Expr} {env : PySem.Env} (h : noSwap tg v = true) : swappedStores [tg] v env = pure none := by
  unfold swappedStores
  cases v with
  | Tuple a b c => cases tg <;> first | rfl | cases h
  | _ => cases tg <;> rfl
abbrev PSm (C : Cfg) (rs sc : Scope) (g : Gd) (xr : XR) (F : Nat → List D → M D) (W : WX) (X : Cx) (ob : List Nat) (m : S) : Prop :=
  (∀ st, mS C rs sc ob m st = true → PS X st (tS g xr F (ofL ob) W m)) ∧ ∀ l, mB C rs sc ob m l = true → PSs X l (tS g xr F (ofL ob) W m)
theorem p_asgG {tg a : Expr} {mt m : E} {pos : Pos} {te : TE} {gg : TG} {ka : Kd} {O : Nat → Bool} (hp : PS X (.Assign [tg] a pos) (tAsg te gg)) (hgg : ∀ v σ H Q, tG g O mt v σ H Q → gg v σ H Q) (hk : ka ≠ .I) (hi : ∀ σ H Q, tE g xr F O ka W m σ H Q → te σ H Q) : PS X (.Assign [tg] a pos) (tS g xr F O W (.asg mt m)) := by
  refine hp.imp fun D σ H h => ?_
  obtain ⟨f, e, s, ca, A, ok, p⟩ := h
  refine hi _ _ _ (tE.frontS ok p fun d s1 v H1 ca1 ok1 st1 r1 p1 => ?_)
  change PostS g xr f O W ((match tgt mt d e with | some σ' => M.pure (Out.nx σ') | none => M.stuck) s1) D at p1
  cases q : tgt mt d e with
  | none => rw [q] at p1; exact p1.elim
  | some e' =>
    rw [q] at p1
    exact hgg _ _ _ _ ⟨f, e, s1, ca1, A, d, e', ok1, r1.kept hk, q, fun σ' ok' _ => p1 σ' H1 ca1 A ok'⟩
theorem p_lcName {m t' it c : E} {i : Nat} {elt : Expr} {gens : List Comprehension} {scope : Scope} {cpos py pos : Pos} {y : Str} (x : XO C g xr F W X rs sc) (h4 : mE C rs sc ob (.lc m t' it c) (.ListComp elt gens scope cpos) = true) (y0 : nthS C.N i y = true) (y2 : (!ob.contains i) = true) (h6 : sc.names.lookup y = some .local)
    (hw : swapsWith (.ListComp elt gens scope cpos) (some (.Name y py)) pos.line X.env = pure true) : PS X (.Assign [.Name y py] (.ListComp elt gens scope cpos) pos) (tS g xr F (ofL ob) W (.asg (.tname i) (.lc m t' it c))) := by
  match gens, h4, hw with
  | [⟨tg, iter, ifs, 0⟩], h4, hw =>
    obtain ⟨h0, z7, z8⟩ := and3 h4
    obtain ⟨h0, z5, z6⟩ := and3 h0
    obtain ⟨h0, z3, z4⟩ := and3 h0
    obtain ⟨z1, z2⟩ := and2 h0
    have o : ofL (obT ob (slotsT t')) = less (ofL ob) (slotsT t') := obT_less
    refine p_asgG (ka := .N) (te := tLc (tI g xr F (ofL ob) true W it) (tG g (less (ofL ob) (slotsT t')) t') (tT g xr F (less (ofL ob) (slotsT t')) W0 c) (tE g xr F (less (ofL ob) (slotsT t')) (kd (obT ob (slotsT t')) m) W0 m) (slotsT t')) (gg := gName i) ?_ (fun v σ H Q h => ?_) (by decide) fun σ H Q h => s_lc.r_lc (kd_ne z8) h
    · rw [← of_decide_eq_true z4]
      refine ps_setLc x.calm (by rw [x.N]; exact x.nd) (by rw [x.N]; exact nthS_eq y0) (by rw [x.esc]; exact h6) hw ((s_all it C g xr F W X rs sc ob x).2.2.1 true tg iter z1) (blkOk_by (by rw [x.N, x.esc]; exact z3)) (fun s H a cl fp => ?_) (fun s H a cl fp => ?_) (fun s H a cl fp => ?_) (set_ok z2)
      · rw [of_decide_eq_true z4, ← o]; exact ((g_all (x.blk s H scope a cl fp) t').1 _ z5).1
      · rw [of_decide_eq_true z4, ← o]; exact tests_ok z6 (s_all c C g xr F W0 _ scope (relS scope sc) _ (x.blk s H scope a cl fp)).1
      · rw [of_decide_eq_true z4, ← o]; exact (s_all m C g xr F W0 _ scope (relS scope sc) _ (x.blk s H scope a cl fp)).1.1 _ z7
    · obtain ⟨f, e, s, ca, A, d, e', ok, r, ht, q⟩ := h
      cases ht
      exact q _ (ok.set (by simpa [ofL] using y2) r) fun vs h => wipe_set (h i (by simp [slotsT]))
theorem st_asg {t e : E} (x : XO C g xr F W X rs sc) : PSm C rs sc g xr F W X ob (.asg t e) := by
  refine ⟨fun st h => ?_, fun l h => (by cases h)⟩
  cases st <;> first | (cases h; done) | skip
  rename_i tgs v pos
  match tgs, h with
  | [tg], h =>
    obtain ⟨h0, h5, h6⟩ := and3 (show (noStar tg && noSwap tg v && mG C rs sc ob t tg && mE C rs sc ob e v && keptB ob e && (!swB sc v tg || lcName sc e v tg)) = true from h)
    obtain ⟨h0, h3, h4⟩ := and3 h0
    obtain ⟨h1, h2⟩ := and2 h0
    have hg := ((g_all x t).1 tg h3).1
    cases q : swB sc v tg with
    | false => exact p_asgG (ps_asg ((s_all e C g xr F W X rs sc ob x).1.1 v h4) hg ((swB_ok x.esc).trans (by rw [q])) (noSwap_ok h2) (assign_ok h1)) (fun _ _ _ _ h => h) (kd_ne h5) fun _ _ _ h => h
    | true =>
      rw [q] at h6
      have hw : swapsWithSole [tg] v pos.line X.env = pure true := (swB_ok x.esc).trans (by rw [q])
      clear q h h0 hg h1 h2
      match e, v, tg, h4, h6 with
      | .lc m t' it c, .ListComp elt gens scope cpos, .Name y py, h4, h6 =>
        match t, h3 with
        | .tname i, h3 =>
          obtain ⟨y1, y2⟩ := and2 h3
          exact p_lcName x h4 (and2 y1).1 y2 (of_decide_eq_true h6) hw
theorem st_all : ∀ (m : S), ∀ (C : Cfg) (g : Gd) (xr : XR) (F : Nat → List D → M D) (W : WX) (X : Cx) (rs sc : Scope) (ob : List Nat), XO C g xr F W X rs sc → PSm C rs sc g xr F W X ob m := by
  intro m
  induction m with
  | asg t e => exact fun C g xr F W X rs sc ob x => st_asg x
  | ex e =>
    refine fun C g xr F W X rs sc ob x => ⟨fun st h => ?_, fun l h => (by cases h)⟩
    cases st <;> first | (cases h; done) | skip
    rename_i v pos
    obtain ⟨h1, h2⟩ := and2 (show (noComp v && mE C rs sc ob e v) = true from h)
    exact p_ex ((s_all e C g xr F W X rs sc ob x).1.1 v h2) (noComp_ok h1)
  | ite c s r is ir =>
    refine fun C g xr F W X rs sc ob x => ⟨fun st h => ?_, fun l h => (by cases h)⟩
    cases st <;> first | (cases h; done) | skip
    rename_i c' a b pos
    obtain ⟨h0, h3, h4⟩ := and3 (show (plainOr c c' && mE C rs sc ob c c' && mB C rs sc ob s a && mB C rs sc ob r b) = true from h)
    obtain ⟨h1, h2⟩ := and2 h0
    exact p_ite ((s_all c C g xr F W X rs sc ob x).1.2.1 c' h2 h1) ((is C g xr F W X rs sc ob x).2 a h3) ((ir C g xr F W X rs sc ob x).2 b h4)
  | ret e =>
    refine fun C g xr F W X rs sc ob x => ⟨fun st h => ?_, fun l h => (by cases h)⟩
    cases st <;> first | (cases h; done) | skip
    rename_i v pos
    match v, h with
    | some v, h => exact p_ret ((s_all e C g xr F W X rs sc ob x).1.1 v h)
  | raise c e => exact fun C g xr F W X rs sc ob x => ⟨fun st h => p_raise0 x.gx, fun l h => (by cases h)⟩
  | skip =>
    refine fun C g xr F W X rs sc ob x => ⟨fun st h => (by cases h), fun l h => ?_⟩
    match l, h with
    | [], _ => exact b_nil
  | seq s r is ir =>
    refine fun C g xr F W X rs sc ob x => ⟨fun st h => (by cases h), fun l h => ?_⟩
    match l, h with
    | st :: l, h =>
      obtain ⟨h1, h2⟩ := and2 (show (mS C rs sc ob s st && mB C rs sc ob r l) = true from h)
      exact b_cons ((is C g xr F W X rs sc ob x).1 st h1) ((ir C g xr F W X rs sc ob x).2 l h2)
  | _ => exact fun C g xr F W X rs sc ob x => ⟨fun st h => (by cases h), fun l h => (by cases h)⟩
end
end W
/-! W26: every def keeps its promise, by the depth of calls. -/
namespace W
open PySem L2
theorem getS_somes : ∀ {l : List D} {n : Nat} {i : Nat} {d : D}, getS (somes l (nones n)) i = some d → l[i]? = some d
  | [], n, i, d, h => by
    have : ∀ (n i : Nat), getS (nones n) i = none := fun n => by
      induction n with
      | zero => intro i; rfl
      | succ n ih => intro i; cases i <;> first | rfl | exact ih _
    rw [show somes [] (nones n) = nones n from rfl, this] at h
    cases h
  | x :: l, n, 0, d, h => h
  | x :: l, n, i + 1, d, h => getS_somes (l := l) (n := n) (i := i) h
theorem len_somes : ∀ {l : List D} {n : Nat}, (somes l (nones n)).length = l.length + n
  | [], n => by
    have : ∀ n : Nat, (nones n).length = n := fun n => by
      induction n with
      | zero => rfl
      | succ n ih => exact congrArg (· + 1) ih
    simp [somes, this]
  | x :: l, n => by
    show (somes l (nones n)).length + 1 = _
    rw [len_somes, List.length_cons]
    omega
theorem reps_get {dA : Addr} {ca : List Addr} {H : Hp} : ∀ {l : List D} {vs : List V} {i : Nat} {d : D}, Reps dA ca H l vs → l[i]? = some d → ∃ v, vs[i]? = some v ∧ Rep dA ca H d v
  | [], _, _, _, _, h => by cases h
  | x :: l, _, 0, d, ⟨v, ys, e, r, q⟩, h => by
    subst e
    cases h
    exact ⟨v, rfl, r⟩
  | x :: l, _, i + 1, d, ⟨v, ys, e, r, q⟩, h => by
    subst e
    exact reps_get (l := l) (vs := ys) (i := i) q h
section
variable {P : Program} {w : World} {K : PySem.W.Frag} {mg : Str → Option Value} {base : Heap} {g : Gd} {xr : XR} {F : Nat → List D → M D}
/-- what is called keeps its promise -/
def CallOk (P : Program) (w : World) (K : PySem.W.Frag) (mg : Str → Option Value) (base : Heap) (g : Gd) (xr : XR) (F : Nat → List D → M D) (fs : List Str) (k : Nat) : Prop :=
  ∀ i x, fs[i]? = some x → ∃ np f fd ps, FnOk P w K mg base CX0 k f fd ps (spF g xr np (F i)) ∧ mg x = some (.ref f) ∧ PySem.W.keepIn K (.ref f) = true ∧ Binds K fd ps [] ∧ ∀ l s, F i l s ≠ .stuck → l.length = np
/-- a def of the row, and its small syntax -/
def DefOk (K : PySem.W.Frag) (mg : Str → Option Value) (cs : List (Str × D)) (fs : List Str) (nm : Str) (m : Fd) : Prop :=
  ∃ (qual : Str) (params : Arguments) (body : List Stmt) (scope : Scope) (f : Addr) (fd : FuncData) (N ps : List Str) (ob : List Nat),
    FunD K nm qual params body scope [] [] f fd ∧ mg nm = some (.ref f) ∧ Binds K fd ps [] ∧ FnScope N ps scope ∧ m.np = ps.length ∧ N.length = m.np + m.nl ∧ (∀ i ∈ ob, m.np ≤ i) ∧ mB ⟨N, cs, fs⟩ scope scope ob m.body body = true
theorem start_ok {A0 ca : List Addr} {H : Hp} {l : List D} {vs : List V} {s : MS} {N : List Str} {ob : List Nat} {nl : Nat} (sr : SRel g ca H s) (h1 : ∀ a ∈ A0, a ∉ g.dA :: ca) (h2 : ∀ a ∈ A0, ∃ o, H a = some o ∧ isTup o = false)
    (r : Reps g.dA ca (msk (g.dA :: (ca ++ A0)) H) l vs) (hN : N.length = l.length + nl) (ho : ∀ i ∈ ob, l.length ≤ i) : EOk g ⟨A0, H, ca⟩ (ofL ob) (L2.start N vs) H (somes l (nones nl)) s ca [] := by
  have eb : bad g ⟨A0, H, ca⟩ ca [] = g.dA :: (ca ++ A0) := by simp [bad]
  have hv := r.length
  have out : ∀ {i : Nat} {d : D}, getS (somes l (nones nl)) i = some d → ofL ob i = true → False := fun {i d} h o => by
    have h := getS_somes h
    have : i < l.length := (List.getElem?_eq_some_iff.mp h).1
    have := ho i (by simpa [ofL] using o)
    omega
  refine ⟨?_, sr, fun i d h _ => ?_, fun i d h o => (out h o).elim, fun i j d d' a _ oi _ h _ _ => (out h oi).elim, fun a o _ h => ⟨o, h, .refl _⟩, fun a o _ h => h, fun a ha => ⟨?_, h1 a ha⟩, fun a ha => (by cases ha), ⟨[], by simp, by simp⟩, fun a ha => ?_, by simp⟩
  · rw [len_somes]
    simp only [L2.start, List.length_append, List.length_map, List.length_replicate]
    omega
  · obtain ⟨v, e, rv⟩ := reps_get r (getS_somes h)
    refine ⟨v, ?_, by rw [eb]; exact rv⟩
    rw [L2.start, List.getElem?_append_left (by rw [List.length_map]; exact (List.getElem?_eq_some_iff.mp e).1), List.getElem?_map, e]
    rfl
  · obtain ⟨o, e, _⟩ := h2 a ha
    show H a ≠ none
    rw [e]
    simp
  · rw [eb] at ha
    rcases List.mem_cons.mp ha with z | z
    · rw [z]; exact ⟨_, sr.dr, rfl⟩
    rcases List.mem_append.mp z with z | z
    · obtain ⟨i, hi, e⟩ := List.getElem_of_mem z
      have hc : i < s.cs.length := by rw [← sr.cs]; exact hi
      rcases sr.ce i a s.cs[i] (by rw [List.getElem?_eq_getElem hi, e]) (List.getElem?_eq_getElem hc) with ⟨kvs, q, _⟩ | ⟨kvs, q, _⟩
      · exact ⟨_, q, rfl⟩
      · exact ⟨_, q, rfl⟩
    · exact h2 a z
theorem def_ok {k : Nat} {nm : Str} {m : Fd} {cs : List (Str × D)} {fs : List Str} (hblt : ∀ x ∈ bltns, mg x = none) (hcon : ∀ p ∈ cs, flat p.2 = true ∧ ∃ u v, mg p.1 = some u ∧ RelV v u ∧ ∀ H, Rep g.dA [] H p.2 v) (gx : g.ex = false)
    (call : CallOk P w K mg base g xr F fs k) (d : DefOk K mg cs fs nm m) : ∃ f fd ps, FnOk P w K mg base CX0 (k + 1) f fd ps (spF g xr m.np (runF F m)) ∧ mg nm = some (.ref f) ∧ PySem.W.keepIn K (.ref f) = true ∧ Binds K fd ps [] := by
  obtain ⟨qual, params, body, scope, f, fd, N, ps, ob, FD, hm, hb, S, hnp, hN, ho, mb⟩ := d
  refine ⟨f, fd, ps, FD.ok S (fun vs H Q E h => by rw [h.1, hnp]) (fun cdv A outer s H vs Q E hr h => ⟨tS g xr F (ofL ob) W0 m.body, ?_, ?_⟩), hm, FD.kp, hb⟩
  · have x : XO ⟨N, cs, fs⟩ g xr F W0 (cxOf CX0 P w K mg base N qual scope f cdv A outer s H E) scope scope := by
      refine ⟨rfl, S.nd, rfl, fun x k h _ => h, fun x _ => rfl, rfl, ?_, hblt, hcon, gx, fun i x hx => ?_⟩
      · have := hr.un
        refine Nat.lt_of_le_of_lt ?_ this
        show (A.deeper _).units + 12 ≤ (A.deeper _).units + 16 * k + 200
        omega
      · obtain ⟨np, f', fd', ps', q1, q2, q3, q4, q5⟩ := call i x hx
        exact ⟨np, k, f', fd', ps', q1, hr, q2, q3, q4, q5⟩
    exact (st_all m.body _ g xr F W0 _ scope scope ob x).2 body mb
  · obtain ⟨hl, A0, ca, l, s', sr, h1, h2, r, p⟩ := h
    have ll : l.length = m.np := by rw [← hl]; exact r.length.symm
    refine ⟨⟨A0, H, ca⟩, somes l (nones m.nl), s', ca, [], start_ok sr h1 h2 r (by rw [ll]; exact hN) (by rw [ll]; exact ho), ?_⟩
    have e : runF F m l = M.bind (denS F m.body (somes l (nones m.nl))) fun o => match o with
        | .nx _ => M.pure .non
        | .ret d => M.pure d
        | .brk _ => M.stuck := by
      unfold runF
      rw [ll, Nat.beq_refl]
      rfl
    rw [e] at p
    unfold M.bind at p
    cases q : denS F m.body (somes l (nones m.nl)) s' with
    | ok o s1 =>
      rw [q] at p
      cases o with
      | nx e' =>
        intro σ' H' ca' A' ok'
        exact p .non H' ca' ok'.frame rfl
      | ret d => exact fun v H' ca' st rv => p v H' ca' st rv
      | brk e' => exact p.elim
    | exc c x s1 =>
      rw [q] at p
      have z : g.ex = true := p.1
      rw [gx] at z
      cases z
    | stuck => rw [q] at p; exact p.elim
theorem fn_all {c : Nat} {cs : List (Str × D)} {fs : List Str} {nxt : Nat} {prog : List Fd} {o : Nat → Int → Option Int} (hblt : ∀ x ∈ bltns, mg x = none) (hcon : ∀ p ∈ cs, flat p.2 = true ∧ ∃ u v, mg p.1 = some u ∧ RelV v u ∧ ∀ H, Rep g.dA [] H p.2 v) (gx : g.ex = false)
    (hd : ∀ i nm, fs[i]? = some nm → i ≠ nxt → ∃ m, nthF prog i = some m ∧ DefOk K mg cs fs nm m)
    (hn : ∀ n nm, fs[nxt]? = some nm → ∃ f fd ps, FnOk P w K mg base CX0 c f fd ps (spF g xr 2 (FN o nxt prog n nxt)) ∧ mg nm = some (.ref f) ∧ PySem.W.keepIn K (.ref f) = true ∧ Binds K fd ps []) : ∀ n, CallOk P w K mg base g xr (FN o nxt prog n) fs (n + c)
  | 0 => fun i nm hi => by
    by_cases z : i = nxt
    · subst z
      obtain ⟨f, fd, ps, q1, q2, q3, q4⟩ := hn 0 nm hi
      exact ⟨2, f, fd, ps, q1.mono (Nat.le_add_left _ _), q2, q3, q4, fun l s h => (h rfl).elim⟩
    · obtain ⟨m, e, d⟩ := hd i nm hi z
      obtain ⟨qual, params, body, scope, f, fd, N, ps, ob, FD, hm, hb, S, hnp, hN, ho, mb⟩ := d
      refine ⟨m.np, f, fd, ps, ⟨fun vs H Q E h => by rw [h.1, hnp], fun A outer s H args us vs Q E hr he hbt hv h => ?_⟩, hm, FD.kp, hb, fun l s h => (h rfl).elim⟩
      obtain ⟨_, A0, ca, l, s', _, _, _, _, p⟩ := h
      exact p.elim
  | n + 1 => fun i nm hi => by
    by_cases z : i = nxt
    · subst z
      obtain ⟨f, fd, ps, q1, q2, q3, q4⟩ := hn (n + 1) nm hi
      refine ⟨2, f, fd, ps, q1.mono (Nat.le_add_left _ _), q2, q3, q4, fun l s h => ?_⟩
      unfold FN at h
      rw [Nat.beq_refl] at h
      match l, h with
      | [.drw, .int b], _ => rfl
    · obtain ⟨m, e, d⟩ := hd i nm hi z
      have ih := fn_all hblt hcon gx hd hn n
      obtain ⟨f, fd, ps, q1, q2, q3, q4⟩ := def_ok (k := n + c) hblt hcon gx ih d
      have eF : FN o nxt prog (n + 1) i = runF (FN o nxt prog n) m := by
        funext as
        show (bif Nat.beq i nxt then _ else _) = _
        rw [show Nat.beq i nxt = false from by rw [Bool.eq_false_iff]; exact fun t => z (Nat.eq_of_beq_eq_true t), e]
        rfl
      rw [eF]
      refine ⟨m.np, f, fd, ps, by rw [show n + 1 + c = n + c + 1 from by omega]; exact q1, q2, q3, q4, fun l s h => ?_⟩
      unfold runF at h
      cases b : Nat.beq l.length m.np with
      | true => exact Nat.eq_of_beq_eq_true b
      | false => rw [b] at h; exact (h rfl).elim
end
end W
/-! W27: the helpers that draw numbers. -/
namespace W
open PySem L2
abbrev drawBody (p1 p2 p3 p4 p5 p6 p7 p8 p9 p10 p11 p12 p13 p14 p15 p16 p17 p18 p19 p20 p21 p22 p23 p24 p25 p26 p27 p28 p29 p30 p31 p32 p33 p34 p35 p36 p37 p38 p39 : Pos) : List Stmt :=
  [ (Stmt.Assign (targets := [(Expr.Name "primes" p1)]) (value := (Expr.Tuple (elts := [ (Expr.Constant (Const.int 1000003) 0 p2), (Expr.Constant (Const.int 1000033) 0 p3), (Expr.Constant (Const.int 1000037) 0 p4), (Expr.Constant (Const.int 1000039) 0 p5), (Expr.Constant (Const.int 1000081) 0 p6), (Expr.Constant (Const.int 1000099) 0 p7), (Expr.Constant (Const.int 1000117) 0 p8), (Expr.Constant (Const.int 1000121) 0 p9), (Expr.Constant (Const.int 1000133) 0 p10), (Expr.Constant (Const.int 1000151) 0 p11), (Expr.Constant (Const.int 1000159) 0 p12), (Expr.Constant (Const.int 1000171) 0 p13), (Expr.Constant (Const.int 1000183) 0 p14), (Expr.Constant (Const.int 1000187) 0 p15), (Expr.Constant (Const.int 1000193) 0 p16), (Expr.Constant (Const.int 1000199) 0 p17)]) (k := 0) (pos := p18))) (pos := p19)), (Stmt.Return (value := (some (Expr.BinOp (left := (Expr.BinOp (left := (Expr.Call (func := (Expr.Name "int" p20)) (args := [ (Expr.BinOp (left := (Expr.BinOp (left := (Expr.Name "cell" p21)) (op := Operator.Mult) (right := (Expr.Constant (Const.int 48271) 0 p22)) (pos := p23))) (op := Operator.Add) (right := (Expr.BinOp (left := (Expr.Name "k" p24)) (op := Operator.Mult) (right := (Expr.Constant (Const.int 69621) 0 p25)) (pos := p26))) (pos := p27))]) (keywords := []) (pos := p28))) (op := Operator.Mod) (right := (Expr.Subscript (value := (Expr.Name "primes" p29)) (slice := (Expr.BinOp (left := (Expr.Call (func := (Expr.Name "int" p30)) (args := [(Expr.Name "k" p31)]) (keywords := []) (pos := p32))) (op := Operator.Mod) (right := (Expr.Constant (Const.int 16) 0 p33)) (pos := p34))) (pos := p35))) (pos := p36))) (op := Operator.Mod) (right := (Expr.Name "bound" p37)) (pos := p38)))) (pos := p39))]
abbrev numBody (p1 p2 p3 p4 p5 p6 p7 p8 p9 p10 p11 p12 p13 p14 p15 p16 p17 p18 p19 p20 p21 p22 p23 p24 p25 p26 p27 p28 p29 p30 p31 p32 p33 p34 p35 p36 p37 p38 p39 p40 p41 p42 p43 p44 p45 p46 p47 p48 p49 p50 p51 p52 p53 p54 p55 p56 p57 p58 p59 p60 p61 p62 p63 p64 p65 p66 p67 p68 p69 p70 p71 : Pos) : List Stmt :=
  [ (Stmt.Assign (targets := [(Expr.Name "scale" p1)]) (value := (Expr.Constant (Const.int 1) 0 p2)) (pos := p3)), (Stmt.For (target := (Expr.Name "lap" p4)) (iter := (Expr.Call (func := (Expr.Name "range" p5)) (args := [ (Expr.BinOp (left := (Expr.Call (func := (Expr.Name "int" p6)) (args := [(Expr.Name "k" p7)]) (keywords := []) (pos := p8))) (op := Operator.Mod) (right := (Expr.Constant (Const.int 24) 0 p9)) (pos := p10))]) (keywords := []) (pos := p11))) (body := [ (Stmt.Assign (targets := [(Expr.Name "scale" p12)]) (value := (Expr.BinOp (left := (Expr.Name "scale" p13)) (op := Operator.Mult) (right := (Expr.Constant (Const.int 1009) 0 p14)) (pos := p15))) (pos := p16))]) (orelse := []) (pos := p17)), (Stmt.Assign (targets := [(Expr.Name "remains" p18)]) (value := (Expr.BinOp (left := (Expr.BinOp (left := (Expr.Name "cell" p19)) (op := Operator.Sub) (right := (Expr.BinOp (left := (Expr.Constant (Const.int 10) 0 p20)) (op := Operator.Pow) (right := (Expr.Constant (Const.int 18) 0 p21)) (pos := p22))) (pos := p23))) (op := Operator.FloorDiv) (right := (Expr.Name "scale" p24)) (pos := p25))) (pos := p26)), (Stmt.If (test := (Expr.Compare (left := (Expr.Name "remains" p27)) (ops := [CmpOp.Gt]) (comparators := [(Expr.Constant (Const.int 0) 0 p28)]) (pos := p29))) (body := [ (Stmt.Return (value := (some (Expr.BinOp (left := (Expr.BinOp (left := (Expr.Call (func := (Expr.Name "int" p30)) (args := [(Expr.Name "remains" p31)]) (keywords := []) (pos := p32))) (op := Operator.Mod) (right := (Expr.Constant (Const.int 1009) 0 p33)) (pos := p34))) (op := Operator.Mod) (right := (Expr.Name "bound" p35)) (pos := p36)))) (pos := p37))]) (orelse := []) (pos := p38)), (Stmt.Assign (targets := [(Expr.Name "small" p39)]) (value := (Expr.BinOp (left := (Expr.Call (func := (Expr.Name "int" p40)) (args := [(Expr.Name "cell" p41)]) (keywords := []) (pos := p42))) (op := Operator.Mod) (right := (Expr.Constant (Const.int 1000003) 0 p43)) (pos := p44))) (pos := p45)), (Stmt.Return (value := (some (Expr.BinOp (left := (Expr.Call (func := (Expr.Name "_law_draw" p46)) (args := [ (Expr.BinOp (left := (Expr.BinOp (left := (Expr.Name "small" p47)) (op := Operator.Add) (right := (Expr.BinOp (left := (Expr.Constant (Const.int 977) 0 p48)) (op := Operator.Mult) (right := (Expr.Name "k" p49)) (pos := p50))) (pos := p51))) (op := Operator.Mult) (right := (Expr.BinOp (left := (Expr.BinOp (left := (Expr.Name "small" p52)) (op := Operator.Add) (right := (Expr.BinOp (left := (Expr.Constant (Const.int 31) 0 p53)) (op := Operator.Mult) (right := (Expr.Name "k" p54)) (pos := p55))) (pos := p56))) (op := Operator.Add) (right := (Expr.Constant (Const.int 5) 0 p57)) (pos := p58))) (pos := p59)), (Expr.BinOp (left := (Expr.BinOp (left := (Expr.Call (func := (Expr.Name "int" p60)) (args := [(Expr.Name "k" p61)]) (keywords := []) (pos := p62))) (op := Operator.Mod) (right := (Expr.Constant (Const.int 9) 0 p63)) (pos := p64))) (op := Operator.Add) (right := (Expr.Constant (Const.int 1) 0 p65)) (pos := p66)), (Expr.Constant (Const.int 999983) 0 p67)]) (keywords := []) (pos := p68))) (op := Operator.Mod) (right := (Expr.Name "bound" p69)) (pos := p70)))) (pos := p71))]
abbrev nextBody (p1 p2 p3 p4 p5 p6 p7 p8 p9 p10 p11 p12 p13 p14 p15 p16 p17 p18 p19 p20 p21 p22 p23 p24 p25 p26 p27 p28 p29 p30 p31 p32 p33 p34 p35 p36 p37 p38 p39 p40 p41 p42 p43 p44 p45 p46 : Pos) : List Stmt :=
  [ (Stmt.Assign (targets := [ (Expr.Subscript (value := (Expr.Name "draw" p1)) (slice := (Expr.Constant (Const.int 2) 0 p2)) (pos := p3))]) (value := (Expr.BinOp (left := (Expr.Subscript (value := (Expr.Name "draw" p4)) (slice := (Expr.Constant (Const.int 2) 0 p5)) (pos := p6))) (op := Operator.Add) (right := (Expr.Constant (Const.int 1) 0 p7)) (pos := p8))) (pos := p9)), (Stmt.Assign (targets := [(Expr.Name "at" p10)]) (value := (Expr.BinOp (left := (Expr.Subscript (value := (Expr.Name "draw" p11)) (slice := (Expr.Constant (Const.int 2) 0 p12)) (pos := p13))) (op := Operator.FloorDiv) (right := (Expr.Constant (Const.int 12) 0 p14)) (pos := p15))) (pos := p16)), (Stmt.Assign (targets := [(Expr.Name "cell" p17)]) (value := (Expr.BinOp (left := (Expr.Call (func := (Expr.Name "_law_cell_at" p18)) (args := [ (Expr.Subscript (value := (Expr.Name "draw" p19)) (slice := (Expr.Constant (Const.int 0) 0 p20)) (pos := p21)), (Expr.BinOp (left := (Expr.Subscript (value := (Expr.Name "draw" p22)) (slice := (Expr.Constant (Const.int 1) 0 p23)) (pos := p24))) (op := Operator.Add) (right := (Expr.Name "at" p25)) (pos := p26))]) (keywords := []) (pos := p27))) (op := Operator.Add) (right := (Expr.BinOp (left := (Expr.Constant (Const.int 31) 0 p28)) (op := Operator.Mult) (right := (Expr.Name "at" p29)) (pos := p30))) (pos := p31))) (pos := p32)), (Stmt.Return (value := (some (Expr.Call (func := (Expr.Name "_law_number" p33)) (args := [ (Expr.Name "cell" p34), (Expr.BinOp (left := (Expr.BinOp (left := (Expr.Call (func := (Expr.Name "int" p35)) (args := [ (Expr.Subscript (value := (Expr.Name "draw" p36)) (slice := (Expr.Constant (Const.int 2) 0 p37)) (pos := p38))]) (keywords := []) (pos := p39))) (op := Operator.Mod) (right := (Expr.Constant (Const.int 12) 0 p40)) (pos := p41))) (op := Operator.Add) (right := (Expr.Constant (Const.int 1) 0 p42)) (pos := p43)), (Expr.Name "bound" p44)]) (keywords := []) (pos := p45)))) (pos := p46))]
/-- nothing tracked is lost -/
def Ext (H H' : Hp) : Prop := ∀ a o, H a = some o → H' a = some o
theorem Ext.refl (H : Hp) : Ext H H := fun _ _ h => h
theorem Ext.trans {H H1 H2 : Hp} (h : Ext H H1) (k : Ext H1 H2) : Ext H H2 := fun a o e => k a o (h a o e)
theorem Ext.upd {H : Hp} {p : Addr} {o : HO} (h : H p = none) : Ext H (upd H p o) := fun a x e => by
  unfold L2.upd
  split
  · rename_i z
    subst z
    rw [h] at e
    cases e
  · exact e
def primesL : List Int := [1000003, 1000033, 1000037, 1000039, 1000081, 1000099, 1000117, 1000121, 1000133, 1000151, 1000159, 1000171, 1000183, 1000187, 1000193, 1000199]
def drawZ (c k b : Int) : Int := (c * 48271 + k * 69621) % (primesL.getD (k % 16).toNat 1) % b
def spDraw : Sp := fun vs H Q _ => ∃ c k b : Int, vs = [.int c, .int k, .int b] ∧ 0 < b ∧ ∀ H', Ext H H' → Q (.int (drawZ c k b)) H'
theorem primes_at {k : Int} : L2.atI (primesL.map V.int) (k % 16) = some (.int (primesL.getD (k % 16).toNat 1)) ∧ 0 < primesL.getD (k % 16).toNat 1 := by
  have h1 : 0 ≤ k % 16 := Int.emod_nonneg k (by decide)
  have h2 : k % 16 < 16 := Int.emod_lt_of_pos k (by decide)
  generalize e : k % 16 = j at h1 h2
  obtain ⟨m, rfl⟩ := Int.eq_ofNat_of_zero_le h1
  have : m < 16 := by omega
  clear e h1 h2
  revert m
  decide
section
variable {P : Program} {w : World} {K : PySem.W.Frag} {mg : Str → Option Value} {base : Heap} {f : Addr} {fd : FuncData} {qual : Str} {pa : Arguments} {bd : List Stmt} {sc : Scope}
theorem ok_draw {p1 p2 p3 p4 p5 p6 p7 p8 p9 p10 p11 p12 p13 p14 p15 p16 p17 p18 p19 p20 p21 p22 p23 p24 p25 p26 p27 p28 p29 p30 p31 p32 p33 p34 p35 p36 p37 p38 p39 : Pos} (FD : FunD K "_law_draw" qual pa bd sc [] [] f fd) (hb : bd = drawBody p1 p2 p3 p4 p5 p6 p7 p8 p9 p10 p11 p12 p13 p14 p15 p16 p17 p18 p19 p20 p21 p22 p23 p24 p25 p26 p27 p28 p29 p30 p31 p32 p33 p34 p35 p36 p37 p38 p39) (S : FnScope ["cell", "k", "bound", "primes"] ["cell", "k", "bound"] sc) (hl : sc.names.lookup ("primes" : Str) = some .local) (hi : sc.names.lookup ("int" : Str) = some .globalImplicit) (mI : mg "int" = none) :
    FnOk P w K mg base CX0 1 f fd ["cell", "k", "bound"] spDraw := by
  have vc : Vis sc "cell" := (S.par "cell" (by simp)).elim .inl fun z => .inr (.inl z)
  have vk : Vis sc "k" := (S.par "k" (by simp)).elim .inl fun z => .inr (.inl z)
  have vb : Vis sc "bound" := (S.par "bound" (by simp)).elim .inl fun z => .inr (.inl z)
  subst hb
  refine FD.ok S (fun vs H Q E h => ?_) (fun cdv A outer s H vs Q E hr h => ⟨_, PSs.nox (pss_cons (ps_set (i := 3) S.nd rfl (.inl hl) (pe_tup (pa_cons pe_int (pa_cons pe_int (pa_cons pe_int (pa_cons pe_int (pa_cons pe_int (pa_cons pe_int (pa_cons pe_int (pa_cons pe_int (pa_cons pe_int (pa_cons pe_int (pa_cons pe_int (pa_cons pe_int (pa_cons pe_int (pa_cons pe_int (pa_cons pe_int (pa_cons pe_int (pa_nil)))))))))))))))))))
    (pss_one (ps_ret (pe_op op_mod (pe_op op_mod (pe_callTy call_int1 hi mI PySem.Pv.boot_int (pa_cons (pe_op op_add (pe_op op_mul (pe_var (i := 0) rfl vc) pe_int) (pe_op op_mul (pe_var (i := 1) rfl vk) pe_int)) pa_nil)) (pe_ix ix_tup (pe_var (i := 3) rfl (.inl hl)) (pe_op op_mod (pe_callTy call_int1 hi mI PySem.Pv.boot_int (pa_cons (pe_var (i := 1) rfl vk) pa_nil)) pe_int) fun _ _ => rfl)) (pe_var (i := 2) rfl vb))))), ?_⟩)
  · obtain ⟨c, k, b, rfl, _⟩ := h
    rfl
  · obtain ⟨c, k, b, rfl, hb, q⟩ := h
    refine ⟨by decide, fun p hp => ?_⟩
    obtain ⟨a1, a2⟩ := primes_at (k := k)
    refine ⟨_, rfl, c, 48271, rfl, rfl, .inr (by decide), _, rfl, k, 69621, rfl, rfl, .inr (by decide), _, _, rfl, rfl, .inl ⟨_, rfl, ?_⟩⟩
    refine ⟨_, rfl, _, rfl, .inl ⟨_, rfl, k, 16, rfl, rfl, (show (0 : Int) < 16 by decide), p, primesL.map V.int, k % 16, _, rfl, rfl, .inl (.inl ?_), a1, ?_⟩⟩
    · unfold L2.upd
      rw [if_pos rfl]
      rfl
    · exact ⟨_, _, rfl, rfl, a2, _, rfl, _, _, rfl, rfl, hb, q _ (Ext.upd hp)⟩
def numZ (c k b : Int) : Int := if 0 < (c - 10 ^ 18) / 1009 ^ (k % 24).toNat then (c - 10 ^ 18) / 1009 ^ (k % 24).toNat % 1009 % b else
  drawZ ((c % 1000003 + 977 * k) * (c % 1000003 + 31 * k + 5)) (k % 9 + 1) 999983 % b
def spNum : Sp := fun vs H Q _ => ∃ c k b : Int, vs = [.int c, .int k, .int b] ∧ 0 < b ∧ 0 ≤ k ∧ k < 1000 ∧ ∀ H', Ext H H' → Q (.int (numZ c k b)) H'
theorem ok_num {p1 p2 p3 p4 p5 p6 p7 p8 p9 p10 p11 p12 p13 p14 p15 p16 p17 p18 p19 p20 p21 p22 p23 p24 p25 p26 p27 p28 p29 p30 p31 p32 p33 p34 p35 p36 p37 p38 p39 p40 p41 p42 p43 p44 p45 p46 p47 p48 p49 p50 p51 p52 p53 p54 p55 p56 p57 p58 p59 p60 p61 p62 p63 p64 p65 p66 p67 p68 p69 p70 p71 : Pos} {fD : Addr} {fdD : FuncData} {qualD : Str} {paD : Arguments} (FD : FunD K "_law_number" qual pa bd sc [] [] f fd) (hb : bd = numBody p1 p2 p3 p4 p5 p6 p7 p8 p9 p10 p11 p12 p13 p14 p15 p16 p17 p18 p19 p20 p21 p22 p23 p24 p25 p26 p27 p28 p29 p30 p31 p32 p33 p34 p35 p36 p37 p38 p39 p40 p41 p42 p43 p44 p45 p46 p47 p48 p49 p50 p51 p52 p53 p54 p55 p56 p57 p58 p59 p60 p61 p62 p63 p64 p65 p66 p67 p68 p69 p70 p71) (S : FnScope ["cell", "k", "bound", "scale", "lap", "remains", "small"] ["cell", "k", "bound"] sc)
    (l3 : sc.names.lookup ("scale" : Str) = some .local) (l4 : sc.names.lookup ("lap" : Str) = some .local) (l5 : sc.names.lookup ("remains" : Str) = some .local) (l6 : sc.names.lookup ("small" : Str) = some .local)
    (hi : sc.names.lookup ("int" : Str) = some .globalImplicit) (hr' : sc.names.lookup ("range" : Str) = some .globalImplicit) (hD : sc.names.lookup ("_law_draw" : Str) = some .globalImplicit) (mI : mg "int" = none) (mR : mg "range" = none)
    (GD : FnOk P w K mg base CX0 1 fD fdD ["cell", "k", "bound"] spDraw) (mD : mg "_law_draw" = some (.ref fD)) (kD : PySem.W.keepIn K (.ref fD) = true) (bD : Binds K fdD ["cell", "k", "bound"] []) :
    FnOk P w K mg base CX0 2 f fd ["cell", "k", "bound"] spNum := by
  have vc : Vis sc "cell" := (S.par "cell" (by simp)).elim .inl fun z => .inr (.inl z)
  have vk : Vis sc "k" := (S.par "k" (by simp)).elim .inl fun z => .inr (.inl z)
  have vb : Vis sc "bound" := (S.par "bound" (by simp)).elim .inl fun z => .inr (.inl z)
  subst hb
  refine FD.ok S (fun vs H Q E h => ?_) (fun cdv A outer s H vs Q E hr h => ⟨_, PSs.nox (pss_cons (ps_set (i := 3) S.nd rfl (.inl l3) pe_int)
    (pss_cons (ps_for PassesOwn.never rfl (pi_range1 hr' mR (pa_cons (pe_op op_mod (pe_callTy call_int1 hi mI PySem.Pv.boot_int (pa_cons (pe_var (i := 1) rfl vk) pa_nil)) pe_int) pa_nil)) (pg_name (i := 4) S.nd rfl (.inl l4)) (pss_one (ps_set (i := 3) S.nd rfl (.inl l3) (pe_op op_mul (pe_var (i := 3) rfl (.inl l3)) pe_int))))
    (pss_cons (ps_set (i := 5) S.nd rfl (.inl l5) (pe_op op_fdivW (pe_op op_sub (pe_var (i := 0) rfl vc) (pe_op op_pow pe_int pe_int)) (pe_var (i := 3) rfl (.inl l3))))
    (pss_cons (ps_if (pt_cmp (pc_gt (pe_var (i := 5) rfl (.inl l5)) pe_int)) (pss_one (ps_ret (pe_op op_mod (pe_op op_mod (pe_callTy call_int1 hi mI PySem.Pv.boot_int (pa_cons (pe_var (i := 5) rfl (.inl l5)) pa_nil)) pe_int) (pe_var (i := 2) rfl vb)))) pss_nil)
    (pss_cons (ps_set (i := 6) S.nd rfl (.inl l6) (pe_op op_mod (pe_callTy call_int1 hi mI PySem.Pv.boot_int (pa_cons (pe_var (i := 0) rfl vc) pa_nil)) pe_int))
    (pss_one (ps_ret (pe_op op_mod (pe_call GD hr hD mD kD bD .nil pass0 (pa_cons (pe_op op_mul (pe_op op_add (pe_var (i := 6) rfl (.inl l6)) (pe_op op_mul pe_int (pe_var (i := 1) rfl vk))) (pe_op op_add (pe_op op_add (pe_var (i := 6) rfl (.inl l6)) (pe_op op_mul pe_int (pe_var (i := 1) rfl vk))) pe_int)) (pa_cons (pe_op op_add (pe_op op_mod (pe_callTy call_int1 hi mI PySem.Pv.boot_int (pa_cons (pe_var (i := 1) rfl vk) pa_nil)) pe_int) pe_int) (pa_cons pe_int pa_nil)))) (pe_var (i := 2) rfl vb))))))))), ?_⟩)
  · obtain ⟨c, k, b, rfl, _⟩ := h
    rfl
  · obtain ⟨c, k, b, rfl, hb, k0, k1, q⟩ := h
    refine ⟨_, rfl, .inl ⟨_, rfl, k, 24, rfl, rfl, (show (0 : Int) < 24 by decide), k % 24, rfl, by omega, by omega, ?_⟩⟩
    refine ⟨fun i m σ' H' => H' = H ∧ m = (k % 24).toNat - i ∧ i ≤ (k % 24).toNat ∧ ∃ lap, σ' = [some (.int c), some (.int k), some (.int b), some (.int (1009 ^ i)), lap, none, none], ⟨_, rfl, rfl, Nat.zero_le _, none, rfl⟩, ?_⟩
    rintro i m σ' H' ⟨rfl, rfl, hi, lap, rfl⟩
    by_cases hlt : i < (k % 24).toNat
    · refine .inr ⟨hlt, fun σ' H'' => H'' = H' ∧ ∃ lap, σ' = [some (.int c), some (.int k), some (.int b), some (.int (1009 ^ (i + 1))), lap, none, none], fun σ' H'' z => ⟨(k % 24).toNat - (i + 1), by omega, z.1, rfl, hlt, z.2⟩, fun x H'' y => ?_⟩
      obtain ⟨rfl, rfl⟩ := y
      exact ⟨_, rfl, _, _, rfl, rfl, .inr (by decide), rfl, _, rfl⟩
    · have e : i = (k % 24).toNat := by omega
      subst e
      refine .inl ⟨Nat.le_refl _, ?_⟩
      have h24 : (k % 24).toNat < 24 := by omega
      have hpos : (0 : Int) < 1009 ^ (k % 24).toNat := Int.pow_pos (by decide)
      have hw : CDivW (c - 10 ^ (18 : Int).toNat) (1009 ^ (k % 24).toNat) := by
        refine wide_div (b := 240) hpos ?_ (by decide) (by decide)
        rw [Int.natAbs_pow]
        exact Nat.lt_of_le_of_lt (Nat.pow_le_pow_right (by decide) (show (k % 24).toNat ≤ 23 by omega)) (by decide)
      refine ⟨_, rfl, 10, 18, rfl, rfl, ⟨by decide, by decide, by decide⟩, _, _, rfl, rfl, _, rfl, _, _, rfl, rfl, hw, ?_⟩
      refine ⟨_, rfl, _, _, rfl, rfl, _, rfl, ?_⟩
      have q0 := q H' (.refl _)
      show if decide (_ > (0 : Int)) = true then _ else _
      by_cases hr : 0 < (c - 10 ^ (18 : Int).toNat) / 1009 ^ (k % 24).toNat
      · rw [if_pos (decide_eq_true hr)]
        refine ⟨_, rfl, .inl ⟨_, rfl, _, _, rfl, rfl, (show (0 : Int) < 1009 by decide), _, rfl, _, _, rfl, rfl, hb, ?_⟩⟩
        have : numZ c k b = (c - 10 ^ (18 : Int).toNat) / 1009 ^ (k % 24).toNat % 1009 % b := if_pos hr
        rw [this] at q0
        exact q0
      · rw [if_neg (fun z => hr (of_decide_eq_true z))]
        refine ⟨_, rfl, .inl ⟨_, rfl, _, _, rfl, rfl, (show (0 : Int) < 1000003 by decide), ?_⟩⟩
        have s0 : 0 ≤ c % 1000003 := Int.emod_nonneg c (by decide)
        have s1 : c % 1000003 < 1000003 := Int.emod_lt_of_pos c (by decide)
        refine ⟨_, rfl, _, rfl, _, _, rfl, rfl, .inl (by decide), _, _, rfl, rfl, _, rfl, _, rfl, _, _, rfl, rfl, .inl (by decide), _, _, rfl, rfl, _, _, rfl, rfl, _, _, rfl, rfl, .inl ⟨by omega, by omega⟩, ?_⟩
        refine ⟨_, rfl, .inl ⟨_, rfl, _, _, rfl, rfl, (show (0 : Int) < 9 by decide), _, _, rfl, rfl, ?_⟩⟩
        refine ⟨_, _, _, rfl, (show (0 : Int) < 999983 by decide), fun H2 x => ⟨_, rfl, _, _, rfl, rfl, hb, ?_⟩⟩
        have : numZ c k b = drawZ ((c % 1000003 + 977 * k) * (c % 1000003 + 31 * k + 5)) (k % 9 + 1) 999983 % b := if_neg hr
        have q1 := q H2 x
        rw [this] at q1
        exact q1
def nextZ (sc : List Int) (n : Nat) (b : Int) : Int := numZ (cellOf sc (n / 12) + 31 * ((n / 12 : Nat) : Int)) (((n : Int)) % 12 + 1) b
def nextF (o : Nat → Int → Option Int) : List D → M D
  | [.drw, .int b] => fun k => match o (k.n + 1) b with
    | some v => .ok (.int v) ⟨k.n + 1, k.cs⟩
    | none => .stuck
  | _ => M.stuck
theorem FN_next {o : Nat → Int → Option Int} {nxt : Nat} {prog : List Fd} {n : Nat} {l : List D} : FN o nxt prog (n + 1) nxt l = nextF o l := by
  show (bif Nat.beq nxt nxt then _ else _) = _
  rw [Nat.beq_refl]
  match l with
  | [] => rfl
  | [.drw, .int b] => rfl
  | [.drw] => rfl
  | _ :: _ :: _ :: _ => rfl
  | [.drw, d] => cases d <;> rfl
  | [d, e] => cases d <;> cases e <;> rfl
  | [d] => cases d <;> rfl
theorem nextF_inv {o : Nat → Int → Option Int} {l : List D} {s : MS} (h : nextF o l s ≠ .stuck) : ∃ b v, l = [.drw, .int b] ∧ o (s.n + 1) b = some v ∧ nextF o l s = .ok (.int v) ⟨s.n + 1, s.cs⟩ := by
  unfold nextF at h ⊢
  split at h
  · rename_i b
    cases q : o (s.n + 1) b with
    | none => rw [q] at h; exact absurd rfl h
    | some v => exact ⟨b, v, rfl, q, rfl⟩
  · exact absurd rfl h
theorem ok_next {p1 p2 p3 p4 p5 p6 p7 p8 p9 p10 p11 p12 p13 p14 p15 p16 p17 p18 p19 p20 p21 p22 p23 p24 p25 p26 p27 p28 p29 p30 p31 p32 p33 p34 p35 p36 p37 p38 p39 p40 p41 p42 p43 p44 p45 p46 : Pos} {g : Gd} {xr : XR} {o : Nat → Int → Option Int} {nxt : Nat} {prog : List Fd} {n : Nat} {fC fN : Addr} {fdC fdN : FuncData} (gK : g.K = K) (FD : FunD K "_law_next" qual pa bd sc [] [] f fd) (hb : bd = nextBody p1 p2 p3 p4 p5 p6 p7 p8 p9 p10 p11 p12 p13 p14 p15 p16 p17 p18 p19 p20 p21 p22 p23 p24 p25 p26 p27 p28 p29 p30 p31 p32 p33 p34 p35 p36 p37 p38 p39 p40 p41 p42 p43 p44 p45 p46) (S : FnScope ["draw", "bound", "at", "cell"] ["draw", "bound"] sc)
    (l2 : sc.names.lookup ("at" : Str) = some .local) (l3 : sc.names.lookup ("cell" : Str) = some .local)
    (hi : sc.names.lookup ("int" : Str) = some .globalImplicit) (hC : sc.names.lookup ("_law_cell_at" : Str) = some .globalImplicit) (hN : sc.names.lookup ("_law_number" : Str) = some .globalImplicit) (mI : mg "int" = none)
    (GC : FnOk P w K mg base CX0 1 fC fdC ["script", "k"] (spCell K)) (mC : mg "_law_cell_at" = some (.ref fC)) (kC : PySem.W.keepIn K (.ref fC) = true) (bC : Binds K fdC ["script", "k"] [])
    (GN : FnOk P w K mg base CX0 2 fN fdN ["cell", "k", "bound"] spNum) (mN : mg "_law_number" = some (.ref fN)) (kN : PySem.W.keepIn K (.ref fN) = true) (bN : Binds K fdN ["cell", "k", "bound"] [])
    (ho : ∀ k b v, o k b = some v → 0 < b ∧ v = nextZ g.sc k b) :
    FnOk P w K mg base CX0 3 f fd ["draw", "bound"] (spF g xr 2 (FN o nxt prog n nxt)) := by
  have vd : Vis sc "draw" := (S.par "draw" (by simp)).elim .inl fun z => .inr (.inl z)
  have vb : Vis sc "bound" := (S.par "bound" (by simp)).elim .inl fun z => .inr (.inl z)
  subst hb
  refine FD.ok S (fun vs H Q E h => h.1) (fun cdv A outer s H vs Q E hr h => ⟨_, PSs.nox (pss_cons (ps_asg (pe_op op_add (pe_ix ix_list (pe_var (i := 0) rfl vd) pe_int fun _ _ => rfl) pe_int) (pg_sub (pe_var (i := 0) rfl vd) pe_int set_list))
    (pss_cons (ps_set (i := 2) S.nd rfl (.inl l2) (pe_op op_fdiv (pe_ix ix_list (pe_var (i := 0) rfl vd) pe_int fun _ _ => rfl) pe_int))
    (pss_cons (ps_set (i := 3) S.nd rfl (.inl l3) (pe_op op_add (pe_call (GC.mono (Nat.le_succ 1)) hr hC mC kC bC .nil pass0 (pa_cons (pe_ix ix_list (pe_var (i := 0) rfl vd) pe_int fun _ _ => rfl) (pa_cons (pe_op op_add (pe_ix ix_list (pe_var (i := 0) rfl vd) pe_int fun _ _ => rfl) (pe_var (i := 2) rfl (.inl l2))) pa_nil))) (pe_op op_mul pe_int (pe_var (i := 2) rfl (.inl l2)))))
    (pss_one (ps_ret (pe_call GN hr hN mN kN bN .nil pass0 (pa_cons (pe_var (i := 3) rfl (.inl l3)) (pa_cons (pe_op op_add (pe_op op_mod (pe_callTy call_int1 hi mI PySem.Pv.boot_int (pa_cons (pe_ix ix_list (pe_var (i := 0) rfl vd) pe_int fun _ _ => rfl) pa_nil)) pe_int) pe_int) (pa_cons (pe_var (i := 1) rfl vb) pa_nil))))))))), ?_⟩)
  obtain ⟨_, A0, ca, l, st, sr, h1, h2, r, p⟩ := h
  cases n with
  | zero => exact p.elim
  | succ n =>
    rw [FN_next] at p
    obtain ⟨b, v, rfl, q, en⟩ := nextF_inv (s := st) (o := o) (l := l) fun z => by
      rw [z] at p
      exact p.elim
    rw [en] at p
    obtain ⟨v1, ys, rfl, r1, v2, zs, rfl, r2, r3⟩ := r
    have r3 : zs = [] := r3
    have r1 : v1 = .ref g.dA := r1
    have r2 : v2 = .int b := r2
    subst r1 r2 r3
    obtain ⟨hb, rfl⟩ := ho _ _ _ q
    have c1 : ((st.n : Int) + 1) / 12 = (((st.n + 1) / 12 : Nat) : Int) := by omega
    have c2 : ((st.n : Int) + 1) = ((st.n + 1 : Nat) : Int) := by omega
    have ne : g.sl ≠ g.dA := fun z => sr.nsl (by simp [z])
    refine ⟨_, rfl, g.dA, _, 2, _, rfl, rfl, .inl (.inl sr.dr), rfl, _, _, rfl, rfl, _, rfl, g.dA, _, 2, 2, rfl, rfl, sr.dr, rfl, ?_⟩
    generalize eH : upd H g.dA _ = H1
    have e1 : H1 g.dA = some (.lst [.ref g.sl, .int 0, .int ((st.n : Int) + 1)]) := by
      rw [← eH]
      unfold L2.upd
      rw [if_pos rfl]
      rfl
    have e2 : ∀ a, a ≠ g.dA → H1 a = H a := fun a na => by
      rw [← eH]
      unfold L2.upd
      rw [if_neg na]
    have e3 : H1 g.sl = some (.lst (g.sc.map .int)) := by rw [e2 _ ne]; exact sr.scr
    refine ⟨_, rfl, g.dA, _, 2, _, rfl, rfl, .inl (.inl e1), rfl, _, _, rfl, rfl, ⟨by decide, by decide⟩, ?_⟩
    refine ⟨_, rfl, g.dA, _, 0, _, rfl, rfl, .inl (.inl e1), rfl, _, rfl, g.dA, _, 1, _, rfl, rfl, .inl (.inl e1), rfl, _, rfl, _, _, rfl, rfl, g.sl, g.sc, (st.n + 1) / 12, ?_, .inl (.inl e3), ?_⟩
    · rw [← c1]
      simp
    refine ⟨_, rfl, _, _, rfl, rfl, .inl (by decide), _, _, rfl, rfl, ?_⟩
    refine ⟨_, rfl, _, rfl, g.dA, _, 2, _, rfl, rfl, .inl (.inl e1), rfl, .inl ⟨_, rfl, _, _, rfl, rfl, (show (0 : Int) < 12 by decide), _, _, rfl, rfl, _, rfl, ?_⟩⟩
    refine ⟨_, _, _, rfl, hb, by omega, by omega, fun H' x => ?_⟩
    have st' : Stp g A0 ca H ca H' ⟨st.n + 1, st.cs⟩ := by
      have keep : ∀ a o, a ∉ g.dA :: ca → H a = some o → H' a = some o := fun a o na h => x _ _ (by rw [e2 a (fun z => na (by simp [z]))]; exact h)
      refine ⟨⟨by rw [← c2]; exact x _ _ e1, x _ _ e3, sr.nsl, sr.cs, fun i a kv hi hk => ?_, sr.nd⟩, ⟨[], by simp, by simp⟩, fun a o na h => ⟨o, keep a o na h, .refl _⟩, fun a o _ na h => keep a o na h⟩
      have na : a ≠ g.dA := fun z => by
        have := sr.nd
        rw [List.nodup_cons] at this
        exact this.1 (by rw [← z]; exact List.mem_of_getElem? hi)
      have t : ∀ o, H a = some o → H' a = some o := fun o h => x _ _ (by rw [e2 a na]; exact h)
      rcases sr.ce i a kv hi hk with ⟨kvs, d1, d2⟩ | ⟨kvs, d1, d2⟩
      · exact .inl ⟨kvs, t _ d1, d2⟩
      · exact .inr ⟨kvs, t _ d1, d2⟩
    have q1 := p (.int (nextZ g.sc (st.n + 1) b)) H' ca st' rfl
    have q2 : nextZ g.sc (st.n + 1) b = numZ (cellOf g.sc ((st.n + 1) / 12) + 31 * (((st.n : Int) + 1) / 12)) (((st.n : Int) + 1) % 12 + 1) b := by
      unfold nextZ
      rw [c1, c2]
    rw [q2] at q1
    exact q1
end
end W
/-! W28: the law's def. -/
namespace W
open PySem L2
section
variable {P : Program} {w : World} {K : PySem.W.Frag} {mg : Str → Option Value} {base : Heap} {f : Addr} {fd : FuncData} {qual : Str} {pa : Arguments} {bd : List Stmt} {sc : Scope}
theorem ok_cell {p1 p2 p3 p4 p5 p6 p7 p8 p9 p10 p11 p12 : Pos} {k0 : Nat} (FD : FunD K "_law_cell_at" qual pa bd sc [] [] f fd) (hb : bd = cellBody p1 p2 p3 p4 p5 p6 p7 p8 p9 p10 p11 p12 k0) (S : FnScope ["script", "k"] ["script", "k"] sc) (hl : sc.names.lookup ("len" : Str) = some .globalImplicit) (mL : mg "len" = none) :
    FnOk P w K mg base CX0 1 f fd ["script", "k"] (spCell K) := by
  have vs : Vis sc "script" := (S.par "script" (by simp)).elim .inl fun z => .inr (.inl z)
  have vk : Vis sc "k" := (S.par "k" (by simp)).elim .inl fun z => .inr (.inl z)
  subst hb
  refine FD.ok S (fun vs H Q E h => ?_) (fun cdv A outer s H vs Q E hr h => ⟨_, pss_cell rfl rfl ‹_› vk hl mL, cell_run h⟩)
  obtain ⟨l, ns, j, rfl, _⟩ := h
  rfl
theorem pss_ex {X : Cx} {st : List Stmt} {ι : Type} {t : ι → TS} {C : ι → Prop} (h : ∀ i, C i → PSs X st (t i)) : PSs X st (fun D σ H => ∃ i, C i ∧ t i D σ H) := ⟨fun pins s σ H D I ⟨i, c, q⟩ => (h i c).run pins s σ H D I q⟩
theorem cut_map {ns : List Int} : ∃ sc : List Int, L2.cutV (ns.map V.int) none (some 63) = sc.map V.int := by
  unfold L2.cutV
  exact ⟨_, by rw [← List.map_drop, ← List.map_take]⟩
/-- draw = [script[:63], 0, 0] -/
abbrev drawSt (p1 p2 p3 p4 p5 p6 p7 p8 p9 : Pos) : Stmt := .Assign [.Name "draw" p1] (.List [.Subscript (.Name "script" p2) (.Slice none (some (.Constant (.int 63) 0 p3)) none p4) p5, .Constant (.int 0) 0 p6, .Constant (.int 0) 0 p7] p8) p9
def spLaw (K : PySem.W.Frag) : Sp := fun vs H Q _ => ∃ (a : Addr) (ns : List Int), vs = [.ref a] ∧ SqL K H a (ns.map V.int) ∧ ∀ H', Q (.bl true) H'
theorem law_ok {p1 p2 p3 p4 p5 p6 p7 p8 p9 : Pos} {rest : List Stmt} {r : List Str} {cs : List (Str × D)} {fs : List Str} {k nl : Nat} {m : S} {xr : XR} {F : Gd → Nat → List D → M D} {e : Env}
    (FD : FunD K "law" qual pa bd sc [] [] f fd) (hb : bd = drawSt p1 p2 p3 p4 p5 p6 p7 p8 p9 :: rest) (S : FnScope ("script" :: "draw" :: r) ["script"] sc) (l1 : sc.names.lookup ("draw" : Str) = some .local)
    (mb : mB ⟨"script" :: "draw" :: r, cs, fs⟩ sc sc [] m rest = true) (hblt : ∀ x ∈ bltns, mg x = none) (hcon : ∀ p ∈ cs, flat p.2 = true ∧ ∃ u v, mg p.1 = some u ∧ RelV v u ∧ ∀ dA H, Rep dA [] H p.2 v)
    (call : ∀ g : Gd, g.K = K → g.ex = false → CallOk P w K mg base g xr (F g) fs k)
    (he : e = none :: some .drw :: nones r.length)
    (run : ∀ g : Gd, g.K = K → g.ex = false → ∃ s', denS (F g) m e ⟨0, []⟩ = .ok (.ret (.bl true)) s') : FnOk P w K mg base CX0 (k + 1) f fd ["script"] (spLaw K) := by
  have vsc : Vis sc "script" := (S.par "script" (by simp)).elim .inl fun z => .inr (.inl z)
  subst hb
  refine FD.ok S (fun vs H Q E h => ?_) (fun cdv A outer s H vs Q E hr h => ⟨_, pss_cons (ps_set (i := 1) S.nd rfl (.inl l1) (pe_lst (pa_cons (pe_slice sl_list (pe_var (i := 0) rfl vsc) po_none (po_some pe_int)) (pa_cons pe_int (pa_cons pe_int pa_nil)))) (hf := .inl rfl)) (pss_ex (C := fun g : Gd => g.K = K ∧ g.ex = false) (t := fun g => tS g xr (F g) (ofL []) W0 m) fun g hg => ?_), ?_⟩)
  · obtain ⟨a, ns, rfl, _⟩ := h
    rfl
  · have x : XO ⟨"script" :: "draw" :: r, cs, fs⟩ g xr (F g) W0 (cxOf CX0 P w K mg base ("script" :: "draw" :: r) qual sc f cdv A outer s H E) sc sc := by
      refine ⟨rfl, S.nd, rfl, fun x k h _ => h, fun x _ => rfl, rfl, ?_, hblt, fun p hp => ?_, hg.2, fun i x hx => ?_⟩
      · have := hr.un
        refine Nat.lt_of_le_of_lt ?_ this
        show (A.deeper _).units + 12 ≤ (A.deeper _).units + 16 * k + 200
        omega
      · obtain ⟨q1, u, v, q2, q3, q4⟩ := hcon p hp
        exact ⟨q1, u, v, q2, q3, q4 g.dA⟩
      · obtain ⟨np, f', fd', ps', q1, q2, q3, q4, q5⟩ := call g hg.1 hg.2 i x hx
        exact ⟨np, k, f', fd', ps', q1, hr, q2, q3, q4, q5⟩
    exact (st_all m _ g xr (F g) W0 _ sc sc [] x).2 rest mb
  · obtain ⟨a, ns, rfl, hS, q⟩ := h
    obtain ⟨sc', ec⟩ := cut_map (ns := ns)
    refine ⟨_, rfl, _, rfl, a, _, rfl, hS, fun sl hsl => ⟨by show 3 ≤ sizeLine; decide, fun dA hdA => ?_⟩⟩
    rw [ec] at hdA ⊢
    obtain ⟨s', rs⟩ := run ⟨K, dA, sl, sc', false⟩ rfl rfl
    generalize eH : upd (upd H sl (.lst (sc'.map V.int))) dA (.lst [.ref sl, .int 0, .int 0]) = H2
    have ne : sl ≠ dA := fun z => by
      unfold L2.upd at hdA
      rw [z, if_pos rfl] at hdA
      cases hdA
    have e1 : H2 dA = some (.lst [.ref sl, .int 0, .int 0]) := by
      rw [← eH]
      unfold L2.upd
      rw [if_pos rfl]
    have e2 : H2 sl = some (.lst (sc'.map V.int)) := by
      rw [← eH]
      unfold L2.upd
      rw [if_neg ne, if_pos rfl]
    have getN : ∀ n i, getS (nones n) i = none := fun n => by
      induction n with
      | zero => intro i; rfl
      | succ n ih => intro i; cases i <;> first | rfl | exact ih _
    have lenN : ∀ n, (nones n).length = n := fun n => by
      induction n with
      | zero => rfl
      | succ n ih => exact congrArg (· + 1) ih
    have sr : SRel ⟨K, dA, sl, sc', false⟩ [] H2 ⟨0, []⟩ := ⟨e1, e2, by simpa using ne, rfl, fun i a kv hi => (by cases hi), by simp⟩
    refine ⟨⟨K, dA, sl, sc', false⟩, ⟨rfl, rfl⟩, ⟨[], H2, []⟩, e, ⟨0, []⟩, [], [], ⟨?_, sr, fun i d hd _ => ?_, fun i d _ ho => (by cases ho), fun i j d d' a _ oi => (by cases oi), fun a o _ h => ⟨o, h, .refl _⟩, fun a o _ h => h, fun a ha => (by cases ha), fun a ha => (by cases ha), ⟨[], rfl, fun a ha => (by cases ha)⟩, fun a ha => ?_, by simp⟩, ?_⟩
    · rw [he]
      simp [L2.start, lenN]
    · rw [he] at hd
      match i, hd with
      | 1, hd =>
        cases hd
        exact ⟨_, rfl, rfl⟩
      | i + 2, hd =>
        have hd : getS (nones r.length) i = some d := hd
        rw [getN] at hd
        cases hd
    · have ha : a = dA := by simpa [bad] using ha
      rw [ha]
      exact ⟨_, e1, rfl⟩
    · rw [rs]
      intro v H' ca' st rv
      have rv : v = .bl true := rv
      rw [rv]
      exact q H'
end
end W
/-! X1: a law of a bounded draw: each drawn list by the kernel. -/
namespace W
open PySem L2
theorem nextZ_in {sc : List Int} {k : Nat} {b : Int} (h : 0 < b) : 0 ≤ nextZ sc k b ∧ nextZ sc k b < b := by
  have : ∀ x : Int, 0 ≤ x % b ∧ x % b < b := fun x => ⟨Int.emod_nonneg x (by omega), Int.emod_lt_of_pos x h⟩
  unfold nextZ numZ
  split
  · exact this _
  · exact this _
/-- the drawn numbers, from the k-th -/
def drawnZ (sc : List Int) : Nat → List Int → List Int
  | _, [] => []
  | k, b :: r => nextZ sc k b :: drawnZ sc (k + 1) r
theorem drawnZ_get {sc : List Int} : ∀ {bs : List Int} {k i : Nat}, (drawnZ sc k bs)[i]? = (bs[i]?).map fun b => nextZ sc (k + i) b
  | [], k, i => by simp [drawnZ]
  | b :: r, k, 0 => by simp [drawnZ]
  | b :: r, k, i + 1 => by
    simp only [drawnZ, List.getElem?_cons_succ]
    rw [drawnZ_get, show k + 1 + i = k + (i + 1) by omega]
def orcL (bs vs : List Int) : Nat → Int → Option Int
  | 0, _ => none
  | k + 1, b => match bs[k]?, vs[k]? with
    | some c, some v => if b = c then some v else none
    | _, _ => none
def menu : List Int → List (List Int)
  | [] => [[]]
  | b :: r => (List.range b.toNat).flatMap fun (v : Nat) => (menu r).map fun l => Int.ofNat v :: l
theorem drawnZ_menu {sc : List Int} : ∀ {bs : List Int} {k : Nat}, (∀ b ∈ bs, 0 < b) → drawnZ sc k bs ∈ menu bs
  | [], k, _ => by simp [drawnZ, menu]
  | b :: r, k, h => by
    obtain ⟨h1, h2⟩ := nextZ_in (sc := sc) (k := k) (h b (by simp))
    simp only [drawnZ, menu, List.mem_flatMap, List.mem_range, List.mem_map]
    exact ⟨(nextZ sc k b).toNat, by omega, _, drawnZ_menu (k := k + 1) (fun c hc => h c (by simp [hc])), by rw [show Int.ofNat (nextZ sc k b).toNat = nextZ sc k b from Int.toNat_of_nonneg h1]⟩
theorem orc_next {sc bs : List Int} (h : ∀ b ∈ bs, 0 < b) (k : Nat) (b v : Int) (e : orcL bs (drawnZ sc 1 bs) k b = some v) : 0 < b ∧ v = nextZ sc k b := by
  cases k with
  | zero => cases e
  | succ k =>
    change (match bs[k]?, (drawnZ sc 1 bs)[k]? with
      | some c, some v => if b = c then some v else none
      | _, _ => none) = some v at e
    rw [drawnZ_get] at e
    cases q : bs[k]? with
    | none => rw [q] at e; cases e
    | some c =>
      rw [q] at e
      change (if b = c then some (nextZ sc (1 + k) c) else none) = some v at e
      split at e
      · rename_i eb
        subst eb
        exact ⟨h _ (List.mem_of_getElem? q), by rw [Nat.add_comm]; exact (Option.some.inj e).symm⟩
      · cases e
def isRT : R Out → Bool
  | .ok (.ret (.bl true)) _ => true
  | _ => false
theorem isRT_eq {r : R Out} (h : isRT r = true) : ∃ s', r = .ok (.ret (.bl true)) s' := by
  unfold isRT at h
  split at h
  · exact ⟨_, rfl⟩
  · cases h
theorem all_drop {α : Type} {l : List α} {f : α → Bool} {i c j : Nat} (hj : j = i + c) (h : ((l.drop i).take c).all f = true) (t : (l.drop j).all f = true) : (l.drop i).all f = true := by
  rw [List.all_eq_true] at h t ⊢
  intro x hx
  rw [← List.take_append_drop c (l.drop i), List.mem_append, List.drop_drop, ← hj] at hx
  exact hx.elim (h x) (t x)
theorem menu_law {P : Program} {w : World} {K : PySem.W.Frag} {mg : Str → Option Value} {base : Heap} {f : Addr} {fd : FuncData} {qual : Str} {pa : Arguments} {bd : List Stmt} {sc : Scope} {p1 p2 p3 p4 p5 p6 p7 p8 p9 : Pos} {rest : List Stmt} {r : List Str} {cs : List (Str × D)} {fs : List Str} {m : S} {e : Env} {prog : List Fd} {nxt fuel : Nat} {bs : List Int}
    (FD : FunD K "law" qual pa bd sc [] [] f fd) (hb : bd = drawSt p1 p2 p3 p4 p5 p6 p7 p8 p9 :: rest) (S : FnScope ("script" :: "draw" :: r) ["script"] sc) (l1 : sc.names.lookup ("draw" : Str) = some .local)
    (mb : mB ⟨"script" :: "draw" :: r, cs, fs⟩ sc sc [] m rest = true) (hblt : ∀ x ∈ bltns, mg x = none) (hcon : ∀ p ∈ cs, flat p.2 = true ∧ ∃ u v, mg p.1 = some u ∧ RelV v u ∧ ∀ dA H, Rep dA [] H p.2 v)
    (hd : ∀ i nm, fs[i]? = some nm → i ≠ nxt → ∃ m, nthF prog i = some m ∧ DefOk K mg cs fs nm m)
    (hn : ∀ (g : Gd) (xr : XR) (o : Nat → Int → Option Int) (n : Nat) (nm : Str), g.K = K → (∀ k b v, o k b = some v → 0 < b ∧ v = nextZ g.sc k b) → fs[nxt]? = some nm → ∃ f fd ps, FnOk P w K mg base CX0 3 f fd ps (spF g xr 2 (FN o nxt prog n nxt)) ∧ mg nm = some (.ref f) ∧ PySem.W.keepIn K (.ref f) = true ∧ Binds K fd ps [])
    (he : e = none :: some .drw :: nones r.length) (hbs : ∀ b ∈ bs, 0 < b) (run : ((menu bs).all fun vs => isRT (denS (FN (orcL bs vs) nxt prog fuel) m e ⟨0, []⟩)) = true) : FnOk P w K mg base CX0 (fuel + 3 + 1) f fd ["script"] (spLaw K) :=
  law_ok (nl := 0) (xr := fun _ _ _ _ _ _ => False) (F := fun g => FN (orcL bs (drawnZ g.sc 1 bs)) nxt prog fuel) FD hb S l1 mb hblt hcon
    (fun g gK gx => fn_all hblt (fun p hp => by
      obtain ⟨q1, u, v, q2, q3, q4⟩ := hcon p hp
      exact ⟨q1, u, v, q2, q3, q4 g.dA⟩) gx hd (fun n nm h => hn g _ _ n nm gK (orc_next hbs) h) fuel) he
    fun g gK gx => isRT_eq (List.all_eq_true.mp run _ (drawnZ_menu hbs))
end W
set_option linter.all false
set_option autoImplicit false
set_option maxRecDepth 100000
set_option maxHeartbeats 0
namespace P
open W
/-- is_letters(thing, most): thing most sign -/
def b0 : S := (S.seq (S.ret (E.and (E.prim (.isT [2]) (E.cons (E.var 0) E.nil)) (E.and (E.cmp .le (E.prim .len (E.cons (E.var 0) E.nil)) (E.var 1)) (E.prim .all (E.cons (E.lc (E.cmp .isin (E.var 2) (E.glob 0 (D.str [97, 98, 99, 100, 101, 102, 103, 104, 105, 106, 107, 108, 109, 110, 111, 112, 113, 114, 115, 116, 117, 118, 119, 120, 121, 122]))) (E.tname 2) (E.itv (E.var 0)) (E.bl true)) E.nil))))) S.skip)
/-- is_word(thing): thing -/
def b1 : S := (S.seq (S.ret (E.and (E.call 0 (E.cons (E.var 0) (E.cons (E.glob 1 (D.int 20)) E.nil))) (E.cmp .ne (E.var 0) (E.str [])))) S.skip)
/-- ascends(things): things one other -/
def b2 : S := (S.seq (S.ret (E.prim .all (E.cons (E.lc (E.cmp .lt (E.var 1) (E.var 2)) (E.ttup (E.cons (E.tname 1) (E.cons (E.tname 2) E.nil))) (E.itz (E.itq (E.var 0)) (E.itq (E.cut (E.var 0) (E.int 1) E.non))) (E.bl true)) E.nil))) S.skip)
/-- are_words(thing, most): thing most one -/
def b3 : S := (S.seq (S.ret (E.and (E.prim (.isT [3]) (E.cons (E.var 0) E.nil)) (E.and (E.cmp .le (E.prim .len (E.cons (E.var 0) E.nil)) (E.var 1)) (E.and (E.prim .all (E.cons (E.lc (E.call 1 (E.cons (E.var 2) E.nil)) (E.tname 2) (E.itv (E.var 0)) (E.bl true)) E.nil)) (E.call 2 (E.cons (E.var 0) E.nil)))))) S.skip)
/-- is_set(thing): thing word -/
def b4 : S := (S.seq (S.ret (E.and (E.call 3 (E.cons (E.var 0) (E.cons (E.glob 2 (D.int 40)) E.nil))) (E.and (E.cmp .ne (E.var 0) (E.tup E.nil)) (E.prim .all (E.cons (E.lc (E.cmp .eq (E.prim .len (E.cons (E.var 1) E.nil)) (E.prim .len (E.cons (E.idx (E.var 0) (E.int 0)) E.nil))) (E.tname 1) (E.itv (E.var 0)) (E.bl true)) E.nil))))) S.skip)
/-- check_set(words): words -/
def b5 : S := (S.seq (S.ite (E.not (E.call 4 (E.cons (E.var 0) E.nil))) (S.seq (S.raise 0 (E.var 0)) S.skip) S.skip) S.skip)
/-- are_next(one, other): one other mine theirs -/
def b6 : S := (S.seq (S.ret (E.cmp .eq (E.prim .len (E.cons (E.lc (E.int 1) (E.ttup (E.cons (E.tname 2) (E.cons (E.tname 3) E.nil))) (E.itz (E.itq (E.var 0)) (E.itq (E.var 1))) (E.cmp .ne (E.var 2) (E.var 3))) E.nil)) (E.int 1))) S.skip)
/-- is_ladder(words, thing): words thing one late -/
def b7 : S := (S.seq (S.ex (E.call 5 (E.cons (E.var 0) E.nil))) (S.seq (S.ite (E.or (E.not (E.prim (.isT [3]) (E.cons (E.var 1) E.nil))) (E.or (E.cmp .eq (E.var 1) (E.tup E.nil)) (E.not (E.prim .all (E.cons (E.lc (E.and (E.call 1 (E.cons (E.var 2) E.nil)) (E.cmp .isin (E.var 2) (E.var 0))) (E.tname 2) (E.itv (E.var 1)) (E.bl true)) E.nil))))) (S.seq (S.ret (E.bl false)) S.skip) S.skip) (S.seq (S.ite (E.cmp .lt (E.prim .len (E.cons (E.dc false (E.var 2) (E.bl true) (E.tname 2) (E.itv (E.var 1)) (E.bl true)) E.nil)) (E.prim .len (E.cons (E.var 1) E.nil))) (S.seq (S.ret (E.bl false)) S.skip) S.skip) (S.seq (S.ret (E.prim .all (E.cons (E.lc (E.call 6 (E.cons (E.var 2) (E.cons (E.var 3) E.nil))) (E.ttup (E.cons (E.tname 2) (E.cons (E.tname 3) E.nil))) (E.itz (E.itq (E.var 1)) (E.itq (E.cut (E.var 1) (E.int 1) E.non))) (E.bl true)) E.nil))) S.skip))))
/-- is_signs(thing): thing sign -/
def b8 : S := (S.seq (S.ret (E.and (E.prim (.isT [2]) (E.cons (E.var 0) E.nil)) (E.prim .all (E.cons (E.lc (E.cmp .isin (E.var 1) (E.str [97, 98])) (E.tname 1) (E.itv (E.var 0)) (E.bl true)) E.nil)))) S.skip)
/-- is_code(thing): thing one text -/
def b9 : S := (S.seq (S.ite (E.or (E.not (E.prim (.isT [5]) (E.cons (E.var 0) E.nil))) (E.not (E.cmp2 .le .le (E.int 1) (E.prim .len (E.cons (E.var 0) E.nil)) (E.glob 3 (D.int 12))))) (S.seq (S.ret (E.bl false)) S.skip) S.skip) (S.seq (S.ite (E.not (E.prim .all (E.cons (E.lc (E.and (E.call 0 (E.cons (E.var 1) (E.cons (E.int 1) E.nil))) (E.cmp .ne (E.var 1) (E.str []))) (E.tname 1) (E.itv (E.var 0)) (E.bl true)) E.nil))) (S.seq (S.ret (E.bl false)) S.skip) S.skip) (S.seq (S.ite (E.cmp .ne (E.prim .list (E.cons (E.var 0) E.nil)) (E.prim .sorted (E.cons (E.var 0) E.nil))) (S.seq (S.ret (E.bl false)) S.skip) S.skip) (S.seq (S.ret (E.prim .all (E.cons (E.lc (E.and (E.call 8 (E.cons (E.var 2) E.nil)) (E.cmp2 .le .le (E.int 1) (E.prim .len (E.cons (E.var 2) E.nil)) (E.glob 4 (D.int 8)))) (E.tname 2) (E.itvs (E.var 0)) (E.bl true)) E.nil))) S.skip))))
/-- is_beats(thing): thing sign -/
def b10 : S := (S.seq (S.ret (E.and (E.prim (.isT [2]) (E.cons (E.var 0) E.nil)) (E.and (E.cmp2 .le .le (E.int 1) (E.prim .len (E.cons (E.var 0) E.nil)) (E.int 8)) (E.prim .all (E.cons (E.lc (E.cmp .isin (E.var 1) (E.str [120, 88])) (E.tname 1) (E.itv (E.var 0)) (E.bl true)) E.nil))))) S.skip)
/-- is_stock(thing): thing word beats -/
def b11 : S := (S.seq (S.ite (E.or (E.not (E.prim (.isT [5]) (E.cons (E.var 0) E.nil))) (E.or (E.not (E.cmp2 .le .le (E.int 1) (E.prim .len (E.cons (E.var 0) E.nil)) (E.glob 5 (D.int 20)))) (E.not (E.prim .all (E.cons (E.lc (E.call 1 (E.cons (E.var 1) E.nil)) (E.tname 1) (E.itv (E.var 0)) (E.bl true)) E.nil))))) (S.seq (S.ret (E.bl false)) S.skip) S.skip) (S.seq (S.ret (E.and (E.cmp .eq (E.prim .list (E.cons (E.var 0) E.nil)) (E.prim .sorted (E.cons (E.var 0) E.nil))) (E.prim .all (E.cons (E.lc (E.call 10 (E.cons (E.var 2) E.nil)) (E.tname 2) (E.itvs (E.var 0)) (E.bl true)) E.nil)))) S.skip))
/-- is_meter(thing): thing sign -/
def b12 : S := (S.seq (S.ret (E.and (E.prim (.isT [2]) (E.cons (E.var 0) E.nil)) (E.and (E.cmp .le (E.prim .len (E.cons (E.var 0) E.nil)) (E.glob 6 (D.int 30))) (E.prim .all (E.cons (E.lc (E.cmp .isin (E.var 1) (E.str [120, 88, 63])) (E.tname 1) (E.itv (E.var 0)) (E.bl true)) E.nil))))) S.skip)
/-- is_row_of_words(thing): thing word -/
def b13 : S := (S.seq (S.ret (E.and (E.prim (.isT [3]) (E.cons (E.var 0) E.nil)) (E.and (E.cmp2 .le .le (E.int 1) (E.prim .len (E.cons (E.var 0) E.nil)) (E.glob 7 (D.int 20))) (E.prim .all (E.cons (E.lc (E.call 1 (E.cons (E.var 1) E.nil)) (E.tname 1) (E.itv (E.var 0)) (E.bl true)) E.nil))))) S.skip)
/-- law(script): script draw many late one words -/
def b15 : S := (S.seq (S.asg (E.tname 1) E.drw) (S.seq (S.asg (E.tname 2) (E.bin .add (E.int 1) (E.call 14 (E.cons (E.var 1) (E.cons (E.int 19) E.nil))))) (S.seq (S.ite (E.or (E.not (E.call 4 (E.cons (E.tup (E.cons (E.bin .mul (E.str [97]) (E.var 2)) E.nil)) E.nil))) (E.or (E.not (E.call 4 (E.cons (E.tup (E.cons (E.bin .mul (E.str [97]) (E.var 2)) (E.cons (E.bin .mul (E.str [98]) (E.var 2)) E.nil))) E.nil))) (E.or (E.call 4 (E.cons (E.tup (E.cons (E.bin .mul (E.str [98]) (E.var 2)) (E.cons (E.bin .mul (E.str [97]) (E.var 2)) E.nil))) E.nil)) (E.or (E.call 4 (E.cons (E.tup (E.cons (E.bin .mul (E.str [97]) (E.var 2)) (E.cons (E.bin .mul (E.str [97]) (E.var 2)) E.nil))) E.nil)) (E.or (E.call 4 (E.cons (E.tup (E.cons (E.bin .mul (E.str [97]) (E.var 2)) (E.cons (E.bin .mul (E.str [98]) (E.bin .add (E.var 2) (E.int 1))) E.nil))) E.nil)) (E.or (E.call 4 (E.cons (E.tup E.nil) E.nil)) (E.or (E.call 4 (E.cons (E.lst (E.cons (E.str [97]) E.nil)) E.nil)) (E.or (E.call 4 (E.cons (E.tup (E.cons (E.str []) E.nil)) E.nil)) (E.or (E.call 4 (E.cons (E.tup (E.cons (E.bin .mul (E.str [97]) (E.int 21)) E.nil)) E.nil)) (E.or (E.call 4 (E.cons E.non E.nil)) (E.or (E.call 4 (E.cons (E.tup (E.cons (E.str [97]) (E.cons (E.int 1) E.nil))) E.nil)) (E.or (E.call 4 (E.cons (E.str [97, 98]) E.nil)) (E.call 4 (E.cons (E.tup (E.cons (E.str [97, 49]) E.nil)) E.nil)))))))))))))) (S.seq (S.ret (E.bl false)) S.skip) S.skip) (S.seq (S.ite (E.or (E.not (E.call 4 (E.cons (E.prim .tuple (E.cons (E.prim .sumL (E.cons (E.lc (E.lc (E.bin .add (E.var 4) (E.var 3)) (E.tname 3) (E.itv (E.str [97, 98, 99, 100, 101, 102, 103, 104])) (E.bl true)) (E.tname 4) (E.itv (E.str [97, 98, 99, 100, 101])) (E.bl true)) (E.cons (E.lst E.nil) E.nil))) E.nil)) E.nil))) (E.call 4 (E.cons (E.prim .tuple (E.cons (E.prim .sumL (E.cons (E.lc (E.lc (E.bin .add (E.var 4) (E.var 3)) (E.tname 3) (E.itv (E.str [97, 98, 99, 100, 101, 102, 103])) (E.bl true)) (E.tname 4) (E.itv (E.str [97, 98, 99, 100, 101, 102])) (E.bl true)) (E.cons (E.lst E.nil) E.nil))) E.nil)) E.nil))) (S.seq (S.ret (E.bl false)) S.skip) S.skip) (S.seq (S.asg (E.tname 5) (E.tup (E.cons (E.str [97, 97]) (E.cons (E.str [97, 98]) (E.cons (E.str [98, 98]) (E.cons (E.str [122, 122]) E.nil)))))) (S.seq (S.ite (E.or (E.not (E.call 7 (E.cons (E.var 5) (E.cons (E.tup (E.cons (E.str [97, 97]) (E.cons (E.str [97, 98]) (E.cons (E.str [98, 98]) E.nil)))) E.nil)))) (E.or (E.call 7 (E.cons (E.var 5) (E.cons (E.tup (E.cons (E.str [97, 97]) (E.cons (E.str [98, 98]) E.nil))) E.nil))) (E.or (E.call 7 (E.cons (E.var 5) (E.cons (E.tup (E.cons (E.str [97, 97]) (E.cons (E.str [97, 98]) (E.cons (E.str [97, 97]) E.nil)))) E.nil))) (E.or (E.call 7 (E.cons (E.var 5) (E.cons (E.tup (E.cons (E.str [97, 97]) (E.cons (E.str [98, 97]) (E.cons (E.str [98, 98]) E.nil)))) E.nil))) (E.or (E.call 7 (E.cons (E.var 5) (E.cons (E.lst (E.cons (E.str [97, 97]) E.nil)) E.nil))) (E.or (E.call 7 (E.cons (E.var 5) (E.cons (E.tup E.nil) E.nil))) (E.or (E.call 7 (E.cons (E.var 5) (E.cons (E.str [97, 97]) E.nil))) (E.call 7 (E.cons (E.var 5) (E.cons (E.tup (E.cons (E.str [97, 97]) (E.cons E.non E.nil))) E.nil)))))))))) (S.seq (S.ret (E.bl false)) S.skip) S.skip) (S.seq (S.ite (E.or (E.not (E.call 13 (E.cons (E.tup (E.cons (E.str [98]) (E.cons (E.str [97]) (E.cons (E.str [97]) E.nil)))) E.nil))) (E.or (E.not (E.call 13 (E.cons (E.bin .mul (E.tup (E.cons (E.bin .mul (E.str [97]) (E.var 2)) E.nil)) (E.int 20)) E.nil))) (E.or (E.call 13 (E.cons (E.bin .mul (E.tup (E.cons (E.str [97]) E.nil)) (E.int 21)) E.nil)) (E.or (E.call 13 (E.cons (E.tup E.nil) E.nil)) (E.call 13 (E.cons (E.lst (E.cons (E.str [97]) E.nil)) E.nil)))))) (S.seq (S.ret (E.bl false)) S.skip) S.skip) (S.seq (S.ite (E.or (E.call 13 (E.cons (E.tup (E.cons (E.str []) E.nil)) E.nil)) (E.or (E.call 13 (E.cons (E.tup (E.cons (E.str [97]) (E.cons E.non E.nil))) E.nil)) (E.or (E.call 13 (E.cons (E.str [97]) E.nil)) (E.call 13 (E.cons E.non E.nil))))) (S.seq (S.ret (E.bl false)) S.skip) S.skip) (S.seq (S.ite (E.or (E.not (E.call 9 (E.cons (E.dct false (E.kv (E.str [97]) (E.str [97]) (E.kv (E.str [98]) (E.bin .mul (E.str [98]) (E.int 8)) E.nil))) E.nil))) (E.or (E.call 9 (E.cons (E.dct false (E.kv (E.str [97]) (E.bin .mul (E.str [98]) (E.int 9)) E.nil)) E.nil)) (E.or (E.call 9 (E.cons (E.dct false (E.kv (E.str [97]) (E.str []) E.nil)) E.nil)) (E.or (E.call 9 (E.cons (E.dct false E.nil) E.nil)) (E.or (E.call 9 (E.cons (E.dct false (E.kv (E.str [97, 97]) (E.str [97]) E.nil)) E.nil)) (E.or (E.call 9 (E.cons (E.dct false (E.kv (E.str [98]) (E.str [97]) (E.kv (E.str [97]) (E.str [97]) E.nil))) E.nil)) (E.or (E.call 9 (E.cons (E.dct false (E.kv (E.str [97]) (E.str [65]) E.nil)) E.nil)) (E.or (E.call 9 (E.cons (E.dct false (E.kv (E.int 1) (E.str [97]) E.nil)) E.nil)) (E.or (E.call 9 (E.cons (E.lst (E.cons (E.tup (E.cons (E.str [97]) (E.cons (E.str [97]) E.nil))) E.nil)) E.nil)) (E.or (E.call 9 (E.cons (E.dct false (E.kv (E.str [97]) (E.tup (E.cons (E.str [97]) E.nil)) E.nil)) E.nil)) (E.call 9 (E.cons E.non E.nil)))))))))))) (S.seq (S.ret (E.bl false)) S.skip) S.skip) (S.seq (S.ite (E.or (E.not (E.call 11 (E.cons (E.dct false (E.kv (E.bin .mul (E.str [97]) (E.var 2)) (E.bin .mul (E.str [120, 88]) (E.int 4)) E.nil)) E.nil))) (E.or (E.call 11 (E.cons (E.dct false (E.kv (E.str [97]) (E.bin .mul (E.str [120]) (E.int 9)) E.nil)) E.nil)) (E.or (E.call 11 (E.cons (E.dct false (E.kv (E.str [97]) (E.str []) E.nil)) E.nil)) (E.or (E.call 11 (E.cons (E.dct false E.nil) E.nil)) (E.or (E.call 11 (E.cons (E.dct false (E.kv (E.str [98]) (E.str [120]) (E.kv (E.str [97]) (E.str [120]) E.nil))) E.nil)) (E.or (E.call 11 (E.cons (E.dct false (E.kv (E.str [97]) (E.str [88, 63]) E.nil)) E.nil)) (E.or (E.call 11 (E.cons (E.dct false (E.kv (E.str []) (E.str [120]) E.nil)) E.nil)) (E.or (E.call 11 (E.cons (E.dct false (E.kv (E.int 1) (E.str [120]) E.nil)) E.nil)) (E.or (E.call 11 (E.cons (E.lst E.nil) E.nil)) (E.or (E.call 11 (E.cons (E.dct false (E.kv (E.str [97]) (E.int 1) E.nil)) E.nil)) (E.call 11 (E.cons (E.prim .dict (E.cons (E.prim .sumL (E.cons (E.lc (E.lc (E.tup (E.cons (E.bin .add (E.var 4) (E.var 3)) (E.cons (E.str [120]) E.nil))) (E.tname 3) (E.itv (E.str [97, 98, 99, 100, 101, 102, 103])) (E.bl true)) (E.tname 4) (E.itv (E.str [97, 98, 99])) (E.bl true)) (E.cons (E.lst E.nil) E.nil))) E.nil)) E.nil)))))))))))) (S.seq (S.ret (E.bl false)) S.skip) S.skip) (S.seq (S.ite (E.or (E.not (E.call 12 (E.cons (E.str []) E.nil))) (E.or (E.not (E.call 12 (E.cons (E.bin .mul (E.str [120, 88, 63]) (E.int 10)) E.nil))) (E.or (E.call 12 (E.cons (E.bin .mul (E.str [120]) (E.int 31)) E.nil)) (E.or (E.call 12 (E.cons (E.str [120, 121]) E.nil)) (E.or (E.call 12 (E.cons E.non E.nil)) (E.or (E.call 12 (E.cons (E.lst (E.cons (E.str [120]) E.nil)) E.nil)) (E.call 12 (E.cons (E.int 1) E.nil)))))))) (S.seq (S.ret (E.bl false)) S.skip) S.skip) (S.seq (S.ret (E.call 11 (E.cons (E.prim .dict (E.cons (E.lc (E.tup (E.cons (E.bin .add (E.var 4) (E.var 3)) (E.cons (E.str [120]) E.nil))) (E.ttup (E.cons (E.tname 4) (E.cons (E.tname 3) E.nil))) (E.itv (E.itlst (E.itz (E.itq (E.str [97, 97, 97, 97, 97, 98, 98, 98, 98, 98, 99, 99, 99, 99, 99, 100, 100, 100, 100, 100])) (E.itq (E.str [97, 98, 99, 100, 101, 97, 98, 99, 100, 101, 97, 98, 99, 100, 101, 97, 98, 99, 100, 101]))))) (E.bl true)) E.nil)) E.nil))) S.skip))))))))))))
def prog : List Fd := [⟨2, 1, b0⟩, ⟨1, 0, b1⟩, ⟨1, 2, b2⟩, ⟨2, 1, b3⟩, ⟨1, 1, b4⟩, ⟨1, 0, b5⟩, ⟨2, 2, b6⟩, ⟨2, 2, b7⟩, ⟨1, 1, b8⟩, ⟨1, 2, b9⟩, ⟨1, 1, b10⟩, ⟨1, 2, b11⟩, ⟨1, 1, b12⟩, ⟨1, 1, b13⟩, ⟨2, 0, S.never⟩, ⟨0, 0, S.never⟩]
def rest : S → S
  | .seq _ r => r
  | m => m
end P
namespace P
open PySem PySem.Spec PyProof.Rows L2 W
abbrev Pw : Program := PySem.Challenge.pw_wordends_k65_new_shapes
def top (i : Nat) : Stmt := PySem.Challenge.pw_wordends_k65_new_shapes.main.body.getD i (.Pass ⟨0, 0, 0, 0⟩)
abbrev FnP (K : PySem.W.Frag) (x : Str) (st : Stmt) (f : Addr) (fd : FuncData) : Prop := FunD K x x (defArgs st) (defBody st) (defScope st) [] [] f fd
def cs : List (Str × D) := [("ALPHABET", (D.str [97, 98, 99, 100, 101, 102, 103, 104, 105, 106, 107, 108, 109, 110, 111, 112, 113, 114, 115, 116, 117, 118, 119, 120, 121, 122])), ("MOST_WORD", (D.int (20))), ("MOST_SET", (D.int (40))), ("MOST_CODE", (D.int (12))), ("MOST_SIGNS", (D.int (8))), ("MOST_STOCK", (D.int (20))), ("MOST_METER", (D.int (30))), ("MOST_ROW", (D.int (20)))]
def fs : List Str := ["is_letters", "is_word", "ascends", "are_words", "is_set", "check_set", "are_next", "is_ladder", "is_signs", "is_code", "is_beats", "is_stock", "is_meter", "is_row_of_words", "_law_next"]
def dd (x : Str) (i : Nat) : He.DefD := ⟨(x, none), x, x, defArgs (top i), defBody (top i), defScope (top i), [], []⟩
def fn : List He.DefD := [dd "_law_cell_at" 31, dd "_law_draw" 32, dd "_law_number" 33, dd "_law_next" 34, dd "law" 35, dd "is_letters" 6, dd "is_word" 7, dd "ascends" 8, dd "are_words" 9, dd "is_set" 12, dd "check_set" 13, dd "are_next" 14, dd "is_ladder" 15, dd "is_signs" 19, dd "is_code" 20, dd "is_beats" 24, dd "is_stock" 25, dd "is_meter" 26, dd "is_row_of_words" 29]
def fa : List He.Fa := [.glo "_law_cell_at", .glo "_law_draw", .glo "_law_number", .glo "_law_next", .glo "law", .glo "is_letters", .glo "is_word", .glo "ascends", .glo "are_words", .glo "is_set", .glo "check_set", .glo "are_next", .glo "is_ladder", .glo "is_signs", .glo "is_code", .glo "is_beats", .glo "is_stock", .glo "is_meter", .glo "is_row_of_words", .str "ALPHABET" "abcdefghijklmnopqrstuvwxyz", .int "MOST_WORD" (20), .int "MOST_SET" (40), .int "MOST_CODE" (12), .int "MOST_SIGNS" (8), .int "MOST_STOCK" (20), .int "MOST_METER" (30), .int "MOST_ROW" (20), .free "len", .free "all", .free "any", .free "tuple", .free "list", .free "isinstance", .free "int", .free "bool", .free "str", .free "dict", .free "range", .free "zip", .free "enumerate", .free "sorted", .free "sum", .free "min", .free "max", .free "abs", .free "repr", .free "set"]
abbrev R : PySem.W.OpenRow := PySem.W.OpenLaw.row PySem.Challenge.rw_wordends_k65_new_shapes
abbrev hk : PySem.W.Hook := He.hookD 4 fa fn
def ob (s : PySem.W.SharedT) : He.AlD := He.obsDG 4 fa fn (HandSHeadRun.getT s)
theorem ob_eq (s : PySem.W.SharedT) : ob s = hk.obs s.abs := He.obsDG_eq (HandSHeadRun.getT_eq s)
def loose0 : List Str := ["__name__", "EndError", "BadThing", "ALPHABET", "MOST_WORD", "is_letters", "is_word", "ascends", "are_words", "MOST_SET", "is_set", "check_set", "are_next", "is_ladder", "MOST_CODE", "MOST_SIGNS", "is_signs", "is_code", "MOST_STOCK", "MOST_METER", "is_beats", "is_stock", "is_meter", "MOST_ROW", "is_row_of_words", "_law_cell_at", "_law_draw", "_law_number", "_law_next"]
abbrev loose : List Str := loose0
set_option maxRecDepth 1000000 in
theorem run (w : World) : HandSHeadRun.RunEq R (PySem.W.view R.prog [35]) hk ob 2000 loose w := by
  intro os
  kernel_rfl
section
variable {P : Program} {w : World} {K : PySem.W.Frag} {h base : Heap} {mg : Str → Option Value}
theorem ok_is_letters {f : Addr} {fd : FuncData} (F : FnP K "is_letters" (top 6) f fd) (hm : mg "is_letters" = some (.ref f)) : DefOk K mg cs fs "is_letters" ⟨2, 1, b0⟩ :=
  ⟨"is_letters", _, _, _, f, fd, ["thing", "most", "sign"], ["thing", "most"], [], F, hm, F.bindsN fun _ _ _ _ _ _ us hl => match us, hl with | [_, _], _ => rfl, ⟨rfl, rfl, rfl, by decide +kernel, rfl, by decide +kernel, by decide +kernel⟩, rfl, rfl, by decide, by decide +kernel⟩
theorem ok_is_word {f : Addr} {fd : FuncData} (F : FnP K "is_word" (top 7) f fd) (hm : mg "is_word" = some (.ref f)) : DefOk K mg cs fs "is_word" ⟨1, 0, b1⟩ :=
  ⟨"is_word", _, _, _, f, fd, ["thing"], ["thing"], [], F, hm, F.bindsN fun _ _ _ _ _ _ us hl => match us, hl with | [_], _ => rfl, ⟨rfl, rfl, rfl, by decide +kernel, rfl, by decide +kernel, by decide +kernel⟩, rfl, rfl, by decide, by decide +kernel⟩
theorem ok_ascends {f : Addr} {fd : FuncData} (F : FnP K "ascends" (top 8) f fd) (hm : mg "ascends" = some (.ref f)) : DefOk K mg cs fs "ascends" ⟨1, 2, b2⟩ :=
  ⟨"ascends", _, _, _, f, fd, ["things", "one", "other"], ["things"], [], F, hm, F.bindsN fun _ _ _ _ _ _ us hl => match us, hl with | [_], _ => rfl, ⟨rfl, rfl, rfl, by decide +kernel, rfl, by decide +kernel, by decide +kernel⟩, rfl, rfl, by decide, by decide +kernel⟩
theorem ok_are_words {f : Addr} {fd : FuncData} (F : FnP K "are_words" (top 9) f fd) (hm : mg "are_words" = some (.ref f)) : DefOk K mg cs fs "are_words" ⟨2, 1, b3⟩ :=
  ⟨"are_words", _, _, _, f, fd, ["thing", "most", "one"], ["thing", "most"], [], F, hm, F.bindsN fun _ _ _ _ _ _ us hl => match us, hl with | [_, _], _ => rfl, ⟨rfl, rfl, rfl, by decide +kernel, rfl, by decide +kernel, by decide +kernel⟩, rfl, rfl, by decide, by decide +kernel⟩
theorem ok_is_set {f : Addr} {fd : FuncData} (F : FnP K "is_set" (top 12) f fd) (hm : mg "is_set" = some (.ref f)) : DefOk K mg cs fs "is_set" ⟨1, 1, b4⟩ :=
  ⟨"is_set", _, _, _, f, fd, ["thing", "word"], ["thing"], [], F, hm, F.bindsN fun _ _ _ _ _ _ us hl => match us, hl with | [_], _ => rfl, ⟨rfl, rfl, rfl, by decide +kernel, rfl, by decide +kernel, by decide +kernel⟩, rfl, rfl, by decide, by decide +kernel⟩
theorem ok_check_set {f : Addr} {fd : FuncData} (F : FnP K "check_set" (top 13) f fd) (hm : mg "check_set" = some (.ref f)) : DefOk K mg cs fs "check_set" ⟨1, 0, b5⟩ :=
  ⟨"check_set", _, _, _, f, fd, ["words"], ["words"], [], F, hm, F.bindsN fun _ _ _ _ _ _ us hl => match us, hl with | [_], _ => rfl, ⟨rfl, rfl, rfl, by decide +kernel, rfl, by decide +kernel, by decide +kernel⟩, rfl, rfl, by decide, by decide +kernel⟩
theorem ok_are_next {f : Addr} {fd : FuncData} (F : FnP K "are_next" (top 14) f fd) (hm : mg "are_next" = some (.ref f)) : DefOk K mg cs fs "are_next" ⟨2, 2, b6⟩ :=
  ⟨"are_next", _, _, _, f, fd, ["one", "other", "mine", "theirs"], ["one", "other"], [], F, hm, F.bindsN fun _ _ _ _ _ _ us hl => match us, hl with | [_, _], _ => rfl, ⟨rfl, rfl, rfl, by decide +kernel, rfl, by decide +kernel, by decide +kernel⟩, rfl, rfl, by decide, by decide +kernel⟩
theorem ok_is_ladder {f : Addr} {fd : FuncData} (F : FnP K "is_ladder" (top 15) f fd) (hm : mg "is_ladder" = some (.ref f)) : DefOk K mg cs fs "is_ladder" ⟨2, 2, b7⟩ :=
  ⟨"is_ladder", _, _, _, f, fd, ["words", "thing", "one", "late"], ["words", "thing"], [], F, hm, F.bindsN fun _ _ _ _ _ _ us hl => match us, hl with | [_, _], _ => rfl, ⟨rfl, rfl, rfl, by decide +kernel, rfl, by decide +kernel, by decide +kernel⟩, rfl, rfl, by decide, by decide +kernel⟩
theorem ok_is_signs {f : Addr} {fd : FuncData} (F : FnP K "is_signs" (top 19) f fd) (hm : mg "is_signs" = some (.ref f)) : DefOk K mg cs fs "is_signs" ⟨1, 1, b8⟩ :=
  ⟨"is_signs", _, _, _, f, fd, ["thing", "sign"], ["thing"], [], F, hm, F.bindsN fun _ _ _ _ _ _ us hl => match us, hl with | [_], _ => rfl, ⟨rfl, rfl, rfl, by decide +kernel, rfl, by decide +kernel, by decide +kernel⟩, rfl, rfl, by decide, by decide +kernel⟩
theorem ok_is_code {f : Addr} {fd : FuncData} (F : FnP K "is_code" (top 20) f fd) (hm : mg "is_code" = some (.ref f)) : DefOk K mg cs fs "is_code" ⟨1, 2, b9⟩ :=
  ⟨"is_code", _, _, _, f, fd, ["thing", "one", "text"], ["thing"], [], F, hm, F.bindsN fun _ _ _ _ _ _ us hl => match us, hl with | [_], _ => rfl, ⟨rfl, rfl, rfl, by decide +kernel, rfl, by decide +kernel, by decide +kernel⟩, rfl, rfl, by decide, by decide +kernel⟩
theorem ok_is_beats {f : Addr} {fd : FuncData} (F : FnP K "is_beats" (top 24) f fd) (hm : mg "is_beats" = some (.ref f)) : DefOk K mg cs fs "is_beats" ⟨1, 1, b10⟩ :=
  ⟨"is_beats", _, _, _, f, fd, ["thing", "sign"], ["thing"], [], F, hm, F.bindsN fun _ _ _ _ _ _ us hl => match us, hl with | [_], _ => rfl, ⟨rfl, rfl, rfl, by decide +kernel, rfl, by decide +kernel, by decide +kernel⟩, rfl, rfl, by decide, by decide +kernel⟩
theorem ok_is_stock {f : Addr} {fd : FuncData} (F : FnP K "is_stock" (top 25) f fd) (hm : mg "is_stock" = some (.ref f)) : DefOk K mg cs fs "is_stock" ⟨1, 2, b11⟩ :=
  ⟨"is_stock", _, _, _, f, fd, ["thing", "word", "beats"], ["thing"], [], F, hm, F.bindsN fun _ _ _ _ _ _ us hl => match us, hl with | [_], _ => rfl, ⟨rfl, rfl, rfl, by decide +kernel, rfl, by decide +kernel, by decide +kernel⟩, rfl, rfl, by decide, by decide +kernel⟩
theorem ok_is_meter {f : Addr} {fd : FuncData} (F : FnP K "is_meter" (top 26) f fd) (hm : mg "is_meter" = some (.ref f)) : DefOk K mg cs fs "is_meter" ⟨1, 1, b12⟩ :=
  ⟨"is_meter", _, _, _, f, fd, ["thing", "sign"], ["thing"], [], F, hm, F.bindsN fun _ _ _ _ _ _ us hl => match us, hl with | [_], _ => rfl, ⟨rfl, rfl, rfl, by decide +kernel, rfl, by decide +kernel, by decide +kernel⟩, rfl, rfl, by decide, by decide +kernel⟩
theorem ok_is_row_of_words {f : Addr} {fd : FuncData} (F : FnP K "is_row_of_words" (top 29) f fd) (hm : mg "is_row_of_words" = some (.ref f)) : DefOk K mg cs fs "is_row_of_words" ⟨1, 1, b13⟩ :=
  ⟨"is_row_of_words", _, _, _, f, fd, ["thing", "word"], ["thing"], [], F, hm, F.bindsN fun _ _ _ _ _ _ us hl => match us, hl with | [_], _ => rfl, ⟨rfl, rfl, rfl, by decide +kernel, rfl, by decide +kernel, by decide +kernel⟩, rfl, rfl, by decide, by decide +kernel⟩
theorem bn_law_cell_at {f : Addr} {fd : FuncData} (F : FnP K "_law_cell_at" (top 31) f fd) (ps : List Str) (hp : ps = (["script", "k"] : List Str)) : Binds K fd ps [] := by
  subst hp
  exact F.bindsN fun _ _ _ _ _ _ us hl => match us, hl with | [_, _], _ => rfl
theorem bn_law_draw {f : Addr} {fd : FuncData} (F : FnP K "_law_draw" (top 32) f fd) (ps : List Str) (hp : ps = (["cell", "k", "bound"] : List Str)) : Binds K fd ps [] := by
  subst hp
  exact F.bindsN fun _ _ _ _ _ _ us hl => match us, hl with | [_, _, _], _ => rfl
theorem bn_law_number {f : Addr} {fd : FuncData} (F : FnP K "_law_number" (top 33) f fd) (ps : List Str) (hp : ps = (["cell", "k", "bound"] : List Str)) : Binds K fd ps [] := by
  subst hp
  exact F.bindsN fun _ _ _ _ _ _ us hl => match us, hl with | [_, _, _], _ => rfl
theorem bn_law_next {f : Addr} {fd : FuncData} (F : FnP K "_law_next" (top 34) f fd) (ps : List Str) (hp : ps = (["draw", "bound"] : List Str)) : Binds K fd ps [] := by
  subst hp
  exact F.bindsN fun _ _ _ _ _ _ us hl => match us, hl with | [_, _], _ => rfl
theorem nodef (c : He.SaysD fa fn K) : True := trivial
theorem hblt (X : K.In h) (G : h.Ns mainGlobals mg) (c : He.SaysD fa fn K) : ∀ x ∈ bltns, mg x = none := by
  intro x hx
  simp only [bltns, List.mem_cons, List.not_mem_nil, or_false] at hx
  rcases hx with rfl | rfl | rfl | rfl | rfl | rfl | rfl | rfl | rfl | rfl | rfl | rfl | rfl | rfl | rfl | rfl | rfl | rfl | rfl | rfl
  · exact He.free_ok X G (c.fact 27 rfl)
  · exact He.free_ok X G (c.fact 28 rfl)
  · exact He.free_ok X G (c.fact 29 rfl)
  · exact He.free_ok X G (c.fact 30 rfl)
  · exact He.free_ok X G (c.fact 31 rfl)
  · exact He.free_ok X G (c.fact 32 rfl)
  · exact He.free_ok X G (c.fact 33 rfl)
  · exact He.free_ok X G (c.fact 34 rfl)
  · exact He.free_ok X G (c.fact 35 rfl)
  · exact He.free_ok X G (c.fact 36 rfl)
  · exact He.free_ok X G (c.fact 37 rfl)
  · exact He.free_ok X G (c.fact 38 rfl)
  · exact He.free_ok X G (c.fact 39 rfl)
  · exact He.free_ok X G (c.fact 40 rfl)
  · exact He.free_ok X G (c.fact 41 rfl)
  · exact He.free_ok X G (c.fact 42 rfl)
  · exact He.free_ok X G (c.fact 43 rfl)
  · exact He.free_ok X G (c.fact 44 rfl)
  · exact He.free_ok X G (c.fact 45 rfl)
  · exact He.free_ok X G (c.fact 46 rfl)
theorem hcon (X : K.In h) (G : h.Ns mainGlobals mg) (c : He.SaysD fa fn K) : ∀ p ∈ cs, flat p.2 = true ∧ ∃ u v, mg p.1 = some u ∧ RelV v u ∧ ∀ dA H, Rep dA [] H p.2 v := by
  intro p hp
  simp only [cs, List.mem_cons, List.not_mem_nil, or_false] at hp
  rcases hp with rfl | rfl | rfl | rfl | rfl | rfl | rfl | rfl
  · obtain ⟨t, e⟩ := He.str_ok X G (c.fact 19 (f := .str "ALPHABET" "abcdefghijklmnopqrstuvwxyz") rfl)
    exact ⟨rfl, _, .str "abcdefghijklmnopqrstuvwxyz", e, ⟨t, rfl⟩, fun _ _ => ⟨by decide, by decide⟩⟩
  · obtain ⟨t, e⟩ := He.int_ok X G (c.fact 20 (f := .int "MOST_WORD" (20)) rfl)
    exact ⟨rfl, _, .int (20), e, ⟨t, rfl⟩, fun _ _ => rfl⟩
  · obtain ⟨t, e⟩ := He.int_ok X G (c.fact 21 (f := .int "MOST_SET" (40)) rfl)
    exact ⟨rfl, _, .int (40), e, ⟨t, rfl⟩, fun _ _ => rfl⟩
  · obtain ⟨t, e⟩ := He.int_ok X G (c.fact 22 (f := .int "MOST_CODE" (12)) rfl)
    exact ⟨rfl, _, .int (12), e, ⟨t, rfl⟩, fun _ _ => rfl⟩
  · obtain ⟨t, e⟩ := He.int_ok X G (c.fact 23 (f := .int "MOST_SIGNS" (8)) rfl)
    exact ⟨rfl, _, .int (8), e, ⟨t, rfl⟩, fun _ _ => rfl⟩
  · obtain ⟨t, e⟩ := He.int_ok X G (c.fact 24 (f := .int "MOST_STOCK" (20)) rfl)
    exact ⟨rfl, _, .int (20), e, ⟨t, rfl⟩, fun _ _ => rfl⟩
  · obtain ⟨t, e⟩ := He.int_ok X G (c.fact 25 (f := .int "MOST_METER" (30)) rfl)
    exact ⟨rfl, _, .int (30), e, ⟨t, rfl⟩, fun _ _ => rfl⟩
  · obtain ⟨t, e⟩ := He.int_ok X G (c.fact 26 (f := .int "MOST_ROW" (20)) rfl)
    exact ⟨rfl, _, .int (20), e, ⟨t, rfl⟩, fun _ _ => rfl⟩
theorem hd (X : K.In h) (G : h.Ns mainGlobals mg) (c : He.SaysD fa fn K) : ∀ i nm, fs[i]? = some nm → i ≠ 14 → ∃ m, nthF prog i = some m ∧ DefOk K mg cs fs nm m
  | 0, _, h, _ => by
    cases h
    obtain ⟨fd, F⟩ := c.def_ 5 (d := dd "is_letters" 6) rfl
    exact ⟨_, rfl, ok_is_letters F (He.glo_ok X G (c.fact 5 (f := .glo "is_letters") rfl))⟩
  | 1, _, h, _ => by
    cases h
    obtain ⟨fd, F⟩ := c.def_ 6 (d := dd "is_word" 7) rfl
    exact ⟨_, rfl, ok_is_word F (He.glo_ok X G (c.fact 6 (f := .glo "is_word") rfl))⟩
  | 2, _, h, _ => by
    cases h
    obtain ⟨fd, F⟩ := c.def_ 7 (d := dd "ascends" 8) rfl
    exact ⟨_, rfl, ok_ascends F (He.glo_ok X G (c.fact 7 (f := .glo "ascends") rfl))⟩
  | 3, _, h, _ => by
    cases h
    obtain ⟨fd, F⟩ := c.def_ 8 (d := dd "are_words" 9) rfl
    exact ⟨_, rfl, ok_are_words F (He.glo_ok X G (c.fact 8 (f := .glo "are_words") rfl))⟩
  | 4, _, h, _ => by
    cases h
    obtain ⟨fd, F⟩ := c.def_ 9 (d := dd "is_set" 12) rfl
    exact ⟨_, rfl, ok_is_set F (He.glo_ok X G (c.fact 9 (f := .glo "is_set") rfl))⟩
  | 5, _, h, _ => by
    cases h
    obtain ⟨fd, F⟩ := c.def_ 10 (d := dd "check_set" 13) rfl
    exact ⟨_, rfl, ok_check_set F (He.glo_ok X G (c.fact 10 (f := .glo "check_set") rfl))⟩
  | 6, _, h, _ => by
    cases h
    obtain ⟨fd, F⟩ := c.def_ 11 (d := dd "are_next" 14) rfl
    exact ⟨_, rfl, ok_are_next F (He.glo_ok X G (c.fact 11 (f := .glo "are_next") rfl))⟩
  | 7, _, h, _ => by
    cases h
    obtain ⟨fd, F⟩ := c.def_ 12 (d := dd "is_ladder" 15) rfl
    exact ⟨_, rfl, ok_is_ladder F (He.glo_ok X G (c.fact 12 (f := .glo "is_ladder") rfl))⟩
  | 8, _, h, _ => by
    cases h
    obtain ⟨fd, F⟩ := c.def_ 13 (d := dd "is_signs" 19) rfl
    exact ⟨_, rfl, ok_is_signs F (He.glo_ok X G (c.fact 13 (f := .glo "is_signs") rfl))⟩
  | 9, _, h, _ => by
    cases h
    obtain ⟨fd, F⟩ := c.def_ 14 (d := dd "is_code" 20) rfl
    exact ⟨_, rfl, ok_is_code F (He.glo_ok X G (c.fact 14 (f := .glo "is_code") rfl))⟩
  | 10, _, h, _ => by
    cases h
    obtain ⟨fd, F⟩ := c.def_ 15 (d := dd "is_beats" 24) rfl
    exact ⟨_, rfl, ok_is_beats F (He.glo_ok X G (c.fact 15 (f := .glo "is_beats") rfl))⟩
  | 11, _, h, _ => by
    cases h
    obtain ⟨fd, F⟩ := c.def_ 16 (d := dd "is_stock" 25) rfl
    exact ⟨_, rfl, ok_is_stock F (He.glo_ok X G (c.fact 16 (f := .glo "is_stock") rfl))⟩
  | 12, _, h, _ => by
    cases h
    obtain ⟨fd, F⟩ := c.def_ 17 (d := dd "is_meter" 26) rfl
    exact ⟨_, rfl, ok_is_meter F (He.glo_ok X G (c.fact 17 (f := .glo "is_meter") rfl))⟩
  | 13, _, h, _ => by
    cases h
    obtain ⟨fd, F⟩ := c.def_ 18 (d := dd "is_row_of_words" 29) rfl
    exact ⟨_, rfl, ok_is_row_of_words F (He.glo_ok X G (c.fact 18 (f := .glo "is_row_of_words") rfl))⟩
  | 14, _, _, n => absurd rfl n
  | n + 15, _, h, _ => by cases h
theorem hn (X : K.In h) (G : h.Ns mainGlobals mg) (c : He.SaysD fa fn K) (g : Gd) (xr : XR) (o : Nat → Int → Option Int) (n : Nat) (nm : Str) (gK : g.K = K) (ho : ∀ k b v, o k b = some v → 0 < b ∧ v = nextZ g.sc k b) (hi : fs[14]? = some nm) :
    ∃ f fd ps, FnOk P w K mg base CX0 3 f fd ps (spF g xr 2 (FN o 14 prog n 14)) ∧ mg nm = some (.ref f) ∧ PySem.W.keepIn K (.ref f) = true ∧ Binds K fd ps [] := by
  cases hi
  obtain ⟨fdC, FC⟩ := c.def_ 0 (d := dd "_law_cell_at" 31) rfl
  obtain ⟨fdD, FDr⟩ := c.def_ 1 (d := dd "_law_draw" 32) rfl
  obtain ⟨fdN, FNu⟩ := c.def_ 2 (d := dd "_law_number" 33) rfl
  obtain ⟨fdX, FX⟩ := c.def_ 3 (d := dd "_law_next" 34) rfl
  have mC := He.glo_ok X G (c.fact 0 (f := .glo "_law_cell_at") rfl)
  have mD := He.glo_ok X G (c.fact 1 (f := .glo "_law_draw") rfl)
  have mN := He.glo_ok X G (c.fact 2 (f := .glo "_law_number") rfl)
  have mX := He.glo_ok X G (c.fact 3 (f := .glo "_law_next") rfl)
  have mB := hblt X G c
  have GC := ok_cell (P := P) (w := w) (mg := mg) (base := base) FC rfl ⟨rfl, rfl, rfl, by decide +kernel, rfl, by decide +kernel, by decide +kernel⟩ rfl (mB _ (by decide))
  have GD := ok_draw (P := P) (w := w) (mg := mg) (base := base) FDr rfl ⟨rfl, rfl, rfl, by decide +kernel, rfl, by decide +kernel, by decide +kernel⟩ rfl rfl (mB _ (by decide))
  have GN := ok_num (qualD := "law") (paD := defArgs (top 0)) (P := P) (w := w) (mg := mg) (base := base) FNu rfl ⟨rfl, rfl, rfl, by decide +kernel, rfl, by decide +kernel, by decide +kernel⟩ rfl rfl rfl rfl rfl rfl rfl (mB _ (by decide)) (mB _ (by decide)) GD mD FDr.kp (bn_law_draw FDr _ rfl)
  have GX := ok_next (P := P) (w := w) (mg := mg) (base := base) (xr := xr) (nxt := 14) (prog := prog) (n := n) gK FX rfl ⟨rfl, rfl, rfl, by decide +kernel, rfl, by decide +kernel, by decide +kernel⟩ rfl rfl rfl rfl rfl (mB _ (by decide)) GC mC FC.kp (bn_law_cell_at FC _ rfl) GN mN FNu.kp (bn_law_number FNu _ rfl) ho
  exact ⟨_, fdX, _, GX, mX, FX.kp, bn_law_next FX _ rfl⟩
def bs : List Int := [19]
def ev : W.Env := none :: some .drw :: nones 4
def runF (vs : List Int) : Bool := isRT (denS (FN (orcL bs vs) 14 prog 10) (rest b15) ev ⟨0, []⟩)
set_option maxRecDepth 1000000 in
theorem runs0 : (((menu bs).drop 0).take 1).all runF = true := by decide +kernel
set_option maxRecDepth 1000000 in
theorem runs1 : (((menu bs).drop 1).take 1).all runF = true := by decide +kernel
set_option maxRecDepth 1000000 in
theorem runs2 : (((menu bs).drop 2).take 1).all runF = true := by decide +kernel
set_option maxRecDepth 1000000 in
theorem runs3 : (((menu bs).drop 3).take 1).all runF = true := by decide +kernel
set_option maxRecDepth 1000000 in
theorem runs4 : (((menu bs).drop 4).take 1).all runF = true := by decide +kernel
set_option maxRecDepth 1000000 in
theorem runs5 : (((menu bs).drop 5).take 1).all runF = true := by decide +kernel
set_option maxRecDepth 1000000 in
theorem runs6 : (((menu bs).drop 6).take 1).all runF = true := by decide +kernel
set_option maxRecDepth 1000000 in
theorem runs7 : (((menu bs).drop 7).take 1).all runF = true := by decide +kernel
set_option maxRecDepth 1000000 in
theorem runs8 : (((menu bs).drop 8).take 1).all runF = true := by decide +kernel
set_option maxRecDepth 1000000 in
theorem runs9 : (((menu bs).drop 9).take 1).all runF = true := by decide +kernel
set_option maxRecDepth 1000000 in
theorem runs10 : (((menu bs).drop 10).take 1).all runF = true := by decide +kernel
set_option maxRecDepth 1000000 in
theorem runs11 : (((menu bs).drop 11).take 1).all runF = true := by decide +kernel
set_option maxRecDepth 1000000 in
theorem runs12 : (((menu bs).drop 12).take 1).all runF = true := by decide +kernel
set_option maxRecDepth 1000000 in
theorem runs13 : (((menu bs).drop 13).take 1).all runF = true := by decide +kernel
set_option maxRecDepth 1000000 in
theorem runs14 : (((menu bs).drop 14).take 1).all runF = true := by decide +kernel
set_option maxRecDepth 1000000 in
theorem runs15 : (((menu bs).drop 15).take 1).all runF = true := by decide +kernel
set_option maxRecDepth 1000000 in
theorem runs16 : (((menu bs).drop 16).take 1).all runF = true := by decide +kernel
set_option maxRecDepth 1000000 in
theorem runs17 : (((menu bs).drop 17).take 1).all runF = true := by decide +kernel
set_option maxRecDepth 1000000 in
theorem runs18 : (((menu bs).drop 18).take 1).all runF = true := by decide +kernel
theorem runs : (menu bs).all runF = true := all_drop (i := 0) (c := 1) (j := 1) rfl runs0 (all_drop (i := 1) (c := 1) (j := 2) rfl runs1 (all_drop (i := 2) (c := 1) (j := 3) rfl runs2 (all_drop (i := 3) (c := 1) (j := 4) rfl runs3 (all_drop (i := 4) (c := 1) (j := 5) rfl runs4 (all_drop (i := 5) (c := 1) (j := 6) rfl runs5 (all_drop (i := 6) (c := 1) (j := 7) rfl runs6 (all_drop (i := 7) (c := 1) (j := 8) rfl runs7 (all_drop (i := 8) (c := 1) (j := 9) rfl runs8 (all_drop (i := 9) (c := 1) (j := 10) rfl runs9 (all_drop (i := 10) (c := 1) (j := 11) rfl runs10 (all_drop (i := 11) (c := 1) (j := 12) rfl runs11 (all_drop (i := 12) (c := 1) (j := 13) rfl runs12 (all_drop (i := 13) (c := 1) (j := 14) rfl runs13 (all_drop (i := 14) (c := 1) (j := 15) rfl runs14 (all_drop (i := 15) (c := 1) (j := 16) rfl runs15 (all_drop (i := 16) (c := 1) (j := 17) rfl runs16 (all_drop (i := 17) (c := 1) (j := 18) rfl runs17 (all_drop (i := 18) (c := 1) (j := 19) rfl runs18 ((show ((menu bs).drop 19).all runF = true by decide +kernel))))))))))))))))))))
theorem lawOk (X : K.In h) (G : h.Ns mainGlobals mg) (c : He.SaysD fa fn K) {f : Addr} {fd : FuncData} (F : FnP K "law" (top 35) f fd) : FnOk P w K mg base CX0 (10 + 3 + 1) f fd ["script"] (spLaw K) :=
  menu_law (r := ["many", "late", "one", "words"]) (cs := cs) (fs := fs) (m := rest b15) (e := ev) (prog := prog) (nxt := 14) (fuel := 10) (bs := bs) F rfl ⟨rfl, rfl, rfl, by decide +kernel, rfl, by decide +kernel, by decide +kernel⟩ rfl (by decide +kernel) (hblt X G c) (hcon X G c) (hd X G c) (hn X G c) rfl (by decide) runs
theorem facts {f : Addr} (X : K.In h) (G : h.Ns mainGlobals mg) (hfa : mg ("law" : Str) = some (.ref f)) (c : He.SaysD fa fn K) :
    ∃ fd : FuncData, (∀ (s : Shared) (v : Value), BindsTo s fd ⟨[v], []⟩ [("script", v)]) ∧ ∀ base : Heap, K.In base → base.Ns mainGlobals mg → FnOk P w K mg base CX0 (10 + 3 + 1) f fd ["script"] (spLaw K) := by
  obtain ⟨fd, F⟩ := c.def_ 4 (d := dd "law" 35) rfl
  have e := hfa.symm.trans (He.glo_ok X G (c.fact 4 (f := .glo "law") rfl))
  cases e
  have b := FunD.bindsA (ps := ["script"]) F fun _ _ _ _ _ _ us hl => match us, hl with | [_], _ => rfl
  exact ⟨fd, fun s v => b s [v] rfl, fun base _ _ => lawOk X G c F⟩
end
end P
open PySem PySem.W PySem.Calls PyProof.Rows
set_option maxRecDepth 100000 in
set_option maxHeartbeats 0 in
theorem PySem.Challenge.cw_wordends_k65_new_shapes_holds : PySem.Challenge.rw_wordends_k65_new_shapes.Holds := by
  w_on; o_law
  refine HandSHeadRun.head_any (r := OpenLaw.row PySem.Challenge.rw_wordends_k65_new_shapes) (q := view (OpenLaw.row PySem.Challenge.rw_wordends_k65_new_shapes).prog [35]) (H := P.hk) (ob := P.ob) (M := 2000) (loose := P.loose) (d := HandSHeadRun.topDef (OpenLaw.row PySem.Challenge.rw_wordends_k65_new_shapes).prog 35) (kwd := []) P.ob_eq
    (by kernel_rfl) (fun s => by kernel_rfl) P.run (by kernel_rfl) (by kernel_rfl) (by kernel_rfl) (by rfl) (by first | assumption | decide +kernel) (by decide +kernel) ⟨rfl, rfl, rfl, rfl, rfl, by decide +kernel⟩ ?hw ?hc
  case hw => w_witness2
  case hc =>
    refine L2.walk_ofE (l := PySem.Challenge.rw_wordends_k65_new_shapes) (n := 63) (k := 10 + 3 + 1) (x := "script") (CX := L2.CX0) rfl (by decide) (by kernel_rfl) ⟨rfl, by decide, by decide⟩ ?F (fun _ _ _ _ z => z)
    intro w mg fa h Y G hmg0
    obtain ⟨K, KX, c⟩ := Y
    have hmg : mg ("law" : PySem.Str) = some (.ref fa) := by
      have e : (HandSHeadRun.topDef (OpenLaw.row PySem.Challenge.rw_wordends_k65_new_shapes).prog 35).name = ("law" : PySem.Str) := by kernel_rfl
      rw [← e]
      exact hmg0
    obtain ⟨fd, hb, hF⟩ := P.facts (P := (PySem.Challenge.rw_wordends_k65_new_shapes).prog) (w := w) KX G hmg c
    exact ⟨K, fd, W.spLaw K, KX, hb, fun H a ns hl _ hS => ⟨a, ns, rfl, hS, fun _ => rfl⟩, hF⟩
